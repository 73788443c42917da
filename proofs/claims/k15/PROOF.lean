import PyProof.Rows.All
import HandS.ForMost
import HandS.ForExc
import HandS.Flow
import HandS.IsInst
import HandS.Wide
import HandS.Deep
import HandS.WideBits
import HandS.TupAny
import HandS.TupMul
import HandS.Style
import PyProof.ReprRoads
import HandS.Exc
import HandS.ExcOwn
import HandS.ExcIs
import KE.KIsAll
import HandS.Lambda
import HandS.Walk
import HandS.Zip
import HandS.Rev
import HandS.RevRange
import HandS.TupLen
import HandS.RaiseMore
import HandS.Text
import HandS.Dict
import HandS.More
import HandS.ExcValue
import KE.GoesMore
import KE.GoesEnum
import KE.SortData
import KE.DataCmp
import PyProof.TupleOfSeq
import KE.KDictDisplayH
import HandS.Small
import KE.GoesZip
import HandS.FStr
import HandS.EndTab
import HandS.SetFor
import PyProof.P3Eq
import KE.KDictPairs
import KE.KDictWalk
import HandS.Conv
import KE.KDictSum
import KE.KDictZip
import KE.Datum
import HandS.TupSets
import PyProof.MaxThree
import HandS.SetKeys
import PyProof.DictMoreH
import HandS.StrMore
import PyProof.StrOps2
import PyProof.StrHeap
import PyProof.Rows.Range3
import KE.KTupSum
import HandS.TryMany
import HandS.TryOnly
import PyProof.DictUpdate
import KE.KDictList
import KE.KDictCopyH
import KE.KDictOf
import PyProof.ReprLen
import PySem.Challenge.RW_nopassing_k15_streets
set_option Elab.async false
set_option linter.all false
set_option maxRecDepth 100000
set_option maxHeartbeats 40000000
namespace DL
open PySem PySem.Spec PyProof.Rows L2
/-- data as trees -/
inductive D where
  | non | bl (b : Bool) | int (i : Int) | str (x : Str)
  | tup (xs : List D) | lst (xs : List D) | frz (xs : List D) | dct (kvs : List (D × D))
  | tok (n : Nat) | ty (n : String) | glb (x : Str) | ktp (xs : List D)
  | exc (c : Str)
  /-- a dict that nobody changes any more: keyed by tuples or not -/
  | fd (t : Bool) (kvs : List (D × D))
/-- a caught exception, kept -/
def KeptX (C : Value) (a : Addr) : HO := .ext fun h => ∃ (ob : Obj) (us : Array Value), h.get? a = some ob ∧ Zc C none ob ∧ ob.data = .fields us
/-- what a special object holds: a list, an instance of the class c -/
inductive Cell where
  | l (ds : List D)
  | o (c : Str) (fs : List (Str × D))
  | d (fs : List (Key × D))
  | t (fs : List (List Key × D))
  /-- a tuple of whole numbers whose object is known -/
  | b (ns : List Int)
abbrev S := List Cell
inductive Res (α : Type) where
  | ok (a : α) (s : S)
  | exc (c : Str) (s : S)
  | bad
/-- a name's slot: nothing, data, a list or dict of its own -/
inductive Sl where
  | emp | dat (d : D) | own (ds : List D) | ownD (t : Bool) (kvs : List (D × D))
  /-- something that may be called with n things -/
  | fn (n : Nat) (tl : List D → S → Res D)
def Sl.isOwn : Sl → Bool
  | .own _ => true
  | .ownD _ _ => true
  | _ => false
def kD : Key → D
  | .inl i => .int i
  | .inr x => .str x
def kT (k : List Key) : D := .tup (k.map kD)
mutual
/-- data that hang on no list or dict -/
def flat : D → Bool
  | .non => true
  | .bl _ => true
  | .int _ => true
  | .str _ => true
  | .tup xs => flats xs
  | .lst _ => false
  | .frz _ => false
  | .dct _ => false
  | .tok _ => true
  | .ty _ => true
  | .glb _ => true
  | .ktp xs => flats xs
  | .exc _ => false
  | .fd _ _ => false
def flats : List D → Bool
  | [] => true
  | x :: xs => flat x && flats xs
end
def flatC : Cell → Bool
  | .l ds => flats ds
  | .o _ fs => flats (fs.map (·.2))
  | .d fs => flats (fs.map (·.2))
  | .t fs => flats (fs.map (·.2))
  | .b _ => true
mutual
inductive Rep (K : PySem.W.Frag) (mg : Str → Option Value) (G : Hp) (τ : List Addr) : V → D → Prop
  | non : Rep K mg G τ .non .non
  | bl (b : Bool) : Rep K mg G τ (.bl b) (.bl b)
  | int (i : Int) : Rep K mg G τ (.int i) (.int i)
  | str (x : Str) : Rep K mg G τ (.str x) (.str x)
  | tup {a : Addr} {xs : List V} {ds : List D} : G a = some (.tup xs) → RepAll K mg G τ xs ds → Rep K mg G τ (.ref a) (.tup ds)
  | lst {a : Addr} {xs : List V} {ds : List D} : G a = some (.lst xs) → RepAll K mg G τ xs ds → Rep K mg G τ (.ref a) (.lst ds)
  | frz {a : Addr} {xs : List V} {ds : List D} : SqL K G a xs → RepAll K mg G τ xs ds → Rep K mg G τ (.ref a) (.frz ds)
  | dK {a : Addr} {kvs : List (Key × V)} {vs : List D} : G a = some (.dK kvs) → RepAll K mg G τ (kvs.map (·.2)) vs → Rep K mg G τ (.ref a) (.dct ((kvs.map fun p => kD p.1).zip vs))
  | dT {a : Addr} {kvs : List (List Key × V)} {vs : List D} : G a = some (.dT kvs) → RepAll K mg G τ (kvs.map (·.2)) vs → Rep K mg G τ (.ref a) (.dct ((kvs.map fun p => kT p.1).zip vs))
  | tok {n : Nat} {a : Addr} : τ[n]? = some a → Rep K mg G τ (.ref a) (.tok n)
  | ty (n : String) : Rep K mg G τ (.ty n) (.ty n)
  | glb {x : Str} {u : Value} {v : V} : mg x = some u → RelV v u → Rep K mg G τ v (.glb x)
  | ktp {a : Addr} {xs : List V} {ds : List D} : SqT K G a xs → RepAll K mg G τ xs ds → Rep K mg G τ (.ref a) (.ktp ds)
  | fdK {a : Addr} {o : Obj} {kvs : List (Key × V)} {vs : List D} : G a = some (.frz o (.dK kvs)) → RepAll K mg G τ (kvs.map (·.2)) vs → Rep K mg G τ (.ref a) (.fd false ((kvs.map fun p => kD p.1).zip vs))
  | fdT {a : Addr} {o : Obj} {kvs : List (List Key × V)} {vs : List D} : G a = some (.frz o (.dT kvs)) → RepAll K mg G τ (kvs.map (·.2)) vs → Rep K mg G τ (.ref a) (.fd true ((kvs.map fun p => kT p.1).zip vs))
  | exc {c : Str} {C a : Addr} : mg c = some (.ref C) → G a = some (KeptX (.ref C) a) → Rep K mg G τ (.ref a) (.exc c)
inductive RepAll (K : PySem.W.Frag) (mg : Str → Option Value) (G : Hp) (τ : List Addr) : List V → List D → Prop
  | nil : RepAll K mg G τ [] []
  | cons {v : V} {vs : List V} {d : D} {ds : List D} : Rep K mg G τ v d → RepAll K mg G τ vs ds → RepAll K mg G τ (v :: vs) (d :: ds)
end
section
variable {K : PySem.W.Frag} {mg : Str → Option Value} {G G' : Hp} {τ τ' : List Addr}
theorem seqT {H H' : Hp} {a : Addr} {xs : List V} (e : Same H H') (h : SqT K H a xs) : SqT K H' a xs := by
  rcases h with (h | ⟨o, h⟩) | h
  · exact .inl (.inl (e _ _ h))
  · exact .inl (.inr ⟨o, e _ _ h⟩)
  · exact .inr h
mutual
theorem Rep.mono (hg : Same G G') (ht : τ <+: τ') : ∀ {v : V} {d : D}, Rep K mg G τ v d → Rep K mg G' τ' v d
  | _, _, .non => .non
  | _, _, .bl b => .bl b
  | _, _, .int i => .int i
  | _, _, .str x => .str x
  | _, _, .tup h r => .tup (hg _ _ h) (RepAll.mono hg ht r)
  | _, _, .lst h r => .lst (hg _ _ h) (RepAll.mono hg ht r)
  | _, _, .frz h r => .frz (hg.seq h) (RepAll.mono hg ht r)
  | _, _, .dK h r => .dK (hg _ _ h) (RepAll.mono hg ht r)
  | _, _, .dT h r => .dT (hg _ _ h) (RepAll.mono hg ht r)
  | _, _, .tok h => .tok (by obtain ⟨m, rfl⟩ := ht; rw [List.getElem?_append_left (List.getElem?_eq_some_iff.mp h).1]; exact h)
  | _, _, .ty n => .ty n
  | _, _, .glb h r => .glb h r
  | _, _, .ktp h r => .ktp (seqT hg h) (RepAll.mono hg ht r)
  | _, _, .fdK h r => .fdK (hg _ _ h) (RepAll.mono hg ht r)
  | _, _, .fdT h r => .fdT (hg _ _ h) (RepAll.mono hg ht r)
  | _, _, .exc h r => .exc h (hg _ _ r)
theorem RepAll.mono (hg : Same G G') (ht : τ <+: τ') : ∀ {vs : List V} {ds : List D}, RepAll K mg G τ vs ds → RepAll K mg G' τ' vs ds
  | _, _, .nil => .nil
  | _, _, .cons h r => .cons (Rep.mono hg ht h) (RepAll.mono hg ht r)
end
/-- the frozen part without an object -/
def less (G : Hp) (a : Addr) : Hp := fun b => if b = a then none else G b
theorem less_ne {G : Hp} {a b : Addr} (h : b ≠ a) : less G a b = G b := by unfold less; rw [if_neg h]
theorem less_same {G : Hp} {a : Addr} : less G a a = none := by unfold less; rw [if_pos rfl]
theorem less_tup {a b : Addr} {xs : List V} (n : ∀ o, G a = some o → (∀ ys, o ≠ .tup ys) ∧ ∀ u ys, o ≠ .frz u (.tup ys)) (h : SqT K G b xs) : SqT K (less G a) b xs := by
  rcases h with (h | ⟨o, h⟩) | h
  · exact .inl (.inl ((less_ne fun e : b = a => (n _ (e ▸ h)).1 xs rfl).trans h))
  · exact .inl (.inr ⟨o, (less_ne fun e : b = a => (n _ (e ▸ h)).2 o xs rfl).trans h⟩)
  · exact .inr h
mutual
theorem Rep.less {a : Addr} (n : ∀ o, G a = some o → (∀ ys, o ≠ .tup ys) ∧ ∀ u ys, o ≠ .frz u (.tup ys)) : ∀ {v : V} {d : D}, Rep K mg G τ v d → flat d = true → Rep K mg (less G a) τ v d
  | _, _, .non, _ => .non
  | _, _, .bl b, _ => .bl b
  | _, _, .int i, _ => .int i
  | _, _, .str x, _ => .str x
  | _, _, .tup h r, f => .tup ((less_ne fun e => (n _ (e ▸ h)).1 _ rfl).trans h) (RepAll.less n r (by simpa [flat] using f))
  | _, _, .lst _ _, f => by simp [flat] at f
  | _, _, .frz _ _, f => by simp [flat] at f
  | _, _, .dK _ _, f => by simp [flat] at f
  | _, _, .dT _ _, f => by simp [flat] at f
  | _, _, .tok h, _ => .tok h
  | _, _, .ty n, _ => .ty n
  | _, _, .glb h r, _ => .glb h r
  | _, _, .ktp h r, f => .ktp (less_tup n h) (RepAll.less n r (by simpa [flat] using f))
  | _, _, .fdK _ _, f => by simp [flat] at f
  | _, _, .fdT _ _, f => by simp [flat] at f
  | _, _, .exc _ _, f => by simp [flat] at f
theorem RepAll.less {a : Addr} (n : ∀ o, G a = some o → (∀ ys, o ≠ .tup ys) ∧ ∀ u ys, o ≠ .frz u (.tup ys)) : ∀ {vs : List V} {ds : List D}, RepAll K mg G τ vs ds → flats ds = true → RepAll K mg (less G a) τ vs ds
  | _, _, .nil, _ => .nil
  | _, _, .cons h r, f => .cons (Rep.less n h (by simp [flats] at f; exact f.1)) (RepAll.less n r (by simp [flats] at f; exact f.2))
end
theorem RepAll.length : ∀ {vs : List V} {ds : List D}, RepAll K mg G τ vs ds → vs.length = ds.length
  | _, _, .nil => rfl
  | _, _, .cons _ r => congrArg (· + 1) (RepAll.length r)
theorem RepAll.get : ∀ {vs : List V} {ds : List D} {i : Nat} {v : V}, RepAll K mg G τ vs ds → vs[i]? = some v → ∃ d, ds[i]? = some d ∧ Rep K mg G τ v d
  | _, _, _, _, .nil, h => by simp at h
  | _, _, 0, _, .cons r _, h => by simp at h; subst h; exact ⟨_, rfl, r⟩
  | _, _, i + 1, _, .cons _ r, h => by simpa using RepAll.get (i := i) r (by simpa using h)
theorem RepAll.getD : ∀ {vs : List V} {ds : List D} {i : Nat} {d : D}, RepAll K mg G τ vs ds → ds[i]? = some d → ∃ v, vs[i]? = some v ∧ Rep K mg G τ v d
  | _, _, _, _, .nil, h => by simp at h
  | _, _, 0, _, .cons r _, h => by simp at h; subst h; exact ⟨_, rfl, r⟩
  | _, _, i + 1, _, .cons _ r, h => by simpa using RepAll.getD (i := i) r (by simpa using h)
theorem RepAll.append : ∀ {vs us : List V} {ds es : List D}, RepAll K mg G τ vs ds → RepAll K mg G τ us es → RepAll K mg G τ (vs ++ us) (ds ++ es)
  | _, _, _, _, .nil, h => h
  | _, _, _, _, .cons r t, h => .cons r (t.append h)
theorem RepAll.snoc {vs : List V} {v : V} {ds : List D} {d : D} (h : RepAll K mg G τ vs ds) (r : Rep K mg G τ v d) : RepAll K mg G τ (vs ++ [v]) (ds ++ [d]) := h.append (.cons r .nil)
theorem RepAll.take : ∀ {vs : List V} {ds : List D} (n : Nat), RepAll K mg G τ vs ds → RepAll K mg G τ (vs.take n) (ds.take n)
  | _, _, 0, _ => .nil
  | _, _, _ + 1, .nil => .nil
  | _, _, n + 1, .cons r t => .cons r (t.take n)
theorem RepAll.drop : ∀ {vs : List V} {ds : List D} (n : Nat), RepAll K mg G τ vs ds → RepAll K mg G τ (vs.drop n) (ds.drop n)
  | _, _, 0, h => h
  | _, _, _ + 1, .nil => .nil
  | _, _, n + 1, .cons _ t => t.drop n
theorem RepAll.set {v : V} {d : D} (r : Rep K mg G τ v d) : ∀ {vs : List V} {ds : List D} (n : Nat), RepAll K mg G τ vs ds → RepAll K mg G τ (vs.set n v) (ds.set n d)
  | _, _, _, .nil => .nil
  | _, _, 0, .cons _ t => .cons r t
  | _, _, n + 1, .cons q t => .cons q (t.set r n)
theorem RepAll.reverse {vs : List V} {ds : List D} (h : RepAll K mg G τ vs ds) : RepAll K mg G τ vs.reverse ds.reverse := by
  induction vs generalizing ds with
  | nil => cases h; exact .nil
  | cons v vs ih =>
    cases h with
    | cons r t =>
      rw [List.reverse_cons, List.reverse_cons]
      exact (ih t).snoc r
theorem RepAll.rep {vs : List V} {ds : List D} (h : RepAll K mg G τ vs ds) : ∀ n : Nat, RepAll K mg G τ (List.replicate n vs).flatten (List.replicate n ds).flatten
  | 0 => .nil
  | n + 1 => by
    rw [List.replicate_succ, List.replicate_succ, List.flatten_cons, List.flatten_cons]
    exact h.append (h.rep n)
theorem RepAll.one {v : V} {d : D} (r : Rep K mg G τ v d) : RepAll K mg G τ [v] [d] := .cons r .nil
theorem RepAll.eraseIdx : ∀ {vs : List V} {ds : List D} (n : Nat), RepAll K mg G τ vs ds → RepAll K mg G τ (vs.eraseIdx n) (ds.eraseIdx n)
  | _, _, _, .nil => .nil
  | _, _, 0, .cons _ t => t
  | _, _, n + 1, .cons q t => .cons q (t.eraseIdx n)
theorem RepAll.split {us : List D} : ∀ {vs : List V} {ds : List D}, RepAll K mg G τ vs (ds ++ us) → ∃ a b, vs = a ++ b ∧ RepAll K mg G τ a ds ∧ RepAll K mg G τ b us
  | vs, [], h => ⟨[], vs, rfl, .nil, h⟩
  | _, d :: ds, .cons r t => by
    obtain ⟨a, b, rfl, h1, h2⟩ := RepAll.split (ds := ds) t
    exact ⟨_ :: a, b, rfl, .cons r h1, h2⟩
end
/-- the abstract heap, its frozen part, the special objects -/
structure Hw where
  H : Hp
  G : Hp
  τ : List Addr
def CellOk (K : PySem.W.Frag) (mg : Str → Option Value) (W : Hw) (a : Addr) : Cell → Prop
  | .l ds => ∃ vs, W.H a = some (.lst vs) ∧ RepAll K mg W.G W.τ vs ds
  | .o c fs => ∃ C dx vs, mg c = some (.ref C) ∧ W.H a = some (.ins C dx ((fs.map (·.1)).zip vs)) ∧ RepAll K mg W.G W.τ vs (fs.map (·.2))
  | .d fs => ∃ vs, W.H a = some (.dK ((fs.map (·.1)).zip vs)) ∧ RepAll K mg W.G W.τ vs (fs.map (·.2))
  | .t fs => ∃ vs, W.H a = some (.dT ((fs.map (·.1)).zip vs)) ∧ RepAll K mg W.G W.τ vs (fs.map (·.2))
  | .b ns => ∃ o : Obj, W.H a = some (.frz o (.tup (ns.map V.int))) ∧ o.dict = none
/-- tables of code objects that all texts must know -/
class LawT where
  T : List (Addr × Str)
variable [LT : LawT]
structure Base (K : PySem.W.Frag) (mg : Str → Option Value) (W : Hw) (s : S) : Prop where
  sub : Same W.G W.H
  tupI : ∀ b xs, W.H b = some (.tup xs) → W.G b = some (.tup xs)
  spc : ∀ b ∈ W.τ, W.G b = none
  nd : W.τ.Nodup
  len : s.length = W.τ.length
  cel : ∀ (n : Nat) (c : Cell) (a : Addr), s[n]? = some c → W.τ[n]? = some a → CellOk K mg W a c
  flt : ∀ c ∈ s, flatC c = true
  tab : LamX.Tabs LawT.T W.H
  nog : ∀ b ps, W.G b ≠ some (.tbl ps)
  all : ∀ b ps, W.H b = some (.tbl ps) → ∃ q, (b, q) ∈ LawT.T
structure Ext (W W' : Hw) : Prop where
  keep0 : ∀ b o, W.H b = some o → b ∉ W.τ → W'.H b = some o ∨ ∃ ps ps', o = .tbl ps ∧ W'.H b = some (.tbl ps')
  grow : Same W.G W'.G
  out : ∀ b, W.H b ≠ none → W'.G b = W.G b
  tpre : W.τ <+: W'.τ
  tnew : ∀ b ∈ W'.τ, b ∉ W.τ → W.H b = none
  tab : LamX.Tabs LawT.T W.H → LamX.Tabs LawT.T W'.H
theorem Ext.keep {W W' : Hw} (E : Ext W W') (b : Addr) (o : HO) (h : W.H b = some o) (n : b ∉ W.τ) (nt : ∀ ps, o ≠ .tbl ps := by exact fun _ z => nomatch z) : W'.H b = some o := by
  rcases E.keep0 b o h n with z | ⟨ps, _, e, _⟩
  · exact z
  · exact absurd e (nt ps)
theorem Ext.dom {W W' : Hw} (E : Ext W W') {b : Addr} {o : HO} (h : W.H b = some o) (n : b ∉ W.τ) : W'.H b ≠ none := by
  rcases E.keep0 b o h n with z | ⟨_, _, _, z⟩ <;> rw [z] <;> exact fun q => nomatch q
omit LT in
/-- a place that is neither a table nor a code object gets something -/
theorem tabs_upd {T : List (Addr × Str)} {H : Hp} {a : Addr} {o : HO} (h : ∀ u, H a = some u → (∀ ps, u ≠ .tbl ps) ∧ ∀ q, u ≠ LamX.CodeO a q) (t : LamX.Tabs T H) : LamX.Tabs T (upd H a o) := fun p hp => by
  obtain ⟨ps, h1, h2, h3⟩ := t p hp
  refine ⟨ps, ?_, h2, fun pos cv hc => ?_⟩
  · refine (upd_ne fun z => ?_).trans h1
    rw [z] at h1
    exact (h _ h1).1 ps rfl
  · obtain ⟨c, e1, e2⟩ := h3 pos cv hc
    refine ⟨c, e1, (upd_ne fun z => ?_).trans e2⟩
    rw [z] at e2
    exact (h _ e2).2 p.2 rfl
omit LT in
theorem nog_upd {G : Hp} {a : Addr} {o : HO} (nt : ∀ ps, o ≠ .tbl ps) (h : ∀ b ps, G b ≠ some (.tbl ps)) : ∀ b ps, upd G a o b ≠ some (.tbl ps) := fun b ps z => by
  by_cases hb : b = a
  · rw [hb, upd_same] at z; exact nt ps (Option.some.inj z)
  · rw [upd_ne hb] at z; exact h b ps z
theorem all_upd {H : Hp} {a : Addr} {o : HO} (nt : ∀ ps, o ≠ .tbl ps) (h : ∀ b ps, H b = some (.tbl ps) → ∃ q, (b, q) ∈ LT.T) : ∀ b ps, upd H a o b = some (.tbl ps) → ∃ q, (b, q) ∈ LT.T := fun b ps z => by
  by_cases hb : b = a
  · rw [hb, upd_same] at z; exact absurd (Option.some.inj z) (nt ps)
  · rw [upd_ne hb] at z; exact h b ps z
omit LT in
theorem tabs_new {T : List (Addr × Str)} {H : Hp} {a : Addr} {o : HO} (h : H a = none) (t : LamX.Tabs T H) : LamX.Tabs T (upd H a o) := tabs_upd (fun u e => by rw [h] at e; cases e) t
section
variable {K : PySem.W.Frag} {mg : Str → Option Value} {W W' W'' W0 : Hw} {s s' : S}
theorem Ext.refl (W : Hw) : Ext W W := ⟨fun _ _ h _ => .inl h, fun _ _ h => h, fun _ _ => rfl, List.prefix_refl _, fun _ h n => absurd h n, fun t => t⟩
theorem Base.tau_some (B : Base K mg W s) {b : Addr} (h : b ∈ W.τ) : W.H b ≠ none := by
  obtain ⟨n, hn, e⟩ := List.getElem_of_mem h
  have hs : n < s.length := by rw [B.len]; exact hn
  have z := B.cel n s[n] b (List.getElem?_eq_getElem hs) (by rw [List.getElem?_eq_getElem hn, e])
  cases hc : s[n] with
  | l ds => rw [hc] at z; obtain ⟨vs, z, _⟩ := z; rw [z]; exact fun q => nomatch q
  | o c fs => rw [hc] at z; obtain ⟨C, dx, vs, _, z, _⟩ := z; rw [z]; exact fun q => nomatch q
  | d fs => rw [hc] at z; obtain ⟨vs, z, _⟩ := z; rw [z]; exact fun q => nomatch q
  | t fs => rw [hc] at z; obtain ⟨vs, z, _⟩ := z; rw [z]; exact fun q => nomatch q
  | b ns => rw [hc] at z; obtain ⟨vs, z, _⟩ := z; rw [z]; exact fun q => nomatch q
theorem Base.tau_plain (B : Base K mg W s) {b : Addr} (h : b ∈ W.τ) : ∀ u, W.H b = some u → (∀ ps, u ≠ .tbl ps) ∧ ∀ q, u ≠ LamX.CodeO b q := fun u hu => by
  obtain ⟨n, hn, e⟩ := List.getElem_of_mem h
  have hs : n < s.length := by rw [B.len]; exact hn
  have z := B.cel n s[n] b (List.getElem?_eq_getElem hs) (by rw [List.getElem?_eq_getElem hn, e])
  cases hc : s[n] with
  | l ds => rw [hc] at z; obtain ⟨vs, z, _⟩ := z; rw [z] at hu; cases hu; exact ⟨(fun _ q => nomatch q), (fun _ q => nomatch q)⟩
  | o c fs => rw [hc] at z; obtain ⟨C, dx, vs, _, z, _⟩ := z; rw [z] at hu; cases hu; exact ⟨(fun _ q => nomatch q), (fun _ q => nomatch q)⟩
  | d fs => rw [hc] at z; obtain ⟨vs, z, _⟩ := z; rw [z] at hu; cases hu; exact ⟨(fun _ q => nomatch q), (fun _ q => nomatch q)⟩
  | t fs => rw [hc] at z; obtain ⟨vs, z, _⟩ := z; rw [z] at hu; cases hu; exact ⟨(fun _ q => nomatch q), (fun _ q => nomatch q)⟩
  | b ns => rw [hc] at z; obtain ⟨vs, z, _⟩ := z; rw [z] at hu; cases hu; exact ⟨(fun _ q => nomatch q), (fun _ q => nomatch q)⟩
theorem Ext.trans (B : Base K mg W' s') (a : Ext W W') (b : Ext W' W'') : Ext W W'' := by
  have nt : ∀ c o, W.H c = some o → c ∉ W.τ → c ∉ W'.τ := fun c o h n m => by
    have := a.tnew c m n
    rw [h] at this; cases this
  refine ⟨fun c o h n => ?_, a.grow.trans b.grow, fun c h => ?_, a.tpre.trans b.tpre, fun c h n => ?_, fun t => b.tab (a.tab t)⟩
  · rcases a.keep0 c o h n with z | ⟨ps, ps', e, z⟩
    · exact b.keep0 c o z (nt c o h n)
    · rcases b.keep0 c _ z (nt c o h n) with y | ⟨_, ps2, _, y⟩
      · exact .inr ⟨ps, ps', e, y⟩
      · exact .inr ⟨ps, ps2, e, y⟩
  · refine (b.out c ?_).trans (a.out c h)
    by_cases m : c ∈ W.τ
    · obtain ⟨r, e⟩ := a.tpre
      exact B.tau_some (by rw [← e]; exact List.mem_append_left _ m)
    · cases q : W.H c with
      | none => exact absurd q h
      | some o => exact a.dom q m
  · by_cases m : c ∈ W'.τ
    · exact a.tnew c m n
    · cases q : W.H c with
      | none => rfl
      | some o =>
        have := b.tnew c h m
        exact absurd this (a.dom q n)
theorem Rep.ext (E : Ext W W') {v : V} {d : D} (r : Rep K mg W.G W.τ v d) : Rep K mg W'.G W'.τ v d := r.mono E.grow E.tpre
theorem RepAll.ext (E : Ext W W') {v : List V} {d : List D} (r : RepAll K mg W.G W.τ v d) : RepAll K mg W'.G W'.τ v d := r.mono E.grow E.tpre
end
/-- the code objects stay, the frozen part and the special objects grow -/
structure Grown (W W' : Hw) : Prop where
  g : Same W.G W'.G
  t : W.τ <+: W'.τ
  c : ∀ c q, W.H c = some (LamX.CodeO c q) → c ∉ W.τ → W'.H c = some (LamX.CodeO c q) ∧ c ∉ W'.τ
/-- what may be called in the slots of a def: the world at its entry, and what each does -/
class TellC where
  W : Hw
  ok : Addr → Nat → (List D → S → Res D) → Prop
instance tellC0 : TellC := ⟨⟨fun _ => none, fun _ => none, []⟩, fun _ _ _ => False⟩
section
omit LT
variable {W W1 W2 : Hw}
theorem Grown.refl (W : Hw) : Grown W W := ⟨fun _ _ h => h, List.prefix_refl _, fun _ _ h n => ⟨h, n⟩⟩
theorem Grown.trans (a : Grown W W1) (b : Grown W1 W2) : Grown W W2 := ⟨a.g.trans b.g, a.t.trans b.t, fun c q h n => let ⟨x, y⟩ := a.c c q h n; b.c c q x y⟩
theorem Grown.upd {a : Addr} {o : HO} (x : Grown W W1) (h : ∀ q, W1.H a ≠ some (LamX.CodeO a q)) : Grown W ⟨upd W1.H a o, W1.G, W1.τ⟩ :=
  ⟨x.g, x.t, fun c q hc n => by
    obtain ⟨e, m⟩ := x.c c q hc n
    exact ⟨(upd_ne fun z => h q (by rw [← z]; exact z ▸ e)).trans e, m⟩⟩
theorem Grown.frz {a : Addr} {o : HO} (x : Grown W W1) (h : Same W1.G (L2.upd W1.G a o)) : Grown W ⟨W1.H, L2.upd W1.G a o, W1.τ⟩ := ⟨x.g.trans h, x.t, x.c⟩
end
theorem Grown.ext {W W1 W2 : Hw} (x : Grown W W1) (E : Ext W1 W2) : Grown W W2 :=
  ⟨x.g.trans E.grow, x.t.trans E.tpre, fun c q hc n => by
    obtain ⟨e, m⟩ := x.c c q hc n
    refine ⟨E.keep c _ e m (fun ps z => LamX.codeO_ne ps z), fun m2 => ?_⟩
    have := E.tnew c m2 m
    rw [e] at this; cases this⟩
variable [TC : TellC]
/-- an object of a slot's own -/
structure OwnAt (W0 W : Hw) (a : Addr) : Prop where
  old : W0.H a = none
  frz : W.G a = none
  spc : a ∉ W.τ
inductive SlOk (K : PySem.W.Frag) (mg : Str → Option Value) (W0 W : Hw) : Option V → Sl → Prop
  | emp {x : Option V} : SlOk K mg W0 W x .emp
  | dat {v : V} {d : D} : Rep K mg W.G W.τ v d → SlOk K mg W0 W (some v) (.dat d)
  | own {a : Addr} {vs : List V} {ds : List D} : OwnAt W0 W a → W.H a = some (.lst vs) → RepAll K mg W.G W.τ vs ds → SlOk K mg W0 W (some (.ref a)) (.own ds)
  | ownK {a : Addr} {kvs : List (Key × V)} {vs : List D} : OwnAt W0 W a → W.H a = some (.dK kvs) → RepAll K mg W.G W.τ (kvs.map (·.2)) vs → SlOk K mg W0 W (some (.ref a)) (.ownD false ((kvs.map fun p => kD p.1).zip vs))
  | ownT {a : Addr} {kvs : List (List Key × V)} {vs : List D} : OwnAt W0 W a → W.H a = some (.dT kvs) → RepAll K mg W.G W.τ (kvs.map (·.2)) vs → SlOk K mg W0 W (some (.ref a)) (.ownD true ((kvs.map fun p => kT p.1).zip vs))
  | fn {a : Addr} {n : Nat} {tl : List D → S → Res D} : TC.ok a n tl → Grown TC.W W → SlOk K mg W0 W (some (.ref a)) (.fn n tl)
structure SSt (K : PySem.W.Frag) (mg : Str → Option Value) (W0 W : Hw) (s : S) (σ : L2.St) (ρ : List Sl) : Prop where
  ext : Ext W0 W
  base : Base K mg W s
  len : σ.length = ρ.length
  sl : ∀ (i : Nat) (x : Option V) (y : Sl), σ[i]? = some x → ρ[i]? = some y → SlOk K mg W0 W x y
  dist : ∀ (i j : Nat) (a : Addr) (y z : Sl), i ≠ j → σ[i]? = some (some (.ref a)) → σ[j]? = some (some (.ref a)) → ρ[i]? = some y → ρ[j]? = some z → y.isOwn = true → z.isOwn = true → False
section
variable {K : PySem.W.Frag} {mg : Str → Option Value} {W W' W'' W0 : Hw} {s s' : S} {σ σ' : L2.St} {ρ ρ' : List Sl}
theorem OwnAt.ext {a : Addr} (E : Ext W W') (o : OwnAt W0 W a) (h : W.H a ≠ none) : OwnAt W0 W' a :=
  ⟨o.old, (E.out a h).trans o.frz, fun m => h (E.tnew a m o.spc)⟩
theorem SlOk.ext (E : Ext W W') {x : Option V} {y : Sl} (h : SlOk K mg W0 W x y) : SlOk K mg W0 W' x y := by
  cases h with
  | emp => exact .emp
  | dat r => exact .dat (r.ext E)
  | own o e r => exact .own (o.ext E (by rw [e]; exact fun z => nomatch z)) (E.keep _ _ e o.spc) (r.ext E)
  | ownK o e r => exact .ownK (o.ext E (by rw [e]; exact fun z => nomatch z)) (E.keep _ _ e o.spc) (r.ext E)
  | ownT o e r => exact .ownT (o.ext E (by rw [e]; exact fun z => nomatch z)) (E.keep _ _ e o.spc) (r.ext E)
  | fn h g => exact .fn h (g.ext E)
theorem SSt.step (h : SSt K mg W0 W s σ ρ) (E : Ext W W') (B : Base K mg W' s') : SSt K mg W0 W' s' σ ρ :=
  ⟨h.ext.trans h.base E, B, h.len, fun i x y e1 e2 => (h.sl i x y e1 e2).ext E, h.dist⟩
/-- a slot gets data -/
theorem SSt.setDat (h : SSt K mg W0 W s σ ρ) {v : V} {d : D} (r : Rep K mg W.G W.τ v d) (i : Nat) : SSt K mg W0 W s (σ.set i (some v)) (ρ.set i (.dat d)) := by
  refine ⟨h.ext, h.base, by simp [h.len], fun j x y e1 e2 => ?_, fun j k a y z ne e1 e2 e3 e4 o1 o2 => ?_⟩
  · by_cases hj : j = i
    · subst hj
      have hl : j < σ.length := by
        by_cases q : j < σ.length
        · exact q
        · rw [List.getElem?_eq_none (by simpa using q)] at e1; cases e1
      rw [List.getElem?_set_self hl] at e1
      rw [List.getElem?_set_self (by rw [← h.len]; exact hl)] at e2
      cases e1; cases e2
      exact .dat r
    · rw [List.getElem?_set_ne (Ne.symm hj)] at e1 e2
      exact h.sl j x y e1 e2
  · have go : ∀ (j : Nat) y, (ρ.set i (.dat d))[j]? = some y → y.isOwn = true → j ≠ i := fun j y e o q => by
      subst q
      rw [List.getElem?_set] at e
      simp only [if_true] at e
      split at e
      · cases e; exact Bool.noConfusion o
      · cases e
    have n1 := go j y e3 o1
    have n2 := go k z e4 o2
    rw [List.getElem?_set_ne (Ne.symm n1)] at e1 e3
    rw [List.getElem?_set_ne (Ne.symm n2)] at e2 e4
    exact h.dist j k a y z ne e1 e2 e3 e4 o1 o2
/-- a slot's content is forgotten -/
theorem SSt.clear (h : SSt K mg W0 W s σ ρ) (i : Nat) : SSt K mg W0 W s σ (ρ.set i .emp) := by
  refine ⟨h.ext, h.base, by simp [h.len], fun j x y e1 e2 => ?_, fun j k a y z ne e1 e2 e3 e4 o1 o2 => ?_⟩
  · by_cases hj : j = i
    · subst hj
      rw [List.getElem?_set] at e2
      simp only [if_true] at e2
      split at e2
      · cases e2; exact .emp
      · cases e2
    · rw [List.getElem?_set_ne (Ne.symm hj)] at e2
      exact h.sl j x y e1 e2
  · have go : ∀ (j : Nat) y, (ρ.set i .emp)[j]? = some y → y.isOwn = true → j ≠ i := fun j y e o q => by
      subst q
      rw [List.getElem?_set] at e
      simp only [if_true] at e
      split at e
      · cases e; exact Bool.noConfusion o
      · cases e
    rw [List.getElem?_set_ne (Ne.symm (go j y e3 o1))] at e3
    rw [List.getElem?_set_ne (Ne.symm (go k z e4 o2))] at e4
    exact h.dist j k a y z ne e1 e2 e3 e4 o1 o2
end
end DL
namespace DL
open PySem PySem.Spec PyProof.Rows L2
variable [LT : LawT] [TC : TellC]
def Res.bind {α β : Type} (r : Res α) (f : α → S → Res β) : Res β :=
  match r with
  | .ok a s => f a s
  | .exc c s => .exc c s
  | .bad => .bad
def Res.ofO {α : Type} (o : Option α) (s : S) : Res α :=
  match o with
  | some a => .ok a s
  | none => .bad
/-- what is wanted behind a result -/
def Post {α β : Type} (K : PySem.W.Frag) (mg : Str → Option Value) (rel : Hw → β → α → Prop) (E : XK) (r : Res α) (W : Hw) (Q : β → Hp → Prop) : Prop :=
  match r with
  | .ok a s => ∀ x W', Ext W W' → Base K mg W' s → rel W' x a → Q x W'.H
  | .exc c s => ∀ W' u, Ext W W' → Base K mg W' s → mg c = some u → E u none W'.H
  | .bad => False
abbrev relE (K : PySem.W.Frag) (mg : Str → Option Value) : Hw → V → D → Prop := fun W v d => Rep K mg W.G W.τ v d
abbrev relA (K : PySem.W.Frag) (mg : Str → Option Value) : Hw → List V → List D → Prop := fun W v d => RepAll K mg W.G W.τ v d
abbrev relT : Hw → Bool → Bool → Prop := fun _ b c => b = c
/-- a new list of its own, not frozen -/
def relF (K : PySem.W.Frag) (mg : Str → Option Value) (W0 : Hw) : Hw → V → D → Prop := fun W v d => ∃ a vs ds, v = .ref a ∧ d = .lst ds ∧ W0.H a = none ∧ W.G a = none ∧ a ∉ W.τ ∧ W.H a = some (.lst vs) ∧ RepAll K mg W.G W.τ vs ds
section
variable {α β γ δ : Type} {K : PySem.W.Frag} {mg : Str → Option Value} {rel : Hw → β → α → Prop} {rel' : Hw → δ → γ → Prop} {E : XK} {W W' W0 : Hw} {s s' : S} {Q Q' : β → Hp → Prop}
theorem Post.ext {r : Res α} (e : Ext W W') (B : Base K mg W' s) (p : Post K mg rel E r W Q) : Post K mg rel E r W' Q := by
  cases r with
  | ok a s1 => exact fun x W2 e2 B2 r2 => p x W2 (e.trans B e2) B2 r2
  | exc c s1 => exact fun W2 u e2 B2 hu => p W2 u (e.trans B e2) B2 hu
  | bad => exact p
theorem Post.imp {r : Res α} (p : Post K mg rel E r W Q) (h : ∀ x H, Q x H → Q' x H) : Post K mg rel E r W Q' := by
  cases r with
  | ok a s1 => exact fun x W2 e2 B2 r2 => h _ _ (p x W2 e2 B2 r2)
  | exc c s1 => exact p
  | bad => exact p
theorem Post.of_ok {a : α} (p : Post K mg rel E (.ok a s) W Q) (B : Base K mg W s) {x : β} (r : rel W x a) : Q x W.H := p x W (Ext.refl W) B r
end
/-- the reading by a denotation -/
def tX {α β : Type} (K : PySem.W.Frag) (mg : Str → Option Value) (rel : Hw → Hw → β → α → Prop) (E : WX) (f : List Sl → S → Res α) : L2.St → Hp → (β → Hp → Prop) → Prop := fun σ H Q =>
  ∃ (W0 W : Hw) (s : S) (ρ : List Sl), W.H = H ∧ SSt K mg W0 W s σ ρ ∧ Post K mg (rel W) (fun u d H' => E u d σ H') (f ρ s) W Q
abbrev DE := List Sl → S → Res D
abbrev DA := List Sl → S → Res (List D)
abbrev DT := List Sl → S → Res Bool
abbrev tE (K : PySem.W.Frag) (mg : Str → Option Value) (E : WX) (f : DE) : TE := tX K mg (fun _ => relE K mg) E f
abbrev tF (K : PySem.W.Frag) (mg : Str → Option Value) (E : WX) (f : DE) : TE := tX K mg (relF K mg) E f
abbrev tA (K : PySem.W.Frag) (mg : Str → Option Value) (E : WX) (f : DA) : TA := tX K mg (fun _ => relA K mg) E f
abbrev tT (K : PySem.W.Frag) (mg : Str → Option Value) (E : WX) (f : DT) : TT := tX K mg (fun _ => relT) E f
section
variable {α β γ δ : Type} {K : PySem.W.Frag} {mg : Str → Option Value} {rel : Hw → Hw → β → α → Prop} {rel' : Hw → δ → γ → Prop} {E : WX} {σ : L2.St} {H : Hp} {W W0 : Hw} {s : S} {ρ : List Sl} {Q Q' : β → Hp → Prop}
theorem tX.imp {f : List Sl → S → Res α} (h : tX K mg rel E f σ H Q) (i : ∀ x H, Q x H → Q' x H) : tX K mg rel E f σ H Q' := by
  obtain ⟨W0, W, s, ρ, e, st, p⟩ := h
  exact ⟨W0, W, s, ρ, e, st, p.imp i⟩
/-- one step of a bind -/
theorem go {f : List Sl → S → Res α} {k : α → S → Res γ} {R : δ → Hp → Prop} (st : SSt K mg W0 W s σ ρ) (p : Post K mg rel' (fun u d H' => E u d σ H') ((f ρ s).bind k) W R) :
    tX K mg rel E f σ W.H (fun x H1 => ∃ W1 s1 a, W1.H = H1 ∧ rel W W1 x a ∧ Ext W W1 ∧ SSt K mg W0 W1 s1 σ ρ ∧ Post K mg rel' (fun u d H' => E u d σ H') (k a s1) W1 R) := by
  refine ⟨W0, W, s, ρ, rfl, st, ?_⟩
  cases hf : f ρ s with
  | ok a s1 =>
    rw [hf] at p
    exact fun x W1 e B r => ⟨W1, s1, a, rfl, r, e, st.step e B, Post.ext e B p⟩
  | exc c s1 =>
    rw [hf] at p
    exact p
  | bad =>
    rw [hf] at p
    exact p.elim
end
section
variable {X : Cx} {e a b : Expr} {t t' : TE} {pos : Pos} {E : WX}
theorem PE.mono (h : PE X e t) (i : ∀ σ H Q, t' σ H Q → t σ H Q) : PE X e t' := ⟨fun pins s σ H Q I q => h.run pins s σ H Q I (i σ H Q q)⟩
theorem PE.or (h : PE X e t) (h' : PE X e t') : PE X e (fun σ H Q => t σ H Q ∨ t' σ H Q) := ⟨fun pins s σ H Q I q => q.elim (h.run pins s σ H Q I) (h'.run pins s σ H Q I)⟩
theorem PT.mono {t t' : TT} (h : PT X e t) (i : ∀ σ H Q, t' σ H Q → t σ H Q) : PT X e t' := ⟨fun pins s σ H Q I q => h.run pins s σ H Q I (i σ H Q q)⟩
theorem PW.mono {t t' : TT} (h : PW X e t) (i : ∀ σ H Q, t' σ H Q → t σ H Q) : PW X e t' := ⟨fun wh pins s σ H Q I q => h.run wh pins s σ H Q I (i σ H Q q)⟩
theorem PA.mono {es : List Expr} {t t' : TA} (h : PA X es t) (i : ∀ σ H Q, t' σ H Q → t σ H Q) : PA X es t' := ⟨fun p pins s σ H Q I q => h.run p pins s σ H Q I (i σ H Q q)⟩
theorem PS.mono {st : Stmt} {t t' : TS} (h : PS X st t) (i : ∀ σ H D, t' D σ H → t D σ H) : PS X st t' := ⟨fun pins s σ H D I q => h.run pins s σ H D I (i σ H D q)⟩
theorem PSs.mono {st : List Stmt} {t t' : TS} (h : PSs X st t) (i : ∀ σ H D, t' D σ H → t D σ H) : PSs X st t' := ⟨fun pins s σ H D I q => h.run pins s σ H D I (i σ H D q)⟩
theorem OpR.or {f : Value → Value → Sem Value} {r r' : R2} (h : OpR X f r) (h' : OpR X f r') : OpR X f (fun x y H Q => r x y H Q ∨ r' x y H Q) :=
  fun pins s σ H x y v u Q I rx ry q => q.elim (h pins s σ H x y v u Q I rx ry) (h' pins s σ H x y v u Q I rx ry)
/-! ### names, constants -/
def eV (i : Nat) : DE := fun ρ s => match ρ[i]? with
  | some (.dat d) => .ok d s
  | _ => .bad
def eC (d : D) : DE := fun _ s => .ok d s
theorem e_var (i : Nat) {x : Str} (hN : X.N[i]? = some x := by rfl) (hv : Vis X.env.scope x := by first | exact Or.inl rfl | exact Or.inr (Or.inl rfl) | exact Or.inr (Or.inr rfl)) (hd : (x == ("__debug__" : Str)) = false := by decide)
    (hcd : (x == ("__classdict__" : Str)) = false := by decide) : PE X (.Name x pos) (tE X.K X.mg E (eV i)) := by
  refine PE.mono (pv i hN hv hd hcd) fun σ H Q h => ?_
  obtain ⟨W0, W, s, ρ, rfl, st, p⟩ := h
  unfold eV at p
  cases hr : ρ[i]? with
  | none => rw [hr] at p; exact p.elim
  | some y =>
    rw [hr] at p
    cases y with
    | dat d =>
      have hl : i < σ.length := by rw [st.len]; exact (List.getElem?_eq_some_iff.mp hr).1
      have z := st.sl i _ _ (List.getElem?_eq_getElem hl) hr
      generalize hx : σ[i] = x at z
      cases z with
      | dat r => exact ⟨_, by rw [List.getElem?_eq_getElem hl, hx], p.of_ok st.base r⟩
    | emp => exact p.elim
    | own ds => exact p.elim
    | ownD t kvs => exact p.elim
    | fn n tl => exact p.elim
theorem e_const {v : V} {d : D} (h : PE X e (tC v)) (r : ∀ G τ, Rep X.K X.mg G τ v d) : PE X e (tE X.K X.mg E (eC d)) := by
  refine PE.mono h fun σ H Q h => ?_
  obtain ⟨W0, W, s, ρ, rfl, st, p⟩ := h
  exact p.of_ok st.base (r _ _)
theorem e_int {i : Int} {j : Nat} : PE X (.Constant (.int i) j pos) (tE X.K X.mg E (eC (.int i))) := e_const pe_int fun _ _ => .int i
theorem e_bl {i : Bool} {j : Nat} : PE X (.Constant (.bool i) j pos) (tE X.K X.mg E (eC (.bl i))) := e_const pe_bl fun _ _ => .bl i
theorem e_non {j : Nat} : PE X (.Constant .none j pos) (tE X.K X.mg E (eC .non)) := e_const pe_non fun _ _ => .non
theorem e_str {x : Str} {j : Nat} : PE X (.Constant (.str x) j pos) (tE X.K X.mg E (eC (.str x))) := e_const pe_str fun _ _ => .str x
/-! ### what Rep says -/
section
variable {K : PySem.W.Frag} {mg : Str → Option Value} {G : Hp} {τ : List Addr} {v : V}
theorem Rep.int_inv {i : Int} (h : Rep K mg G τ v (.int i)) : v = .int i := by cases h; rfl
theorem Rep.bl_inv {i : Bool} (h : Rep K mg G τ v (.bl i)) : v = .bl i := by cases h; rfl
theorem Rep.str_inv {i : Str} (h : Rep K mg G τ v (.str i)) : v = .str i := by cases h; rfl
theorem Rep.non_inv (h : Rep K mg G τ v .non) : v = .non := by cases h; rfl
theorem Rep.ty_inv {i : String} (h : Rep K mg G τ v (.ty i)) : v = .ty i := by cases h; rfl
theorem Rep.tup_inv' {ds : List D} (h : Rep K mg G τ v (.tup ds)) : ∃ a xs, v = .ref a ∧ G a = some (.tup xs) ∧ RepAll K mg G τ xs ds := by cases h with | tup h r => exact ⟨_, _, rfl, h, r⟩
theorem Rep.tup_inv {ds : List D} (h : Rep K mg G τ v (.tup ds)) : ∃ a xs, v = .ref a ∧ SqT K G a xs ∧ RepAll K mg G τ xs ds := by cases h with | tup h r => exact ⟨_, _, rfl, .of h, r⟩
theorem Rep.lst_inv {ds : List D} (h : Rep K mg G τ v (.lst ds)) : ∃ a xs, v = .ref a ∧ G a = some (.lst xs) ∧ RepAll K mg G τ xs ds := by cases h with | lst h r => exact ⟨_, _, rfl, h, r⟩
theorem Rep.ktp_inv {ds : List D} (h : Rep K mg G τ v (.ktp ds)) : ∃ a xs, v = .ref a ∧ SqT K G a xs ∧ RepAll K mg G τ xs ds := by cases h with | ktp h r => exact ⟨_, _, rfl, h, r⟩
theorem Rep.frz_inv {ds : List D} (h : Rep K mg G τ v (.frz ds)) : ∃ a xs, v = .ref a ∧ SqL K G a xs ∧ RepAll K mg G τ xs ds := by cases h with | frz h r => exact ⟨_, _, rfl, h, r⟩
theorem RepAll.nil_inv {vs : List V} (h : RepAll K mg G τ vs []) : vs = [] := by cases h; rfl
theorem RepAll.cons_inv {vs : List V} {d : D} {ds : List D} (h : RepAll K mg G τ vs (d :: ds)) : ∃ v us, vs = v :: us ∧ Rep K mg G τ v d ∧ RepAll K mg G τ us ds := by cases h with | cons h r => exact ⟨_, _, rfl, h, r⟩
theorem RepAll.one_inv {vs : List V} {d : D} (h : RepAll K mg G τ vs [d]) : ∃ v, vs = [v] ∧ Rep K mg G τ v d := by
  obtain ⟨v, us, rfl, r, h⟩ := h.cons_inv
  rw [h.nil_inv]
  exact ⟨v, rfl, r⟩
theorem RepAll.two_inv {vs : List V} {d e : D} (h : RepAll K mg G τ vs [d, e]) : ∃ v u, vs = [v, u] ∧ Rep K mg G τ v d ∧ Rep K mg G τ u e := by
  obtain ⟨v, us, rfl, r, h⟩ := h.cons_inv
  obtain ⟨u, rfl, q⟩ := h.one_inv
  exact ⟨v, u, rfl, r, q⟩
end
/-! ### new objects -/
section
variable {K : PySem.W.Frag} {mg : Str → Option Value} {W : Hw} {s : S} {p : Addr}
theorem upd_new {H : Hp} {o : HO} (h : H p = none) : Same H (upd H p o) := fun b x e => by rw [upd_ne (ne_of_none e h)]; exact e
theorem Base.frz_none (B : Base K mg W s) (h : W.H p = none) : W.G p = none := B.sub.free h
/-- a new object, frozen -/
theorem Base.newO (B : Base K mg W s) (h : W.H p = none) (o : HO) (nt : ∀ ps, o ≠ .tbl ps := by exact fun _ z => nomatch z) : Base K mg ⟨upd W.H p o, upd W.G p o, W.τ⟩ s ∧ Ext W ⟨upd W.H p o, upd W.G p o, W.τ⟩ := by
  have hG := B.frz_none h
  have ht : p ∉ W.τ := fun m => B.tau_some m h
  have E : Ext W ⟨upd W.H p o, upd W.G p o, W.τ⟩ :=
    ⟨fun b o' e _ => .inl (upd_new h b o' e), upd_new hG, fun b e => upd_ne fun z => e (z ▸ h), List.prefix_refl _, fun _ m n => absurd m n, fun t => tabs_new h t⟩
  refine ⟨⟨fun b o' e => ?_, fun b xs e => ?_, fun b m => ?_, B.nd, B.len, fun n c a h1 h2 => ?_, B.flt, tabs_new h B.tab, nog_upd nt B.nog, all_upd nt B.all⟩, E⟩
  · dsimp only at e ⊢
    by_cases hb : b = p
    · subst hb; rw [upd_same] at e ⊢; exact e
    · rw [upd_ne hb] at e ⊢; exact B.sub b o' e
  · dsimp only at e ⊢
    by_cases hb : b = p
    · subst hb; rw [upd_same] at e ⊢; exact e
    · rw [upd_ne hb] at e ⊢; exact B.tupI b xs e
  · show upd W.G p _ b = none
    rw [upd_ne (fun z : b = p => ht (z ▸ m))]
    exact B.spc b m
  · have na : a ≠ p := fun z => ht (z ▸ List.mem_of_getElem? h2)
    have q := B.cel n c a h1 h2
    cases c with
    | l ds =>
      obtain ⟨us, e, r⟩ := q
      exact ⟨us, (upd_ne na).trans e, r.ext E⟩
    | o c fs =>
      obtain ⟨C, dx, us, e0, e, r⟩ := q
      exact ⟨C, dx, us, e0, (upd_ne na).trans e, r.ext E⟩
    | d fs =>
      obtain ⟨us, e, r⟩ := q
      exact ⟨us, (upd_ne na).trans e, r.ext E⟩
    | t fs =>
      obtain ⟨us, e, r⟩ := q
      exact ⟨us, (upd_ne na).trans e, r.ext E⟩
    | b ns =>
      obtain ⟨us, e, r⟩ := q
      exact ⟨us, (upd_ne na).trans e, r⟩
/-- a new list, not frozen -/
theorem Base.newL (B : Base K mg W s) (h : W.H p = none) {o : HO} (no : ∀ vs, o ≠ .tup vs) (nt : ∀ ps, o ≠ .tbl ps := by exact fun _ z => nomatch z) : Base K mg ⟨upd W.H p o, W.G, W.τ⟩ s ∧ Ext W ⟨upd W.H p o, W.G, W.τ⟩ := by
  have hG := B.frz_none h
  have ht : p ∉ W.τ := fun m => B.tau_some m h
  have E : Ext W ⟨upd W.H p o, W.G, W.τ⟩ := ⟨fun b o e _ => .inl (upd_new h b o e), fun _ _ e => e, fun b e => rfl, List.prefix_refl _, fun _ m n => absurd m n, fun t => tabs_new h t⟩
  refine ⟨⟨fun b o e => upd_new h b o (B.sub b o e), fun b xs e => ?_, B.spc, B.nd, B.len, fun n c a h1 h2 => ?_, B.flt, tabs_new h B.tab, B.nog, all_upd nt B.all⟩, E⟩
  · by_cases hb : b = p
    · subst hb
      have e' : upd W.H b o b = some (.tup xs) := e
      rw [upd_same] at e'
      exact absurd (Option.some.inj e') (no xs)
    · have e' : upd W.H p o b = some (.tup xs) := e
      rw [upd_ne hb] at e'
      exact B.tupI b xs e'
  · have na : a ≠ p := fun z => ht (z ▸ List.mem_of_getElem? h2)
    have q := B.cel n c a h1 h2
    cases c with
    | l ds =>
      obtain ⟨us, e, r⟩ := q
      exact ⟨us, (upd_ne na).trans e, r⟩
    | o c fs =>
      obtain ⟨C, dx, us, e0, e, r⟩ := q
      exact ⟨C, dx, us, e0, (upd_ne na).trans e, r⟩
    | d fs =>
      obtain ⟨us, e, r⟩ := q
      exact ⟨us, (upd_ne na).trans e, r⟩
    | t fs =>
      obtain ⟨us, e, r⟩ := q
      exact ⟨us, (upd_ne na).trans e, r⟩
    | b ns =>
      obtain ⟨us, e, r⟩ := q
      exact ⟨us, (upd_ne na).trans e, r⟩
/-- an object that isn't special and isn't frozen is frozen -/
theorem Base.freeze (B : Base K mg W s) {o : HO} (h : W.H p = some o) (hG : W.G p = none) (ht : p ∉ W.τ) (no : ∀ vs, o ≠ .tup vs) (nt : ∀ ps, o ≠ .tbl ps := by exact fun _ z => nomatch z) :
    Base K mg ⟨W.H, upd W.G p o, W.τ⟩ s := by
  have mono : Same W.G (upd W.G p o) := upd_new hG
  refine ⟨fun b x e => ?_, fun b xs e => ?_, fun b m => ?_, B.nd, B.len, fun n c a h1 h2 => ?_, B.flt, B.tab, nog_upd nt B.nog, B.all⟩
  · dsimp only at e ⊢
    by_cases hb : b = p
    · subst hb; rw [upd_same] at e; rw [← e]; exact h
    · rw [upd_ne hb] at e; exact B.sub b x e
  · exact mono _ _ (B.tupI b xs e)
  · show upd W.G p o b = none
    rw [upd_ne (fun z : b = p => ht (z ▸ m))]
    exact B.spc b m
  · have q := B.cel n c a h1 h2
    cases c with
    | l ds =>
      obtain ⟨us, e, r⟩ := q
      exact ⟨us, e, r.mono mono (List.prefix_refl _)⟩
    | o c fs =>
      obtain ⟨C, dx, us, e0, e, r⟩ := q
      exact ⟨C, dx, us, e0, e, r.mono mono (List.prefix_refl _)⟩
    | d fs =>
      obtain ⟨us, e, r⟩ := q
      exact ⟨us, e, r.mono mono (List.prefix_refl _)⟩
    | t fs =>
      obtain ⟨us, e, r⟩ := q
      exact ⟨us, e, r.mono mono (List.prefix_refl _)⟩
    | b ns =>
      obtain ⟨us, e, r⟩ := q
      exact ⟨us, e, r⟩
end
/-- a new list of its own may be taken for data -/
theorem r_ofF {f : DE} {K : PySem.W.Frag} {mg : Str → Option Value} : ∀ σ H Q, tE K mg E f σ H Q → tF K mg E f σ H Q := fun σ H Q h => by
  obtain ⟨W0, W, s, ρ, rfl, st, p⟩ := h
  refine ⟨W0, W, s, ρ, rfl, st, ?_⟩
  cases hf : f ρ s with
  | exc c s1 => rw [hf] at p; exact p
  | bad => rw [hf] at p; exact p
  | ok d s1 =>
    rw [hf] at p
    refine fun x W1 e B r => ?_
    obtain ⟨a, vs, ds, rfl, rfl, n0, nG, nt, eH, rv⟩ := r
    have B2 := B.freeze eH nG nt (fun _ z => nomatch z)
    have mono : Same W1.G (upd W1.G a (.lst vs)) := upd_new nG
    refine p (.ref a) ⟨W1.H, upd W1.G a (.lst vs), W1.τ⟩ ⟨e.keep0, e.grow.trans mono, fun b hb => ?_, e.tpre, e.tnew, e.tab⟩ B2 (.lst upd_same (rv.mono mono (List.prefix_refl _)))
    show upd W1.G a _ b = W.G b
    rw [upd_ne (fun z : b = a => hb (z ▸ n0))]
    exact e.out b hb
theorem e_ofF {f : DE} (h : PE X e (tF X.K X.mg E f)) : PE X e (tE X.K X.mg E f) := PE.mono h r_ofF
/-! ### arguments -/
def aNil : DA := fun _ s => .ok [] s
def aCons (f : DE) (g : DA) : DA := fun ρ s => (f ρ s).bind fun d s1 => (g ρ s1).bind fun ds s2 => .ok (d :: ds) s2
theorem a_nil : PA X [] (tA X.K X.mg E aNil) := PA.mono pa_nil fun σ H Q h => by
  obtain ⟨W0, W, s, ρ, rfl, st, p⟩ := h
  exact p.of_ok (x := []) st.base .nil
theorem a_cons {es : List Expr} {f : DE} {g : DA} (h : PE X e (tE X.K X.mg E f)) (hs : PA X es (tA X.K X.mg E g))
    (he : starEach (e :: es) X.env = (false, eval e X.env) :: starEach es X.env := by rfl) : PA X (e :: es) (tA X.K X.mg E (aCons f g)) := PA.mono (pa_cons h hs he) fun σ H Q h => by
  obtain ⟨W0, W, s, ρ, rfl, st, p⟩ := h
  refine (go st p).imp fun x H1 ⟨W1, s1, a, e1, r1, x1, st1, p1⟩ => ?_
  subst e1
  refine (go st1 p1).imp fun y H2 ⟨W2, s2, b, e2, r2, x2, st2, p2⟩ => ?_
  subst e2
  exact p2.of_ok (x := x :: y) st2.base (.cons (r1.ext x2) r2)
end
end DL
namespace DL
open PySem PySem.Spec PyProof.Rows L2
variable [LT : LawT] [TC : TellC]
/-! ### data of the library's kind -/
mutual
def toPy : D → PyData
  | .non => .none
  | .bl b => .bool b
  | .int i => .int i
  | .str x => .str x
  | .tup xs => .tuple (toPys xs)
  | .lst xs => .list (toPys xs)
  | .frz xs => .list (toPys xs)
  | .dct kvs => .dict (toPyKv kvs)
  | .tok _ => .none
  | .ty _ => .none
  | .glb _ => .none
  | .ktp xs => .tuple (toPys xs)
  | .exc _ => .none
  | .fd _ _ => .none
def toPys : List D → List PyData
  | [] => []
  | x :: xs => toPy x :: toPys xs
def toPyKv : List (D × D) → List (PyData × PyData)
  | [] => []
  | (k, v) :: r => (toPy k, toPy v) :: toPyKv r
end
mutual
/-- data without dicts, classes and the like -/
def okD : D → Bool
  | .non => true
  | .bl _ => true
  | .int _ => true
  | .str x => PyData.canLay0 (.str x)
  | .tup xs => okDs xs
  | .lst xs => okDs xs
  | .frz xs => okDs xs
  | .dct _ => false
  | .tok _ => false
  | .ty _ => false
  | .glb _ => false
  | .ktp xs => okDs xs
  | .exc _ => false
  | .fd _ _ => false
def okDs : List D → Bool
  | [] => true
  | x :: xs => okD x && okDs xs
end
def ready (x : D) : Bool := okD x && decide ((toPy x).depth ≤ 64)
def eqB (x y : D) : Bool := PyData.eqv (toPy x) (toPy y)
section
variable {K : PySem.W.Frag} {mg : Str → Option Value} {G H : Hp} {τ : List Addr}
mutual
theorem dp_of (hs : Same G H) : ∀ {v : V} {d : D}, Rep K mg G τ v d → okD d = true → Dp K H v (toPy d)
  | _, _, .non, _ => .non
  | _, _, .bl b, _ => .bl b
  | _, _, .int i, _ => .int i
  | _, _, .str x, _ => .str x
  | _, _, .tup h r, q => .tup (.of (hs _ _ h)) (dps_of hs r (by simpa [okD] using q))
  | _, _, .lst h r, q => .lst (.of (hs _ _ h)) (dps_of hs r (by simpa [okD] using q))
  | _, _, .frz h r, q => .lst (hs.seq h) (dps_of hs r (by simpa [okD] using q))
  | _, _, .dK _ _, q => by simp [okD] at q
  | _, _, .dT _ _, q => by simp [okD] at q
  | _, _, .tok _, q => by simp [okD] at q
  | _, _, .ty _, q => by simp [okD] at q
  | _, _, .glb _ _, q => by simp [okD] at q
  | _, _, .ktp h r, q => .tup (seqT hs h) (dps_of hs r (by simpa [okD] using q))
  | _, _, .fdK _ _, q => by simp [okD] at q
  | _, _, .fdT _ _, q => by simp [okD] at q
  | _, _, .exc _ _, q => by simp [okD] at q
theorem dps_of (hs : Same G H) : ∀ {vs : List V} {ds : List D}, RepAll K mg G τ vs ds → okDs ds = true → DpAll K H vs (toPys ds)
  | _, _, .nil, _ => .nil
  | _, _, .cons h r, q => .cons (dp_of hs h (by simp [okDs] at q; exact q.1)) (dps_of hs r (by simp [okDs] at q; exact q.2))
end
end
mutual
theorem canLay_of : ∀ d : D, okD d = true → (toPy d).canLay0 = true
  | .non, _ => by simp [toPy, PyData.canLay0]
  | .bl _, _ => by simp [toPy, PyData.canLay0]
  | .int _, _ => by simp [toPy, PyData.canLay0]
  | .str x, h => by simpa [okD, toPy] using h
  | .tup xs, h => by simpa [toPy, PyData.canLay0] using canLays_of xs (by simpa [okD] using h)
  | .lst xs, h => by simpa [toPy, PyData.canLay0] using canLays_of xs (by simpa [okD] using h)
  | .frz xs, h => by simpa [toPy, PyData.canLay0] using canLays_of xs (by simpa [okD] using h)
  | .dct _, h => by simp [okD] at h
  | .fd _ _, h => by simp [okD] at h
  | .tok _, h => by simp [okD] at h
  | .ty _, h => by simp [okD] at h
  | .glb _, h => by simp [okD] at h
  | .ktp xs, h => by simpa [toPy, PyData.canLay0] using canLays_of xs (by simpa [okD] using h)
  | .exc _, h => by simp [okD] at h
theorem canLays_of : ∀ ds : List D, okDs ds = true → PyData.canLayAll0 (toPys ds) = true
  | [], _ => by simp [toPys, PyData.canLayAll0]
  | x :: xs, h => by
    simp [okDs] at h
    simp [toPys, PyData.canLayAll0, canLay_of x h.1, canLays_of xs h.2]
end
theorem shaped_of {d : D} (h : ready d = true) : SeqAt.shaped (toPy d) = true := by
  simp [ready] at h
  simp [SeqAt.shaped, canLay_of d h.1, h.2]
theorem ready_ok {d : D} (h : ready d = true) : okD d = true := by
  simp [ready] at h
  exact h.1
/-! ### two values in, one out -/
abbrev F2 := D → D → Option D
def eOp2 (g : F2) (f h : DE) : DE := fun ρ s => (f ρ s).bind fun a s1 => (h ρ s1).bind fun b s2 => Res.ofO (g a b) s2
def V2 (K : PySem.W.Frag) (mg : Str → Option Value) (r : R2) (g : F2) : Prop :=
  ∀ (W : Hw) (s : S) (x y : V) (d e z : D) (Q : VK), Base K mg W s → Rep K mg W.G W.τ x d → Rep K mg W.G W.τ y e → g d e = some z → (∀ v W', Ext W W' → Base K mg W' s → Rep K mg W'.G W'.τ v z → Q v W'.H) → r x y W.H Q
def V2F (K : PySem.W.Frag) (mg : Str → Option Value) (r : R2) (g : F2) : Prop :=
  ∀ (W : Hw) (s : S) (x y : V) (d e z : D) (Q : VK), Base K mg W s → Rep K mg W.G W.τ x d → Rep K mg W.G W.τ y e → g d e = some z → (∀ v W', Ext W W' → Base K mg W' s → relF K mg W W' v z → Q v W'.H) → r x y W.H Q
section
variable {K : PySem.W.Frag} {mg : Str → Option Value} {r r' : R2} {g g' : F2}
theorem V2.inl (h : V2 K mg r g) : V2 K mg (fun x y H Q => r x y H Q ∨ r' x y H Q) g := fun W s x y d e z Q B rx ry hz q => .inl (h W s x y d e z Q B rx ry hz q)
theorem V2.inr (h : V2 K mg r' g) : V2 K mg (fun x y H Q => r x y H Q ∨ r' x y H Q) g := fun W s x y d e z Q B rx ry hz q => .inr (h W s x y d e z Q B rx ry hz q)
theorem stay {W : Hw} {s : S} (B : Base K mg W s) {z : D} {Q : VK} (q : ∀ v W', Ext W W' → Base K mg W' s → Rep K mg W'.G W'.τ v z → Q v W'.H) {v : V} (r : Rep K mg W.G W.τ v z) : Q v W.H := q v W (Ext.refl W) B r
theorem relF.mono {W W1 W2 : Hw} {v : V} {d : D} (e : Ext W W1) (B : Base K mg W1 s) (h : relF K mg W1 W2 v d) : relF K mg W W2 v d := by
  obtain ⟨a, vs, ds, rfl, rfl, n0, x⟩ := h
  refine ⟨a, vs, ds, rfl, rfl, ?_, x⟩
  cases q : W.H a with
  | none => rfl
  | some o =>
    by_cases m : a ∈ W.τ
    · obtain ⟨l, el⟩ := e.tpre
      exact absurd n0 (B.tau_some (by rw [← el]; exact List.mem_append_left _ m))
    · exact absurd n0 (e.dom q m)
end
section
variable {X : Cx} {a b c : Expr} {f h fc : DE} {pos : Pos} {E : WX} {r r' : R2} {g g' : F2}
theorem r_op2 (hv : V2 X.K X.mg r g) : ∀ σ H Q, tE X.K X.mg E (eOp2 g f h) σ H Q → tOp r (tE X.K X.mg E f) (tE X.K X.mg E h) σ H Q := fun σ H Q q => by
  obtain ⟨W0, W, s, ρ, rfl, st, p⟩ := q
  refine (go st p).imp fun x H1 ⟨W1, s1, d1, e1, r1, x1, st1, p1⟩ => ?_
  subst e1
  refine (go st1 p1).imp fun y H2 ⟨W2, s2, d2, e2, r2, x2, st2, p2⟩ => ?_
  subst e2
  cases hz : g d1 d2 with
  | none => rw [hz] at p2; exact p2.elim
  | some z =>
    rw [hz] at p2
    exact hv W2 s2 x y d1 d2 z Q st2.base (r1.ext x2) r2 hz p2
theorem e_op2 {op : Operator} (ho : OpR X (binaryOp op) r) (hv : V2 X.K X.mg r g) (ha : PE X a (tE X.K X.mg E f)) (hb : PE X b (tE X.K X.mg E h)) : PE X (.BinOp a op b pos) (tE X.K X.mg E (eOp2 g f h)) :=
  PE.mono (pe_op ho ha hb) (r_op2 hv)
theorem f_op2 {op : Operator} (ho : OpR X (binaryOp op) r) (hv : V2F X.K X.mg r g) (ha : PE X a (tE X.K X.mg E f)) (hb : PE X b (tE X.K X.mg E h)) : PE X (.BinOp a op b pos) (tF X.K X.mg E (eOp2 g f h)) := by
  refine PE.mono (pe_op ho ha hb) fun σ H Q q => ?_
  obtain ⟨W0, W, s, ρ, rfl, st, p⟩ := q
  refine (go st p).imp fun x H1 ⟨W1, s1, d1, e1, r1, x1, st1, p1⟩ => ?_
  subst e1
  refine (go st1 p1).imp fun y H2 ⟨W2, s2, d2, e2, r2, x2, st2, p2⟩ => ?_
  subst e2
  cases hz : g d1 d2 with
  | none => rw [hz] at p2; exact p2.elim
  | some z =>
    rw [hz] at p2
    exact hv W2 s2 x y d1 d2 z Q st2.base (r1.ext x2) r2 hz fun v W' e B rf => p2 v W' e B ((rf.mono x2 st2.base).mono x1 st1.base)
theorem e_cmp {op : CmpOp} (ho : OpR X (compareOp op) r) (hv : V2 X.K X.mg r g) (ha : PE X a (tE X.K X.mg E f)) (hb : PE X b (tE X.K X.mg E h)) (hm : behindInMarks op b = false) : PE X (.Compare a [op] [b] pos) (tE X.K X.mg E (eOp2 g f h)) :=
  PE.mono (pe_cmpR ho ha hb hm) (r_op2 hv)
/-- a truth as a test -/
def tBl (f : DE) : DT := fun ρ s => (f ρ s).bind fun d s1 => match d with
  | .bl b => .ok b s1
  | _ => .bad
theorem r_bl {te : TE} (hf : ∀ σ H Q, tE X.K X.mg E f σ H Q → te σ H Q) : ∀ σ H Q, tT X.K X.mg E (tBl f) σ H Q → tTest te σ H Q := fun σ H Q q => by
  obtain ⟨W0, W, s, ρ, rfl, st, p⟩ := q
  refine hf _ _ _ ((go st p).imp fun x H1 ⟨W1, s1, d1, e1, r1, x1, st1, p1⟩ => ?_)
  subst e1
  cases d1 with
  | bl b => exact ⟨b, r1.bl_inv, p1.of_ok st1.base rfl⟩
  | _ => exact p1.elim
theorem t_cmp {op : CmpOp} (ho : OpR X (compareOp op) r) (hv : V2 X.K X.mg r g) (ha : PE X a (tE X.K X.mg E f)) (hb : PE X b (tE X.K X.mg E h)) (hm : behindInMarks op b = false) : PT X (.Compare a [op] [b] pos) (tT X.K X.mg E (tBl (eOp2 g f h))) :=
  PT.mono (pt_cmpR ho ha hb hm) (r_bl (r_op2 hv))
/-- a op b op' c -/
def eChain (g g' : F2) (f h k : DE) : DE := fun ρ s => (f ρ s).bind fun x s1 => (h ρ s1).bind fun y s2 => match g x y with
  | some (.bl true) => (k ρ s2).bind fun z s3 => Res.ofO (g' y z) s3
  | some (.bl false) => .ok (.bl false) s2
  | _ => .bad
theorem r_chain (hv : V2 X.K X.mg r g) (hv' : V2 X.K X.mg r' g') : ∀ σ H Q, tE X.K X.mg E (eChain g g' f h fc) σ H Q → tChain r r' (tE X.K X.mg E f) (tE X.K X.mg E h) (tE X.K X.mg E fc) σ H Q := fun σ H Q q => by
  obtain ⟨W0, W, s, ρ, rfl, st, p⟩ := q
  refine (go st p).imp fun x H1 ⟨W1, s1, d1, e1, r1, x1, st1, p1⟩ => ?_
  subst e1
  refine (go st1 p1).imp fun y H2 ⟨W2, s2, d2, e2, r2, x2, st2, p2⟩ => ?_
  subst e2
  cases hz : g d1 d2 with
  | none => rw [hz] at p2; exact p2.elim
  | some z =>
    rw [hz] at p2
    refine hv W2 s2 x y d1 d2 z _ st2.base (r1.ext x2) r2 hz fun v W3 x3 B3 r3 => ?_
    cases z with
    | bl k =>
      refine ⟨k, r3.bl_inv, ?_⟩
      cases k with
      | true =>
        refine iteT ((go (st2.step x3 B3) (Post.ext x3 B3 p2)).imp fun w' H4 ⟨W4, s4, d4, e4, r4, x4, st4, p4⟩ => ?_)
        subst e4
        cases hz' : g' d2 d4 with
        | none => rw [hz'] at p4; exact p4.elim
        | some z' =>
          rw [hz'] at p4
          exact hv' W4 s4 y w' d2 d4 z' Q st4.base ((r2.ext x3).ext x4) r4 hz' p4
      | false => exact iteF (p2 _ W3 x3 B3 (.bl false))
    | _ => exact p2.elim
theorem e_chain {op op' : CmpOp} (ho : OpR X (compareOp op) r) (hv : V2 X.K X.mg r g) (ho' : OpR X (compareOp op') r') (hv' : V2 X.K X.mg r' g') (ha : PE X a (tE X.K X.mg E f)) (hb : PE X b (tE X.K X.mg E h)) (hc : PE X c (tE X.K X.mg E fc))
    (hm : lastMarks [op, op'] [b, c] = false := by with_unfolding_all rfl) : PE X (.Compare a [op, op'] [b, c] pos) (tE X.K X.mg E (eChain g g' f h fc)) := PE.mono (pe_chain ho ho' ha hb hc hm) (r_chain hv hv')
theorem t_chain {op op' : CmpOp} (ho : OpR X (compareOp op) r) (hv : V2 X.K X.mg r g) (ho' : OpR X (compareOp op') r') (hv' : V2 X.K X.mg r' g') (ha : PE X a (tE X.K X.mg E f)) (hb : PE X b (tE X.K X.mg E h)) (hc : PE X c (tE X.K X.mg E fc))
    (hm : lastMarks [op, op'] [b, c] = false := by with_unfolding_all rfl) : PT X (.Compare a [op, op'] [b, c] pos) (tT X.K X.mg E (tBl (eChain g g' f h fc))) := PT.mono (pt_chain ho ho' ha hb hc hm) (r_bl (r_chain hv hv'))
end
/-! ### the operators -/
def dIntB (p : Int → Int → Bool) : F2 := fun x y => match x, y with
  | .int i, .int j => some (.bl (p i j))
  | _, _ => none
def dLt : F2 := dIntB fun i j => decide (i < j)
def dLe : F2 := dIntB fun i j => decide (i ≤ j)
def dGt : F2 := dIntB fun i j => decide (j < i)
def dGe : F2 := dIntB fun i j => decide (j ≤ i)
def dSub : F2 := fun x y => match x, y with
  | .int i, .int j => some (.int (i - j))
  | _, _ => none
def dMod : F2 := fun x y => match x, y with
  | .int i, .int j => if j ≠ 0 then some (.int (i.fmod j)) else none
  | _, _ => none
def CFd (i j : Int) : Prop := j ≠ 0 ∧ Builtin.divisionGoesByPylong i j = false
instance (i j : Int) : Decidable (CFd i j) := by unfold CFd; exact inferInstance
def dFdiv : F2 := fun x y => match x, y with
  | .int i, .int j => if CFd i j then some (.int (i.fdiv j)) else none
  | _, _ => none
def CPw (i j : Int) : Prop := 0 ≤ j ∧ (Builtin.Int.intBits i : Int) * j ≤ 2 ^ 27
instance (i j : Int) : Decidable (CPw i j) := by unfold CPw; exact inferInstance
def dPow : F2 := fun x y => match x, y with
  | .int i, .int j => if CPw i j then some (.int (i ^ j.toNat)) else none
  | _, _ => none
instance (i j : Int) : Decidable (CShl i j) := by unfold CShl; exact inferInstance
instance (i j : Int) : Decidable (CMulX i j) := by unfold CMulX; exact inferInstance
def dAdd : F2 := fun x y => match x, y with
  | .int i, .int j => some (.int (i + j))
  | .tup a, .tup b => if a.length + b.length ≤ 16777216 then some (.tup (a ++ b)) else none
  | .lst a, .lst b => if a.length + b.length ≤ 16777216 then some (.lst (a ++ b)) else none
  | .str a, .str b => if a.length + b.length ≤ 16777216 then some (.str (a ++ b)) else none
  | _, _ => none
def dMul : F2 := fun x y => match x, y with
  | .int i, .int j => if CMulX i j then some (.int (i * j)) else none
  | .tup a, .int k => if a.length ≤ 1000 ∧ k ≤ 1000 ∧ -1000 ≤ k then some (.tup (List.replicate k.toNat a).flatten) else none
  | .lst a, .int k => if a.length * k.toNat ≤ 16777216 ∧ k ≤ 1000000 ∧ -1000000 ≤ k then some (.lst (List.replicate k.toNat a).flatten) else none
  | _, _ => none
def dEq : F2 := fun x y => match x, y with
  | .str a, .str b => some (.bl (decide (a = b)))
  | x, y => if ready x && ready y then some (.bl (eqB x y)) else none
def dNe : F2 := fun x y => match x, y with
  | .str a, .str b => some (.bl (!decide (a = b)))
  | x, y => if ready x && ready y then some (.bl (!eqB x y)) else none
section
variable {X : Cx} {K : PySem.W.Frag} {mg : Str → Option Value}
theorem vI {C : Int → Int → Prop} {g : Int → Int → V} {k : F2} (h : ∀ x y z, k x y = some z → ∃ i j, x = .int i ∧ y = .int j ∧ C i j ∧ ∀ G τ, Rep K mg G τ (g i j) z) : V2 K mg (rI C g) k := fun W s x y d e z Q B rx ry hz q => by
  obtain ⟨i, j, rfl, rfl, hc, hr⟩ := h d e z hz
  exact ⟨i, j, rx.int_inv, ry.int_inv, hc, stay B q (hr _ _)⟩
theorem vI0 {g : Int → Int → V} {k : F2} (h : ∀ x y z, k x y = some z → ∃ i j, x = .int i ∧ y = .int j ∧ ∀ G τ, Rep K mg G τ (g i j) z) : V2 K mg (rI0 g) k := fun W s x y d e z Q B rx ry hz q => by
  obtain ⟨i, j, rfl, rfl, hr⟩ := h d e z hz
  exact ⟨i, j, rx.int_inv, ry.int_inv, stay B q (hr _ _)⟩
theorem v_cmpI (p : Int → Int → Bool) : V2 K mg (rI0 fun i j => .bl (p i j)) (dIntB p) := vI0 fun x y z h => by
  unfold dIntB at h
  split at h
  · cases h; exact ⟨_, _, rfl, rfl, fun _ _ => .bl _⟩
  · cases h
theorem v_lt : V2 K mg (rI0 fun i j => .bl (decide (i < j))) dLt := v_cmpI _
theorem v_le : V2 K mg (rI0 fun i j => .bl (decide (i ≤ j))) dLe := v_cmpI _
theorem v_gt : V2 K mg (rI0 fun i j => .bl (decide (j < i))) dGt := v_cmpI _
theorem v_ge : V2 K mg (rI0 fun i j => .bl (decide (j ≤ i))) dGe := v_cmpI _
theorem v_sub : V2 K mg (rI0 fun i j => .int (i - j)) dSub := vI0 fun x y z h => by
  unfold dSub at h
  split at h
  · cases h; exact ⟨_, _, rfl, rfl, fun _ _ => .int _⟩
  · cases h
theorem v_mod : V2 K mg (rI (fun _ j => j ≠ 0) fun i j => .int (i.fmod j)) dMod := vI fun x y z h => by
  unfold dMod at h
  split at h
  · split at h
    · cases h; exact ⟨_, _, rfl, rfl, by assumption, fun _ _ => .int _⟩
    · cases h
  · cases h
theorem v_fdiv : V2 K mg (rI CFd fun i j => .int (i.fdiv j)) dFdiv := vI fun x y z h => by
  unfold dFdiv at h
  split at h
  · split at h
    · cases h; exact ⟨_, _, rfl, rfl, by assumption, fun _ _ => .int _⟩
    · cases h
  · cases h
theorem v_pow : V2 K mg (rI CPw fun i j => .int (i ^ j.toNat)) dPow := vI fun x y z h => by
  unfold dPow at h
  split at h
  · split at h
    · cases h; exact ⟨_, _, rfl, rfl, by assumption, fun _ _ => .int _⟩
    · cases h
  · cases h
theorem op_fdivX : OpR X (binaryOp .FloorDiv) (rI CFd fun i j => .int (i.fdiv j)) := opI fun i j _ _ _ _ _ hc q => floordiv_int hc.1 q (.inl hc.2)
theorem op_powX : OpR X (binaryOp .Pow) (rI CPw fun i j => .int (i ^ j.toNat)) := opI fun _ _ _ _ _ _ _ hc q => pow_int hc.1 hc.2 q
end
end DL
namespace DL
open PySem PySem.Spec PyProof.Rows L2
theorem tup_mul_same (l : Addr) (items : Array Value) (n : Nat) (dd : Option Addr) (sl : Array (Option Value)) (x : Int) (u : Tok) (c0 : (decide (x < -(2 ^ 63)) || decide (x ≥ 2 ^ 63)) = false) (c1 : (items.isEmpty || x == 1) = true) :
    Meets (Builtin.«tuple.__mul__» ⟨[.ref l, .int x u], []⟩) (fun _ R s => s.heap.get? l = some { cls := .type "tuple", dict := dd, data := .seq items n, slots := sl } ∧ R (.ok (.ret (Value.ref l))) s) :=
  .of_wp fun prog w A R s h => by
    obtain ⟨hp, g, d, tk, os⟩ := s
    obtain ⟨hl, h⟩ := h
    have f1 := AutoSeq1.idx_int
    wp_walk using wpAny_loadPart' hl
    refine wpAny_ite_false (decide_eq_false (by rw [c0]; exact Bool.false_ne_true)) ?_
    wp_walk using wpAny_loadPart' hl
    exact ⟨_, rfl, h⟩
theorem tup_mul_none (l : Addr) (items : Array Value) (n : Nat) (dd : Option Addr) (sl : Array (Option Value)) (x : Int) (u : Tok) (c0 : (decide (x < -(2 ^ 63)) || decide (x ≥ 2 ^ 63)) = false) (c1 : (items.isEmpty || x == 1) = false) (c2 : (decide (x ≤ 0) || items.isEmpty) = true) :
    Meets (Builtin.«tuple.__mul__» ⟨[.ref l, .int x u], []⟩) (fun _ R s => s.heap.get? l = some { cls := .type "tuple", dict := dd, data := .seq items n, slots := sl } ∧
      R (.ok (.ret (Value.ref s.heap.objs.size))) { s with heap := s.heap.push { cls := Value.type "tuple", data := Data.seq #[] }, toks := s.toks }) :=
  .of_wp fun prog w A R s h => by
    obtain ⟨hp, g, d, tk, os⟩ := s
    obtain ⟨hl, h⟩ := h
    have f1 := AutoSeq1.idx_int
    wp_walk using wpAny_loadPart' hl
    repeat (first
      | (refine wpAny_ite_false (decide_eq_false (by rw [c0]; exact Bool.false_ne_true)) ?_; wp_walk using wpAny_loadPart' hl)
      | (refine wpAny_ite_false (decide_eq_false (by rw [c1]; exact Bool.false_ne_true)) ?_; wp_walk using wpAny_loadPart' hl)
      | (refine wpAny_ite_true (decide_eq_true (by rw [c2])) ?_; wp_walk using wpAny_loadPart' hl))
    exact ⟨_, rfl, h⟩
section
variable {X : Cx}
/-- a tuple times any int -/
def rRepA (K : PySem.W.Frag) : R2 := fun x y H Q => ∃ l k xs, x = .ref l ∧ y = .int k ∧ SqT K H l xs ∧ -1000 ≤ k ∧ k ≤ 1000 ∧ xs.length ≤ 1000 ∧
  ((xs = [] ∨ k = 1) → Q (.ref l) H) ∧ ((xs ≠ [] ∧ k ≠ 1) → ∀ p, H p = none → Q (.ref p) (upd H p (.tup (List.replicate k.toNat xs).flatten)))
theorem op_repA : OpR X (binaryOp .Mult) (rRepA X.K) := by
  intro pins s σ H x y v u Q I rx ry h
  obtain ⟨l, k, xs, ex, ey, hT, hk0, hk1, hz, q0, q1⟩ := h
  by_cases hs : xs = [] ∨ k = 1
  · subst ex ey
    cases rx
    obtain ⟨t, rfl⟩ := ry
    obtain ⟨its, r, ⟨⟨cls, dd, data, sl⟩, ho, hc, n, hd⟩, hz2⟩ := I.tuple hT
    simp only at hc hd
    subst hc hd
    have c0 : (decide (k < -(2 ^ 63)) || decide (k ≥ 2 ^ 63)) = false := by
      rw [decide_eq_false (by omega), decide_eq_false (by omega)] <;> rfl
    have c1 : (its.toArray.isEmpty || k == 1) = true := by
      rcases hs with e | e
      · subst e; cases r; rfl
      · subst e; simp
    exact wpAny_binaryOp_repeat_ref (T := "tuple") (U := "int") (by decide) ⟨_, ho, rfl⟩ (fun s' => typeIs_int s' k t) noFill_tuple_mul F.fills_int_mul F.slot_int_rmul repeat_tuple F.slot_int_index.lookup
      (call_meets F.slot_int_rmul (typeIs_int s k t) F.entry_int_rmul (F.args_int_rmul_2 _ _) (int_rmul_tuple k t l its.toArray n dd sl)
        ⟨ho, rfl, ⟨_, ho, rfl⟩, call_meets F.slot_tuple_mul ⟨_, ho, rfl⟩ F.entry_tuple_mul (F.args_tuple_mul_2 _ _) (tup_mul_same l its.toArray n dd sl k t c0 c1) ⟨ho, ⟨.ref l, H, I, rfl, q0 hs⟩⟩⟩)
  · have hn : xs ≠ [] := fun e => hs (.inl e)
    have h1 : k ≠ 1 := fun e => hs (.inr e)
    by_cases h2 : 2 ≤ k
    · exact op_repT pins s σ H x y v u Q I rx ry ⟨l, k, xs, ex, ey, hT, hn, h2, hk1, hz, q1 ⟨hn, h1⟩⟩
    · subst ex ey
      cases rx
      obtain ⟨t, rfl⟩ := ry
      obtain ⟨its, r, ⟨⟨cls, dd, data, sl⟩, ho, hc, n, hd⟩, hz2⟩ := I.tuple hT
      simp only at hc hd
      subst hc hd
      have c0 : (decide (k < -(2 ^ 63)) || decide (k ≥ 2 ^ 63)) = false := by
        rw [decide_eq_false (by omega), decide_eq_false (by omega)] <;> rfl
      have c1 : (its.toArray.isEmpty || k == 1) = false := by
        have e1 : its.toArray.isEmpty = false := by
          cases r with
          | nil => exact absurd rfl hn
          | cons _ _ => rfl
        rw [e1, Bool.false_or]
        exact beq_eq_false_iff_ne.mpr h1
      have c2 : (decide (k ≤ 0) || its.toArray.isEmpty) = true := by rw [decide_eq_true (by omega)]; rfl
      have e0 : k.toNat = 0 := by omega
      have hq := q1 ⟨hn, h1⟩ s.heap.objs.size I.fresh
      rw [e0] at hq
      exact wpAny_binaryOp_repeat_ref (T := "tuple") (U := "int") (by decide) ⟨_, ho, rfl⟩ (fun s' => typeIs_int s' k t) noFill_tuple_mul F.fills_int_mul F.slot_int_rmul repeat_tuple F.slot_int_index.lookup
        (call_meets F.slot_int_rmul (typeIs_int s k t) F.entry_int_rmul (F.args_int_rmul_2 _ _) (int_rmul_tuple k t l its.toArray n dd sl)
          ⟨ho, rfl, ⟨_, ho, rfl⟩, call_meets F.slot_tuple_mul ⟨_, ho, rfl⟩ F.entry_tuple_mul (F.args_tuple_mul_2 _ _) (tup_mul_none l its.toArray n dd sl k t c0 c1 c2)
            ⟨ho, ⟨.ref s.heap.objs.size, _, I.laid (o := .tup []) (t' := s.toks) (fun b o e => Heap.get?_push_of_some _ e) (Nat.le_refl _) ⟨Nat.zero_le _, [], .nil, ⟨_, Heap.get?_push_size _ rfl, rfl, _, rfl⟩⟩, rfl, hq⟩⟩⟩)
end
end DL
namespace DL
open PySem PySem.Spec PyProof.Rows L2
variable [LT : LawT] [TC : TellC]
theorem line_le {n : Nat} (h : n ≤ 16777216) : n ≤ sizeLine := by rw [sizeLine_eq]; exact h
section
variable {K : PySem.W.Frag} {mg : Str → Option Value} {W : Hw} {s : S}
/-- a new list, taken for data -/
theorem newFrz (B : Base K mg W s) {p : Addr} (h : W.H p = none) (o : HO) {z : D} {Q : VK} (q : ∀ v W', Ext W W' → Base K mg W' s → Rep K mg W'.G W'.τ v z → Q v W'.H)
    (r : ∀ W', Ext W W' → W'.G p = some o → Rep K mg W'.G W'.τ (.ref p) z) (nt : ∀ ps, o ≠ .tbl ps := by exact fun _ z => nomatch z) : Q (.ref p) (upd W.H p o) := by
  obtain ⟨B1, E1⟩ := B.newO h o nt
  exact q (.ref p) _ E1 B1 (r _ E1 upd_same)
end
/-! ### + -/
def rAdd (K : PySem.W.Frag) : R2 := fun x y H Q => rI0 (fun i j => .int (i + j)) x y H Q ∨ rCatA K x y H Q ∨ rCat x y H Q ∨ ∃ i j, x = .str i ∧ y = .str j ∧ i.length + j.length ≤ sizeLine ∧ Q (.str (i ++ j)) H
section
variable {X : Cx} {K : PySem.W.Frag} {mg : Str → Option Value}
theorem op_addA : OpR X (binaryOp .Add) (rAdd X.K) := OpR.or op_add (OpR.or op_catA (OpR.or op_cat op_add_str))
theorem v_add : V2 K mg (rAdd K) dAdd := fun W s x y d e z Q B rx ry hz q => by
  unfold dAdd at hz
  split at hz
  · cases hz
    exact .inl ⟨_, _, rx.int_inv, ry.int_inv, stay B q (.int _)⟩
  · split at hz
    · cases hz
      rename_i a b hl
      obtain ⟨a1, xs, rfl, h1, r1⟩ := rx.tup_inv'
      obtain ⟨b1, ys, rfl, h2, r2⟩ := ry.tup_inv'
      have l1 := r1.length
      have l2 := r2.length
      refine .inr (.inl ⟨a1, b1, xs, ys, rfl, rfl, .of (B.sub _ _ h1), .of (B.sub _ _ h2), line_le (by omega), fun e => ?_, fun e1 e2 => ?_, fun e1 e2 p hp => ?_⟩)
      · subst e
        cases r1
        exact stay B q (.tup h2 (by simpa using r2))
      · subst e2
        cases r2
        exact stay B q (.tup h1 (by simpa using r1))
      · exact newFrz B hp _ q fun W' E' e' => .tup e' ((r1.append r2).ext E')
    · cases hz
  · split at hz
    · cases hz
      rename_i a b hl
      obtain ⟨a1, xs, rfl, h1, r1⟩ := rx.lst_inv
      obtain ⟨b1, ys, rfl, h2, r2⟩ := ry.lst_inv
      have l1 := r1.length
      have l2 := r2.length
      exact .inr (.inr (.inl ⟨a1, b1, xs, ys, rfl, rfl, B.sub _ _ h1, B.sub _ _ h2, line_le (by omega), fun p hp => newFrz B hp _ q fun W' E' e' => .lst e' ((r1.append r2).ext E')⟩))
    · cases hz
  · split at hz
    · cases hz
      exact .inr (.inr (.inr ⟨_, _, rx.str_inv, ry.str_inv, line_le (by assumption), stay B q (.str _)⟩))
    · cases hz
  · cases hz
/-- list + list, a new list of its own -/
def dAddL : F2 := fun x y => match x, y with
  | .lst a, .lst b => if a.length + b.length ≤ 16777216 then some (.lst (a ++ b)) else none
  | _, _ => none
theorem newOwn {W : Hw} {s : S} (B : Base K mg W s) {p : Addr} (h : W.H p = none) {vs : List V} {ds : List D} {Q : VK} (q : ∀ v W', Ext W W' → Base K mg W' s → relF K mg W W' v (.lst ds) → Q v W'.H) (r : RepAll K mg W.G W.τ vs ds) : Q (.ref p) (upd W.H p (.lst vs)) := by
  obtain ⟨B1, E1⟩ := B.newL h (o := .lst vs) (fun _ z => nomatch z)
  exact q (.ref p) _ E1 B1 ⟨p, vs, ds, rfl, rfl, h, B.frz_none h, fun m => B.tau_some m h, upd_same, r⟩
theorem vF_add : V2F K mg rCat dAddL := fun W s x y d e z Q B rx ry hz q => by
  unfold dAddL at hz
  split at hz
  · split at hz
    · cases hz
      rename_i a b hl
      obtain ⟨a1, xs, rfl, h1, r1⟩ := rx.lst_inv
      obtain ⟨b1, ys, rfl, h2, r2⟩ := ry.lst_inv
      have l1 := r1.length
      have l2 := r2.length
      exact ⟨a1, b1, xs, ys, rfl, rfl, B.sub _ _ h1, B.sub _ _ h2, line_le (by omega), fun p hp => newOwn B hp q (r1.append r2)⟩
    · cases hz
  · cases hz
/-! ### * -/
def rMul (K : PySem.W.Frag) : R2 := fun x y H Q => rI CMulX (fun i j => .int (i * j)) x y H Q ∨ rRepA K x y H Q ∨ rRep x y H Q
theorem op_mulA : OpR X (binaryOp .Mult) (rMul X.K) := OpR.or op_mulX (OpR.or op_repA op_rep)
theorem rep_one {α : Type} (xs : List α) : (List.replicate (1 : Int).toNat xs).flatten = xs := by simp
theorem rep_nil {α : Type} (n : Nat) : (List.replicate n ([] : List α)).flatten = [] := by simp
theorem v_mul : V2 K mg (rMul K) dMul := fun W s x y d e z Q B rx ry hz q => by
  unfold dMul at hz
  split at hz
  · split at hz
    · cases hz
      exact .inl ⟨_, _, rx.int_inv, ry.int_inv, by assumption, stay B q (.int _)⟩
    · cases hz
  · split at hz
    · cases hz
      rename_i a k hl
      obtain ⟨a1, xs, rfl, h1, r1⟩ := rx.tup_inv'
      cases ry.int_inv
      have l1 := r1.length
      refine .inr (.inl ⟨a1, k, xs, rfl, rfl, .of (B.sub _ _ h1), hl.2.2, hl.2.1, by omega, fun e => ?_, fun e p hp => ?_⟩)
      · rcases e with e | e
        · subst e
          cases r1
          rw [rep_nil] at q
          exact stay B q (.tup h1 .nil)
        · subst e
          rw [rep_one] at q
          exact stay B q (.tup h1 r1)
      · exact newFrz B hp _ q fun W' E' e' => .tup e' ((r1.rep _).ext E')
    · cases hz
  · split at hz
    · cases hz
      rename_i a k hl
      obtain ⟨a1, xs, rfl, h1, r1⟩ := rx.lst_inv
      cases ry.int_inv
      have l1 := r1.length
      exact .inr (.inr ⟨a1, k, xs, rfl, rfl, B.sub _ _ h1, by omega, by omega, line_le (by rw [l1]; exact hl.1), fun p hp => newFrz B hp _ q fun W' E' e' => .lst e' ((r1.rep _).ext E')⟩)
    · cases hz
  · cases hz
def dMulL : F2 := fun x y => match x, y with
  | .lst a, .int k => if a.length * k.toNat ≤ 16777216 ∧ k ≤ 1000000 ∧ -1000000 ≤ k then some (.lst (List.replicate k.toNat a).flatten) else none
  | _, _ => none
theorem vF_mul : V2F K mg rRep dMulL := fun W s x y d e z Q B rx ry hz q => by
  unfold dMulL at hz
  split at hz
  · split at hz
    · cases hz
      rename_i a k hl
      obtain ⟨a1, xs, rfl, h1, r1⟩ := rx.lst_inv
      cases ry.int_inv
      have l1 := r1.length
      exact ⟨a1, k, xs, rfl, rfl, B.sub _ _ h1, by omega, by omega, line_le (by rw [l1]; exact hl.1), fun p hp => newOwn B hp q (r1.rep _)⟩
    · cases hz
  · cases hz
/-! ### == -/
def rEqA (K : PySem.W.Frag) : R2 := fun x y H Q => rEq x y H Q ∨ rEqD K x y H Q
def rNeA (K : PySem.W.Frag) : R2 := fun x y H Q => rNe x y H Q ∨ rNeD K x y H Q
theorem op_eqA (hu : X.A.units + 64 < cLine) : OpR X (compareOp .Eq) (rEqA X.K) := OpR.or op_eq (op_eqD hu)
theorem op_neA (hu : X.A.units + 64 < cLine) : OpR X (compareOp .NotEq) (rNeA X.K) := OpR.or op_ne (op_neD hu)
theorem v_eq : V2 K mg (rEqA K) dEq := fun W s x y d e z Q B rx ry hz q => by
  unfold dEq at hz
  split at hz
  · cases hz
    cases rx.str_inv
    cases ry.str_inv
    refine .inl ⟨rfl, ?_⟩
    simp only [V.str.injEq]
    exact stay B q (.bl _)
  · split at hz
    · cases hz
      rename_i hr
      rw [Bool.and_eq_true] at hr
      exact .inr ⟨_, _, dp_of B.sub rx (ready_ok hr.1), dp_of B.sub ry (ready_ok hr.2), shaped_of hr.1, shaped_of hr.2, stay B q (.bl _)⟩
    · cases hz
theorem v_ne : V2 K mg (rNeA K) dNe := fun W s x y d e z Q B rx ry hz q => by
  unfold dNe at hz
  split at hz
  · cases hz
    cases rx.str_inv
    cases ry.str_inv
    refine .inl ⟨rfl, ?_⟩
    simp only [V.str.injEq]
    exact stay B q (.bl _)
  · split at hz
    · cases hz
      rename_i hr
      rw [Bool.and_eq_true] at hr
      exact .inr ⟨_, _, dp_of B.sub rx (ready_ok hr.1), dp_of B.sub ry (ready_ok hr.2), shaped_of hr.1, shaped_of hr.2, stay B q (.bl _)⟩
    · cases hz
/-! ### is None, is of truths -/
def rIs : R2 := fun x y H Q => (y = .non ∧ Q (.bl (decide (x = .non))) H) ∨ rIsB x y H Q
def isNon : D → Option Bool
  | .non => some true
  | .glb _ => none
  | .ty _ => some false
  | _ => some false
def dIs : F2 := fun x y => match x, y with
  | x, .non => (isNon x).map .bl
  | .bl a, .bl b => some (.bl (decide (a = b)))
  | _, _ => none
def dIsnt : F2 := fun x y => match x, y with
  | x, .non => (isNon x).map fun b => .bl (!b)
  | .bl a, .bl b => some (.bl (!decide (a = b)))
  | _, _ => none
theorem op_isA : OpR X (compareOp .Is) rIs := OpR.or op_isN op_isBl
theorem isNon_of {W : Hw} {v : V} {d : D} {b : Bool} (r : Rep K mg W.G W.τ v d) (h : isNon d = some b) : decide (v = .non) = b := by
  cases r <;> first
    | (simp [isNon] at h; subst h; simp)
    | (simp [isNon] at h)
theorem v_is : V2 K mg rIs dIs := fun W s x y d e z Q B rx ry hz q => by
  unfold dIs at hz
  split at hz
  · cases ry.non_inv
    cases hn : isNon d with
    | none => rw [hn] at hz; cases hz
    | some b =>
      rw [hn] at hz
      cases hz
      refine .inl ⟨rfl, ?_⟩
      rw [isNon_of rx hn]
      exact stay B q (.bl _)
  · cases hz
    cases rx.bl_inv
    cases ry.bl_inv
    exact .inr ⟨_, _, rfl, rfl, stay B q (.bl _)⟩
  · cases hz
/-! ### in, of data -/
def rInT (K : PySem.W.Frag) : R2 := fun x y H Q => ∃ d ds, Dp K H x d ∧ Dp K H y (.tuple ds) ∧ SeqAt.shaped d = true ∧ SeqAt.shaped (.tuple ds) = true ∧ Q (.bl (ds.any fun z => PyData.eqv z d)) H
theorem room_in {A : Around} {d : PyData} {ds : List PyData} (h : SeqAt.shaped d = true) (hu : A.units + 65 < cLine) : A.units + 1 + min (PyData.depthAll ds) d.depth < cLine := by
  have h1 := SeqAt.depth_of_shaped h
  have h2 : min (PyData.depthAll ds) d.depth ≤ d.depth := Nat.min_le_right _ _
  omega
theorem op_inT (hu : X.A.units + 65 < cLine) : OpR X (compareOp .In) (rInT X.K) := by
  intro pins s σ H x y v u Q I rx ry h
  obtain ⟨d, ds, hd, he, sd, se, q⟩ := h
  obtain ⟨as, r1⟩ := Dp.reads I d x v hd rx
  obtain ⟨bs, r2⟩ := Dp.reads I (.tuple ds) y u he ry
  have c2 : PyData.canLayAll0 ds = true := by have := SeqAt.canLay_of_shaped se; simpa [PyData.canLay0] using this
  exact SeqAt.in_tuple_reads r2 r1 c2 (SeqAt.canLay_of_shaped sd) (room_in sd hu) ⟨.bl _, H, I, rfl, q⟩
def inB (x : D) (ys : List D) : Bool := ys.any fun z => eqB z x
def dIn : F2 := fun x y => match y with
  | .lst ds => if ready x && ready (.lst ds) then some (.bl (inB x ds)) else none
  | .tup ds => if ready x && ready (.tup ds) then some (.bl (inB x ds)) else none
  | .str b => match x with
    | .str a => some (.bl (!(Builtin.Str.occurrences b a 0 b.length 1).isEmpty))
    | _ => none
  | _ => none
def rInA (K : PySem.W.Frag) : R2 := fun x y H Q => rInD K x y H Q ∨ rInT K x y H Q ∨ ∃ i j, x = .str i ∧ y = .str j ∧ Q (.bl (!(Builtin.Str.occurrences j i 0 j.length 1).isEmpty)) H
theorem op_inA (hu : X.A.units + 65 < cLine) : OpR X (compareOp .In) (rInA X.K) := OpR.or (op_inD hu) (OpR.or (op_inT hu) op_in_str)
theorem toPys_map (ds : List D) : toPys ds = ds.map toPy := by
  induction ds with
  | nil => rfl
  | cons d ds ih => simp [toPys, ih]
theorem inB_py (x : D) (ds : List D) : ((toPys ds).any fun z => PyData.eqv z (toPy x)) = inB x ds := by
  rw [toPys_map, List.any_map]
  rfl
theorem v_in : V2 K mg (rInA K) dIn := fun W s x y d e z Q B rx ry hz q => by
  unfold dIn at hz
  split at hz
  · split at hz
    · cases hz
      rename_i ds hr
      rw [Bool.and_eq_true] at hr
      refine .inl ⟨toPy d, toPys ds, dp_of B.sub rx (ready_ok hr.1), by simpa [toPy] using dp_of B.sub ry (ready_ok hr.2), shaped_of hr.1, by simpa [toPy] using shaped_of hr.2, ?_⟩
      rw [inB_py]
      exact stay B q (.bl _)
    · cases hz
  · split at hz
    · cases hz
      rename_i ds hr
      rw [Bool.and_eq_true] at hr
      refine .inr (.inl ⟨toPy d, toPys ds, dp_of B.sub rx (ready_ok hr.1), by simpa [toPy] using dp_of B.sub ry (ready_ok hr.2), shaped_of hr.1, by simpa [toPy] using shaped_of hr.2, ?_⟩)
      rw [inB_py]
      exact stay B q (.bl _)
    · cases hz
  · split at hz
    · cases hz
      exact .inr (.inr ⟨_, _, rx.str_inv, ry.str_inv, stay B q (.bl _)⟩)
    · cases hz
  · cases hz
end
end DL
namespace DL
open PySem PySem.Spec PyProof.Rows L2
variable [LT : LawT] [TC : TellC]
/-! ### truth, and, or, not, if else -/
def dTruth : D → Option Bool
  | .non => some false
  | .bl b => some b
  | .int i => some (i != 0)
  | .str x => if x.length ≤ 16777216 then some ((x.length : Int) != 0) else none
  | .tup xs => some (!xs.isEmpty)
  | .lst xs => some (!xs.isEmpty)
  | .frz xs => some (!xs.isEmpty)
  | _ => none
def tTru (f : DE) : DT := fun ρ s => (f ρ s).bind fun d s1 => Res.ofO (dTruth d) s1
def eAnd (f g : DE) : DE := fun ρ s => (f ρ s).bind fun d s1 => match dTruth d with
  | some true => g ρ s1
  | some false => .ok d s1
  | none => .bad
def eOr (f g : DE) : DE := fun ρ s => (f ρ s).bind fun d s1 => match dTruth d with
  | some true => .ok d s1
  | some false => g ρ s1
  | none => .bad
def eNot (f : DE) : DE := fun ρ s => (f ρ s).bind fun d s1 => match dTruth d with
  | some b => .ok (.bl (!b)) s1
  | none => .bad
def tAndD (f g : DT) : DT := fun ρ s => (f ρ s).bind fun b s1 => if b then g ρ s1 else .ok false s1
def tOrD (f g : DT) : DT := fun ρ s => (f ρ s).bind fun b s1 => if b then .ok true s1 else g ρ s1
def tNotD (f : DT) : DT := fun ρ s => (f ρ s).bind fun b s1 => .ok (!b) s1
def eIf (c : DT) (f g : DE) : DE := fun ρ s => (c ρ s).bind fun b s1 => if b then f ρ s1 else g ρ s1
section
variable {K : PySem.W.Frag} {mg : Str → Option Value} {W : Hw} {s : S} {v : V} {d : D} {b : Bool}
theorem empty_of {vs : List V} {ds : List D} (r : RepAll K mg W.G W.τ vs ds) : vs.isEmpty = ds.isEmpty := by cases r <;> rfl
theorem tru_of (B : Base K mg W s) (r : Rep K mg W.G W.τ v d) (h : dTruth d = some b) : TruV K v W.H b := by
  cases r with
  | non => simp [dTruth] at h; exact h
  | bl c => simp [dTruth] at h; exact h.symm
  | int i => simp [dTruth] at h; exact h.symm
  | str x =>
    simp only [dTruth] at h
    split at h
    · cases h; exact ⟨line_le (by assumption), rfl⟩
    · cases h
  | tup q r => simp only [dTruth, Option.some.injEq] at h; exact .inr (.inl ⟨_, .of (B.sub _ _ q), by rw [empty_of r]; exact h.symm⟩)
  | lst q r => simp only [dTruth, Option.some.injEq] at h; exact .inl ⟨_, .of (B.sub _ _ q), by rw [empty_of r]; exact h.symm⟩
  | frz q r => simp only [dTruth, Option.some.injEq] at h; exact .inl ⟨_, B.sub.seq q, by rw [empty_of r]; exact h.symm⟩
  | _ => simp [dTruth] at h
end
section
variable {X : Cx} {a b c : Expr} {rest : List Expr} {f g h : DE} {p q : DT} {pos : Pos} {E : WX}
theorem t_truth (ha : PE X a (tE X.K X.mg E f)) (he : ∀ whole, isTrue a X.env whole = (do let v ← whole; standAt a.pos; holding [v] (truthy v)) := by intro _; rfl) : PT X a (tT X.K X.mg E (tTru f)) :=
  PT.mono (pt_truth ha he) fun σ H Q z => by
    obtain ⟨W0, W, s, ρ, rfl, st, z⟩ := z
    refine (go st z).imp fun x H1 ⟨W1, s1, d1, e1, r1, x1, st1, z1⟩ => ?_
    subst e1
    cases hd : dTruth d1 with
    | none => rw [hd] at z1; exact z1.elim
    | some k =>
      rw [hd] at z1
      exact ⟨k, tru_of st1.base r1 hd, z1.of_ok st1.base rfl⟩
theorem e_one {op : BoolOp} (h : PE X a (tE X.K X.mg E f)) : PE X (.BoolOp op [a] pos) (tE X.K X.mg E f) := pe_one h
theorem e_and (ha : PE X a (tE X.K X.mg E f)) (hb : PE X (.BoolOp .And (b :: rest) pos) (tE X.K X.mg E g)) : PE X (.BoolOp .And (a :: b :: rest) pos) (tE X.K X.mg E (eAnd f g)) :=
  PE.mono (pe_andT ha hb) fun σ H Q z => by
    obtain ⟨W0, W, s, ρ, rfl, st, z⟩ := z
    refine (go st z).imp fun x H1 ⟨W1, s1, d1, e1, r1, x1, st1, z1⟩ => ?_
    subst e1
    cases hd : dTruth d1 with
    | none => rw [hd] at z1; exact z1.elim
    | some k =>
      rw [hd] at z1
      refine ⟨k, tru_of st1.base r1 hd, ?_⟩
      cases k with
      | true => exact iteT ⟨W0, W1, s1, ρ, rfl, st1, z1⟩
      | false => exact iteF (z1.of_ok st1.base r1)
theorem e_not (ha : PE X a (tE X.K X.mg E f)) : PE X (.UnaryOp .Not a pos) (tE X.K X.mg E (eNot f)) :=
  PE.mono (pe_notT ha) fun σ H Q z => by
    obtain ⟨W0, W, s, ρ, rfl, st, z⟩ := z
    refine (go st z).imp fun x H1 ⟨W1, s1, d1, e1, r1, x1, st1, z1⟩ => ?_
    subst e1
    cases hd : dTruth d1 with
    | none => rw [hd] at z1; exact z1.elim
    | some k =>
      rw [hd] at z1
      exact ⟨k, tru_of st1.base r1 hd, z1.of_ok st1.base (.bl _)⟩
theorem w_and1 (ha : PT X a (tT X.K X.mg E p)) : PW X (.BoolOp .And [a] pos) (tT X.K X.mg E p) := pw_and1 ha
theorem w_or1 (ha : PT X a (tT X.K X.mg E p)) : PW X (.BoolOp .Or [a] pos) (tT X.K X.mg E p) := pw_or1 ha
theorem w_and (ha : PT X a (tT X.K X.mg E p)) (hb : PW X (.BoolOp .And (b :: rest) pos) (tT X.K X.mg E q)) : PW X (.BoolOp .And (a :: b :: rest) pos) (tT X.K X.mg E (tAndD p q)) :=
  PW.mono (pw_and ha hb) fun σ H Q z => by
    obtain ⟨W0, W, s, ρ, rfl, st, z⟩ := z
    refine (go st z).imp fun x H1 ⟨W1, s1, d1, e1, r1, x1, st1, z1⟩ => ?_
    subst e1
    cases (show x = d1 from r1)
    cases x with
    | true => exact iteT ⟨W0, W1, s1, ρ, rfl, st1, z1⟩
    | false => exact iteF (z1.of_ok st1.base rfl)
theorem w_or (ha : PT X a (tT X.K X.mg E p)) (hb : PW X (.BoolOp .Or (b :: rest) pos) (tT X.K X.mg E q)) : PW X (.BoolOp .Or (a :: b :: rest) pos) (tT X.K X.mg E (tOrD p q)) :=
  PW.mono (pw_or ha hb) fun σ H Q z => by
    obtain ⟨W0, W, s, ρ, rfl, st, z⟩ := z
    refine (go st z).imp fun x H1 ⟨W1, s1, d1, e1, r1, x1, st1, z1⟩ => ?_
    subst e1
    cases (show x = d1 from r1)
    cases x with
    | true => exact iteT (z1.of_ok st1.base rfl)
    | false => exact iteF ⟨W0, W1, s1, ρ, rfl, st1, z1⟩
theorem t_not (ha : PT X a (tT X.K X.mg E p)) : PT X (.UnaryOp .Not a pos) (tT X.K X.mg E (tNotD p)) :=
  PT.mono (pt_not ha) fun σ H Q z => by
    obtain ⟨W0, W, s, ρ, rfl, st, z⟩ := z
    refine (go st z).imp fun x H1 ⟨W1, s1, d1, e1, r1, x1, st1, z1⟩ => ?_
    subst e1
    cases (show x = d1 from r1)
    exact z1.of_ok st1.base rfl
/-! ### one value in -/
abbrev F1 := D → Option D
def eOp1 (g : F1) (f : DE) : DE := fun ρ s => (f ρ s).bind fun a s1 => Res.ofO (g a) s1
def dNeg : F1 := fun x => match x with
  | .int i => some (.int (-i))
  | _ => none
theorem e_neg (ha : PE X a (tE X.K X.mg E f)) : PE X (.UnaryOp .USub a pos) (tE X.K X.mg E (eOp1 dNeg f)) :=
  PE.mono (pe_un un_neg ha) fun σ H Q z => by
    obtain ⟨W0, W, s, ρ, rfl, st, z⟩ := z
    refine (go st z).imp fun x H1 ⟨W1, s1, d1, e1, r1, x1, st1, z1⟩ => ?_
    subst e1
    cases d1 with
    | int i => exact ⟨i, r1.int_inv, z1.of_ok st1.base (.int _)⟩
    | _ => exact z1.elim
/-! ### displays -/
def eTup (fs : DA) : DE := fun ρ s => (fs ρ s).bind fun ds s1 => if ds.length ≤ 16777216 then .ok (.tup ds) s1 else .bad
def eLst (fs : DA) : DE := fun ρ s => (fs ρ s).bind fun ds s1 => if ds.length ≤ 16777216 then .ok (.lst ds) s1 else .bad
theorem e_tup {es : List Expr} {fs : DA} {k : Nat} (h : PA X es (tA X.K X.mg E fs)) : PE X (.Tuple es k pos) (tE X.K X.mg E (eTup fs)) :=
  PE.mono (pe_tup h) fun σ H Q z => by
    obtain ⟨W0, W, s, ρ, rfl, st, z⟩ := z
    refine (go st z).imp fun x H1 ⟨W1, s1, d1, e1, r1, x1, st1, z1⟩ => ?_
    subst e1
    split at z1
    · refine ⟨line_le (by rw [r1.length]; assumption), fun p hp => ?_⟩
      exact newFrz st1.base hp _ z1 fun W' E' e' => .tup e' (RepAll.ext E' r1)
    · exact z1.elim
theorem f_lst {es : List Expr} {fs : DA} (h : PA X es (tA X.K X.mg E fs)) : PE X (.List es pos) (tF X.K X.mg E (eLst fs)) :=
  PE.mono (pe_lst h) fun σ H Q z => by
    obtain ⟨W0, W, s, ρ, rfl, st, z⟩ := z
    refine (go st z).imp fun x H1 ⟨W1, s1, d1, e1, r1, x1, st1, z1⟩ => ?_
    subst e1
    split at z1
    · refine ⟨line_le (by rw [r1.length]; assumption), fun p hp => ?_⟩
      exact newOwn st1.base hp (fun v W' e B rf => z1 v W' e B (rf.mono x1 st1.base)) r1
    · exact z1.elim
/-! ### x[i] -/
def dIx : F2 := fun x y => match x, y with
  | .lst xs, .int i => atI xs i
  | .tup xs, .int i => atI xs i
  | .frz xs, .int i => atI xs i
  | .ktp xs, .int i => atI xs i
  | .str x, .int i => if x.length ≤ 16777216 then (atI x.cps.toList i).map fun c => .str ⟨#[c]⟩ else none
  | _, _ => none
theorem atI_rep {K : PySem.W.Frag} {mg : Str → Option Value} {G : Hp} {τ : List Addr} {vs : List V} {ds : List D} {i : Int} {d : D} (r : RepAll K mg G τ vs ds) (h : atI ds i = some d) : ∃ v, atI vs i = some v ∧ Rep K mg G τ v d := by
  unfold atI at h ⊢
  rw [r.length]
  cases e : ixN ds.length i with
  | none => rw [e] at h; cases h
  | some j =>
    rw [e] at h
    exact r.getD h
theorem v_ix {K : PySem.W.Frag} {mg : Str → Option Value} : V2 K mg (rIx K) dIx := fun W s x y d e z Q B rx ry hz q => by
  unfold dIx at hz
  split at hz
  · obtain ⟨a, xs, rfl, h1, r1⟩ := rx.lst_inv
    cases ry.int_inv
    obtain ⟨v, hv, rv⟩ := atI_rep r1 hz
    exact .inl ⟨a, xs, _, v, rfl, rfl, .of (B.sub _ _ h1), hv, stay B q rv⟩
  · obtain ⟨a, xs, rfl, h1, r1⟩ := rx.tup_inv
    cases ry.int_inv
    obtain ⟨v, hv, rv⟩ := atI_rep r1 hz
    exact .inr (.inl ⟨a, xs, _, v, rfl, rfl, seqT B.sub h1, hv, stay B q rv⟩)
  · obtain ⟨a, xs, rfl, h1, r1⟩ := rx.frz_inv
    cases ry.int_inv
    obtain ⟨v, hv, rv⟩ := atI_rep r1 hz
    exact .inl ⟨a, xs, _, v, rfl, rfl, B.sub.seq h1, hv, stay B q rv⟩
  · obtain ⟨a, xs, rfl, h1, r1⟩ := rx.ktp_inv
    cases ry.int_inv
    obtain ⟨v, hv, rv⟩ := atI_rep r1 hz
    exact .inr (.inl ⟨a, xs, _, v, rfl, rfl, seqT B.sub h1, hv, stay B q rv⟩)
  · split at hz
    · rename_i x i hl
      cases hc : atI x.cps.toList i with
      | none => rw [hc] at hz; cases hz
      | some c =>
        rw [hc] at hz
        cases hz
        cases rx.str_inv
        cases ry.int_inv
        exact .inr (.inr ⟨_, _, c, rfl, rfl, line_le hl, hc, stay B q (.str _)⟩)
    · cases hz
  · cases hz
/-! ### slices -/
abbrev DO := List Sl → S → Res (Option Int)
def oNone : DO := fun _ s => .ok none s
def oSome (f : DE) : DO := fun ρ s => (f ρ s).bind fun d s1 => match d with
  | .int i => .ok (some i) s1
  | _ => .bad
def cutL {α : Type} (xs : List α) (lo hi : Option Int) : List α := (xs.drop (HT.sIx xs.length 0 lo)).take (HT.sIx xs.length xs.length hi - HT.sIx xs.length 0 lo)
def dSl (x : D) (lo hi : Option Int) : Option D := match x with
  | .str z => if z.length ≤ 16777216 then some (.str (cutS z lo hi)) else none
  | .tup xs => some (.tup (cutL xs lo hi))
  | .lst xs => some (.lst (cutL xs lo hi))
  | .frz xs => some (.lst (cutL xs lo hi))
  | _ => none
def eSl (f : DE) (l h : DO) : DE := fun ρ s => (f ρ s).bind fun d s1 => (l ρ s1).bind fun lo s2 => (h ρ s2).bind fun hi s3 => Res.ofO (dSl d lo hi) s3
abbrev tO (K : PySem.W.Frag) (mg : Str → Option Value) (E : WX) (f : DO) : TO := tX K mg (fun _ _ (x y : Option Int) => x = y) E f
theorem PO.mono {e : Option Expr} {t t' : TO} (h : PO X e t) (i : ∀ σ H Q, t' σ H Q → t σ H Q) : PO X e t' := ⟨fun pins s σ H Q I q => h.run pins s σ H Q I (i σ H Q q)⟩
theorem o_none : PO X none (tO X.K X.mg E oNone) := PO.mono po_none fun σ H Q z => by
  obtain ⟨W0, W, s, ρ, rfl, st, z⟩ := z
  exact z.of_ok st.base rfl
theorem o_some (ha : PE X a (tE X.K X.mg E f)) : PO X (some a) (tO X.K X.mg E (oSome f)) := PO.mono (po_some ha) fun σ H Q z => by
  obtain ⟨W0, W, s, ρ, rfl, st, z⟩ := z
  refine (go st z).imp fun x H1 ⟨W1, s1, d1, e1, r1, x1, st1, z1⟩ => ?_
  subst e1
  cases d1 with
  | int i => exact ⟨i, r1.int_inv, z1.of_ok st1.base rfl⟩
  | _ => exact z1.elim
theorem cut_rep {K : PySem.W.Frag} {mg : Str → Option Value} {G : Hp} {τ : List Addr} {vs : List V} {ds : List D} (r : RepAll K mg G τ vs ds) (lo hi : Option Int) : RepAll K mg G τ (cutV vs lo hi) (cutL ds lo hi) := by
  unfold cutV cutL
  rw [r.length]
  exact (r.drop _).take _
def rSlAny (K : PySem.W.Frag) : V → Option Int → Option Int → Hp → VK → Prop := fun x lo hi H Q => rSlA K x lo hi H Q ∨ rSlL K x lo hi H Q ∨ rSlS x lo hi H Q
theorem sl_any : SlR X (rSlAny X.K) := sl_tupA.or (sl_list.or sl_str)
theorem cut_whole {α : Type} {xs : List α} {lo hi : Option Int} (h : HT.sIx xs.length 0 lo = 0 ∧ HT.sIx xs.length xs.length hi = xs.length) : cutL xs lo hi = xs := by
  unfold cutL
  rw [h.1, h.2]
  simp
theorem e_slice {lo hi : Option Expr} {l h : DO} {p2 : Pos} (ha : PE X a (tE X.K X.mg E f)) (hl : PO X lo (tO X.K X.mg E l)) (hh : PO X hi (tO X.K X.mg E h)) : PE X (.Subscript a (.Slice lo hi none p2) pos) (tE X.K X.mg E (eSl f l h)) :=
  PE.mono (pe_slice sl_any ha hl hh) fun σ H Q z => by
    obtain ⟨W0, W, s, ρ, rfl, st, z⟩ := z
    refine (go st z).imp fun x H1 ⟨W1, s1, d1, e1, r1, x1, st1, z1⟩ => ?_
    subst e1
    refine (go st1 z1).imp fun y H2 ⟨W2, s2, d2, e2, r2, x2, st2, z2⟩ => ?_
    subst e2
    refine (go st2 z2).imp fun y3 H3 ⟨W3, s3, d3, e3, r3, x3, st3, z3⟩ => ?_
    subst e3
    cases (show y = d2 from r2)
    cases (show y3 = d3 from r3)
    have r1 := (Rep.ext x2 r1).ext x3
    cases d1 with
    | str x =>
      simp only [dSl] at z3
      split at z3
      · cases r1.str_inv
        exact .inr (.inr ⟨_, rfl, line_le (by assumption), z3.of_ok st3.base (.str _)⟩)
      · exact z3.elim
    | tup ds =>
      obtain ⟨p, xs, rfl, h1, rr⟩ := r1.tup_inv'
      refine .inl ⟨p, xs, rfl, .of (st3.base.sub _ _ h1), fun e => ?_, fun ne q hq => ?_⟩
      · have e' : cutL ds y y3 = ds := cut_whole (by rw [← rr.length]; exact e)
        refine z3.of_ok st3.base ?_
        show Rep X.K X.mg W3.G W3.τ (.ref p) (.tup (cutL ds y y3))
        rw [e']
        exact .tup h1 rr
      · exact newFrz st3.base hq _ z3 fun W' E' e' => .tup e' (RepAll.ext E' (cut_rep rr y y3))
    | lst ds =>
      obtain ⟨p, xs, rfl, h1, rr⟩ := r1.lst_inv
      exact .inr (.inl ⟨p, xs, rfl, .of (st3.base.sub _ _ h1), fun q hq => newFrz st3.base hq _ z3 fun W' E' e' => .lst e' (RepAll.ext E' (cut_rep rr y y3))⟩)
    | frz ds =>
      obtain ⟨p, xs, rfl, h1, rr⟩ := r1.frz_inv
      exact .inr (.inl ⟨p, xs, rfl, st3.base.sub.seq h1, fun q hq => newFrz st3.base hq _ z3 fun W' E' e' => .lst e' (RepAll.ext E' (cut_rep rr y y3))⟩)
    | _ => exact z3.elim
/-! ### calls of built-ins -/
abbrev FN := List D → Option D
def eB (g : FN) (fs : DA) : DE := fun ρ s => (fs ρ s).bind fun ds s1 => Res.ofO (g ds) s1
def VC (K : PySem.W.Frag) (mg : Str → Option Value) (r : List V → Hp → VK → Prop) (g : FN) : Prop :=
  ∀ (W : Hw) (s : S) (vs : List V) (ds : List D) (z : D) (Q : VK), Base K mg W s → RepAll K mg W.G W.τ vs ds → g ds = some z → (∀ v W', Ext W W' → Base K mg W' s → Rep K mg W'.G W'.τ v z → Q v W'.H) → r vs W.H Q
def VCF (K : PySem.W.Frag) (mg : Str → Option Value) (r : List V → Hp → VK → Prop) (g : FN) : Prop :=
  ∀ (W : Hw) (s : S) (vs : List V) (ds : List D) (z : D) (Q : VK), Base K mg W s → RepAll K mg W.G W.τ vs ds → g ds = some z → (∀ v W', Ext W W' → Base K mg W' s → relF K mg W W' v z → Q v W'.H) → r vs W.H Q
variable {e : Expr} {es : List Expr} {fs : DA} {gn : FN} {r : List V → Hp → VK → Prop}
theorem r_B {ta : TA} (hv : VC X.K X.mg r gn) : ∀ σ H Q, tE X.K X.mg E (eB gn fs) σ H Q → tCB r (tA X.K X.mg E fs) σ H Q := fun σ H Q z => by
  obtain ⟨W0, W, s, ρ, rfl, st, z⟩ := z
  refine (go st z).imp fun x H1 ⟨W1, s1, d1, e1, r1, x1, st1, z1⟩ => ?_
  subst e1
  cases hz : gn d1 with
  | none => rw [hz] at z1; exact z1.elim
  | some d => rw [hz] at z1; exact hv W1 s1 x d1 d Q st1.base r1 hz z1
theorem rF_B {ta : TA} (hv : VCF X.K X.mg r gn) : ∀ σ H Q, tF X.K X.mg E (eB gn fs) σ H Q → tCB r (tA X.K X.mg E fs) σ H Q := fun σ H Q z => by
  obtain ⟨W0, W, s, ρ, rfl, st, z⟩ := z
  refine (go st z).imp fun x H1 ⟨W1, s1, d1, e1, r1, x1, st1, z1⟩ => ?_
  subst e1
  cases hz : gn d1 with
  | none => rw [hz] at z1; exact z1.elim
  | some d => rw [hz] at z1; exact hv W1 s1 x d1 d Q st1.base r1 hz fun v W' e B rf => z1 v W' e B (rf.mono x1 st1.base)
theorem e_callB {id : String} {x : Str} {p' : Pos} (hc : CallR X (.builtin id) r) (hv : VC X.K X.mg r gn) (hm : X.mg x = none) (ha : PA X (e :: es) (tA X.K X.mg E fs)) (hb : bootBuiltins x = some (.builtin id) := by decide +kernel) (hg : Gl X x := by rfl) (hn : x ≠ "__name__" := by decide) (hdb : (x == ("__debug__" : Str)) = false := by decide)
    (he : starEach (e :: es) X.env = (false, eval e X.env) :: starEach es X.env := by rfl) (hpl : (backTo pos (starEach es X.env)).any (·.1) = false := by rfl) : PE X (.Call (.Name x p') (e :: es) [] pos) (tE X.K X.mg E (eB gn fs)) :=
  PE.mono (pe_callB hc hg hm hb ha hn hdb he hpl) (r_B (ta := tA X.K X.mg E fs) hv)
theorem e_callTy {T : String} {x : Str} {p' : Pos} (hc : CallR X (.type T) r) (hv : VC X.K X.mg r gn) (hm : X.mg x = none) (ha : PA X (e :: es) (tA X.K X.mg E fs)) (hb : bootBuiltins x = some (.type T) := by decide +kernel) (hg : Gl X x := by rfl) (hn : x ≠ "__name__" := by decide) (hdb : (x == ("__debug__" : Str)) = false := by decide)
    (he : starEach (e :: es) X.env = (false, eval e X.env) :: starEach es X.env := by rfl) (hpl : (backTo pos (starEach es X.env)).any (·.1) = false := by rfl) : PE X (.Call (.Name x p') (e :: es) [] pos) (tE X.K X.mg E (eB gn fs)) :=
  PE.mono (pe_callTy hc hg hm hb ha hn hdb he hpl) (r_B (ta := tA X.K X.mg E fs) hv)
theorem f_callTy {T : String} {x : Str} {p' : Pos} (hc : CallR X (.type T) r) (hv : VCF X.K X.mg r gn) (hm : X.mg x = none) (ha : PA X (e :: es) (tA X.K X.mg E fs)) (hb : bootBuiltins x = some (.type T) := by decide +kernel) (hg : Gl X x := by rfl) (hn : x ≠ "__name__" := by decide) (hdb : (x == ("__debug__" : Str)) = false := by decide)
    (he : starEach (e :: es) X.env = (false, eval e X.env) :: starEach es X.env := by rfl) (hpl : (backTo pos (starEach es X.env)).any (·.1) = false := by rfl) : PE X (.Call (.Name x p') (e :: es) [] pos) (tF X.K X.mg E (eB gn fs)) :=
  PE.mono (pe_callTy hc hg hm hb ha hn hdb he hpl) (rF_B (ta := tA X.K X.mg E fs) hv)
end
end DL
namespace DL
open PySem PySem.Spec PyProof.Rows L2
variable [LT : LawT] [TC : TellC]
/-- what a statement comes to -/
inductive Fl where
  | next (ρ : List Sl) (s : S) | ret (d : D) (s : S) | brk (ρ : List Sl) (s : S) | cont (ρ : List Sl) (s : S) | exc (c : Str) (s : S) | bad
abbrev DS := List Sl → S → Fl
/-- how a def hands out what it tells: as data, as a new list of its own, as a pair of data and a new list, or of data and a new dict -/
inductive Fr where
  | no | yes | pl | pd
@[reducible] def Fr.of : Bool → Fr
  | true => .yes
  | false => .no
instance : Coe Bool Fr := ⟨Fr.of⟩
def Fr.own : Fr → Bool
  | .no => false
  | _ => true
/-- a pair of data and a new list -/
def relPl (K : PySem.W.Frag) (mg : Str → Option Value) (W0 W : Hw) (v : V) (d : D) : Prop := ∃ p v1 v2 x y, v = .ref p ∧ d = .tup [x, y] ∧ W.G p = some (.tup [v1, v2]) ∧ Rep K mg W.G W.τ v1 x ∧ relF K mg W0 W v2 y
/-- a pair of data and a new dict keyed by tuples -/
def relPd (K : PySem.W.Frag) (mg : Str → Option Value) (W0 W : Hw) (v : V) (d : D) : Prop := ∃ p v1 a x kvs vs, v = .ref p ∧ d = .tup [x, .fd true ((kvs.map fun p : List Key × V => kT p.1).zip vs)] ∧ W.G p = some (.tup [v1, .ref a]) ∧ Rep K mg W.G W.τ v1 x ∧ OwnAt W0 W a ∧ W.H a = some (.dT kvs) ∧ RepAll K mg W.G W.τ (kvs.map (·.2)) vs
def relR (K : PySem.W.Frag) (mg : Str → Option Value) (fr : Fr) (W0 W : Hw) (v : V) (d : D) : Prop := match fr with
  | .no => Rep K mg W.G W.τ v d
  | .yes => relF K mg W0 W v d
  | .pl => relPl K mg W0 W v d
  | .pd => relPd K mg W0 W v d
def PostS (K : PySem.W.Frag) (mg : Str → Option Value) (E : WX) (fr : Fr) (W0 : Hw) (g : Fl) (T : Ends) : Prop :=
  match g with
  | .next ρ s => ∀ σ W, SSt K mg W0 W s σ ρ → T.nx σ W.H
  | .brk ρ s => ∀ σ W, SSt K mg W0 W s σ ρ → T.bk σ W.H
  | .cont ρ s => ∀ σ W, SSt K mg W0 W s σ ρ → T.ct σ W.H
  | .ret d s => ∀ v W, Ext W0 W → Base K mg W s → relR K mg fr W0 W v d → T.rt v W.H
  | .exc c s => ∀ σ W u, Ext W0 W → Base K mg W s → mg c = some u → E u none σ W.H
  | .bad => False
def tS (K : PySem.W.Frag) (mg : Str → Option Value) (E : WX) (fr : Fr) (g : DS) : TS := fun T σ H =>
  ∃ (W0 W : Hw) (s : S) (ρ : List Sl), W.H = H ∧ SSt K mg W0 W s σ ρ ∧ PostS K mg E fr W0 (g ρ s) T
def Res.thenS {α : Type} (r : Res α) (k : α → S → Fl) : Fl :=
  match r with
  | .ok a s => k a s
  | .exc c s => .exc c s
  | .bad => .bad
section
variable {α β : Type} {K : PySem.W.Frag} {mg : Str → Option Value} {rel : Hw → Hw → β → α → Prop} {E : WX} {fr : Fr} {σ : L2.St} {W W0 : Hw} {s : S} {ρ : List Sl} {T : Ends}
theorem goS {f : List Sl → S → Res α} {k : α → S → Fl} (st : SSt K mg W0 W s σ ρ) (p : PostS K mg E fr W0 ((f ρ s).thenS k) T) :
    tX K mg rel E f σ W.H (fun x H1 => ∃ W1 s1 a, W1.H = H1 ∧ rel W W1 x a ∧ Ext W W1 ∧ SSt K mg W0 W1 s1 σ ρ ∧ PostS K mg E fr W0 (k a s1) T) := by
  refine ⟨W0, W, s, ρ, rfl, st, ?_⟩
  cases hf : f ρ s with
  | ok a s1 =>
    rw [hf] at p
    exact fun x W1 e B r => ⟨W1, s1, a, rfl, r, e, st.step e B, p⟩
  | exc c s1 =>
    rw [hf] at p
    exact fun W1 u e B hu => p σ W1 u (st.ext.trans st.base e) B hu
  | bad =>
    rw [hf] at p
    exact p.elim
/-! ### slots -/
theorem old_none (x : Ext W0 W) (B : Base K mg W s) {a : Addr} (h : W.H a = none) : W0.H a = none := by
  cases q : W0.H a with
  | none => rfl
  | some o =>
    by_cases m : a ∈ W0.τ
    · obtain ⟨l, el⟩ := x.tpre
      exact absurd h (B.tau_some (by rw [← el]; exact List.mem_append_left _ m))
    · exact absurd h (x.dom q m)
theorem own_tracked {W' : Hw} {x : Option V} {y : Sl} (h : SlOk K mg W0 W' x y) (o : y.isOwn = true) : ∃ a, x = some (.ref a) ∧ W'.H a ≠ none := by
  cases h with
  | emp => exact Bool.noConfusion o
  | dat r => exact Bool.noConfusion o
  | own q e r => exact ⟨_, rfl, by rw [e]; exact fun z => nomatch z⟩
  | ownK q e r => exact ⟨_, rfl, by rw [e]; exact fun z => nomatch z⟩
  | ownT q e r => exact ⟨_, rfl, by rw [e]; exact fun z => nomatch z⟩
  | fn _ _ => exact Bool.noConfusion o
/-- an own object is neither a table nor a code object -/
theorem own_plain {W' : Hw} {a : Addr} {y : Sl} (h : SlOk K mg W0 W' (some (.ref a)) y) (o : y.isOwn = true) : ∀ u, W'.H a = some u → (∀ ps, u ≠ .tbl ps) ∧ ∀ q, u ≠ LamX.CodeO a q := fun u hu => by
  cases h with
  | dat r => exact Bool.noConfusion o
  | emp => exact Bool.noConfusion o
  | own q e r => rw [e] at hu; cases hu; exact ⟨(fun _ z => nomatch z), (fun _ z => nomatch z)⟩
  | ownK q e r => rw [e] at hu; cases hu; exact ⟨(fun _ z => nomatch z), (fun _ z => nomatch z)⟩
  | ownT q e r => rw [e] at hu; cases hu; exact ⟨(fun _ z => nomatch z), (fun _ z => nomatch z)⟩
  | fn _ _ => exact Bool.noConfusion o
/-- a slot gets a new object of its own -/
theorem SSt.setOwn {W1 : Hw} {s1 : S} (h0 : SSt K mg W0 W s σ ρ) (h : SSt K mg W0 W1 s1 σ ρ) {a : Addr} {y : Sl} (n : W.H a = none) (r : SlOk K mg W0 W1 (some (.ref a)) y) (i : Nat) :
    SSt K mg W0 W1 s1 (σ.set i (some (.ref a))) (ρ.set i y) := by
  refine ⟨h.ext, h.base, by simp [h.len], fun j x z e1 e2 => ?_, fun j k b y1 z1 ne e1 e2 e3 e4 o1 o2 => ?_⟩
  · by_cases hj : j = i
    · subst hj
      have hl : j < σ.length := by
        by_cases q : j < σ.length
        · exact q
        · rw [List.getElem?_eq_none (by simpa using q)] at e1; cases e1
      rw [List.getElem?_set_self hl] at e1
      rw [List.getElem?_set_self (by rw [← h.len]; exact hl)] at e2
      cases e1; cases e2
      exact r
    · rw [List.getElem?_set_ne (Ne.symm hj)] at e1 e2
      exact h.sl j x z e1 e2
  · have other : ∀ (j : Nat) (b : Addr) (y1 : Sl), j ≠ i → (σ.set i (some (.ref a)))[j]? = some (some (.ref b)) → (ρ.set i y)[j]? = some y1 → y1.isOwn = true → b ≠ a := fun j b y1 nj e1 e3 o1 e => by
      rw [List.getElem?_set_ne (Ne.symm nj)] at e1 e3
      obtain ⟨c, ec, hc⟩ := own_tracked (h0.sl j _ _ e1 e3) o1
      cases ec
      rw [e] at hc
      exact hc n
    have self : ∀ (b : Addr), (σ.set i (some (.ref a)))[i]? = some (some (.ref b)) → b = a := fun b e => by
      rw [List.getElem?_set] at e
      simp only [if_true] at e
      split at e
      · cases e; rfl
      · cases e
    by_cases hj : j = i
    · subst hj
      have := self b e1
      exact other k b z1 (Ne.symm ne) e2 e4 o2 this
    · by_cases hk : k = i
      · subst hk
        have := self b e2
        exact other j b y1 hj e1 e3 o1 this
      · rw [List.getElem?_set_ne (Ne.symm hj)] at e1 e3
        rw [List.getElem?_set_ne (Ne.symm hk)] at e2 e4
        exact h.dist j k b y1 z1 ne e1 e2 e3 e4 o1 o2
/-- the object of a slot's own is changed -/
theorem SSt.mut (h : SSt K mg W0 W s σ ρ) {i : Nat} {a : Addr} {y y' : Sl} {o : HO} (e1 : σ[i]? = some (some (.ref a))) (e2 : ρ[i]? = some y) (ho : y.isOwn = true) (own : OwnAt W0 W a) (no : ∀ vs, o ≠ .tup vs)
    (r : SlOk K mg W0 ⟨upd W.H a o, W.G, W.τ⟩ (some (.ref a)) y') (ho' : y'.isOwn = true)(nt : ∀ ps, o ≠ .tbl ps := by exact fun _ z => nomatch z) : SSt K mg W0 ⟨upd W.H a o, W.G, W.τ⟩ s σ (ρ.set i y') := by
  have B := h.base
  have X0 := h.ext
  have nG : ∀ b x, W.G b = some x → b ≠ a := fun b x e z => by rw [z, own.frz] at e; cases e
  have pl := own_plain (h.sl i _ _ e1 e2) ho
  refine ⟨⟨fun b x e n => ?_, X0.grow, X0.out, X0.tpre, X0.tnew, fun t => tabs_upd pl (X0.tab t)⟩, ⟨fun b x e => ?_, fun b xs e => ?_, B.spc, B.nd, B.len, fun n c b h1 h2 => ?_, B.flt, tabs_upd pl B.tab, B.nog, all_upd nt B.all⟩, by simp [h.len], fun j x z q1 q2 => ?_, fun j k b y1 z1 ne q1 q2 q3 q4 o1 o2 => ?_⟩
  · have nb : b ≠ a := fun z : b = a => by rw [z, own.old] at e; cases e
    rcases X0.keep0 b x e n with z | ⟨ps, ps', z1, z2⟩
    · exact .inl ((upd_ne nb).trans z)
    · exact .inr ⟨ps, ps', z1, (upd_ne nb).trans z2⟩
  · exact (upd_ne (nG b x e)).trans (B.sub b x e)
  · have e' : upd W.H a o b = some (.tup xs) := e
    by_cases hb : b = a
    · rw [hb, upd_same] at e'
      exact absurd (Option.some.inj e') (no xs)
    · rw [upd_ne hb] at e'
      exact B.tupI b xs e'
  · have nb : b ≠ a := fun z => own.spc (z ▸ List.mem_of_getElem? h2)
    have q := B.cel n c b h1 h2
    cases c with
    | l ds =>
      obtain ⟨us, e, r⟩ := q
      exact ⟨us, (upd_ne nb).trans e, r⟩
    | o c fs =>
      obtain ⟨C, dx, us, e0, e, r⟩ := q
      exact ⟨C, dx, us, e0, (upd_ne nb).trans e, r⟩
    | d fs =>
      obtain ⟨us, e, r⟩ := q
      exact ⟨us, (upd_ne nb).trans e, r⟩
    | t fs =>
      obtain ⟨us, e, r⟩ := q
      exact ⟨us, (upd_ne nb).trans e, r⟩
    | b ns =>
      obtain ⟨us, e, r⟩ := q
      exact ⟨us, (upd_ne nb).trans e, r⟩
  · by_cases hj : j = i
    · subst hj
      rw [e1] at q1
      cases q1
      rw [List.getElem?_set_self (List.getElem?_eq_some_iff.mp e2).1] at q2
      cases q2
      exact r
    · rw [List.getElem?_set_ne (Ne.symm hj)] at q2
      have z0 := h.sl j x z q1 q2
      have nd : ∀ b, x = some (.ref b) → z.isOwn = true → b ≠ a := fun b ex oz eb => by
        subst ex eb
        exact h.dist j i b z y hj q1 e1 q2 e2 oz ho
      cases z0 with
      | emp => exact .emp
      | dat r => exact .dat r
      | own q e r => exact .own ⟨q.old, q.frz, q.spc⟩ ((upd_ne (nd _ rfl rfl)).trans e) r
      | ownK q e r => exact .ownK ⟨q.old, q.frz, q.spc⟩ ((upd_ne (nd _ rfl rfl)).trans e) r
      | ownT q e r => exact .ownT ⟨q.old, q.frz, q.spc⟩ ((upd_ne (nd _ rfl rfl)).trans e) r
      | fn h g => exact .fn h (g.upd fun q e => (pl _ e).2 q rfl)
  · have back : ∀ (j : Nat) (y1 : Sl), (ρ.set i y')[j]? = some y1 → y1.isOwn = true → ∃ y2, ρ[j]? = some y2 ∧ y2.isOwn = true := fun j y1 e o1 => by
      by_cases hj : j = i
      · subst hj; exact ⟨y, e2, ho⟩
      · rw [List.getElem?_set_ne (Ne.symm hj)] at e; exact ⟨y1, e, o1⟩
    obtain ⟨y2, f1, f2⟩ := back j y1 q3 o1
    obtain ⟨y3, f3, f4⟩ := back k z1 q4 o2
    exact h.dist j k b y2 y3 ne q1 q2 f1 f3 f2 f4
/-- a slot's own object is taken for data -/
theorem SSt.freeze (h : SSt K mg W0 W s σ ρ) {i : Nat} {a : Addr} {y : Sl} {o : HO} {d : D} (e1 : σ[i]? = some (some (.ref a))) (e2 : ρ[i]? = some y) (ho : y.isOwn = true) (own : OwnAt W0 W a) (no : ∀ vs, o ≠ .tup vs) (hH : W.H a = some o)
    (r : Rep K mg (upd W.G a o) W.τ (.ref a) d) : SSt K mg W0 ⟨W.H, upd W.G a o, W.τ⟩ s σ (ρ.set i (.dat d)) := by
  have B := h.base
  have X0 := h.ext
  have mono : Same W.G (upd W.G a o) := upd_new own.frz
  have pl := own_plain (h.sl i _ _ e1 e2) ho
  refine ⟨⟨X0.keep0, X0.grow.trans mono, fun b e => ?_, X0.tpre, X0.tnew, X0.tab⟩, B.freeze hH own.frz own.spc no (pl _ hH).1, by simp [h.len], fun j x z q1 q2 => ?_, fun j k b y1 z1 ne q1 q2 q3 q4 o1 o2 => ?_⟩
  · exact (upd_ne (fun z : b = a => e (z ▸ own.old))).trans (X0.out b e)
  · by_cases hj : j = i
    · subst hj
      rw [e1] at q1
      cases q1
      rw [List.getElem?_set_self (List.getElem?_eq_some_iff.mp e2).1] at q2
      cases q2
      exact .dat r
    · rw [List.getElem?_set_ne (Ne.symm hj)] at q2
      have z0 := h.sl j x z q1 q2
      have nd : ∀ b, x = some (.ref b) → z.isOwn = true → b ≠ a := fun b ex oz eb => by
        subst ex eb
        exact h.dist j i b z y hj q1 e1 q2 e2 oz ho
      cases z0 with
      | emp => exact .emp
      | dat r => exact .dat (r.mono mono (List.prefix_refl _))
      | own q e r => exact .own ⟨q.old, (upd_ne (nd _ rfl rfl)).trans q.frz, q.spc⟩ e (r.mono mono (List.prefix_refl _))
      | ownK q e r => exact .ownK ⟨q.old, (upd_ne (nd _ rfl rfl)).trans q.frz, q.spc⟩ e (r.mono mono (List.prefix_refl _))
      | ownT q e r => exact .ownT ⟨q.old, (upd_ne (nd _ rfl rfl)).trans q.frz, q.spc⟩ e (r.mono mono (List.prefix_refl _))
      | fn h g => exact .fn h (g.frz mono)
  · have back : ∀ (j : Nat) (y1 : Sl), (ρ.set i (.dat d))[j]? = some y1 → y1.isOwn = true → ρ[j]? = some y1 := fun j y1 e o1 => by
      by_cases hj : j = i
      · subst hj
        rw [List.getElem?_set_self (List.getElem?_eq_some_iff.mp e2).1] at e
        cases e
        exact Bool.noConfusion o1
      · rw [List.getElem?_set_ne (Ne.symm hj)] at e; exact e
    exact h.dist j k b y1 z1 ne q1 q2 (back j y1 q3 o1) (back k z1 q4 o2) o1 o2
end
theorem set_self {α : Type} : ∀ {l : List α} {i : Nat} {x : α}, l[i]? = some x → l.set i x = l
  | [], _, _, h => by simp at h
  | a :: l, 0, x, h => by simp at h; subst h; rfl
  | a :: l, i + 1, x, h => by rw [List.set_cons_succ, set_self (by simpa using h)]
/-- an own slot as data -/
def frzSl : Sl → Sl
  | .own ds => .dat (.lst ds)
  | .ownD _ kvs => .dat (.dct kvs)
  | y => y
def frzAt (i : Nat) (ρ : List Sl) : List Sl := match ρ[i]? with
  | some y => ρ.set i (frzSl y)
  | none => ρ
section
variable {K : PySem.W.Frag} {mg : Str → Option Value} {σ : L2.St} {W W0 : Hw} {s : S} {ρ : List Sl}
/-- the frozen state: the own object's address and what it is -/
theorem SSt.frz (h : SSt K mg W0 W s σ ρ) (i : Nat) : SSt K mg W0 W s σ (frzAt i ρ) ∨ ∃ a o, W.H a = some o ∧ OwnAt W0 W a ∧ (∀ vs, o ≠ .tup vs) ∧ SSt K mg W0 ⟨W.H, upd W.G a o, W.τ⟩ s σ (frzAt i ρ) := by
  unfold frzAt
  cases e2 : ρ[i]? with
  | none => exact .inl h
  | some y =>
    have hl : i < σ.length := by rw [h.len]; exact (List.getElem?_eq_some_iff.mp e2).1
    have e1 : σ[i]? = some σ[i] := List.getElem?_eq_getElem hl
    have z := h.sl i _ _ e1 e2
    cases y with
    | emp =>
      refine .inl ?_
      have : ρ.set i (frzSl .emp) = ρ := by rw [show frzSl .emp = .emp from rfl]; exact set_self e2
      show SSt K mg W0 W s σ (ρ.set i (frzSl .emp))
      rw [this]; exact h
    | dat d =>
      refine .inl ?_
      have : ρ.set i (frzSl (.dat d)) = ρ := set_self e2
      show SSt K mg W0 W s σ (ρ.set i (frzSl (.dat d)))
      rw [this]; exact h
    | fn n tl =>
      refine .inl ?_
      have : ρ.set i (frzSl (.fn n tl)) = ρ := set_self e2
      show SSt K mg W0 W s σ (ρ.set i (frzSl (.fn n tl)))
      rw [this]; exact h
    | own ds =>
      generalize hx : σ[i] = x at e1 z
      cases z with
      | own q e r =>
        refine .inr ⟨_, _, e, q, (fun _ z => nomatch z), h.freeze e1 e2 rfl q (fun _ z => nomatch z) e (.lst upd_same (r.mono (upd_new q.frz) (List.prefix_refl _)))⟩
    | ownD t kvs =>
      generalize hx : σ[i] = x at e1 z
      cases z with
      | ownK q e r => exact .inr ⟨_, _, e, q, (fun _ z => nomatch z), h.freeze e1 e2 rfl q (fun _ z => nomatch z) e (.dK upd_same (r.mono (upd_new q.frz) (List.prefix_refl _)))⟩
      | ownT q e r => exact .inr ⟨_, _, e, q, (fun _ z => nomatch z), h.freeze e1 e2 rfl q (fun _ z => nomatch z) e (.dT upd_same (r.mono (upd_new q.frz) (List.prefix_refl _)))⟩
end
/-! ### statements -/
def sSkip : DS := fun ρ s => .next ρ s
def sSeq (g h : DS) : DS := fun ρ s => match g ρ s with
  | .next ρ1 s1 => h ρ1 s1
  | .ret d s1 => .ret d s1
  | .brk ρ1 s1 => .brk ρ1 s1
  | .cont ρ1 s1 => .cont ρ1 s1
  | .exc c s1 => .exc c s1
  | .bad => .bad
def sSet (i : Nat) (f : DE) : DS := fun ρ s => (f ρ s).thenS fun d s1 => .next (ρ.set i (.dat d)) s1
def sOwn (i : Nat) (f : DE) : DS := fun ρ s => (f ρ s).thenS fun d s1 => match d with
  | .lst ds => .next (ρ.set i (.own ds)) s1
  | _ => .bad
def sRet (f : DE) : DS := fun ρ s => (f ρ s).thenS fun d s1 => .ret d s1
def sExpr (f : DE) : DS := fun ρ s => (f ρ s).thenS fun _ s1 => .next ρ s1
def sIf (c : DT) (g h : DS) : DS := fun ρ s => (c ρ s).thenS fun b s1 => if b then g ρ s1 else h ρ s1
def sBrk : DS := fun ρ s => .brk ρ s
def sCont : DS := fun ρ s => .cont ρ s
/-- ahead of a statement the own object of a slot is taken for data -/
def sFrz (i : Nat) (g : DS) : DS := fun ρ s => g (frzAt i ρ) s
section
variable {X : Cx} {st : Stmt} {rest : List Stmt} {g h : DS} {f : DE} {c : DT} {e : Expr} {E : WX} {fr : Fr} {pos : Pos}
abbrev QS (X : Cx) (E : WX) (fr : Fr) (st : Stmt) (g : DS) : Prop := PS X st (tS X.K X.mg E fr g)
abbrev QSs (X : Cx) (E : WX) (fr : Fr) (st : List Stmt) (g : DS) : Prop := PSs X st (tS X.K X.mg E fr g)
theorem s_nil : QSs X E fr [] sSkip := PSs.mono pss_nil fun σ H T z => by
  obtain ⟨W0, W, s, ρ, rfl, st, z⟩ := z
  exact z σ W st
theorem s_cons (h1 : QS X E fr st g) (h2 : QSs X E fr rest h) : QSs X E fr (st :: rest) (sSeq g h) := PSs.mono (pss_cons h1 h2) fun σ H T z => by
  obtain ⟨W0, W, s, ρ, rfl, st, z⟩ := z
  refine ⟨W0, W, s, ρ, rfl, st, ?_⟩
  unfold sSeq at z
  cases hg : g ρ s with
  | next ρ1 s1 => rw [hg] at z; exact fun σ1 W1 st1 => ⟨W0, W1, s1, ρ1, rfl, st1, z⟩
  | ret d s1 => rw [hg] at z; exact z
  | brk ρ1 s1 => rw [hg] at z; exact z
  | cont ρ1 s1 => rw [hg] at z; exact z
  | exc c s1 => rw [hg] at z; exact z
  | bad => rw [hg] at z; exact z
theorem s_one (h1 : QS X E fr st g) : QSs X E fr [st] g := pss_one h1
theorem s_set {i : Nat} {x : Str} {pos' : Pos} (he : PE X e (tE X.K X.mg E f)) (hN : X.N.Nodup) (hi : X.N[i]? = some x := by rfl) (hx : Loc X.env.scope x := by first | exact Or.inl rfl | exact Or.inr rfl) (hs : swapsWith e (some (.Name x pos')) pos.line X.env = pure false := by rfl)
    (hf : X.fn x = true ∨ X.env.scope.names.lookup x = some .local := by first | exact .inl rfl | exact .inr rfl) : QS X E fr (.Assign [.Name x pos'] e pos) (sSet i f) := PS.mono (ps_set (i := i) hN hi hx he hs hf) fun σ H T z => by
  obtain ⟨W0, W, s, ρ, rfl, st, z⟩ := z
  refine (goS st z).imp fun x H1 ⟨W1, s1, d1, e1, r1, x1, st1, z1⟩ => ?_
  subst e1
  exact z1 _ W1 (st1.setDat r1 i)
theorem s_own {i : Nat} {x : Str} {pos' : Pos} (he : PE X e (tF X.K X.mg E f)) (hN : X.N.Nodup) (hi : X.N[i]? = some x := by rfl) (hx : Loc X.env.scope x := by first | exact Or.inl rfl | exact Or.inr rfl) (hs : swapsWith e (some (.Name x pos')) pos.line X.env = pure false := by rfl)
    (hf : X.fn x = true ∨ X.env.scope.names.lookup x = some .local := by first | exact .inl rfl | exact .inr rfl) : QS X E fr (.Assign [.Name x pos'] e pos) (sOwn i f) := PS.mono (ps_set (i := i) hN hi hx he hs hf) fun σ H T z => by
  obtain ⟨W0, W, s, ρ, rfl, st, z⟩ := z
  refine (goS st z).imp fun x H1 ⟨W1, s1, d1, e1, r1, x1, st1, z1⟩ => ?_
  subst e1
  obtain ⟨a, vs, ds, rfl, rfl, n0, nG, nt, eH, rv⟩ := r1
  exact z1 _ W1 (st.setOwn st1 n0 (.own ⟨old_none st.ext st.base n0, nG, nt⟩ eH rv) i)
theorem s_ret (he : PE X e (tE X.K X.mg E f)) : QS X E false (.Return (some e) pos) (sRet f) := PS.mono (ps_ret he) fun σ H T z => by
  obtain ⟨W0, W, s, ρ, rfl, st, z⟩ := z
  refine (goS st z).imp fun x H1 ⟨W1, s1, d1, e1, r1, x1, st1, z1⟩ => ?_
  subst e1
  exact z1 x W1 st1.ext st1.base r1
theorem s_retF (he : PE X e (tF X.K X.mg E f)) : QS X E true (.Return (some e) pos) (sRet f) := PS.mono (ps_ret he) fun σ H T z => by
  obtain ⟨W0, W, s, ρ, rfl, st, z⟩ := z
  refine (goS st z).imp fun x H1 ⟨W1, s1, d1, e1, r1, x1, st1, z1⟩ => ?_
  subst e1
  refine z1 x W1 st1.ext st1.base ?_
  obtain ⟨a, vs, ds, rfl, rfl, n0, q⟩ := r1
  exact ⟨a, vs, ds, rfl, rfl, old_none st.ext st.base n0, q⟩
/-- return of an own list's name, in a def that hands out new lists -/
def sRetOwn (i : Nat) : DS := fun ρ s => match ρ[i]? with
  | some (.own ds) => .ret (.lst ds) s
  | _ => .bad
theorem s_retOwn (i : Nat) {x : Str} {p2 : Pos} (hN : X.N[i]? = some x := by rfl) (hv : Vis X.env.scope x := by first | exact Or.inl rfl | exact Or.inr (Or.inl rfl) | exact Or.inr (Or.inr rfl)) (hd : (x == ("__debug__" : Str)) = false := by decide)
    (hcd : (x == ("__classdict__" : Str)) = false := by decide) : QS X E true (.Return (some (.Name x p2)) pos) (sRetOwn i) := PS.mono (ps_ret (pv i hN hv hd hcd)) fun σ H T z => by
  obtain ⟨W0, W, s, ρ, rfl, st, z⟩ := z
  unfold sRetOwn at z
  cases hr : ρ[i]? with
  | none => rw [hr] at z; exact z.elim
  | some y =>
    rw [hr] at z
    cases y with
    | own ds =>
      have hl : i < σ.length := by rw [st.len]; exact (List.getElem?_eq_some_iff.mp hr).1
      have q := st.sl i _ _ (List.getElem?_eq_getElem hl) hr
      generalize hx : σ[i] = x at q
      cases q with
      | own o e r => exact ⟨_, by rw [List.getElem?_eq_getElem hl, hx], z _ W st.ext st.base ⟨_, _, _, rfl, rfl, o.old, o.frz, o.spc, e, r⟩⟩
    | dat d => exact z.elim
    | emp => exact z.elim
    | ownD t kvs => exact z.elim
    | fn n tl => exact z.elim
theorem s_expr (he : PE X e (tE X.K X.mg E f)) (hs : swapsWith e none pos.line X.env = pure false := by rfl) : QS X E fr (.Expr e pos) (sExpr f) := PS.mono (ps_expr he hs) fun σ H T z => by
  obtain ⟨W0, W, s, ρ, rfl, st, z⟩ := z
  refine (goS st z).imp fun x H1 ⟨W1, s1, d1, e1, r1, x1, st1, z1⟩ => ?_
  subst e1
  exact z1 σ W1 st1
theorem s_if {ce : Expr} {a b : List Stmt} (hc : PT X ce (tT X.K X.mg E c)) (ha : QSs X E fr a g) (hb : QSs X E fr b h) : QS X E fr (.If ce a b pos) (sIf c g h) := PS.mono (ps_if hc ha hb) fun σ H T z => by
  obtain ⟨W0, W, s, ρ, rfl, st, z⟩ := z
  refine (goS st z).imp fun x H1 ⟨W1, s1, d1, e1, r1, x1, st1, z1⟩ => ?_
  subst e1
  cases (show x = d1 from r1)
  cases x with
  | true => exact iteT ⟨W0, W1, s1, ρ, rfl, st1, z1⟩
  | false => exact iteF ⟨W0, W1, s1, ρ, rfl, st1, z1⟩
theorem s_frz (i : Nat) (h1 : QS X E fr st g) : QS X E fr st (sFrz i g) := PS.mono h1 fun σ H T z => by
  obtain ⟨W0, W, s, ρ, rfl, st, z⟩ := z
  rcases st.frz i with q | ⟨a, o, _, _, _, q⟩
  · exact ⟨W0, W, s, _, rfl, q, z⟩
  · exact ⟨W0, ⟨W.H, upd W.G a o, W.τ⟩, s, _, rfl, q, z⟩
end
end DL
namespace DL
open PySem PySem.Spec PyProof.Rows L2
variable [LT : LawT] [TC : TellC]
/-! ### an own object read within an expression whose result does not hang on it -/
def bor {α : Type} (good : α → Bool) (i : Nat) (f : List Sl → S → Res α) : List Sl → S → Res α := fun ρ s => (f (frzAt i ρ) s).bind fun d s1 => if good d then .ok d s1 else .bad
section
variable {K : PySem.W.Frag} {mg : Str → Option Value} {σ : L2.St} {W W0 W' : Hw} {s s' : S} {ρ : List Sl} {a : Addr} {o : HO}
/-- behind the borrowing -/
theorem unborrow (B : Base K mg W s) (hH : W.H a = some o) (q : OwnAt W0 W a) (no : ∀ vs, o ≠ .tup vs) (nf : ∀ u vs, o ≠ .frz u (.tup vs)) (e : Ext ⟨W.H, upd W.G a o, W.τ⟩ W') (B' : Base K mg W' s') :
    Ext W ⟨W'.H, less W'.G a, W'.τ⟩ ∧ Base K mg ⟨W'.H, less W'.G a, W'.τ⟩ s' ∧ (∀ v d, Rep K mg W'.G W'.τ v d → flat d = true → Rep K mg (less W'.G a) W'.τ v d) ∧ (∀ vs ds, RepAll K mg W'.G W'.τ vs ds → flats ds = true → RepAll K mg (less W'.G a) W'.τ vs ds) := by
  have hG' : W'.G a = some o := e.grow a o upd_same
  have hH' : W'.H a = some o := e.keep a o hH q.spc fun ps z => B'.nog a ps (by rw [hG', z])
  have n : ∀ x, W'.G a = some x → (∀ ys, x ≠ .tup ys) ∧ ∀ u ys, x ≠ .frz u (.tup ys) := fun x hx => by
    rw [hG'] at hx
    cases hx
    exact ⟨no, nf⟩
  have hr : ∀ v d, Rep K mg W'.G W'.τ v d → flat d = true → Rep K mg (less W'.G a) W'.τ v d := fun v d r f => r.less n f
  have hrs : ∀ vs ds, RepAll K mg W'.G W'.τ vs ds → flats ds = true → RepAll K mg (less W'.G a) W'.τ vs ds := fun v d r f => r.less n f
  have ng : ∀ b ps, less W'.G a b ≠ some (.tbl ps) := fun b ps h' => by
    by_cases nb : b = a
    · rw [nb, less_same] at h'; cases h'
    · rw [less_ne nb] at h'; exact B'.nog b ps h'
  refine ⟨⟨e.keep0, fun b x h => ?_, fun b h => ?_, e.tpre, e.tnew, e.tab⟩, ⟨fun b x h => ?_, fun b xs h => ?_, fun b m => ?_, B'.nd, B'.len, fun k c b h1 h2 => ?_, B'.flt, B'.tab, ng, B'.all⟩, hr, hrs⟩
  · have nb : b ≠ a := fun z => by rw [z, q.frz] at h; cases h
    exact (less_ne nb).trans (e.grow b x ((upd_ne nb).trans h))
  · by_cases nb : b = a
    · rw [nb]; exact less_same.trans q.frz.symm
    · exact (less_ne nb).trans ((e.out b h).trans (upd_ne nb))
  · have h' : less W'.G a b = some x := h
    by_cases nb : b = a
    · rw [nb, less_same] at h'; cases h'
    · rw [less_ne nb] at h'; exact B'.sub b x h'
  · have nb : b ≠ a := fun z => by
      have h' : W'.H b = some (.tup xs) := h
      rw [z, hH'] at h'
      exact no xs (Option.some.inj h')
    exact (less_ne nb).trans (B'.tupI b xs h)
  · by_cases nb : b = a
    · rw [nb]; exact less_same
    · exact (less_ne nb).trans (B'.spc b m)
  · have z := B'.cel k c b h1 h2
    have f := B'.flt c (List.mem_of_getElem? h1)
    cases c with
    | l ds =>
      obtain ⟨us, e1, r⟩ := z
      exact ⟨us, e1, hrs _ _ r f⟩
    | o c fs =>
      obtain ⟨C, dx, us, e0, e1, r⟩ := z
      exact ⟨C, dx, us, e0, e1, hrs _ _ r f⟩
    | d fs =>
      obtain ⟨us, e1, r⟩ := z
      exact ⟨us, e1, hrs _ _ r f⟩
    | t fs =>
      obtain ⟨us, e1, r⟩ := z
      exact ⟨us, e1, hrs _ _ r f⟩
    | b ns =>
      obtain ⟨us, e1, r⟩ := z
      exact ⟨us, e1, r⟩
/-- what the frozen object is -/
theorem SSt.frz' (h : SSt K mg W0 W s σ ρ) (i : Nat) : SSt K mg W0 W s σ (frzAt i ρ) ∨ ∃ a o, W.H a = some o ∧ OwnAt W0 W a ∧ (∀ vs, o ≠ .tup vs) ∧ (∀ u vs, o ≠ .frz u (.tup vs)) ∧ SSt K mg W0 ⟨W.H, upd W.G a o, W.τ⟩ s σ (frzAt i ρ) := by
  unfold frzAt
  cases e2 : ρ[i]? with
  | none => exact .inl h
  | some y =>
    have hl : i < σ.length := by rw [h.len]; exact (List.getElem?_eq_some_iff.mp e2).1
    have e1 : σ[i]? = some σ[i] := List.getElem?_eq_getElem hl
    have z := h.sl i _ _ e1 e2
    cases y with
    | emp =>
      refine .inl ?_
      have : ρ.set i (frzSl .emp) = ρ := set_self e2
      show SSt K mg W0 W s σ (ρ.set i (frzSl .emp))
      rw [this]; exact h
    | dat d =>
      refine .inl ?_
      have : ρ.set i (frzSl (.dat d)) = ρ := set_self e2
      show SSt K mg W0 W s σ (ρ.set i (frzSl (.dat d)))
      rw [this]; exact h
    | fn n tl =>
      refine .inl ?_
      have : ρ.set i (frzSl (.fn n tl)) = ρ := set_self e2
      show SSt K mg W0 W s σ (ρ.set i (frzSl (.fn n tl)))
      rw [this]; exact h
    | own ds =>
      generalize hx : σ[i] = x at e1 z
      cases z with
      | own q e r =>
        exact .inr ⟨_, _, e, q, (fun _ z => nomatch z), (fun _ _ z => nomatch z), h.freeze e1 e2 rfl q (fun _ z => nomatch z) e (.lst upd_same (r.mono (upd_new q.frz) (List.prefix_refl _)))⟩
    | ownD t kvs =>
      generalize hx : σ[i] = x at e1 z
      cases z with
      | ownK q e r => exact .inr ⟨_, _, e, q, (fun _ z => nomatch z), (fun _ _ z => nomatch z), h.freeze e1 e2 rfl q (fun _ z => nomatch z) e (.dK upd_same (r.mono (upd_new q.frz) (List.prefix_refl _)))⟩
      | ownT q e r => exact .inr ⟨_, _, e, q, (fun _ z => nomatch z), (fun _ _ z => nomatch z), h.freeze e1 e2 rfl q (fun _ z => nomatch z) e (.dT upd_same (r.mono (upd_new q.frz) (List.prefix_refl _)))⟩
/-- the rule, whatever the relation, if it survives -/
theorem bor_ok {α β : Type} {rel : Hw → Hw → β → α → Prop} {E : WX} {good : α → Bool} {i : Nat} {f : List Sl → S → Res α} {H : Hp} {Q : β → Hp → Prop}
    (keep : ∀ (W W' : Hw) (a : Addr) (o : HO) (G' : Hp) (s : S) x d, W.H a = some o → Ext W ⟨W'.H, less W'.G a, W'.τ⟩ → (∀ v d, Rep K mg W'.G W'.τ v d → flat d = true → Rep K mg (less W'.G a) W'.τ v d) → (∀ vs ds, RepAll K mg W'.G W'.τ vs ds → flats ds = true → RepAll K mg (less W'.G a) W'.τ vs ds) →
      good d = true → rel ⟨W.H, upd W.G a o, W.τ⟩ W' x d → rel W ⟨W'.H, less W'.G a, W'.τ⟩ x d)
    (h : tX K mg rel E (bor good i f) σ H Q) : tX K mg rel E f σ H Q := by
  obtain ⟨W0, W, s, ρ, rfl, st, p⟩ := h
  unfold bor at p
  rcases st.frz' i with st1 | ⟨a, o, hH, own, no, nf, st1⟩
  · refine ⟨W0, W, s, _, rfl, st1, ?_⟩
    cases hf : f (frzAt i ρ) s with
    | ok d s1 =>
      rw [hf] at p
      simp only [Res.bind] at p
      split at p
      · exact p
      · exact p.elim
    | exc c s1 => rw [hf] at p; exact p
    | bad => rw [hf] at p; exact p
  · refine ⟨W0, ⟨W.H, upd W.G a o, W.τ⟩, s, _, rfl, st1, ?_⟩
    cases hf : f (frzAt i ρ) s with
    | ok d s1 =>
      rw [hf] at p
      simp only [Res.bind] at p
      split at p
      · rename_i hg
        intro x W1 e B r
        obtain ⟨e2, B2, hr, hrs⟩ := unborrow st.base hH own no nf e B
        exact p x ⟨W1.H, less W1.G a, W1.τ⟩ e2 B2 (keep W W1 a o W1.G s1 x d hH e2 hr hrs hg r)
      · exact p.elim
    | exc c s1 =>
      rw [hf] at p
      intro W1 u e B hu
      obtain ⟨e2, B2, _, _⟩ := unborrow st.base hH own no nf e B
      exact p ⟨W1.H, less W1.G a, W1.τ⟩ u e2 B2 hu
    | bad => rw [hf] at p; exact p.elim
end
def flatB : Bool → Bool := fun _ => true
section
variable {X : Cx} {e : Expr} {f : DE} {c : DT} {E : WX}
theorem e_bor (i : Nat) (h : PE X e (tE X.K X.mg E f)) : PE X e (tE X.K X.mg E (bor flat i f)) := PE.mono h fun σ H Q z => bor_ok (fun W W' a o G' s x d _ _ hr _ g r => hr _ _ r g) z
end
/-! ### own lists changed -/
def ownAt (i : Nat) (ρ : List Sl) (k : List D → Fl) : Fl := match ρ[i]? with
  | some (.own ds) => k ds
  | _ => .bad
def sApp (i : Nat) (f : DE) : DS := fun ρ s => ownAt i ρ fun ds => (f ρ s).thenS fun d s1 => if ds.length < 16777216 then .next (ρ.set i (.own (ds ++ [d]))) s1 else .bad
def sExt (i : Nat) (f : DE) : DS := fun ρ s => ownAt i ρ fun ds => (f ρ s).thenS fun d s1 => match d with
  | .lst es => if ds.length + es.length ≤ 16777216 then .next (ρ.set i (.own (ds ++ es))) s1 else .bad
  | _ => .bad
def sRev (i : Nat) : DS := fun ρ s => ownAt i ρ fun ds => .next (ρ.set i (.own ds.reverse)) s
def sClr (i : Nat) : DS := fun ρ s => ownAt i ρ fun _ => .next (ρ.set i (.own [])) s
def sPut (i : Nat) (fi fv : DE) : DS := fun ρ s => ownAt i ρ fun ds => (fv ρ s).thenS fun d s1 => (fi ρ s1).thenS fun k s2 => match k with
  | .int z => match ixN ds.length z with
    | some j => .next (ρ.set i (.own (ds.set j d))) s2
    | none => .bad
  | _ => .bad
def dropAt (ds : List D) (z : Int) : Option (D × List D) := match seqIndex? z ds.length with
  | some k => match ds[k]? with
    | some d => some (d, ds.eraseIdx k)
    | none => none
  | none => none
/-- x.pop(e), the value left -/
def sPopI (i : Nat) (f : DE) : DS := fun ρ s => ownAt i ρ fun ds => (f ρ s).thenS fun d s1 => match d with
  | .int z => if -(2 ^ 63) ≤ z ∧ z < 2 ^ 63 then (match dropAt ds z with
    | some (_, es) => .next (ρ.set i (.own es)) s1
    | none => .bad) else .bad
  | _ => .bad
section
variable {K : PySem.W.Frag} {mg : Str → Option Value} {E : WX} {fr : Fr} {σ : L2.St} {W W0 : Hw} {s : S} {ρ : List Sl} {T : Ends}
theorem ownAt_inv {i : Nat} {k : List D → Fl} (st : SSt K mg W0 W s σ ρ) (p : PostS K mg E fr W0 (ownAt i ρ k) T) :
    ∃ a vs ds, σ[i]? = some (some (.ref a)) ∧ ρ[i]? = some (.own ds) ∧ OwnAt W0 W a ∧ W.H a = some (.lst vs) ∧ RepAll K mg W.G W.τ vs ds ∧ PostS K mg E fr W0 (k ds) T := by
  unfold ownAt at p
  cases hr : ρ[i]? with
  | none => rw [hr] at p; exact p.elim
  | some y =>
    rw [hr] at p
    cases y with
    | own ds =>
      have hl : i < σ.length := by rw [st.len]; exact (List.getElem?_eq_some_iff.mp hr).1
      have q := st.sl i _ _ (List.getElem?_eq_getElem hl) hr
      generalize hx : σ[i] = x at q
      cases q with
      | own o e r => exact ⟨_, _, ds, by rw [List.getElem?_eq_getElem hl, hx], rfl, o, e, r, p⟩
    | dat d => exact p.elim
    | emp => exact p.elim
    | ownD t kvs => exact p.elim
    | fn n tl => exact p.elim
/-- the new content -/
theorem SSt.newC (st : SSt K mg W0 W s σ ρ) {i : Nat} {a : Addr} {vs vs' : List V} {ds ds' : List D} (e1 : σ[i]? = some (some (.ref a))) (e2 : ρ[i]? = some (.own ds)) (o : OwnAt W0 W a) (eH : W.H a = some (.lst vs)) (r : RepAll K mg W.G W.τ vs' ds') :
    SSt K mg W0 ⟨upd W.H a (.lst vs'), W.G, W.τ⟩ s σ (ρ.set i (.own ds')) :=
  st.mut e1 e2 rfl o (fun _ z => nomatch z) (.own ⟨o.old, o.frz, o.spc⟩ upd_same r) rfl
end
section
variable {X : Cx} {e : Expr} {f fi fv : DE} {E : WX} {fr : Fr} {pos apos cpos : Pos}
/-- the receiver's facts -/
theorem tyL {W : Hw} {a : Addr} {vs : List V} (h : W.H a = some (.lst vs)) : tyV X.K "list" (.ref a) W.H := Or.inl ⟨rfl, _, .of h⟩
theorem s_app (i : Nat) {x : Str} {p2 : Pos} (he : PE X e (tE X.K X.mg E f)) (hN : X.N[i]? = some x := by rfl) (hv : Vis X.env.scope x := by first | exact Or.inl rfl | exact Or.inr (Or.inl rfl) | exact Or.inr (Or.inr rfl)) (hd : (x == ("__debug__" : Str)) = false := by decide)
    (hcd : (x == ("__classdict__" : Str)) = false := by decide)
    (hbase : attributeBase (.Name x p2) "append" X.env (eval (.Name x p2) X.env) = eval (.Name x p2) X.env := by rfl)
    (hfew : ((backTo cpos (starEach [e] X.env)).all (fun x => !x.1) && (backToKw cpos (keywordEach [] X.env)).all (fun x => x.1.isSome) && decide (([e] : List Expr).length + ([] : List Keyword).length + (if ([] : List Keyword).isEmpty then 0 else 1) < 30)) = true := by rfl)
    (hline : (apos.endLine == cpos.line) = true := by rfl) (hs : starEach [e] X.env = (false, eval e X.env) :: starEach [] X.env := by rfl) (hplain : (backTo cpos (starEach [] X.env)).any (·.1) = false := by rfl)
    (hsw : swapsWith (.Call (.Attribute (.Name x p2) "append" apos) [e] [] cpos) none pos.line X.env = pure false := by rfl) :
    QS X E fr (.Expr (.Call (.Attribute (.Name x p2) "append" apos) [e] [] cpos) pos) (sApp i f) := by
  refine PS.mono (ps_expr (pe_bm PySem.F.plainAttrs_list PySem.F.slot_list_append PySem.F.type_list_append mt_append (pv i hN hv hd hcd) (pa_cons he pa_nil hs) hbase hfew hline hs hplain) hsw) fun σ H T z => ?_
  obtain ⟨W0, W, s, ρ, rfl, st, z⟩ := z
  obtain ⟨a, vs, ds, h1, h2, h3, h4, h5, z⟩ := ownAt_inv st z
  refine ⟨_, h1, tyL h4, (goS st z).imp fun y H1 ⟨W1, s1, d1, e1, r1, x1, st1, z1⟩ => ?_⟩
  subst e1
  have g4 : W1.H a = some (.lst vs) := x1.keep a _ h4 h3.spc
  have g3 : OwnAt W0 W1 a := h3.ext x1 (by rw [h4]; exact fun z => nomatch z)
  have g5 := RepAll.ext x1 h5
  split at z1
  · refine ⟨a, vs, y, rfl, rfl, g4, ?_, z1 σ _ (st1.newC h1 h2 g3 g4 (g5.snoc r1))⟩
    rw [g5.length, sizeLine_eq]; assumption
  · exact z1.elim
theorem s_put (i : Nat) {x : Str} {p2 sp : Pos} {v k : Expr} (hv' : PE X v (tE X.K X.mg E fv)) (hk : PE X k (tE X.K X.mg E fi)) (hN : X.N[i]? = some x := by rfl) (hv : Vis X.env.scope x := by first | exact Or.inl rfl | exact Or.inr (Or.inl rfl) | exact Or.inr (Or.inr rfl)) (hd : (x == ("__debug__" : Str)) = false := by decide)
    (hcd : (x == ("__classdict__" : Str)) = false := by decide)
    (ha : ∀ v, assign (.Subscript (.Name x p2) k sp) X.env v = (do
      let ov ← holding [v] (eval (.Name x p2) X.env)
      let iv ← holding [v, ov] (eval k X.env)
      standAt sp
      holding [v, ov, iv] (setItem ov iv v)
      release [v, ov, iv] []) := by intro _; rfl)
    (hs : swapsWithSole [.Subscript (.Name x p2) k sp] v pos.line X.env = pure false := by rfl) (hw : swappedStores [.Subscript (.Name x p2) k sp] v X.env = pure none := by rfl)
    (h1 : (assignEach [.Subscript (.Name x p2) k sp] X.env).map (·.2) = [assign (.Subscript (.Name x p2) k sp) X.env] := by rfl) :
    QS X E fr (.Assign [.Subscript (.Name x p2) k sp] v pos) (sPut i fi fv) := by
  refine PS.mono (ps_asg hv' (pg_sub (pv i hN hv hd hcd) hk set_list ha) hs hw h1) fun σ H T z => ?_
  obtain ⟨W0, W, s, ρ, rfl, st, z⟩ := z
  obtain ⟨a, vs, ds, h1, h2, h3, h4, h5, z⟩ := ownAt_inv st z
  refine (goS st z).imp fun y H1 ⟨W1, s1, d1, e1, r1, x1, st1, z1⟩ => ?_
  subst e1
  refine ⟨_, h1, (goS st1 z1).imp fun y2 H2 ⟨W2, s2, d2, e2, r2, x2, st2, z2⟩ => ?_⟩
  subst e2
  have x12 := x1.trans st1.base x2
  have g4 : W2.H a = some (.lst vs) := x12.keep a _ h4 h3.spc
  have g3 : OwnAt W0 W2 a := h3.ext x12 (by rw [h4]; exact fun z => nomatch z)
  have g5 := RepAll.ext x12 h5
  cases d2 with
  | int k =>
    cases r2.int_inv
    simp only at z2
    cases e3 : ixN ds.length k with
    | none => rw [e3] at z2; exact z2.elim
    | some j =>
      rw [e3] at z2
      exact ⟨a, vs, k, j, rfl, rfl, g4, by rw [g5.length]; exact e3, z2 σ _ (st2.newC h1 h2 g3 g4 (g5.set (r1.ext x2) j))⟩
  | _ => exact z2.elim
end
end DL
namespace DL
open PySem PySem.Spec PyProof.Rows L2
variable [LT : LawT] [TC : TellC]
/-! ### the base moved on within a def -/
section
variable {K : PySem.W.Frag} {mg : Str → Option Value} {E : WX} {fr : Fr} {σ : L2.St} {W W1 W0 : Hw} {s : S} {ρ : List Sl} {T T' : Ends}
abbrev Hw.on (W0 W1 : Hw) : Hw := ⟨W0.H, W1.G, W1.τ⟩
theorem Ext.on (x : Ext W0 W1) (e : Ext (W0.on W1) W) : Ext W0 W := by
  refine ⟨fun b o h n => ?_, x.grow.trans e.grow, fun b h => (e.out b h).trans (x.out b h), x.tpre.trans e.tpre, fun b h n => ?_, e.tab⟩
  · refine e.keep0 b o h fun m => ?_
    have := x.tnew b m n
    rw [h] at this; cases this
  · by_cases m : b ∈ W1.τ
    · exact x.tnew b m n
    · exact e.tnew b h m
theorem SlOk.on {x : Option V} {y : Sl} (h : SlOk K mg W0 W x y) : SlOk K mg (W0.on W1) W x y := by
  cases h with
  | emp => exact .emp
  | dat r => exact .dat r
  | own o e r => exact .own ⟨o.old, o.frz, o.spc⟩ e r
  | ownK o e r => exact .ownK ⟨o.old, o.frz, o.spc⟩ e r
  | ownT o e r => exact .ownT ⟨o.old, o.frz, o.spc⟩ e r
  | fn h g => exact .fn h g
theorem SlOk.off {x : Option V} {y : Sl} (h : SlOk K mg (W0.on W1) W x y) : SlOk K mg W0 W x y := by
  cases h with
  | emp => exact .emp
  | dat r => exact .dat r
  | own o e r => exact .own ⟨o.old, o.frz, o.spc⟩ e r
  | ownK o e r => exact .ownK ⟨o.old, o.frz, o.spc⟩ e r
  | ownT o e r => exact .ownT ⟨o.old, o.frz, o.spc⟩ e r
  | fn h g => exact .fn h g
theorem SSt.on (h : SSt K mg W0 W s σ ρ) : SSt K mg (W0.on W) W s σ ρ := by
  refine ⟨⟨fun b o e n => ?_, fun _ _ e => e, fun _ _ => rfl, List.prefix_refl _, fun _ m n => absurd m n, h.ext.tab⟩, h.base, h.len, fun i x y e1 e2 => (h.sl i x y e1 e2).on, h.dist⟩
  refine h.ext.keep0 b o e fun m => n ?_
  obtain ⟨l, el⟩ := h.ext.tpre
  show b ∈ W.τ
  rw [← el]
  exact List.mem_append_left _ m
theorem SSt.off (x : Ext W0 W1) (h : SSt K mg (W0.on W1) W s σ ρ) : SSt K mg W0 W s σ ρ := ⟨x.on h.ext, h.base, h.len, fun i x y e1 e2 => (h.sl i x y e1 e2).off, h.dist⟩
theorem PostS.on {g : Fl} (x : Ext W0 W1) (p : PostS K mg E fr W0 g T) : PostS K mg E fr (W0.on W1) g T := by
  cases g with
  | next ρ s => exact fun σ W st => p σ W (st.off x)
  | brk ρ s => exact fun σ W st => p σ W (st.off x)
  | cont ρ s => exact fun σ W st => p σ W (st.off x)
  | ret d s =>
    refine fun v W e B r => p v W (x.on e) B ?_
    cases fr with
    | no => exact r
    | yes => exact r
    | pl => exact r
    | pd =>
      obtain ⟨p, v1, a, x1, kvs, vs, h1, h2, h3, h4, o, h5, h6⟩ := r
      exact ⟨p, v1, a, x1, kvs, vs, h1, h2, h3, h4, ⟨o.old, o.frz, o.spc⟩, h5, h6⟩
  | exc c s => exact fun σ W u e B hu => p σ W u (x.on e) B hu
  | bad => exact p
end
/-! ### slots forgotten -/
def wipeD (ρ : List Sl) : List Nat → List Sl
  | [] => ρ
  | v :: vs => (wipeD ρ vs).set v .emp
section
variable {K : PySem.W.Frag} {mg : Str → Option Value} {σ : L2.St} {W W0 : Hw} {s : S} {ρ : List Sl}
theorem SSt.clears (h : SSt K mg W0 W s σ ρ) : ∀ vs : List Nat, SSt K mg W0 W s σ (wipeD ρ vs)
  | [] => h
  | v :: vs => (h.clears vs).clear v
theorem SSt.wipe1 (h : SSt K mg W0 W s σ ρ) (i : Nat) : SSt K mg W0 W s (σ.set i none) (ρ.set i .emp) := by
  refine ⟨h.ext, h.base, by simp [h.len], fun j x y e1 e2 => ?_, fun j k a y z ne e1 e2 e3 e4 o1 o2 => ?_⟩
  · by_cases hj : j = i
    · subst hj
      rw [List.getElem?_set] at e2
      simp only [if_true] at e2
      split at e2
      · cases e2; exact .emp
      · cases e2
    · rw [List.getElem?_set_ne (Ne.symm hj)] at e1 e2
      exact h.sl j x y e1 e2
  · have go : ∀ (j : Nat) y, (ρ.set i .emp)[j]? = some y → y.isOwn = true → j ≠ i := fun j y e o q => by
      subst q
      rw [List.getElem?_set] at e
      simp only [if_true] at e
      split at e
      · cases e; exact Bool.noConfusion o
      · cases e
    have n1 := go j y e3 o1
    have n2 := go k z e4 o2
    rw [List.getElem?_set_ne (Ne.symm n1)] at e1 e3
    rw [List.getElem?_set_ne (Ne.symm n2)] at e2 e4
    exact h.dist j k a y z ne e1 e2 e3 e4 o1 o2
theorem SSt.wipes (h : SSt K mg W0 W s σ ρ) : ∀ vs : List Nat, SSt K mg W0 W s (wipe σ vs) (wipeD ρ vs)
  | [] => h
  | v :: vs => (h.wipes vs).wipe1 v
end
/-! ### targets of names -/
abbrev DG := D → List Sl → Option (List Sl)
def PG' (K : PySem.W.Frag) (mg : Str → Option Value) (vs : List Nat) (g : DG) : TG := fun v σ H Q =>
  ∃ (W0 W : Hw) (s : S) (ρ : List Sl) (d : D) (ρ' : List Sl), W.H = H ∧ SSt K mg W0 W s σ ρ ∧ Rep K mg W.G W.τ v d ∧ g d ρ = some ρ' ∧ ∀ σ', wipe σ' vs = wipe σ vs → SSt K mg W0 W s σ' ρ' → Q σ' W.H
def PGs' (K : PySem.W.Frag) (mg : Str → Option Value) (vs : List Nat) (g : List D → List Sl → Option (List Sl)) : TGs := fun us σ H Q =>
  ∃ (W0 W : Hw) (s : S) (ρ : List Sl) (ds : List D) (ρ' : List Sl), W.H = H ∧ SSt K mg W0 W s σ ρ ∧ RepAll K mg W.G W.τ us ds ∧ g ds ρ = some ρ' ∧ ∀ σ', wipe σ' vs = wipe σ vs → SSt K mg W0 W s σ' ρ' → Q σ' W.H
def gN (i : Nat) : DG := fun d ρ => some (ρ.set i (.dat d))
def gsNil : List D → List Sl → Option (List Sl) := fun ds ρ => match ds with
  | [] => some ρ
  | _ => none
def gsCons (g : DG) (h : List D → List Sl → Option (List Sl)) : List D → List Sl → Option (List Sl) := fun ds ρ => match ds with
  | d :: r => (g d ρ).bind fun ρ1 => h r ρ1
  | [] => none
def gT (n : Nat) (h : List D → List Sl → Option (List Sl)) : DG := fun d ρ => match d with
  | .tup ds => if ds.length = n then h ds ρ else none
  | .ktp ds => if ds.length = n then h ds ρ else none
  | _ => none
theorem wipe_set {σ : L2.St} {i : Nat} {x : Option V} : ∀ {vs : List Nat}, i ∈ vs → wipe (σ.set i x) vs = wipe σ vs
  | v :: vs, h => by
    unfold wipe
    by_cases hv : i ∈ vs
    · rw [wipe_set hv]
    · have e : i = v := by
        rcases List.mem_cons.mp h with e | e
        · exact e
        · exact absurd e hv
      subst e
      have out : ∀ (us : List Nat), i ∉ us → wipe (σ.set i x) us = (wipe σ us).set i x := fun us hu => by
        induction us with
        | nil => rfl
        | cons u us ih =>
          unfold wipe
          rw [ih (fun m => hu (List.mem_cons_of_mem _ m)), List.set_comm _ _ (fun z : i = u => hu (z ▸ List.mem_cons_self))]
      rw [out vs hv, List.set_set]
section
variable {X : Cx} {pos : Pos} {vs : List Nat}
theorem PG.mono {e : Expr} {t t' : TG} (h : PG X e t) (i : ∀ v σ H Q, t' v σ H Q → t v σ H Q) : PG X e t' := ⟨fun pins s σ H v u Q I r q => h.run pins s σ H v u Q I r (i v σ H Q q)⟩
theorem PGs.mono {e : List Expr} {t t' : TGs} (h : PGs X e t) (i : ∀ v σ H Q, t' v σ H Q → t v σ H Q) : PGs X e t' := ⟨fun pins s σ H v u Q I r q => h.run pins s σ H v u Q I r (i v σ H Q q)⟩
theorem g_name (i : Nat) {x : Str} (hN : X.N.Nodup) (hm : i ∈ vs := by decide) (hi : X.N[i]? = some x := by rfl) (hx : Loc X.env.scope x := by first | exact Or.inl rfl | exact Or.inr rfl)
    (hf : X.fn x = true ∨ X.env.scope.names.lookup x = some .local := by first | exact .inl rfl | exact .inr rfl) : PG X (.Name x pos) (PG' X.K X.mg vs (gN i)) := PG.mono (pg_name hN hi hx hf) fun v σ H Q h => by
  obtain ⟨W0, W, s, ρ, d, ρ', rfl, st, r, e, q⟩ := h
  cases e
  exact q _ (wipe_set hm) (st.setDat r i)
theorem gs_nil : PGs X [] (PGs' X.K X.mg vs gsNil) := PGs.mono pgs_nil fun us σ H Q h => by
  obtain ⟨W0, W, s, ρ, ds, ρ', rfl, st, r, e, q⟩ := h
  cases r with
  | nil => cases e; exact ⟨rfl, q σ rfl st⟩
  | cons _ _ => cases e
theorem gs_cons {e : Expr} {es : List Expr} {g : DG} {h : List D → List Sl → Option (List Sl)} (h1 : PG X e (PG' X.K X.mg vs g)) (h2 : PGs X es (PGs' X.K X.mg vs h))
    (hs : (assignEach (e :: es) X.env).map (·.2) = assign e X.env :: (assignEach es X.env).map (·.2) := by rfl) : PGs X (e :: es) (PGs' X.K X.mg vs (gsCons g h)) := PGs.mono (pgs_cons h1 h2 hs) fun us σ H Q z => by
  obtain ⟨W0, W, s, ρ, ds, ρ', rfl, st, r, ez, q⟩ := z
  cases r with
  | nil => cases ez
  | @cons v us d ds r1 r2 =>
    have ez' : (g d ρ).bind (fun ρ1 => h ds ρ1) = some ρ' := ez
    cases hg : g d ρ with
    | none => rw [hg] at ez'; cases ez'
    | some ρ1 =>
      rw [hg] at ez'
      exact ⟨v, us, rfl, W0, W, s, ρ, d, ρ1, rfl, st, r1, hg, fun σ1 w1 st1 => ⟨W0, W, s, ρ1, ds, ρ', rfl, st1, r2, ez', fun σ2 w2 st2 => q σ2 (w2.trans w1) st2⟩⟩
theorem g_tup {es : List Expr} {k n : Nat} {h : List D → List Sl → Option (List Sl)} (hc : X.calm = true) (hs : PGs X es (PGs' X.K X.mg vs h)) (hn : (assignEach es X.env).length = n := by rfl) (hst : (assignEach es X.env).findIdx? (·.1) = none := by rfl) :
    PG X (.Tuple es k pos) (PG' X.K X.mg vs (gT n h)) := PG.mono (pg_tup hc hs hn hst) fun v σ H Q z => by
  obtain ⟨W0, W, s, ρ, d, ρ', rfl, st, r, ez, q⟩ := z
  cases r with
  | tup h1 r1 =>
    have ez' : (if _ = n then h _ ρ else none) = some ρ' := ez
    split at ez'
    · rename_i hl
      exact ⟨_, _, rfl, .of (st.base.sub _ _ h1), r1.length.trans hl, W0, W, s, ρ, _, ρ', rfl, st, r1, ez', q⟩
    · cases ez'
  | ktp h1 r1 =>
    have ez' : (if _ = n then h _ ρ else none) = some ρ' := ez
    split at ez'
    · rename_i hl
      exact ⟨_, _, rfl, seqT st.base.sub h1, r1.length.trans hl, W0, W, s, ρ, _, ρ', rfl, st, r1, ez', q⟩
    · cases ez'
  | _ => cases ez
/-- a tuple's parts to names -/
def sUnp (g : DG) (f : DE) : DS := fun ρ s => (f ρ s).thenS fun d s1 => match g d ρ with
  | some ρ1 => .next ρ1 s1
  | none => .bad
theorem s_unp {E : WX} {fr : Fr} {tg e : Expr} {g : DG} {f : DE} (vs : List Nat) (he : PE X e (tE X.K X.mg E f)) (hg : PG X tg (PG' X.K X.mg vs g)) (hs : swapsWithSole [tg] e pos.line X.env = pure false := by rfl) (hw : swappedStores [tg] e X.env = pure none := by rfl)
    (h1 : (assignEach [tg] X.env).map (·.2) = [assign tg X.env] := by rfl) : QS X E fr (.Assign [tg] e pos) (sUnp g f) := PS.mono (ps_asg he hg hs hw h1) fun σ H T z => by
  obtain ⟨W0, W, s, ρ, rfl, st, z⟩ := z
  refine (goS st z).imp fun x H1 ⟨W1, s1, d1, e1, r1, x1, st1, z1⟩ => ?_
  subst e1
  cases hg : g d1 ρ with
  | none => rw [hg] at z1; exact z1.elim
  | some ρ1 =>
    rw [hg] at z1
    exact ⟨W0, W1, s1, ρ, d1, ρ1, rfl, st1, r1, hg, fun σ2 _ st2 => z1 σ2 W1 st2⟩
/-- a, b = e1, e2 -/
def sPar (i j : Nat) (fs : DA) : DS := fun ρ s => (fs ρ s).thenS fun ds s1 => match ds with
  | [d, e] => .next ((ρ.set i (.dat d)).set j (.dat e)) s1
  | _ => .bad
theorem s_par {E : WX} {fr : Fr} {i j : Nat} {x y : Str} {a b : Expr} {fs : DA} {px py pt pt2 : Pos} {kt k2 : Nat} (hc : X.calm = true) (hN : X.N.Nodup) (ha : PA X [a, b] (tA X.K X.mg E fs)) (hi : X.N[i]? = some x := by rfl) (hj : X.N[j]? = some y := by rfl) (hij : i ≠ j := by decide)
    (hx : X.env.scope.names.lookup x = some .local := by rfl) (hy : X.env.scope.names.lookup y = some .local := by rfl)
    (hw : swappedStores [.Tuple [.Name x px, .Name y py] kt pt] (.Tuple [a, b] k2 pt2) X.env = pure (some [x, y]) := by rfl)
    (hs : swapsWithSole [.Tuple [.Name x px, .Name y py] kt pt] (.Tuple [a, b] k2 pt2) pos.line X.env = pure false := by rfl) :
    QS X E fr (.Assign [.Tuple [.Name x px, .Name y py] kt pt] (.Tuple [a, b] k2 pt2) pos) (sPar i j fs) := PS.mono (ps_par hc hN hi hj hij hx hy ha hw hs) fun σ H T z => by
  obtain ⟨W0, W, s, ρ, rfl, st, z⟩ := z
  refine (goS st z).imp fun x H1 ⟨W1, s1, d1, e1, r1, x1, st1, z1⟩ => ?_
  subst e1
  match d1, r1, z1 with
  | [d, e], .cons q1 (.cons q2 .nil), z1 => exact ⟨_, _, rfl, z1 _ W1 ((st1.setDat q1 i).setDat q2 j)⟩
  | [], _, z1 => exact z1.elim
  | [_], _, z1 => exact z1.elim
  | _ :: _ :: _ :: _, _, z1 => exact z1.elim
end
/-! ### what is walked -/
structure Its (K : PySem.W.Frag) (mg : Str → Option Value) (W1 : Hw) (J : It) (ds : List D) (G : Hp → Prop) (Y : Nat → Hp → V → Hp → Prop) : Prop where
  walk : Walk J ds.length G Y
  good : ∀ (W2 : Hw) (s2 : S), Same W1.G W2.G → Base K mg W2 s2 → G W2.H
  item : ∀ (i : Nat) (W2 : Hw) (s2 : S) (x : V) (H' : Hp), Same W1.G W2.G → W1.τ <+: W2.τ → Base K mg W2 s2 → i < ds.length → Y i W2.H x H' → ∃ W3 d, W3.H = H' ∧ ds[i]? = some d ∧ Ext W2 W3 ∧ Base K mg W3 s2 ∧ Rep K mg W3.G W3.τ x d
def relI (K : PySem.W.Frag) (mg : Str → Option Value) : Hw → Hw → It → List D → Prop := fun _ W1 J ds => ∃ G Y, Its K mg W1 J ds G Y
abbrev tI (K : PySem.W.Frag) (mg : Str → Option Value) (E : WX) (f : DA) : TI := tX K mg (relI K mg) E f
theorem PI.mono {X : Cx} {tg e : Expr} {t t' : TI} (h : PI X tg e t) (i : ∀ σ H R, t' σ H R → t σ H R) : PI X tg e t' := ⟨fun pins s σ H R I q => h.run pins s σ H R I (i σ H R q)⟩
theorem PI.or {X : Cx} {tg e : Expr} {t t' : TI} (h : PI X tg e t) (h' : PI X tg e t') : PI X tg e (fun σ H R => t σ H R ∨ t' σ H R) := ⟨fun pins s σ H R I q => q.elim (h.run pins s σ H R I) (h'.run pins s σ H R I)⟩
/-! ### for -/
def loopN (clr : List Nat) (g : DG) (body : DS) : List D → List Sl → S → Fl
  | [], ρ, s => .next ρ s
  | d :: ds, ρ, s => match g d ρ with
    | none => .bad
    | some ρ1 => match body ρ1 s with
      | .next ρ2 s2 => loopN clr g body ds (wipeD ρ2 clr) s2
      | .cont ρ2 s2 => loopN clr g body ds (wipeD ρ2 clr) s2
      | .brk ρ2 s2 => .next (wipeD ρ2 clr) s2
      | .ret d s2 => .ret d s2
      | .exc c s2 => .exc c s2
      | .bad => .bad
def sFor (clr : List Nat) (fi : DA) (g : DG) (body : DS) : DS := fun ρ s => (fi ρ s).thenS fun ds s1 => loopN clr g body ds (wipeD ρ clr) s1
section
variable {X : Cx} {E : WX} {fr : Fr} {pos : Pos} {tg iter : Expr} {body : List Stmt} {fi : DA} {g : DG} {b : DS} {vs : List Nat}
theorem getElem?_drop0 {α : Type} {l : List α} {i : Nat} {x : α} (h : l[i]? = some x) : l.drop i = x :: l.drop (i + 1) := by
  obtain ⟨hi, e⟩ := List.getElem?_eq_some_iff.mp h
  rw [List.drop_eq_getElem_cons hi, e]
theorem s_for (clr : List Nat) (hp : PassesOwn (model X.prog X.w) X.A X.env X.xe) (hc : X.calm = true) (hi : PI X tg iter (tI X.K X.mg E fi)) (hg : PG X tg (PG' X.K X.mg vs g)) (hb : QSs X E fr body b)
    (hs : ∀ x, foldedSetIterable iter X.env x = pure x := by intro _; rfl) : QS X E fr (.For tg iter body [] pos) (sFor clr fi g b) := PS.mono (ps_for hp hc hi hg hb hs) fun σ H T z => by
  obtain ⟨W0, W, s, ρ, rfl, st, z⟩ := z
  refine (goS st z).imp fun J H1 ⟨W1, s1, ds, e1, ⟨G, Y, its⟩, x1, st1, z1⟩ => ?_
  subst e1
  have x01 : Ext W0 W1 := st1.ext
  have z1' := PostS.on x01 z1
  have st1' := (st1.on).clears clr
  refine for_it its.walk (fun i σ2 H2 => ∃ W2 s2 ρ2, W2.H = H2 ∧ SSt X.K X.mg (W0.on W1) W2 s2 σ2 ρ2 ∧ PostS X.K X.mg E fr (W0.on W1) (loopN clr g b (ds.drop i) ρ2 s2) T)
    ⟨W1, s1, _, rfl, st1', by rw [List.drop_zero]; exact z1'⟩ ?_ ?_ ?_
  · rintro i σ2 H2 hi ⟨W2, s2, ρ2, rfl, st2, _⟩
    exact its.good W2 s2 st2.ext.grow st2.base
  · rintro i x σ2 H2 H' hi ⟨W2, s2, ρ2, rfl, st2, p2⟩ hy
    obtain ⟨W3, d, rfl, hd, x3, B3, r3⟩ := its.item i W2 s2 x H' st2.ext.grow st2.ext.tpre st2.base hi hy
    rw [getElem?_drop0 hd] at p2
    have st3 := st2.step x3 B3
    unfold loopN at p2
    cases hgd : g d ρ2 with
    | none => rw [hgd] at p2; exact p2.elim
    | some ρ3 =>
      rw [hgd] at p2
      refine ⟨W0.on W1, W3, s2, ρ2, d, ρ3, rfl, st3, r3, hgd, fun σ4 _ st4 => ⟨W0.on W1, W3, s2, ρ3, rfl, st4, ?_⟩⟩
      simp only at p2
      cases hbd : b ρ3 s2 with
      | next ρ5 s5 => rw [hbd] at p2; exact fun σ5 W5 st5 => ⟨W5, s5, _, rfl, st5.clears clr, p2⟩
      | cont ρ5 s5 => rw [hbd] at p2; exact fun σ5 W5 st5 => ⟨W5, s5, _, rfl, st5.clears clr, p2⟩
      | brk ρ5 s5 => rw [hbd] at p2; exact fun σ5 W5 st5 => p2 σ5 W5 (st5.clears clr)
      | ret v s5 => rw [hbd] at p2; exact p2
      | exc c s5 => rw [hbd] at p2; exact p2
      | bad => rw [hbd] at p2; exact p2.elim
  · rintro σ2 H2 ⟨W2, s2, ρ2, rfl, st2, p2⟩
    rw [List.drop_length] at p2
    exact p2 σ2 W2 st2
/-! ### while -/
def whileN (clr : List Nat) (c : DT) (b : DS) : Nat → List Sl → S → Option Fl
  | 0, _, _ => none
  | n + 1, ρ, s => match c ρ s with
    | .ok true s1 => match b ρ s1 with
      | .next ρ2 s2 => whileN clr c b n (wipeD ρ2 clr) s2
      | .cont ρ2 s2 => whileN clr c b n (wipeD ρ2 clr) s2
      | .brk ρ2 s2 => some (.next ρ2 s2)
      | .ret d s2 => some (.ret d s2)
      | .exc c s2 => some (.exc c s2)
      | .bad => some .bad
    | .ok false s1 => some (.next ρ s1)
    | .exc c s1 => some (.exc c s1)
    | .bad => some .bad
theorem whileN_mono {clr : List Nat} {c : DT} {b : DS} : ∀ {n : Nat} {ρ : List Sl} {s : S} {r : Fl}, whileN clr c b n ρ s = some r → whileN clr c b (n + 1) ρ s = some r
  | 0, _, _, _, h => by cases h
  | n + 1, ρ, s, r, h => by
    rw [whileN]
    rw [whileN] at h
    cases hc : c ρ s with
    | ok k s1 =>
      rw [hc] at h
      cases k with
      | true =>
        simp only at h ⊢
        cases hb : b ρ s1 with
        | next ρ2 s2 => rw [hb] at h; exact whileN_mono h
        | cont ρ2 s2 => rw [hb] at h; exact whileN_mono h
        | brk ρ2 s2 => rw [hb] at h; exact h
        | ret d s2 => rw [hb] at h; exact h
        | exc c s2 => rw [hb] at h; exact h
        | bad => rw [hb] at h; exact h
      | false => exact h
    | exc c s1 => rw [hc] at h; exact h
    | bad => rw [hc] at h; exact h
theorem whileN_le {clr : List Nat} {c : DT} {b : DS} {n m : Nat} {ρ : List Sl} {s : S} {r : Fl} (h : whileN clr c b n ρ s = some r) (k : n ≤ m) : whileN clr c b m ρ s = some r := by
  induction k with
  | refl => exact h
  | step _ ih => exact whileN_mono ih
open Classical in
noncomputable def sWhile (clr : List Nat) (c : DT) (b : DS) : DS := fun ρ s =>
  if h : ∃ n r, whileN clr c b n (wipeD ρ clr) s = some r then Classical.choose (Classical.choose_spec h) else .bad
theorem sWhile_of {clr : List Nat} {c : DT} {b : DS} {n : Nat} {ρ : List Sl} {s : S} {r : Fl} (h : whileN clr c b n (wipeD ρ clr) s = some r) : sWhile clr c b ρ s = r := by
  unfold sWhile
  have hx : ∃ n r, whileN clr c b n (wipeD ρ clr) s = some r := ⟨n, r, h⟩
  rw [dif_pos hx]
  have h2 := Classical.choose_spec (Classical.choose_spec hx)
  have a1 := whileN_le h (Nat.le_max_left n (Classical.choose hx))
  have a2 := whileN_le h2 (Nat.le_max_right n (Classical.choose hx))
  rw [a1] at a2
  exact (Option.some.inj a2).symm
theorem s_while {ce : Expr} {c : DT} (clr : List Nat) (hp : PassesOwn (model X.prog X.w) X.A X.env X.xe) (hc : PT X ce (tT X.K X.mg E c)) (hb : QSs X E fr body b) : QS X E fr (.While ce body [] pos) (sWhile clr c b) := PS.mono (ps_while hp hc hb) fun σ H T z => by
  obtain ⟨W0, W, s, ρ, rfl, st, z⟩ := z
  unfold sWhile at z
  split at z
  · rename_i hx
    have h2 := Classical.choose_spec (Classical.choose_spec hx)
    generalize Classical.choose (Classical.choose_spec hx) = r at z h2
    refine ⟨fun m σ2 H2 => ∃ W2 s2 ρ2, W2.H = H2 ∧ SSt X.K X.mg W0 W2 s2 σ2 ρ2 ∧ whileN clr c b m ρ2 s2 = some r, ⟨_, W, s, _, rfl, st.clears clr, h2⟩, ?_⟩
    rintro m σ2 H2 ⟨W2, s2, ρ2, rfl, st2, hw⟩
    cases m with
    | zero => cases hw
    | succ m =>
      rw [whileN] at hw
      refine ⟨W0, W2, s2, ρ2, rfl, st2, ?_⟩
      cases hc : c ρ2 s2 with
      | ok k s3 =>
        rw [hc] at hw
        intro k' W3 x3 B3 e3
        cases (show k' = k from e3)
        have st3 := st2.step x3 B3
        cases k with
        | true =>
          simp only at hw
          refine iteT ⟨fun σ' H' => ∃ W2 s2 ρ2, W2.H = H' ∧ SSt X.K X.mg W0 W2 s2 σ' ρ2 ∧ whileN clr c b m ρ2 s2 = some r, fun σ' H' h => ⟨m, Nat.lt_succ_self m, h⟩, ⟨W0, W3, s3, ρ2, rfl, st3, ?_⟩⟩
          cases hb : b ρ2 s3 with
          | next ρ4 s4 => rw [hb] at hw; exact fun σ4 W4 st4 => ⟨W4, s4, _, rfl, st4.clears clr, hw⟩
          | cont ρ4 s4 => rw [hb] at hw; exact fun σ4 W4 st4 => ⟨W4, s4, _, rfl, st4.clears clr, hw⟩
          | brk ρ4 s4 => rw [hb] at hw; cases hw; exact z
          | ret d s4 => rw [hb] at hw; cases hw; exact z
          | exc c s4 => rw [hb] at hw; cases hw; exact z
          | bad => rw [hb] at hw; cases hw; exact z.elim
        | false =>
          cases hw
          exact iteF (z σ2 W3 st3)
      | exc c s3 =>
        rw [hc] at hw
        cases hw
        exact fun W3 u x3 B3 hu => z σ2 W3 u (st2.ext.trans st2.base x3) B3 hu
      | bad => rw [hc] at hw; cases hw; exact z.elim
  · exact z.elim
end
/-! ### comprehensions -/
def compN (g : DG) (c : DT) (f : DE) (ρ : List Sl) : List D → S → Res (List D)
  | [], s => .ok [] s
  | d :: ds, s => match g d ρ with
    | none => .bad
    | some ρ1 => (c ρ1 s).bind fun b s1 => if b then (f ρ1 s1).bind fun y s2 => (compN g c f ρ ds s2).bind fun ys s3 => .ok (y :: ys) s3 else compN g c f ρ ds s1
def eComp (vs : List Nat) (fi : DA) (g : DG) (c : DT) (f : DE) : DE := fun ρ s => (fi ρ s).bind fun ds s1 => if ds.length ≤ 16777216 then (match compN g c f (wipeD ρ vs) ds s1 with
  | .ok ys s2 => .ok (.lst ys) s2
  | _ => .bad) else .bad
def tAll : DT := fun _ s => .ok true s
abbrev E0x : WX := fun _ _ _ _ => False
section
variable {X : Cx} {E : WX} {fr : Fr} {tg iter elt : Expr} {ifs : List Expr} {fi : DA} {g : DG} {c : DT} {f : DE} {vs : List Nat}
theorem PTs.mono {t t' : TT} (h : PTs X ifs t) (i : ∀ σ H Q, t' σ H Q → t σ H Q) : PTs X ifs t' := ⟨fun pins s σ H Q I q => h.run pins s σ H Q I (i σ H Q q)⟩
theorem ts_nil : PTs X [] (tT X.K X.mg E0x tAll) := PTs.mono pts_nil fun σ H Q z => by
  obtain ⟨W0, W, s, ρ, rfl, st, z⟩ := z
  exact z.of_ok st.base rfl
theorem r_comp {K : PySem.W.Frag} {mg : Str → Option Value} (vs : List Nat) : ∀ σ H Q, tF K mg E (eComp vs fi g c f) σ H Q → tLc (tI K mg E fi) (PG' K mg vs g) (tT K mg E0x c) (tE K mg E0x f) vs σ H Q := fun σ H Q z => by
  obtain ⟨W0, W, s, ρ, rfl, st, z⟩ := z
  refine (go st z).imp fun J H1 ⟨W1, s1, ds, e1, ⟨G, Y, its⟩, x1, st1, z1⟩ => ?_
  subst e1
  intro D hD
  split at z1
  · rename_i hl
    cases hcmp : compN g c f (wipeD ρ vs) ds s1 with
    | ok ys s9 =>
      rw [hcmp] at z1
      -- the new list, its own
      obtain ⟨B2, x2⟩ := st1.base.newL hD (o := .lst []) (fun _ z => nomatch z)
      have hGD : W1.G D = none := st1.base.frz_none hD
      have htD : D ∉ W1.τ := fun m => st1.base.tau_some m hD
      have x01 : Ext W0 W1 := st1.ext
      -- the state within: the base is W1, the slots wiped
      refine lc_it its.walk (fun i H2 => ∃ W2 s2 acc rest vs', W2.H = H2 ∧ Ext W1 W2 ∧ Base K mg W2 s2 ∧ W2.H D = some (.lst vs') ∧ W2.G D = none ∧ D ∉ W2.τ ∧ RepAll K mg W2.G W2.τ vs' acc ∧ acc.length ≤ i ∧ compN g c f (wipeD ρ vs) (ds.drop i) s2 = .ok rest s9 ∧ ys = acc ++ rest)
        ⟨⟨upd W1.H D (.lst []), W1.G, W1.τ⟩, s1, [], ys, [], rfl, x2, B2, upd_same, hGD, htD, .nil, Nat.le_refl _, by rw [List.drop_zero]; exact hcmp, rfl⟩ ?_ ?_ ?_
      · rintro i H2 hi ⟨W2, s2, acc, rest, vs', rfl, x12, B2, _⟩
        exact its.good W2 s2 x12.grow B2
      · rintro i x H2 H' hi ⟨W2, s2, acc, rest, vs', rfl, x12, B2, eD, gD, tD, rv, ha, hrest, hys⟩ hy
        obtain ⟨W3, d, rfl, hd, x3, B3, r3⟩ := its.item i W2 s2 x H' x12.grow x12.tpre B2 hi hy
        rw [getElem?_drop0 hd] at hrest
        unfold compN at hrest
        have x13 := x12.trans B2 x3
        have st3 : SSt K mg W0 W3 s2 (wipe σ vs) (wipeD ρ vs) := (st1.wipes _).step x13 B3
        have eD3 : W3.H D = some (.lst vs') := x3.keep D _ eD tD
        have gD3 : W3.G D = none := (x3.out D (by rw [eD]; exact fun z => nomatch z)).trans gD
        have tD3 : D ∉ W3.τ := fun m => by have := x3.tnew D m tD; rw [eD] at this; cases this
        cases hgd : g d (wipeD ρ vs) with
        | none => rw [hgd] at hrest; cases hrest
        | some ρ3 =>
          rw [hgd] at hrest
          simp only at hrest
          refine ⟨W0, W3, s2, _, d, ρ3, rfl, st3, r3, hgd, fun σ4 w4 st4 => ⟨?_, ?_⟩⟩
          · rw [w4]
            have : ∀ us : List Nat, ∀ {σ : L2.St}, (∀ v ∈ us, v ∈ vs) → wipe (wipe σ vs) us = wipe σ vs := fun us => by
              induction us with
              | nil => intro σ _; rfl
              | cons u us ih =>
                intro σ hu
                show (wipe (wipe σ vs) us).set u none = wipe σ vs
                rw [ih fun v hv => hu v (List.mem_cons_of_mem _ hv)]
                have hm := hu u List.mem_cons_self
                have key : ∀ ws : List Nat, u ∈ ws → (wipe σ ws).set u none = wipe σ ws := fun ws => by
                  induction ws with
                  | nil => intro h; simp at h
                  | cons w ws ihw =>
                    intro h
                    show ((wipe σ ws).set w none).set u none = (wipe σ ws).set w none
                    by_cases e : u = w
                    · subst e; rw [List.set_set]
                    · rw [List.set_comm _ _ (Ne.symm e), ihw (by rcases List.mem_cons.mp h with z | z; exact absurd z e; exact z)]
                exact key _ hm
            exact this _ fun v hv => hv
          · refine ⟨W0, W3, s2, ρ3, rfl, st4, ?_⟩
            cases hcd : c ρ3 s2 with
            | ok b s5 =>
              rw [hcd] at hrest
              simp only [Res.bind] at hrest
              intro b' W5 x5 B5 e5
              cases (show b' = b from e5)
              have st5 := st4.step x5 B5
              have eD5 : W5.H D = some (.lst vs') := x5.keep D _ eD3 tD3
              have gD5 : W5.G D = none := (x5.out D (by rw [eD3]; exact fun z => nomatch z)).trans gD3
              have tD5 : D ∉ W5.τ := fun m => by have := x5.tnew D m tD3; rw [eD3] at this; cases this
              have x15 := x13.trans B3 x5
              have rv5 := RepAll.ext x5 (RepAll.ext x3 rv)
              cases b with
              | true =>
                simp only [if_true] at hrest ⊢
                refine ⟨W0, W5, s5, ρ3, rfl, st5, ?_⟩
                cases hfd : f ρ3 s5 with
                | ok y s6 =>
                  rw [hfd] at hrest
                  simp only at hrest
                  intro v W6 x6 B6 r6
                  have eD6 : W6.H D = some (.lst vs') := x6.keep D _ eD5 tD5
                  have gD6 : W6.G D = none := (x6.out D (by rw [eD5]; exact fun z => nomatch z)).trans gD5
                  have tD6 : D ∉ W6.τ := fun m => by have := x6.tnew D m tD5; rw [eD5] at this; cases this
                  have x16 := x15.trans B5 x6
                  have rv6 := RepAll.ext x6 rv5
                  refine ⟨vs', eD6, ?_, ?_⟩
                  · rw [rv6.length, sizeLine_eq]; omega
                  · cases hrr : compN g c f (wipeD ρ vs) (ds.drop (i + 1)) s6 with
                    | ok zs s7 =>
                      rw [hrr] at hrest
                      simp only at hrest
                      cases hrest
                      have q : SSt K mg W1 W6 s6 [some (.ref D)] [.own acc] := by
                        refine ⟨x16, B6, rfl, fun k p q e1 e2 => ?_, fun k l a y z ne e1 e2 _ _ _ _ => ?_⟩
                        · cases k with
                          | zero =>
                            have h1 : some (V.ref D) = p := by simpa using e1
                            have h2 : Sl.own acc = q := by simpa using e2
                            subst h1 h2
                            exact .own ⟨hD, gD6, tD6⟩ eD6 rv6
                          | succ k => simp at e1
                        · cases k with
                          | zero => cases l with
                            | zero => exact ne rfl
                            | succ l => simp at e2
                          | succ k => simp at e1
                      have q2 := q.newC (i := 0) (a := D) rfl rfl ⟨hD, gD6, tD6⟩ eD6 (rv6.snoc r6)
                      exact ⟨_, s6, acc ++ [y], zs, vs' ++ [v], rfl, q2.ext, q2.base, upd_same, gD6, tD6, rv6.snoc r6, by rw [List.length_append]; simp; omega, hrr, by rw [hys]; simp⟩
                    | exc _ _ => rw [hrr] at hrest; cases hrest
                    | bad => rw [hrr] at hrest; cases hrest
                | exc _ _ => rw [hfd] at hrest; cases hrest
                | bad => rw [hfd] at hrest; cases hrest
              | false =>
                simp only [Bool.false_eq_true, if_false] at hrest ⊢
                exact ⟨W5, s5, acc, rest, vs', rfl, x15, B5, eD5, gD5, tD5, rv5, by omega, hrest, hys⟩
            | exc _ _ => rw [hcd] at hrest; cases hrest
            | bad => rw [hcd] at hrest; cases hrest
      · rintro H2 ⟨W2, s2, acc, rest, vs', rfl, x12, B2, eD, gD, tD, rv, ha, hrest, hys⟩
        rw [List.drop_length] at hrest
        unfold compN at hrest
        cases hrest
        rw [List.append_nil] at hys
        subst hys
        have hWD : W.H D = none := old_none x1 st1.base hD
        exact z1 (.ref D) W2 x12 B2 ⟨D, vs', _, rfl, rfl, hWD, gD, tD, eD, rv⟩
    | exc _ _ => rw [hcmp] at z1; exact z1.elim
    | bad => rw [hcmp] at z1; exact z1.elim
  · exact z1.elim
theorem f_comp {scope : Scope} {pos : Pos} (own : List (Str × Nat)) (hc : X.calm = true) (hN : X.N.Nodup) (hi : PI X tg iter (tI X.K X.mg E fi)) (ok : BlkOk X.N X.env.scope scope own)
    (hg : ∀ (s : Shared) (H : Hp) (C : Addr) (cl : List (Str × Addr)) (fp : List Addr), PG (X.blk s H scope (compEnvC scope cl C X.env) fp) tg (PG' X.K X.mg (own.map (·.2)) g))
    (ht : ∀ (s : Shared) (H : Hp) (C : Addr) (cl : List (Str × Addr)) (fp : List Addr), PTs (X.blk s H scope (compEnvC scope cl C X.env) fp) ifs (tT X.K X.mg E0x c))
    (he : ∀ (s : Shared) (H : Hp) (C : Addr) (cl : List (Str × Addr)) (fp : List Addr), PE (X.blk s H scope (compEnvC scope cl C X.env) fp) elt (tE X.K X.mg E0x f)) (hs : ∀ x, foldedSetIterable iter X.env x = pure x := by intro _; rfl) :
    PE X (.ListComp elt [⟨tg, iter, ifs, 0⟩] scope pos) (tF X.K X.mg E (eComp (own.map (·.2)) fi g c f)) := PE.mono (pe_lc hc hN hi ok hg ht he hs) (r_comp _)
end
end DL
namespace DL
open PySem PySem.Spec PyProof.Rows L2
variable [LT : LawT] [TC : TellC]
/-! ### sources of loops -/
section
variable {K : PySem.W.Frag} {mg : Str → Option Value} {W1 : Hw}
theorem its_list {a : Addr} {xs : List V} {ds : List D} (h : SqL K W1.G a xs) (r : RepAll K mg W1.G W1.τ xs ds) : ∃ G Y, Its K mg W1 (Itl K a) ds G Y := by
  refine ⟨_, _, by rw [← r.length]; exact walk_list, fun W2 s2 g B => B.sub.seq (g.seq h), fun i W2 s2 x H' g t B hi hy => ?_⟩
  obtain ⟨rfl, hx⟩ := hy
  obtain ⟨d, hd, rd⟩ := (r.mono g t).get hx
  exact ⟨W2, d, rfl, hd, Ext.refl _, B, rd⟩
theorem its_tup {a : Addr} {xs : List V} {ds : List D} (h : SqT K W1.G a xs) (r : RepAll K mg W1.G W1.τ xs ds) : ∃ G Y, Its K mg W1 (Itt K a) ds G Y := by
  refine ⟨_, _, by rw [← r.length]; exact walk_tup, fun W2 s2 g B => seqT B.sub (seqT g h), fun i W2 s2 x H' g t B hi hy => ?_⟩
  obtain ⟨rfl, hx⟩ := hy
  obtain ⟨d, hd, rd⟩ := (r.mono g t).get hx
  exact ⟨W2, d, rfl, hd, Ext.refl _, B, rd⟩
/-- numbers lo, lo + c, .. -/
def rngD (lo c : Int) (n : Nat) : List D := (List.range n).map fun (i : Nat) => .int (lo + (i : Int) * c)
theorem rngD_len (lo c : Int) (n : Nat) : (rngD lo c n).length = n := by simp [rngD]
theorem rngD_get {lo c : Int} {n i : Nat} (h : i < n) : (rngD lo c n)[i]? = some (.int (lo + (i : Int) * c)) := by simp [rngD, h]
theorem its_rng {lo : Int} {n : Nat} : ∃ G Y, Its K mg W1 (Itr lo n) (rngD lo 1 n) G Y := by
  refine ⟨_, _, by rw [rngD_len]; exact walk_range, fun W2 s2 g B => trivial, fun i W2 s2 x H' g t B hi hy => ?_⟩
  obtain ⟨rfl, rfl⟩ := hy
  rw [rngD_len] at hi
  exact ⟨W2, _, rfl, rngD_get hi, Ext.refl _, B, by rw [Int.mul_one]; exact .int _⟩
def strD (z : Str) : List D := z.cps.toList.map fun c => .str ⟨#[c]⟩
theorem its_str {z : Str} : ∃ G Y, Its K mg W1 (L2.Its z) (strD z) G Y := by
  refine ⟨_, _, by rw [show (strD z).length = z.cps.size by simp [strD]]; exact walk_str, fun W2 s2 g B => trivial, fun i W2 s2 x H' g t B hi hy => ?_⟩
  obtain ⟨rfl, c, hc, rfl⟩ := hy
  refine ⟨W2, _, rfl, ?_, Ext.refl _, B, .str _⟩
  have : z.cps.toList[i]? = some c := by rw [Array.getElem?_toList]; exact hc
  simp [strD, this]
end
def dIter : D → Option (List D)
  | .lst ds => some ds
  | .tup ds => some ds
  | .frz ds => some ds
  | .str z => some (strD z)
  | .ktp ds => some ds
  | _ => none
def iVal (f : DE) : DA := fun ρ s => (f ρ s).bind fun d s1 => Res.ofO (dIter d) s1
def iRange1 (fs : DA) : DA := fun ρ s => (fs ρ s).bind fun ds s1 => match ds with
  | [.int j] => if -(2 ^ 62) ≤ j ∧ j < 2 ^ 62 then .ok (rngD 0 1 j.toNat) s1 else .bad
  | _ => .bad
def iRange2 (fs : DA) : DA := fun ρ s => (fs ρ s).bind fun ds s1 => match ds with
  | [.int i, .int j] => if -(2 ^ 62) ≤ i ∧ i < 2 ^ 62 ∧ -(2 ^ 62) ≤ j ∧ j < 2 ^ 62 then .ok (rngD i 1 (j - i).toNat) s1 else .bad
  | _ => .bad
def iRange3 (fs : DA) : DA := fun ρ s => (fs ρ s).bind fun ds s1 => match ds with
  | [.int i, .int j, .int c] => if c = -1 ∧ -(2 ^ 60) ≤ i ∧ i < 2 ^ 60 ∧ -(2 ^ 60) ≤ j ∧ j < 2 ^ 60 then .ok (rngD i c (i - j).toNat) s1 else .bad
  | _ => .bad
section
variable {X : Cx} {E : WX} {tg e a b c : Expr} {f : DE} {fs : DA} {pos p : Pos}
theorem i_val (he : PE X e (tE X.K X.mg E f)) : PI X tg e (tI X.K X.mg E (iVal f)) :=
  PI.mono (PI.or (pi_list he) (PI.or (pi_tup he) (pi_str he))) fun σ H R z => by
    obtain ⟨W0, W, s, ρ, rfl, st, z⟩ := z
    unfold iVal at z
    cases hf : f ρ s with
    | bad => rw [hf] at z; exact z.elim
    | exc c s1 => exact .inl ⟨W0, W, s, ρ, rfl, st, by rw [hf] at z ⊢; exact z⟩
    | ok d s1 =>
      have z' := z
      rw [hf] at z'
      simp only [Res.bind] at z'
      cases d with
      | lst ds =>
        refine .inl ⟨W0, W, s, ρ, rfl, st, ?_⟩
        rw [hf]
        intro x W1 x1 B1 r1
        obtain ⟨a, xs, rfl, h1, rr⟩ := r1.lst_inv
        exact ⟨a, rfl, ⟨xs, .of (B1.sub _ _ h1)⟩, z' (Itl X.K a) W1 x1 B1 (its_list (.of h1) rr)⟩
      | frz ds =>
        refine .inl ⟨W0, W, s, ρ, rfl, st, ?_⟩
        rw [hf]
        intro x W1 x1 B1 r1
        obtain ⟨a, xs, rfl, h1, rr⟩ := r1.frz_inv
        exact ⟨a, rfl, ⟨xs, B1.sub.seq h1⟩, z' (Itl X.K a) W1 x1 B1 (its_list h1 rr)⟩
      | tup ds =>
        refine .inr (.inl ⟨W0, W, s, ρ, rfl, st, ?_⟩)
        rw [hf]
        intro x W1 x1 B1 r1
        obtain ⟨a, xs, rfl, h1, rr⟩ := r1.tup_inv
        exact ⟨a, rfl, ⟨xs, seqT B1.sub h1⟩, z' (Itt X.K a) W1 x1 B1 (its_tup h1 rr)⟩
      | ktp ds =>
        refine .inr (.inl ⟨W0, W, s, ρ, rfl, st, ?_⟩)
        rw [hf]
        intro x W1 x1 B1 r1
        obtain ⟨a, xs, rfl, h1, rr⟩ := r1.ktp_inv
        exact ⟨a, rfl, ⟨xs, seqT B1.sub h1⟩, z' (Itt X.K a) W1 x1 B1 (its_tup h1 rr)⟩
      | str y =>
        refine .inr (.inr ⟨W0, W, s, ρ, rfl, st, ?_⟩)
        rw [hf]
        intro x W1 x1 B1 r1
        cases r1.str_inv
        exact ⟨y, rfl, z' (L2.Its y) W1 x1 B1 its_str⟩
      | _ => exact z'.elim
theorem i_range1 (hm : X.mg "range" = none) (ha : PA X [a] (tA X.K X.mg E fs)) (hg : Gl X "range" := by rfl) (hs : starEach [a] X.env = [(false, eval a X.env)] := by rfl) :
    PI X tg (.Call (.Name "range" p) [a] [] pos) (tI X.K X.mg E (iRange1 fs)) := PI.mono (pi_range1 hg hm ha hs) fun σ H R z => by
  obtain ⟨W0, W, s, ρ, rfl, st, z⟩ := z
  refine (go st z).imp fun x H1 ⟨W1, s1, ds, e1, r1, x1, st1, z1⟩ => ?_
  subst e1
  split at z1
  · split at z1
    · rename_i hj
      obtain ⟨v, rfl, rv⟩ := r1.one_inv
      cases rv.int_inv
      exact ⟨_, rfl, hj.1, hj.2, z1 _ W1 (Ext.refl _) st1.base its_rng⟩
    · exact z1.elim
  · exact z1.elim
end
end DL
namespace DL
open PySem PySem.Spec PyProof.Rows L2
section LTS
variable [LT : LawT] [TC : TellC]
/-! ### a def's promise where no guard is up -/
structure FnG (P : Program) (w : World) (K : PySem.W.Frag) (mg : Str → Option Value) (base : Heap) (k : Nat) (f : Addr) (fd : FuncData) (ps : List Str) (sp : Sp) : Prop where
  len : ∀ vs H Q E, sp vs H Q E → vs.length = ps.length
  run : ∀ (A : Around) (outer : List Env) (s : Shared) (H : Hp) (args : Args) (us : List Value) (vs : List V) (Q : VK) (E : XK),
    Room k A → A.guards = some [] → Env0 P w K mg base A outer s H → BindsTo s fd args (ps.zip us) → Vals vs us → sp vs H Q E →
    codeAny (model P w) A (.call (.ref f) args) (CR (L2.CX P w) outer P w H s Q E) s
theorem guards_deeper {A : Around} {env : Env} (h : A.guards = some []) : (A.deeper env).guards = some [] := by
  first
    | exact h
    | (simp [Around.deeper, h])
    | (show (pushGuards _ _) = _; simp [pushGuards_eq, h])
section
variable {P : Program} {w : World} {K : PySem.W.Frag} {mg : Str → Option Value} {base : Heap}
theorem FnG.okC {x qual : Str} {st : Stmt} {f : Addr} {fd : FuncData} {N ps : List Str} {k : Nat} {sp : Sp} (F : Fun K x qual st f fd) (S : FnScope N ps (defScope st)) (len : ∀ vs H Q E, sp vs H Q E → vs.length = ps.length)
    (body : ∀ (cdv : Value) (A : Around) (outer : List Env) (s : Shared) (H : Hp) (vs : List V) (Q : VK) (E : XK), fd.code = cdv → Room k (A.deeper (envOfC qual (defScope st) s.heap.objs.size f cdv)) → (A.deeper (envOfC qual (defScope st) s.heap.objs.size f cdv)).guards = some [] → sp vs H Q E →
      ∃ t, PSs (cxOf (L2.CX P w) P w K mg base N qual (defScope st) f cdv A outer s H E) (defBody st) t ∧ t { nx := fun _ H' => Q .non H', rt := Q } (L2.start N vs) H) : FnG P w K mg base (k + 1) f fd ps sp := by
  obtain ⟨oc, od, kV, doc, pm, an, cdv, ct, osl, rfl, lk, hcd⟩ := F.ex
  refine ⟨len, fun A outer s H args us vs Q E hr hgd e0 hb r hsp => ?_⟩
  have old := fun b o e => (e0.bs b o e).1
  have inK : K.In s.heap := e0.mod.kin.keeps old
  have noLim : s.heap.NoLimit := e0.mod.nolimit.keeps old
  have kinds : ∀ y ∈ ps.zip us, (defScope st).names.lookup y.1 = some .local ∨ ((defScope st).names.lookup y.1 = some .cell ∧ ((cellsFrom (s.heap.objs.size + 1) (defScope st).names []).lookup y.1).isSome = true) := by
    rintro ⟨n, v⟩ hy
    rcases S.par n (List.of_mem_zip hy).1 with q | q
    · exact .inl q
    · exact .inr ⟨q, PySem.W.cellsFrom_some _ _ _ (.inl q)⟩
  refine codeAny_call_function hr.depth (inK _ _ lk) rfl S.co S.gen rfl (PySem.W.codeRec_of inK hcd) (hb _ _ _ _ ?_)
  refine wpAny_newFunctionEnv_cells S.kind kinds fun env he s1 x => ?_
  subst he
  refine ⟨noLim.keeps x.toInCall.keep, codeAny_func ?_⟩
  obtain ⟨t, ht, hq⟩ := body cdv A outer s H vs Q E rfl (hr.deeper _) (guards_deeper hgd) hsp
  have I : Inv (cxOf (L2.CX P w) P w K mg base N qual (defScope st) f cdv A outer s H E) [] (L2.start N vs) H s1 := inv_start S hr.hd e0 (len _ _ _ _ hsp) r x
  refine wpAny_mono (ht.run [] s1 (L2.start N vs) H _ I hq) (fun fl s' hs => ?_) (fun e s' hs => hs)
  cases fl with
  | ret u =>
    obtain ⟨v, σ', H', J, rv, q⟩ := hs
    exact ⟨v, H', J.os, J.bare, J.base, J.hok, rv, q⟩
  | next =>
    obtain ⟨σ', H', J, q⟩ := hs
    exact ⟨V.non, H', J.os, J.bare, J.base, J.hok, rfl, q⟩
  | brk =>
    obtain ⟨_, _, _, q⟩ := hs
    exact q.elim
  | cont =>
    obtain ⟨_, _, _, q⟩ := hs
    exact q.elim
theorem FnG.ok {x qual : Str} {st : Stmt} {f : Addr} {fd : FuncData} {N ps : List Str} {k : Nat} {sp : Sp} (F : Fun K x qual st f fd) (S : FnScope N ps (defScope st)) (len : ∀ vs H Q E, sp vs H Q E → vs.length = ps.length)
    (body : ∀ (cdv : Value) (A : Around) (outer : List Env) (s : Shared) (H : Hp) (vs : List V) (Q : VK) (E : XK), Room k (A.deeper (envOfC qual (defScope st) s.heap.objs.size f cdv)) → (A.deeper (envOfC qual (defScope st) s.heap.objs.size f cdv)).guards = some [] → sp vs H Q E →
      ∃ t, PSs (cxOf (L2.CX P w) P w K mg base N qual (defScope st) f cdv A outer s H E) (defBody st) t ∧ t { nx := fun _ H' => Q .non H', rt := Q } (L2.start N vs) H) : FnG P w K mg base (k + 1) f fd ps sp := FnG.okC F S len fun cdv A outer s H vs Q E _ => body cdv A outer s H vs Q E
end
section
variable {X : Cx} {pins : List (Addr × Obj)} {σ : L2.St} {H : Hp} {s : Shared} {k : Nat} {f : Addr} {fd : FuncData} {ps : List Str} {sp : Sp} {E : XK} {Q : VK}
theorem run_fnG {us : List Value} {vs : List V} (F : FnG X.prog X.w X.K X.mg X.base k f fd ps sp) (hr : Room k X.A) (hg : X.A.guards = some []) (hb : Binds X.K fd ps []) (hx : PassesAt (L2.CX X.prog X.w) X σ E)
    (I : Inv X pins σ H s) (r : Vals vs us) (h : sp vs H Q E) : wpAny (model X.prog X.w) X.A (call (.ref f) us) (EP X pins σ Q) X.xe s := by
  have many : (us ++ []).length = ps.length := by
    rw [List.append_nil, ← r.length]
    exact F.len _ _ _ _ h
  have bd := hb s us I.kIn many
  rw [List.append_nil] at bd
  refine wpAny_call (codeAny_mono (F.run X.A X.stack s H ⟨us, []⟩ us vs Q E hr hg I.env0 bd r h) ?_)
  intro res s' hq
  match res, hq with
  | .error e, hq => exact hx pins H s e s' I hq
  | .ok (.ret u), hq => exact I.after hq
  | .ok .next, hq => exact False.elim hq
  | .ok .brk, hq => exact False.elim hq
  | .ok .cont, hq => exact False.elim hq
end
/-! ### a def by its denotation -/
abbrev DFun := List D → S → Res D
def spD (K : PySem.W.Frag) (mg : Str → Option Value) (F : DFun) (fr : Fr) (n : Nat) : Sp := fun vs H Q E =>
  vs.length = n ∧ ∃ (W : Hw) (s : S) (ds : List D), W.H = H ∧ Base K mg W s ∧ RepAll K mg W.G W.τ vs ds ∧ Post K mg (relR K mg fr W) E (F ds s) W Q
/-- the def x of n parameters does what F says; fr: it hands out a new list -/
structure DFn (P : Program) (w : World) (K : PySem.W.Frag) (mg : Str → Option Value) (base : Heap) (k : Nat) (x : Str) (n : Nat) (F : DFun) (fr : Fr) : Prop where
  ex : ∃ f fd ps, mg x = some (.ref f) ∧ PySem.W.keepIn K (.ref f) = true ∧ Binds K fd ps [] ∧ FnG P w K mg base k f fd ps (spD K mg F fr n)
  ar : ∀ ds s, ds.length ≠ n → F ds s = .bad
/-- a body's denotation as a def's -/
def defD (N n : Nat) (g : DS) : DFun := fun ds s => if ds.length = n then (match g (ds.map .dat ++ List.replicate (N - n) .emp) s with
  | .ret d s1 => .ok d s1
  | .next _ s1 => .ok .non s1
  | .exc c s1 => .exc c s1
  | _ => .bad) else .bad
theorem start_ok {K : PySem.W.Frag} {mg : Str → Option Value} {W : Hw} {s : S} {N : List Str} {n : Nat} {vs : List V} {ds : List D} (B : Base K mg W s) (r : RepAll K mg W.G W.τ vs ds) (hl : ds.length = n) (hn : n ≤ N.length) :
    SSt K mg W W s (L2.start N vs) (ds.map .dat ++ List.replicate (N.length - n) .emp) := by
  have l1 := r.length
  refine ⟨Ext.refl W, B, by simp [L2.start, l1, hl], fun i x y e1 e2 => ?_, fun i j a y z ne e1 e2 e3 e4 o1 o2 => ?_⟩
  · unfold L2.start at e1
    by_cases hi : i < ds.length
    · rw [List.getElem?_append_left (by simpa using hi)] at e2
      rw [List.getElem?_append_left (by simp; omega)] at e1
      rw [List.getElem?_map] at e1 e2
      cases hd : ds[i]? with
      | none => rw [hd] at e2; cases e2
      | some d =>
        obtain ⟨v, hv, rv⟩ := r.getD hd
        rw [hd] at e2
        rw [hv] at e1
        cases e1; cases e2
        exact .dat rv
    · rw [List.getElem?_append_right (by simp; omega)] at e2
      rw [List.getElem?_replicate] at e2
      split at e2
      · cases e2; exact .emp
      · cases e2
  · have : y.isOwn = false := by
      by_cases hi : i < ds.length
      · rw [List.getElem?_append_left (by simpa using hi), List.getElem?_map] at e3
        cases hd : ds[i]? with
        | none => rw [hd] at e3; cases e3
        | some d => rw [hd] at e3; cases e3; rfl
      · rw [List.getElem?_append_right (by simp; omega), List.getElem?_replicate] at e3
        split at e3
        · cases e3; rfl
        · cases e3
    rw [this] at o1
    exact Bool.noConfusion o1
section
variable {P : Program} {w : World} {K : PySem.W.Frag} {mg : Str → Option Value} {base : Heap}
/-- THE RULE for a def, its code told -/
theorem fnG_mkC {x' qual : Str} {st : Stmt} {f : Addr} {fd : FuncData} {N ps : List Str} {k n : Nat} {g : DS} {fr : Fr} (F : Fun K x' qual st f fd) (S : FnScope N ps (defScope st)) (hn : ps.length = n)
    (body : ∀ (X : Cx) (E : XK), X.K = K → X.mg = mg → (∃ (cdv : Value) (A : Around) (outer : List Env) (s : Shared) (H : Hp), X = cxOf (L2.CX P w) P w K mg base N qual (defScope st) f cdv A outer s H E) → X.env.code = fd.code → Room k X.A → X.A.guards = some [] →
      QSs X (fun u d _ H' => E u d H') fr (defBody st) g) (hng : fr.own = true → ∀ ρ s ρ' s', g ρ s ≠ .next ρ' s') :
    FnG P w K mg base (k + 1) f fd ps (spD K mg (defD N.length n g) fr n) := by
  refine FnG.okC F S (fun vs H Q E h => h.1.trans hn.symm) fun cdv A outer s H vs Q E hc hr hgd h => ⟨_, body _ E rfl rfl ⟨cdv, A, outer, s, H, rfl⟩ hc.symm hr hgd, ?_⟩
  obtain ⟨hl, W, s0, ds, rfl, B, r, p⟩ := h
  have hnN : n ≤ N.length := by
    have := congrArg List.length S.pre
    rw [List.length_take] at this
    omega
  have hd : ds.length = n := r.length.symm.trans hl
  refine ⟨W, W, s0, _, rfl, start_ok B r hd hnN, ?_⟩
  unfold defD at p
  rw [if_pos hd] at p
  cases hg : g (ds.map .dat ++ List.replicate (N.length - n) .emp) s0 with
  | ret d s1 => rw [hg] at p; exact fun v W1 e B1 rv => p v W1 e B1 rv
  | next ρ1 s1 =>
    rw [hg] at p
    intro σ1 W1 st1
    cases fr with
    | no => exact p .non W1 st1.ext st1.base .non
    | yes => exact absurd hg (hng rfl _ _ _ _)
    | pl => exact absurd hg (hng rfl _ _ _ _)
    | pd => exact absurd hg (hng rfl _ _ _ _)
  | exc c s1 => rw [hg] at p; exact fun σ1 W1 u e B1 hu => p W1 u e B1 hu
  | brk ρ1 s1 => rw [hg] at p; exact p.elim
  | cont ρ1 s1 => rw [hg] at p; exact p.elim
  | bad => rw [hg] at p; exact p.elim
/-- THE RULE for a def -/
theorem fnG_mk {x' qual : Str} {st : Stmt} {f : Addr} {fd : FuncData} {N ps : List Str} {k n : Nat} {g : DS} {fr : Fr} (F : Fun K x' qual st f fd) (S : FnScope N ps (defScope st)) (hn : ps.length = n)
    (body : ∀ (X : Cx) (E : XK), X.K = K → X.mg = mg → (∃ (cdv : Value) (A : Around) (outer : List Env) (s : Shared) (H : Hp), X = cxOf (L2.CX P w) P w K mg base N qual (defScope st) f cdv A outer s H E) → Room k X.A → X.A.guards = some [] →
      QSs X (fun u d _ H' => E u d H') fr (defBody st) g) (hng : fr.own = true → ∀ ρ s ρ' s', g ρ s ≠ .next ρ' s') :
    FnG P w K mg base (k + 1) f fd ps (spD K mg (defD N.length n g) fr n) := fnG_mkC F S hn (fun X E h1 h2 h3 _ => body X E h1 h2 h3) hng
theorem DFn.mk' {x x' qual : Str} {st : Stmt} {f : Addr} {fd : FuncData} {N ps : List Str} {k n : Nat} {g : DS} {fr : Fr} (F : Fun K x' qual st f fd) (S : FnScope N ps (defScope st)) (gx : mg x = some (.ref f)) (hb : Binds K fd ps []) (hn : ps.length = n)
    (body : ∀ (X : Cx) (E : XK), X.K = K → X.mg = mg → (∃ (cdv : Value) (A : Around) (outer : List Env) (s : Shared) (H : Hp), X = cxOf (L2.CX P w) P w K mg base N qual (defScope st) f cdv A outer s H E) → Room k X.A → X.A.guards = some [] →
      QSs X (fun u d _ H' => E u d H') fr (defBody st) g) (hng : fr.own = true → ∀ ρ s ρ' s', g ρ s ≠ .next ρ' s') :
    DFn P w K mg base (k + 1) x n (defD N.length n g) fr := ⟨⟨f, fd, ps, gx, F.kp, hb, fnG_mk F S hn body hng⟩, fun ds s h => if_neg h⟩
theorem DFn.mkC {x x' qual : Str} {st : Stmt} {f : Addr} {fd : FuncData} {N ps : List Str} {k n : Nat} {g : DS} {fr : Fr} (F : Fun K x' qual st f fd) (S : FnScope N ps (defScope st)) (gx : mg x = some (.ref f)) (hb : Binds K fd ps []) (hn : ps.length = n)
    (body : ∀ (X : Cx) (E : XK), X.K = K → X.mg = mg → (∃ (cdv : Value) (A : Around) (outer : List Env) (s : Shared) (H : Hp), X = cxOf (L2.CX P w) P w K mg base N qual (defScope st) f cdv A outer s H E) → X.env.code = fd.code → Room k X.A → X.A.guards = some [] →
      QSs X (fun u d _ H' => E u d H') fr (defBody st) g) (hng : fr.own = true → ∀ ρ s ρ' s', g ρ s ≠ .next ρ' s') :
    DFn P w K mg base (k + 1) x n (defD N.length n g) fr := ⟨⟨f, fd, ps, gx, F.kp, hb, fnG_mkC F S hn body hng⟩, fun ds s h => if_neg h⟩
theorem DFn.mono {k k' n : Nat} {x : Str} {F : DFun} {fr : Fr} (h : DFn P w K mg base k x n F fr) (hk : k ≤ k') : DFn P w K mg base k' x n F fr := by
  obtain ⟨⟨f, fd, ps, h1, h2, h3, h4⟩, ar⟩ := h
  exact ⟨⟨f, fd, ps, h1, h2, h3, h4.len, fun A outer s H args us vs Q E hr => h4.run A outer s H args us vs Q E (hr.mono hk)⟩, ar⟩
end
def eCall (F : DFun) (fs : DA) : DE := fun ρ s => (fs ρ s).bind F
section
variable {X : Cx} {E : WX} {k n : Nat} {x : Str} {F : DFun} {e : Expr} {es : List Expr} {fs : DA} {p pos : Pos} {fr : Fr}
theorem call_any {rel : Hw → Hw → V → D → Prop} (D' : DFn X.prog X.w X.K X.mg X.base k x n F fr) (hr : Room k X.A) (hgd : X.A.guards = some []) (tk : Takes X E) (ha : PA X (e :: es) (tA X.K X.mg E fs))
    (hrel : ∀ (W W1 W2 : Hw) (s1 : S) (v : V) (d : D), Ext W W1 → Base X.K X.mg W1 s1 → relR X.K X.mg fr W1 W2 v d → rel W W2 v d)
    (hg : Gl X x) (hdb : (x == ("__debug__" : Str)) = false) (he : starEach (e :: es) X.env = (false, eval e X.env) :: starEach es X.env) (hpl : (backTo pos (starEach es X.env)).any (·.1) = false) :
    PE X (.Call (.Name x p) (e :: es) [] pos) (tX X.K X.mg rel E (eCall F fs)) := by
  obtain ⟨⟨f, fd, ps, gx, kp, hb, FG⟩, ar⟩ := D'
  refine ⟨fun pins s σ H Q I h => ?_⟩
  obtain ⟨W0, W, s0, ρ, rfl, st, z⟩ := h
  refine wpAny_Call_Name_kw (ld_glob I hg gx ?_ hdb)
  refine PySem.W.callWith_K (h₀ := X.base) I.ok.mod.kin kp (thn (ha.run pos pins s σ W.H _ I (go st z)) ?_) he hpl
  rintro us s2 ⟨vs, H1, I1, r, W1, s1, ds, e1, r1, x1, st1, z1⟩
  subst e1
  refine ⟨I1.kIn, run_fnG FG hr hgd hb (passAt tk σ) I1 r ?_⟩
  have hl : vs.length = n := by
    rw [r1.length]
    by_cases hd : ds.length = n
    · exact hd
    · rw [ar ds s1 hd] at z1; exact z1.elim
  refine ⟨hl, W1, s1, ds, rfl, st1.base, r1, ?_⟩
  cases hF : F ds s1 with
  | ok d s3 => rw [hF] at z1; exact fun v W2 e2 B2 q => z1 v W2 e2 B2 (hrel _ _ _ _ v d x1 st1.base q)
  | exc c s3 => rw [hF] at z1; exact z1
  | bad => rw [hF] at z1; exact z1.elim
theorem e_call (D' : DFn X.prog X.w X.K X.mg X.base k x n F false) (hr : Room k X.A) (hgd : X.A.guards = some []) (tk : Takes X E) (ha : PA X (e :: es) (tA X.K X.mg E fs))
    (hg : Gl X x := by rfl) (hdb : (x == ("__debug__" : Str)) = false := by decide) (he : starEach (e :: es) X.env = (false, eval e X.env) :: starEach es X.env := by rfl) (hpl : (backTo pos (starEach es X.env)).any (·.1) = false := by rfl) :
    PE X (.Call (.Name x p) (e :: es) [] pos) (tE X.K X.mg E (eCall F fs)) := call_any D' hr hgd tk ha (fun _ _ _ _ _ _ _ _ h => h) hg hdb he hpl
theorem f_call (D' : DFn X.prog X.w X.K X.mg X.base k x n F true) (hr : Room k X.A) (hgd : X.A.guards = some []) (tk : Takes X E) (ha : PA X (e :: es) (tA X.K X.mg E fs))
    (hg : Gl X x := by rfl) (hdb : (x == ("__debug__" : Str)) = false := by decide) (he : starEach (e :: es) X.env = (false, eval e X.env) :: starEach es X.env := by rfl) (hpl : (backTo pos (starEach es X.env)).any (·.1) = false := by rfl) :
    PE X (.Call (.Name x p) (e :: es) [] pos) (tF X.K X.mg E (eCall F fs)) := call_any D' hr hgd tk ha (fun _ _ _ _ _ _ e B h => h.mono e B) hg hdb he hpl
end
/-! ### the law -/
/-- the law's own claim in plain words -/
def LawOk (F : DFun) : Prop := ∀ ns : List Int, ns.length ≤ 63 → ∃ s, F [.frz (ns.map .int)] [] = .ok (.bl true) s
theorem ints_rep {K : PySem.W.Frag} {mg : Str → Option Value} {G : Hp} {τ : List Addr} : ∀ ns : List Int, RepAll K mg G τ (ns.map V.int) (ns.map D.int)
  | [] => .nil
  | n :: ns => .cons (.int n) (ints_rep ns)
end LTS
/-- no tables -/
instance lawT0 : LawT := ⟨[]⟩
end DL
namespace DL
open PySem PySem.Spec PyProof.Rows L2
variable [LT : LawT] [TC : TellC]
/-! ### built-ins, by value -/
def intsOf : List D → Option (List Int)
  | [] => some []
  | .int i :: r => (intsOf r).map (i :: ·)
  | _ => none
def blsOf : List D → Option (List Bool)
  | [] => some []
  | .bl i :: r => (blsOf r).map (i :: ·)
  | _ => none
section
variable {K : PySem.W.Frag} {mg : Str → Option Value} {G : Hp} {τ : List Addr}
theorem ints_inv : ∀ {ds : List D} {vs : List V} {ns : List Int}, intsOf ds = some ns → RepAll K mg G τ vs ds → vs = ns.map V.int
  | [], _, _, h, r => by
    cases h
    rw [r.nil_inv]
    rfl
  | d :: ds, _, _, h, r => by
    obtain ⟨v, us, rfl, rv, ru⟩ := r.cons_inv
    cases d with
    | int i =>
      simp only [intsOf, Option.map_eq_some_iff] at h
      obtain ⟨ns, h, rfl⟩ := h
      rw [ints_inv h ru, rv.int_inv]
      rfl
    | _ => cases h
theorem bls_inv : ∀ {ds : List D} {vs : List V} {ns : List Bool}, blsOf ds = some ns → RepAll K mg G τ vs ds → vs = ns.map V.bl
  | [], _, _, h, r => by
    cases h
    rw [r.nil_inv]
    rfl
  | d :: ds, _, _, h, r => by
    obtain ⟨v, us, rfl, rv, ru⟩ := r.cons_inv
    cases d with
    | bl i =>
      simp only [blsOf, Option.map_eq_some_iff] at h
      obtain ⟨ns, h, rfl⟩ := h
      rw [bls_inv h ru, rv.bl_inv]
      rfl
    | _ => cases h
theorem Rep.seqL {v : V} {ds : List D} {H : Hp} (hs : Same G H) {d : D} (h : Rep K mg G τ v d) (e : d = .lst ds ∨ d = .frz ds) : ∃ a xs, v = .ref a ∧ SqL K H a xs ∧ RepAll K mg G τ xs ds := by
  rcases e with rfl | rfl
  · obtain ⟨a, xs, rfl, h1, r⟩ := h.lst_inv
    exact ⟨a, xs, rfl, .of (hs _ _ h1), r⟩
  · obtain ⟨a, xs, rfl, h1, r⟩ := h.frz_inv
    exact ⟨a, xs, rfl, hs.seq h1, r⟩
theorem Rep.dct_inv {v : V} {kvs : List (D × D)} (h : Rep K mg G τ v (.dct kvs)) : (∃ a ks us, v = .ref a ∧ G a = some (.dK ks) ∧ RepAll K mg G τ (ks.map (·.2)) us ∧ kvs = (ks.map fun p => kD p.1).zip us) ∨
    ∃ a ks us, v = .ref a ∧ G a = some (.dT ks) ∧ RepAll K mg G τ (ks.map (·.2)) us ∧ kvs = (ks.map fun p => kT p.1).zip us := by
  cases h with
  | dK h r => exact .inl ⟨_, _, _, rfl, h, r, rfl⟩
  | dT h r => exact .inr ⟨_, _, _, rfl, h, r, rfl⟩
end
def dLen : FN := fun ds => match ds with
  | [.str x] => if x.length ≤ 16777216 then some (.int x.length) else none
  | [.tup xs] => some (.int xs.length)
  | [.lst xs] => some (.int xs.length)
  | [.frz xs] => some (.int xs.length)
  | [.ktp xs] => some (.int xs.length)
  | [.dct kvs] => some (.int kvs.length)
  | _ => none
def dAbs : FN := fun ds => match ds with
  | [.int i] => some (.int (if i < 0 then -i else i))
  | _ => none
def dSum : FN := fun ds => match ds with
  | [.lst xs] => (intsOf xs).map fun ns => .int ns.sum
  | _ => none
def dAny : FN := fun ds => match ds with
  | [.lst xs] => (blsOf xs).map fun ns => .bl (ns.any id)
  | _ => none
def dAll : FN := fun ds => match ds with
  | [.lst xs] => (blsOf xs).map fun ns => .bl (ns.all id)
  | _ => none
def maxI : Int → List Int → Int
  | a, [] => a
  | a, b :: r => maxI (if a < b then b else a) r
def minI : Int → List Int → Int
  | a, [] => a
  | a, b :: r => minI (if b < a then b else a) r
theorem maxI_spec : ∀ (l : List Int) (a : Int), maxI a l ∈ a :: l ∧ ∀ y ∈ a :: l, y ≤ maxI a l
  | [], a => ⟨List.mem_cons_self, fun y hy => by
    rcases List.mem_cons.mp hy with e | h
    · subst e; exact Int.le_refl _
    · simp at h⟩
  | b :: r, a => by
    obtain ⟨h1, h2⟩ := maxI_spec r (if a < b then b else a)
    unfold maxI
    refine ⟨?_, fun y hy => ?_⟩
    · rcases List.mem_cons.mp h1 with e | h
      · rw [e]
        split
        · exact List.mem_cons_of_mem _ List.mem_cons_self
        · exact List.mem_cons_self
      · exact List.mem_cons_of_mem _ (List.mem_cons_of_mem _ h)
    · have h3 := h2 _ List.mem_cons_self
      rcases List.mem_cons.mp hy with e | h
      · subst e
        refine Int.le_trans ?_ h3
        split <;> omega
      · rcases List.mem_cons.mp h with e | h
        · subst e
          refine Int.le_trans ?_ h3
          split <;> omega
        · exact h2 _ (List.mem_cons_of_mem _ h)
theorem minI_spec : ∀ (l : List Int) (a : Int), minI a l ∈ a :: l ∧ ∀ y ∈ a :: l, minI a l ≤ y
  | [], a => ⟨List.mem_cons_self, fun y hy => by
    rcases List.mem_cons.mp hy with e | h
    · subst e; exact Int.le_refl _
    · simp at h⟩
  | b :: r, a => by
    obtain ⟨h1, h2⟩ := minI_spec r (if b < a then b else a)
    unfold minI
    refine ⟨?_, fun y hy => ?_⟩
    · rcases List.mem_cons.mp h1 with e | h
      · rw [e]
        split
        · exact List.mem_cons_of_mem _ List.mem_cons_self
        · exact List.mem_cons_self
      · exact List.mem_cons_of_mem _ (List.mem_cons_of_mem _ h)
    · have h3 := h2 _ List.mem_cons_self
      rcases List.mem_cons.mp hy with e | h
      · subst e
        refine Int.le_trans h3 ?_
        split <;> omega
      · rcases List.mem_cons.mp h with e | h
        · subst e
          refine Int.le_trans h3 ?_
          split <;> omega
        · exact h2 _ (List.mem_cons_of_mem _ h)
def dMax : FN := fun ds => match ds with
  | [.int i, .int j] => some (.int (if j > i then j else i))
  | [.lst xs] => match intsOf xs with
    | some (a :: l) => some (.int (maxI a l))
    | _ => none
  | _ => none
def dMin : FN := fun ds => match ds with
  | [.int i, .int j] => some (.int (if j < i then j else i))
  | [.lst xs] => match intsOf xs with
    | some (a :: l) => some (.int (minI a l))
    | _ => none
  | _ => none
def dInt : FN := fun ds => match ds with
  | [.int i] => some (.int i)
  | [.bl k] => some (.int (if k then 1 else 0))
  | [.str a] => if a.length ≤ 640 then (PySem.intText? a).map .int else none
  | _ => none
def dStr : FN := fun ds => match ds with
  | [.int i] => if i.natAbs.log2 < 1920 then some (.str (toString i)) else none
  | [.str a] => some (.str a)
  | _ => none
def dTupOf : FN := fun ds => match ds with
  | [.lst xs] => some (.tup xs)
  | [.frz xs] => some (.tup xs)
  | [.tup xs] => some (.tup xs)
  | _ => none
def dLstOf : FN := fun ds => match ds with
  | [.lst xs] => some (.lst xs)
  | [.frz xs] => some (.lst xs)
  | [.tup xs] => some (.lst xs)
  | _ => none
section
variable {X : Cx}
def rLenA (K : PySem.W.Frag) : List V → Hp → VK → Prop := fun xs H Q => (∃ x n, xs = [x] ∧ LenV K x H n ∧ Q (.int n) H) ∨ (∃ a kvs, xs = [V.ref a] ∧ H a = some (.dK kvs) ∧ Q (.int kvs.length) H) ∨ rLenT xs H Q
theorem c_len : CallR X (.builtin "len") (rLenA X.K) := call_len.or (call_lenD.or call_len_dT)
def rMaxA (K : PySem.W.Frag) : List V → Hp → VK → Prop := fun xs H Q => (∃ i j, xs = [.int i, .int j] ∧ Q (.int (if j > i then j else i)) H) ∨ rMax K xs H Q
def rMinA (K : PySem.W.Frag) : List V → Hp → VK → Prop := fun xs H Q => (∃ i j, xs = [.int i, .int j] ∧ Q (.int (if j < i then j else i)) H) ∨ rMin K xs H Q
theorem c_max (hc : X.calm = true) : CallR X (.builtin "max") (rMaxA X.K) := (call_max2 hc).or (cr_max hc)
theorem c_min (hc : X.calm = true) : CallR X (.builtin "min") (rMinA X.K) := (call_min2 hc).or (cr_min hc)
def rIntA : List V → Hp → VK → Prop := fun xs H Q => ((∃ i, xs = [.int i] ∧ Q (.int i) H) ∨ ∃ k, xs = [.bl k] ∧ Q (.int (if k then 1 else 0)) H) ∨ ∃ a n, xs = [.str a] ∧ PySem.intText? a = some n ∧ a.length ≤ 640 ∧ Q (.int n) H
theorem c_int : CallR X (.type "int") rIntA := call_int1.or call_int_str
def rAbs : List V → Hp → VK → Prop := fun xs H Q => ∃ i, xs = [.int i] ∧ Q (.int (if i < 0 then -i else i)) H
theorem c_abs : CallR X (.builtin "abs") rAbs := call_abs
def rTupOf (K : PySem.W.Frag) : List V → Hp → VK → Prop := fun xs H Q => ∃ p ys, xs = [.ref p] ∧ ((SqL K H p ys ∧ ∀ l, H l = none → Q (.ref l) (upd H l (.tup ys))) ∨ (SqT K H p ys ∧ Q (.ref p) H))
theorem c_tup : CallR X (.type "tuple") (rTupOf X.K) := call_tuple_of
def rLstOf (K : PySem.W.Frag) : List V → Hp → VK → Prop := fun xs H Q => ∃ p ys, xs = [.ref p] ∧ (SqL K H p ys ∨ SqT K H p ys) ∧ ∀ l, H l = none → Q (.ref l) (upd H l (.lst ys))
theorem c_lst : CallR X (.type "list") (rLstOf X.K) := call_list_of
variable {K : PySem.W.Frag} {mg : Str → Option Value}
theorem v_len : VC K mg (rLenA K) dLen := fun W s vs ds z Q B r hz q => by
  unfold dLen at hz
  split at hz
  · split at hz
    · cases hz
      obtain ⟨v, rfl, rv⟩ := r.one_inv
      cases rv.str_inv
      exact .inl ⟨_, _, rfl, ⟨line_le (by assumption), rfl⟩, stay B q (.int _)⟩
    · cases hz
  · cases hz
    obtain ⟨v, rfl, rv⟩ := r.one_inv
    obtain ⟨a, xs, rfl, h, rr⟩ := rv.tup_inv
    exact .inl ⟨_, _, rfl, .inr ⟨xs, seqT B.sub h, rfl⟩, stay B q (by rw [rr.length]; exact .int _)⟩
  · cases hz
    obtain ⟨v, rfl, rv⟩ := r.one_inv
    obtain ⟨a, xs, rfl, h, rr⟩ := rv.seqL B.sub (.inl rfl)
    exact .inl ⟨_, _, rfl, .inl ⟨xs, h, rfl⟩, stay B q (by rw [rr.length]; exact .int _)⟩
  · cases hz
    obtain ⟨v, rfl, rv⟩ := r.one_inv
    obtain ⟨a, xs, rfl, h, rr⟩ := rv.seqL B.sub (.inr rfl)
    exact .inl ⟨_, _, rfl, .inl ⟨xs, h, rfl⟩, stay B q (by rw [rr.length]; exact .int _)⟩
  · cases hz
    obtain ⟨v, rfl, rv⟩ := r.one_inv
    obtain ⟨a, xs, rfl, h, rr⟩ := rv.ktp_inv
    exact .inl ⟨_, _, rfl, .inr ⟨xs, seqT B.sub h, rfl⟩, stay B q (by rw [rr.length]; exact .int _)⟩
  · cases hz
    obtain ⟨v, rfl, rv⟩ := r.one_inv
    rcases rv.dct_inv with ⟨a, ks, us, rfl, h, rr, rfl⟩ | ⟨a, ks, us, rfl, h, rr, rfl⟩
    · refine .inr (.inl ⟨a, ks, rfl, B.sub _ _ h, stay B q ?_⟩)
      have := rr.length
      rw [List.length_map] at this
      rw [List.length_zip, List.length_map, ← this, Nat.min_self]
      exact .int _
    · refine .inr (.inr ⟨a, ks, rfl, B.sub _ _ h, stay B q ?_⟩)
      have := rr.length
      rw [List.length_map] at this
      rw [List.length_zip, List.length_map, ← this, Nat.min_self]
      exact .int _
  · cases hz
theorem v_abs : VC K mg rAbs dAbs := fun W s vs ds z Q B r hz q => by
  unfold dAbs at hz
  split at hz
  · cases hz
    obtain ⟨v, rfl, rv⟩ := r.one_inv
    cases rv.int_inv
    exact ⟨_, rfl, stay B q (.int _)⟩
  · cases hz
theorem v_all : VC K mg (rAll K) dAll := fun W s vs ds z Q B r hz q => by
  unfold dAll at hz
  split at hz
  · obtain ⟨ns, h, rfl⟩ := Option.map_eq_some_iff.mp hz
    obtain ⟨v, rfl, rv⟩ := r.one_inv
    obtain ⟨a, xs, rfl, hl, rr⟩ := rv.seqL B.sub (.inl rfl)
    rw [bls_inv h rr] at hl
    exact ⟨a, ns, rfl, hl, stay B q (.bl _)⟩
  · cases hz
theorem v_max : VC K mg (rMaxA K) dMax := fun W s vs ds z Q B r hz q => by
  unfold dMax at hz
  split at hz
  · cases hz
    obtain ⟨v, u, rfl, rv, ru⟩ := r.two_inv
    cases rv.int_inv
    cases ru.int_inv
    exact .inl ⟨_, _, rfl, stay B q (.int _)⟩
  · split at hz
    · rename_i a l h
      cases hz
      obtain ⟨v, rfl, rv⟩ := r.one_inv
      obtain ⟨p, xs, rfl, hl, rr⟩ := rv.seqL B.sub (.inl rfl)
      rw [ints_inv h rr] at hl
      refine .inr ⟨p, a :: l, rfl, hl, by simp, fun m hm hy => stay B q ?_⟩
      obtain ⟨h1, h2⟩ := maxI_spec l a
      have : m = maxI a l := Int.le_antisymm (h2 m hm) (hy _ h1)
      rw [this]
      exact .int _
    · cases hz
  · cases hz
theorem v_min : VC K mg (rMinA K) dMin := fun W s vs ds z Q B r hz q => by
  unfold dMin at hz
  split at hz
  · cases hz
    obtain ⟨v, u, rfl, rv, ru⟩ := r.two_inv
    cases rv.int_inv
    cases ru.int_inv
    exact .inl ⟨_, _, rfl, stay B q (.int _)⟩
  · split at hz
    · rename_i a l h
      cases hz
      obtain ⟨v, rfl, rv⟩ := r.one_inv
      obtain ⟨p, xs, rfl, hl, rr⟩ := rv.seqL B.sub (.inl rfl)
      rw [ints_inv h rr] at hl
      refine .inr ⟨p, a :: l, rfl, hl, by simp, fun m hm hy => stay B q ?_⟩
      obtain ⟨h1, h2⟩ := minI_spec l a
      have : m = minI a l := Int.le_antisymm (hy _ h1) (h2 m hm)
      rw [this]
      exact .int _
    · cases hz
  · cases hz
theorem v_int : VC K mg rIntA dInt := fun W s vs ds z Q B r hz q => by
  unfold dInt at hz
  split at hz
  · cases hz
    obtain ⟨v, rfl, rv⟩ := r.one_inv
    cases rv.int_inv
    exact .inl (.inl ⟨_, rfl, stay B q (.int _)⟩)
  · cases hz
    obtain ⟨v, rfl, rv⟩ := r.one_inv
    cases rv.bl_inv
    exact .inl (.inr ⟨_, rfl, stay B q (.int _)⟩)
  · split at hz
    · obtain ⟨n, h, rfl⟩ := Option.map_eq_some_iff.mp hz
      obtain ⟨v, rfl, rv⟩ := r.one_inv
      cases rv.str_inv
      exact .inr ⟨_, _, rfl, h, by assumption, stay B q (.int _)⟩
    · cases hz
  · cases hz
theorem v_tup : VC K mg (rTupOf K) dTupOf := fun W s vs ds z Q B r hz q => by
  unfold dTupOf at hz
  have key : ∀ {xs : List D} {d : D}, RepAll K mg W.G W.τ vs [d] → (d = .lst xs ∨ d = .frz xs) → z = .tup xs → rTupOf K vs W.H Q := fun r' e hz => by
    obtain ⟨v, rfl, rv⟩ := r'.one_inv
    obtain ⟨p, ys, rfl, hl, rr⟩ := rv.seqL B.sub e
    refine ⟨p, ys, rfl, .inl ⟨hl, fun l hl => ?_⟩⟩
    obtain ⟨B2, x2⟩ := B.newO hl (.tup ys)
    refine q _ _ x2 B2 ?_
    rw [hz]
    exact .tup upd_same (RepAll.ext x2 rr)
  split at hz
  · cases hz; exact key r (.inl rfl) rfl
  · cases hz; exact key r (.inr rfl) rfl
  · cases hz
    obtain ⟨v, rfl, rv⟩ := r.one_inv
    obtain ⟨p, ys, rfl, hl, rr⟩ := rv.tup_inv
    exact ⟨p, ys, rfl, .inr ⟨seqT B.sub hl, stay B q rv⟩⟩
  · cases hz
theorem vF_lst : VCF K mg (rLstOf K) dLstOf := fun W s vs ds z Q B r hz q => by
  unfold dLstOf at hz
  have key : ∀ {xs : List D} {d : D} {p : Addr} {ys : List V}, vs = [.ref p] → (SqL K W.H p ys ∨ SqT K W.H p ys) → RepAll K mg W.G W.τ ys xs → z = .lst xs → rLstOf K vs W.H Q := fun ev hl rr hz => by
    refine ⟨_, _, ev, hl, fun l hl => ?_⟩
    obtain ⟨B2, x2⟩ := B.newL hl (o := .lst _) (fun _ z => nomatch z)
    refine q _ _ x2 B2 ⟨l, _, _, rfl, hz, hl, ?_, ?_, upd_same, RepAll.ext x2 rr⟩
    · exact B.frz_none hl
    · exact fun m => B.tau_some m hl
  split at hz
  · cases hz
    obtain ⟨v, rfl, rv⟩ := r.one_inv
    obtain ⟨p, ys, rfl, hl, rr⟩ := rv.seqL B.sub (.inl rfl)
    exact key (d := .non) rfl (.inl hl) rr rfl
  · cases hz
    obtain ⟨v, rfl, rv⟩ := r.one_inv
    obtain ⟨p, ys, rfl, hl, rr⟩ := rv.seqL B.sub (.inr rfl)
    exact key (d := .non) rfl (.inl hl) rr rfl
  · cases hz
    obtain ⟨v, rfl, rv⟩ := r.one_inv
    obtain ⟨p, ys, rfl, hl, rr⟩ := rv.tup_inv
    exact key (d := .non) rfl (.inr (seqT B.sub hl)) rr rfl
  · cases hz
end
/-! ### types, isinstance -/
def tyD : D → Option String
  | .non => some "NoneType"
  | .bl _ => some "bool"
  | .int _ => some "int"
  | .str _ => some "str"
  | .tup _ => some "tuple"
  | .lst _ => some "list"
  | .frz _ => some "list"
  | .dct _ => some "dict"
  | .ktp _ => some "tuple"
  | _ => none
section
variable {K : PySem.W.Frag} {mg : Str → Option Value} {G H : Hp} {τ : List Addr}
theorem tyx_of (hs : Same G H) {v : V} {d : D} {t : String} (r : Rep K mg G τ v d) (h : tyD d = some t) : TyX K H v (.type t) := by
  have sl : ∀ {a : Addr} {xs : List V}, SqL K G a xs → TyX K H (.ref a) (.type "list") := fun e => by
    rcases hs.seq e with (e | ⟨o, e⟩) | ⟨o, its, n, e, ec, _⟩
    · exact .base (.lst e)
    · exact .base (.frz e)
    · exact .kList e ec
  cases r with
  | non => cases h; exact .base .non
  | bl b => cases h; exact .base (.bl b)
  | int i => cases h; exact .base (.int i)
  | str x => cases h; exact .base (.str x)
  | tup e _ =>
    cases h
    exact .base (.tup (hs _ _ e))
  | lst e _ => cases h; exact .base (.lst (hs _ _ e))
  | frz e _ => cases h; exact sl e
  | dK e _ => cases h; exact .base (.dK (hs _ _ e))
  | dT e _ => cases h; exact .base (.dT (hs _ _ e))
  | fdK e _ => cases h
  | fdT e _ => cases h
  | tok _ => cases h
  | ty _ => cases h
  | glb _ _ => cases h
  | ktp e _ =>
    cases h
    rcases seqT hs e with (e | ⟨o, e⟩) | ⟨o, its, n, e, ec, _⟩
    · exact .base (.tup e)
    · exact .fTuple e
    · exact .kTuple e ec
  | exc _ _ => cases h
end
/-- isinstance of one built-in type -/
def dIsi : FN := fun ds => match ds with
  | [d, .ty n] => match tyD d with
    | some t => (kitB t n).map .bl
    | none => none
  | _ => none
theorem v_isi {K : PySem.W.Frag} {mg : Str → Option Value} : VC K mg (rIsi K) dIsi := fun W s vs ds z Q B r hz q => by
  unfold dIsi at hz
  split at hz
  · split at hz
    · rename_i d n _ t ht
      obtain ⟨b, hb, rfl⟩ := Option.map_eq_some_iff.mp hz
      obtain ⟨v, u, rfl, rv, ru⟩ := r.two_inv
      cases ru.ty_inv
      exact ⟨v, _, _, _, b, rfl, .ty n, tyx_of B.sub rv ht, kit_ty hb, stay B q (.bl b)⟩
    · cases hz
  · cases hz
section
variable {X : Cx} {E : WX} {pos : Pos}
/-- the name of a built-in type as a value -/
theorem e_ty {x : Str} {T : String} (hm : X.mg x = none) (hv : bootBuiltins x = some (.type T) := by decide +kernel) (hg : Gl X x := by rfl) (hn : x ≠ "__name__" := by decide) (hd : (x == ("__debug__" : Str)) = false := by decide) : PE X (.Name x pos) (tE X.K X.mg E (eC (.ty T))) :=
  e_const (pe_bltn (v := .ty T) hg hm hv rfl hn hd) fun _ _ => .ty T
end
end DL
namespace DL
open PySem PySem.Spec PyProof.Rows L2
variable [LT : LawT] [TC : TellC]
/-! ### repr -/
mutual
/-- may be shown: no number of L bits and more, no classes -/
def okR (L : Nat) : D → Bool
  | .non => true
  | .bl _ => true
  | .int i => decide (i.natAbs.log2 < L)
  | .str _ => true
  | .tup xs => okRs L xs
  | .lst xs => okRs L xs
  | .frz xs => okRs L xs
  | .dct kvs => okRk L kvs
  | .tok _ => false
  | .ty _ => false
  | .glb _ => false
  | .ktp xs => okRs L xs
  | .exc _ => false
  | .fd _ _ => false
def okRs (L : Nat) : List D → Bool
  | [] => true
  | x :: xs => okR L x && okRs L xs
def okRk (L : Nat) : List (D × D) → Bool
  | [] => true
  | (k, v) :: r => okR L k && okR L v && okRk L r
end
theorem toPyKv_fst : ∀ l : List (D × D), (toPyKv l).map (·.1) = toPys (l.map (·.1))
  | [] => by simp [toPyKv, toPys]
  | (k, v) :: r => by simp [toPyKv, toPys, toPyKv_fst r]
theorem toPyKv_snd : ∀ l : List (D × D), (toPyKv l).map (·.2) = toPys (l.map (·.2))
  | [] => by simp [toPyKv, toPys]
  | (k, v) :: r => by simp [toPyKv, toPys, toPyKv_snd r]
theorem okRk_fst {L : Nat} : ∀ {l : List (D × D)}, okRk L l = true → okRs L (l.map (·.1)) = true ∧ okRs L (l.map (·.2)) = true
  | [], _ => ⟨by simp [okRs], by simp [okRs]⟩
  | (k, v) :: r, h => by
    simp only [okRk, Bool.and_eq_true] at h
    obtain ⟨h1, h2⟩ := okRk_fst h.2
    simp [okRs, h.1.1, h.1.2, h1, h2]
section
variable {prog : Program} {w : World} {h₀ : Heap}
theorem intL_repr {A : Around} {E : Value → Shared → Prop} {s : Shared} {a : Int} {t : Tok} {Q : Value → Shared → Prop} (hn : s.heap.NoDigits) (ha : a.natAbs.log2 < 12900) (h : Q (.str (toString a) s.toks) { s with toks := s.toks + 1 }) :
    wpAny (model prog w) A (call (.builtin "int.__repr__") [.int a t]) Q E s := by
  have lo : a.natAbs < 10 ^ 4300 := Nat.lt_of_lt_of_le (lt_of_log2 ha) pow_lo
  refine wpAny_call_entry F.slot_int_repr (typeIs_int s a t) F.entry_int_repr ?_ (F.args_int_repr_1 _)
  unfold Builtin.«int.__repr__»
  show wpAny _ _ (do let r ← Builtin.overDigitLimit? a; _) _ _ s
  refine wpAny_bind (overDigitLimit_any hn (fun hlt => ?_) (fun hge => absurd lo (Nat.not_lt.mpr hge)))
  exact wpAny_bind (wpAny_mkStr (wpAny_pure ⟨_, rfl, h⟩) (int_text_fits10 hlt))
theorem reprK_int {as : List Addr} {d : Nat} {a : Int} {t : Tok} {L : Nat} (hL : L ≤ 1920 ∨ (h₀.NoDigits ∧ L ≤ 12900)) (ha : a.natAbs.log2 < L) : ReprK prog w as h₀ d (.int a t) (toString a) := by
  by_cases hs : a.natAbs.log2 < 1920
  · exact .of_is (ReprIs.int t hs) _ _ _
  · rcases hL with hL | ⟨hn, hL⟩
    · omega
    · intro base hb A g E s Q hg hc hu hk hQ
      rw [pyReprUnder_leaf (v := .int a t) (by omega) (fun _ e => nomatch e)]
      unfold pyRepr
      refine wpAny_bind (wpAny_pyReprObj_slot (by omega) (typeIs_int _ a t) F.slot_int_repr.toG (intL_repr (hn.keeps hk) (by omega) ⟨_, _, rfl, ?_⟩))
      exact wpAny_pure (hQ s.heap _ fun _ _ e => e)
/-- what repr asks of a value -/
structure Shw (prog : Program) (w : World) (h₀ : Heap) (u : Value) (d : PyData) (as bs : List Addr) : Prop where
  rd : Reads h₀ u d as
  am : ReadAtMost h₀ d.depth bs
  rk : ReprK prog w bs h₀ d.depth u d.shown
  tp : ∀ a, u = .ref a → d.shown.length ≤ sizeLine → ∃ T idr, SlotG T "__repr__" idr ∧ (∃ o, h₀.get? a = some o ∧ o.cls = .type T) ∧
    ∀ (A : Around) (E : Value → Shared → Prop) (s : Shared) (Q : Value → Shared → Prop), A.guards = some [] → A.units + d.depth < cLine → (∀ b o, h₀.get? b = some o → s.heap.get? b = some o) →
      (∀ h' u tk, (∀ b o, s.heap.get? b = some o → h'.get? b = some o) → Q (.str d.shown u) { s with heap := h', toks := tk }) → wpAny (model prog w) A (call (.builtin idr) [.ref a]) Q E s
structure ShwAll (prog : Program) (w : World) (h₀ : Heap) (us : List Value) (ds : List PyData) (as bs : List Addr) : Prop where
  rd : ReadsAll h₀ us ds as
  am : ReadAtMost h₀ (PyData.depthAll ds) bs
  rk : ReprAllK prog w bs h₀ (PyData.depthAll ds) us (PyData.shownAll ds)
theorem shw_cons {u : Value} {us : List Value} {d : PyData} {ds : List PyData} {as bs cs es : List Addr} (h : Shw prog w h₀ u d as bs) (hs : ShwAll prog w h₀ us ds cs es) : ShwAll prog w h₀ (u :: us) (d :: ds) (as ++ cs) (bs ++ es) := by
  refine ⟨.cons h.rd hs.rd, ?_, ?_⟩
  · intro b hm
    simp only [PyData.depthAll]
    rcases List.mem_append.mp hm with hm | hm
    · obtain ⟨d', as', r', hd'⟩ := h.am b hm
      exact ⟨d', as', r', Nat.le_trans hd' (Nat.le_max_left _ _)⟩
    · obtain ⟨d', as', r', hd'⟩ := hs.am b hm
      exact ⟨d', as', r', Nat.le_trans hd' (Nat.le_max_right _ _)⟩
  · simp only [PyData.depthAll, PyData.shownAll]
    exact .cons ((h.rk.more fun b hb => List.mem_append_left _ hb).level_le (Nat.le_max_left _ _)) (hs.rk.more_le (fun b hb => List.mem_append_right _ hb) (Nat.le_max_right _ _))
theorem shw_nil : ShwAll prog w h₀ [] [] [] [] := ⟨.nil, (fun _ h => nomatch h), by simp only [PyData.shownAll]; exact .nil⟩
theorem shw_tup {a : Addr} {its : List Value} {xs : List PyData} {as bs : List Addr} (p : IsTup h₀ a its.toArray) (h : ShwAll prog w h₀ its xs as bs) : Shw prog w h₀ (.ref a) (.tuple xs) as (a :: bs) := by
  obtain ⟨o, h1, h2, n, h3⟩ := p
  have h4 : ReadsAll h₀ its.toArray.toList xs as := by simpa using h.rd
  have r : Reads h₀ (.ref a) (.tuple xs) as := .tuple h1 h2 h3 h4
  have hna : a ∉ bs := not_mem_of_deeper r (by simp only [PyData.depth]; omega) h.am
  refine ⟨r, ReadAtMost.cons r (by simp only [PyData.depth]; omega) h.am, ?_, ?_⟩
  · simp only [PyData.depth, PyData.shown]
    exact ReprK.tuple h1 h2 h3 hna (by simpa using h.rk)
  · intro b e hz
    cases e
    refine ⟨"tuple", "tuple.__repr__", F.slot_tuple_repr, ⟨o, h1, h2⟩, fun A E s Q hg hu hk0 hQ => ?_⟩
    simp only [PyData.depth] at hu
    simp only [PyData.shown] at hQ hz
    exact call_tuple_reprK h1 h2 h3 hna (by simpa using h.rk) hg (fun b _ => Clear.nil b) hu hk0 hQ hz
theorem shw_lst {a : Addr} {o : Obj} {n : Nat} {its : List Value} {xs : List PyData} {as bs : List Addr} (h1 : h₀.get? a = some o) (h2 : o.cls = .type "list") (h3 : o.data = .seq its.toArray n) (h : ShwAll prog w h₀ its xs as bs) :
    Shw prog w h₀ (.ref a) (.list xs) (a :: as) (a :: bs) := by
  have h4 : ReadsAll h₀ its.toArray.toList xs as := by simpa using h.rd
  have r : Reads h₀ (.ref a) (.list xs) _ := .list h1 h2 h3 h4
  have hna : a ∉ bs := not_mem_of_deeper r (by simp only [PyData.depth]; omega) h.am
  have hk := h.rk
  refine ⟨r, ReadAtMost.cons r (by simp only [PyData.depth]; omega) h.am, ?_, ?_⟩
  · simp only [PyData.depth, PyData.shown]
    cases its with
    | nil =>
      have h4' : ReadsAll h₀ [] xs as := by simpa using h4
      cases h4'
      simp only [PyData.shownAll, listText_nil]
      exact ReprK.listEmpty h1 h2 h3
    | cons x l => exact ReprK.list h1 h2 h3 hna (by simpa using hk.length_eq) (fun i y e => hk.item i y (by simpa using e))
  · intro b e hz
    cases e
    refine ⟨"list", "list.__repr__", F.slot_list_repr.toG, ⟨o, h1, h2⟩, fun A E s Q hg hu hk0 hQ => ?_⟩
    simp only [PyData.depth] at hu
    simp only [PyData.shown] at hQ hz
    cases its with
    | nil =>
      have h4' : ReadsAll h₀ [] xs as := by simpa using h4
      cases h4'
      simp only [PyData.shownAll, listText_nil] at hQ
      exact call_list_repr_empty ⟨o, hk0 _ _ h1, h2⟩ (hk0 _ _ h1) h3 (hQ s.heap _ _ fun _ _ e => e)
    | cons x l => exact call_list_reprK h1 h2 h3 hna (by simpa using hk.length_eq) (fun i y e => hk.item i y (by simpa using e)) hg (fun b _ => Clear.nil b) hu hk0 hQ hz
theorem shw_dct {a : Addr} {o : Obj} {es : Array DictEntry} {n : Nat} {kvs : List (PyData × PyData)} {a1 a2 b1 b2 : List Addr} (h1 : h₀.get? a = some o) (h2 : o.cls = .type "dict") (h3 : o.data = .dict es n) (hsys : (a == sysModules) = false)
    (hk : ShwAll prog w h₀ (es.toList.map (·.key)) (kvs.map (·.1)) a1 b1) (hv : ShwAll prog w h₀ (es.toList.map (·.val)) (kvs.map (·.2)) a2 b2) : Shw prog w h₀ (.ref a) (.dict kvs) (a :: a1 ++ a2) (a :: (b1 ++ b2)) := by
  have r : Reads h₀ (.ref a) (.dict kvs) _ := .dict h1 h2 h3 hk.rd hv.rd
  have hb : ReadAtMost h₀ (PyData.depthKv kvs) (b1 ++ b2) := (hk.am.mono (PyData.depthAll_keys_le kvs)).append (hv.am.mono (PyData.depthAll_vals_le kvs))
  have hna : a ∉ b1 ++ b2 := not_mem_of_deeper r (by simp only [PyData.depth]; omega) hb
  have ent := ReprEntriesK.of_two es.toList _ _
    (hk.rk.more_le (fun b (hb : b ∈ b1) => List.mem_append_left b2 hb) (PyData.depthAll_keys_le kvs)) (hv.rk.more_le (fun b (hb : b ∈ b2) => List.mem_append_right b1 hb) (PyData.depthAll_vals_le kvs))
  refine ⟨r, ReadAtMost.cons r (by simp only [PyData.depth]; omega) hb, ?_, ?_⟩
  · simp only [PyData.depth, PyData.shown, PyData.shownKv_eq]
    exact ReprK.dict h1 h2 h3 hsys hna ent
  · intro b e hz
    cases e
    refine ⟨"dict", "dict.__repr__", F.slot_dict_repr, ⟨o, h1, h2⟩, fun A E s Q hg hu hk0 hQ => ?_⟩
    simp only [PyData.depth] at hu
    simp only [PyData.shown, PyData.shownKv_eq] at hQ hz
    exact call_dict_reprK h1 h2 h3 hsys hna ent hg (fun b _ => Clear.nil b) hu hk0 hQ hz
end
section
variable {X : Cx} {pins : List (Addr × Obj)} {σ : L2.St} {H G : Hp} {τ : List Addr} {s : Shared} {L : Nat}
theorem shw_key {L : Nat} (hL : L ≤ 1920 ∨ (s.heap.NoDigits ∧ L ≤ 12900)) {k : Key} {u : Value} (h : keyIs k u = true) (ok : okR L (kD k) = true) (hz : (toPy (kD k)).shown.length ≤ sizeLine) : Shw X.prog X.w s.heap u (toPy (kD k)) [] [] := by
  rcases keyIs_shape h with ⟨i, t, rfl, rfl⟩ | ⟨x, t, rfl, rfl⟩
  · simp only [kD, toPy]
    refine ⟨.int i t, (fun _ h => nomatch h), ?_, fun _ z => nomatch z⟩
    simp only [PyData.shown]
    exact reprK_int hL (by simpa [kD, okR] using ok)
  · simp only [kD, toPy]
    refine ⟨.str x t, (fun _ h => nomatch h), ?_, fun _ z => nomatch z⟩
    simp only [PyData.shown]
    exact .of_is (ReprIs.str x t (by simpa only [kD, toPy, PyData.shown] using hz)) _ _ _
theorem shw_keys {L : Nat} (hL : L ≤ 1920 ∨ (s.heap.NoDigits ∧ L ≤ 12900)) : ∀ {ks : List Key} {its : List Value}, Vals (ks.map kV) its → okRs L (ks.map kD) = true → (∀ t ∈ PyData.shownAll (toPys (ks.map kD)), t.length ≤ sizeLine) → ShwAll X.prog X.w s.heap its (toPys (ks.map kD)) [] []
  | [], its, r, _, _ => by
    cases r
    simp only [List.map_nil, toPys]
    exact shw_nil
  | k :: ks, its, r, ok, hz => by
    cases r with
    | cons r1 r2 =>
      simp only [List.map_cons, okRs, Bool.and_eq_true] at ok
      simp only [List.map_cons, toPys]
      simp only [List.map_cons, toPys, PyData.shownAll, List.mem_cons] at hz
      exact shw_cons (as := []) (bs := []) (shw_key hL (kV_is (P := X.prog) (w := X.w) r1) ok.1 (hz _ (.inl rfl))) (shw_keys hL r2 ok.2 fun t ht => hz t (.inr ht))
theorem dct_le {kvs : List (PyData × PyData)} (hz : (PyData.dict kvs).shown.length ≤ sizeLine) : (∀ t ∈ PyData.shownAll (kvs.map (·.1)), t.length ≤ sizeLine) ∧ ∀ t ∈ PyData.shownAll (kvs.map (·.2)), t.length ≤ sizeLine := by
  have hz' : (dictText (PyData.shownKv kvs)).length ≤ sizeLine := by simpa only [PyData.shown] using hz
  exact ⟨fun t ht => let ⟨p, hp, hl⟩ := PyData.shownKv_key_le kvs t ht; Nat.le_trans hl (Nat.le_trans (dictText_mem_le hp) hz'),
    fun t ht => let ⟨p, hp, hl⟩ := PyData.shownKv_val_le kvs t ht; Nat.le_trans hl (Nat.le_trans (dictText_mem_le hp) hz')⟩
theorem zip_map1 {α β γ : Type} (f : α → β) : ∀ {l : List α} {m : List γ}, l.length = m.length → ((l.map f).zip m).map (·.1) = l.map f
  | [], [], _ => rfl
  | a :: l, b :: m, h => by simp only [List.map_cons, List.zip_cons_cons, zip_map1 f (by simpa using h : l.length = m.length)]
theorem zip_map2 {α β γ : Type} (f : α → β) : ∀ {l : List α} {m : List γ}, l.length = m.length → ((l.map f).zip m).map (·.2) = m
  | [], [], _ => rfl
  | a :: l, b :: m, h => by simp only [List.map_cons, List.zip_cons_cons, zip_map2 f (by simpa using h : l.length = m.length)]
theorem vals_kv {κ : Type} : ∀ {kvs : List (κ × V)} {vs : List (κ × Value)}, KV kvs vs → Vals (kvs.map (·.2)) (vs.map (·.2))
  | _, _, .nil => .nil
  | _, _, .cons h t => .cons h.2 (vals_kv t)
theorem fst_kv {κ : Type} : ∀ {kvs : List (κ × V)} {vs : List (κ × Value)}, KV kvs vs → kvs.map (·.1) = vs.map (·.1)
  | _, _, .nil => rfl
  | _, _, .cons h t => by rw [List.map_cons, List.map_cons, h.1, fst_kv t]
theorem pairs_val {P : Program} {w : World} : ∀ {es : List DictEntry} {vs : List (Key × Value)}, Pairs (mixKind P w) es vs → es.map (·.val) = vs.map (·.2)
  | _, _, .nil => rfl
  | _, _, .cons _ h t => by rw [List.map_cons, List.map_cons, h, pairs_val t]
theorem pairs_key {P : Program} {w : World} {L : Nat} (hL : L ≤ 1920 ∨ (s.heap.NoDigits ∧ L ≤ 12900)) : ∀ {es : List DictEntry} {vs : List (Key × Value)}, Pairs (mixKind P w) es vs → okRs L (vs.map fun p => kD p.1) = true → (∀ t ∈ PyData.shownAll (toPys (vs.map fun p => kD p.1)), t.length ≤ sizeLine) →
    ShwAll X.prog X.w s.heap (es.map (·.key)) (toPys (vs.map fun p => kD p.1)) [] []
  | _, _, .nil, _, _ => by
    simp only [List.map_nil, toPys]
    exact shw_nil
  | _, _, .cons h _ t, ok, hz => by
    simp only [List.map_cons, okRs, Bool.and_eq_true] at ok
    simp only [List.map_cons, toPys]
    simp only [List.map_cons, toPys, PyData.shownAll, List.mem_cons] at hz
    exact shw_cons (as := []) (bs := []) (shw_key hL h ok.1 (hz _ (.inl rfl))) (pairs_key hL t ok.2 fun t ht => hz t (.inr ht))
theorem kT_all {L : Nat} (hL : L ≤ 1920 ∨ (s.heap.NoDigits ∧ L ≤ 12900)) (I : Inv X pins σ H s) : ∀ {kvs : List (List Key × V)} {xs : List (List Key × Addr × Value)}, Paired (fun (p : List Key × V) (q : List Key × Addr × Value) => p.1 = q.1 ∧ H q.2.1 = some (.tup (p.1.map kV)) ∧ RelV p.2 q.2.2) kvs xs →
    okRs L (kvs.map fun p => kT p.1) = true → (∀ t ∈ PyData.shownAll (toPys (kvs.map fun p => kT p.1)), t.length ≤ sizeLine) → ∃ bs, ShwAll X.prog X.w s.heap (xs.map fun q => Value.ref q.2.1) (toPys (kvs.map fun p => kT p.1)) [] bs
  | _, _, .nil, _, _ => by
    simp only [List.map_nil, toPys]
    exact ⟨[], shw_nil⟩
  | _, _, .cons h t, ok, hz => by
    simp only [List.map_cons, okRs, Bool.and_eq_true] at ok
    simp only [List.map_cons, toPys]
    simp only [List.map_cons, toPys, PyData.shownAll, List.mem_cons] at hz
    obtain ⟨bs, h2⟩ := kT_all hL I t ok.2 fun t ht => hz t (.inr ht)
    obtain ⟨e, ht, rv⟩ := h
    obtain ⟨its, r, p, _⟩ := I.tuple (.of ht)
    have hz1 := hz _ (.inl rfl)
    simp only [kT, toPy, PyData.shown] at hz1
    have h3 := shw_tup p (shw_keys (X := X) hL r (by simpa [kT, okR] using ok.1) fun t ht => Nat.le_trans (tupleText_mem_le ht) hz1)
    have h3' := shw_cons (as := []) (u := Value.ref _) (d := toPy (kT _)) (by simp only [kT, toPy]; exact h3) h2
    exact ⟨_, h3'⟩
theorem vals_kt : ∀ {kvs : List (List Key × V)} {xs : List (List Key × Addr × Value)}, Paired (fun (p : List Key × V) (q : List Key × Addr × Value) => p.1 = q.1 ∧ H q.2.1 = some (.tup (p.1.map kV)) ∧ RelV p.2 q.2.2) kvs xs → Vals (kvs.map (·.2)) (xs.map (·.2.2))
  | _, _, .nil => .nil
  | _, _, .cons h t => .cons h.2.2 (vals_kt t)
mutual
theorem shw_rep (hL : L ≤ 1920 ∨ (s.heap.NoDigits ∧ L ≤ 12900)) (I : Inv X pins σ H s) (hs : Same G H) : ∀ {v : V} {d : D} {u : Value}, Rep X.K X.mg G τ v d → RelV v u → okR L d = true → (toPy d).shown.length ≤ sizeLine → ∃ as bs, Shw X.prog X.w s.heap u (toPy d) as bs
  | _, _, u, .non, r, _, _ => by
    cases r
    exact ⟨[], [], .none, (fun _ h => nomatch h), by simp only [toPy, PyData.shown]; exact .of_is ReprIs.none _ _ _, fun _ z => nomatch z⟩
  | _, _, u, .bl b, r, _, _ => by
    cases r
    exact ⟨[], [], .bool b, (fun _ h => nomatch h), by simp only [toPy, PyData.shown]; exact .of_is (ReprIs.bool b) _ _ _, fun _ z => nomatch z⟩
  | _, _, u, .int i, r, ok, _ => by
    obtain ⟨t, rfl⟩ := r
    exact ⟨[], [], .int i t, (fun _ h => nomatch h), by simp only [toPy, PyData.shown]; exact reprK_int hL (by simpa [okR] using ok), fun _ z => nomatch z⟩
  | _, _, u, .str x, r, _, hz => by
    obtain ⟨t, rfl⟩ := r
    exact ⟨[], [], .str x t, (fun _ h => nomatch h), by simp only [toPy, PyData.shown]; exact .of_is (ReprIs.str x t (by simpa only [toPy, PyData.shown] using hz)) _ _ _, fun _ z => nomatch z⟩
  | _, _, u, .tup (a := a) (xs := xs) (ds := ds) h rs, r, ok, hz => by
    cases (show u = Value.ref a from r)
    obtain ⟨its, rv, p, _⟩ := I.tuple (.of (hs _ _ h))
    have hz' : (tupleText (PyData.shownAll (toPys ds))).length ≤ sizeLine := by simpa only [toPy, PyData.shown] using hz
    obtain ⟨as, bs, q⟩ := shws_rep hL I hs rs rv (by simpa [okR] using ok) (fun t ht => Nat.le_trans (tupleText_mem_le ht) hz')
    simp only [toPy]
    exact ⟨_, _, shw_tup p q⟩
  | _, _, u, .lst (a := a) (xs := xs) (ds := ds) h rs, r, ok, hz => by
    cases (show u = Value.ref a from r)
    obtain ⟨its, rv, p, _⟩ := I.list (.of (hs _ _ h))
    obtain ⟨o, h1, h2, n, h3⟩ := p.isList
    have hz' : (listText (PyData.shownAll (toPys ds))).length ≤ sizeLine := by simpa only [toPy, PyData.shown] using hz
    obtain ⟨as, bs, q⟩ := shws_rep hL I hs rs rv (by simpa [okR] using ok) (fun t ht => Nat.le_trans (listText_mem_le ht) hz')
    simp only [toPy]
    exact ⟨_, _, shw_lst h1 h2 h3 q⟩
  | _, _, u, .frz (a := a) (xs := xs) (ds := ds) h rs, r, ok, hz => by
    cases (show u = Value.ref a from r)
    obtain ⟨its, rv, p, _⟩ := I.list (hs.seq h)
    obtain ⟨o, h1, h2, n, h3⟩ := p.isList
    have hz' : (listText (PyData.shownAll (toPys ds))).length ≤ sizeLine := by simpa only [toPy, PyData.shown] using hz
    obtain ⟨as, bs, q⟩ := shws_rep hL I hs rs rv (by simpa [okR] using ok) (fun t ht => Nat.le_trans (listText_mem_le ht) hz')
    simp only [toPy]
    exact ⟨_, _, shw_lst h1 h2 h3 q⟩
  | _, _, u, .dK (a := a) (kvs := kvs) (vs := vs) h rs, r, ok, hz => by
    cases (show u = Value.ref a from r)
    obtain ⟨_, hd, vals, rel, o, es, ep, h1, h2, h3, _, h5, _⟩ := dk_of I.hok (hs _ _ h)
    have hl : kvs.length = vs.length := by have := rs.length; rwa [List.length_map] at this
    obtain ⟨ok1, ok2⟩ := okRk_fst (show okRk L _ = true by simpa [okR] using ok)
    have e1 := zip_map1 (fun p : Key × V => kD p.1) hl
    have e2 := zip_map2 (fun p : Key × V => kD p.1) hl
    rw [e1] at ok1
    rw [e2] at ok2
    have ef : (kvs.map fun p => kD p.1) = vals.map fun p => kD p.1 := by
      have := congrArg (List.map kD) (fst_kv rel)
      rw [List.map_map, List.map_map] at this
      exact this
    have hz2 : (PyData.dict (toPyKv ((kvs.map fun p => kD p.1).zip vs))).shown.length ≤ sizeLine := by simpa only [toPy] using hz
    obtain ⟨z1, z2⟩ := dct_le hz2
    rw [toPyKv_fst, e1] at z1
    rw [toPyKv_snd, e2] at z2
    obtain ⟨as, bs, q⟩ := shws_rep hL I hs rs (vals_kv rel) ok2 z2
    have k := pairs_key (X := X) hL h5 (by rw [← ef]; exact ok1) (by rw [← ef]; exact z1)
    simp only [toPy]
    refine ⟨_, _, shw_dct (a1 := []) (b1 := []) (a2 := as) (b2 := bs) h1 h2.1 h3 hd ?_ ?_⟩
    · rw [toPyKv_fst, e1, ef]; exact k
    · rw [toPyKv_snd, e2, pairs_val h5]; exact q
  | _, _, u, .dT (a := a) (kvs := kvs) (vs := vs) h rs, r, ok, hz => by
    cases (show u = Value.ref a from r)
    obtain ⟨_, hd, xs, rel, o, es, ep, h1, h2, h3, h4, h5⟩ := (show ObjOk X.prog X.w H s.heap a (.dT kvs) from I.hok a _ (hs _ _ h))
    have hl : kvs.length = vs.length := by have := rs.length; rwa [List.length_map] at this
    obtain ⟨ok1, ok2⟩ := okRk_fst (show okRk L _ = true by simpa [okR] using ok)
    have e1 := zip_map1 (fun p : List Key × V => kT p.1) hl
    have e2 := zip_map2 (fun p : List Key × V => kT p.1) hl
    rw [e1] at ok1
    rw [e2] at ok2
    have hz2 : (PyData.dict (toPyKv ((kvs.map fun p => kT p.1).zip vs))).shown.length ≤ sizeLine := by simpa only [toPy] using hz
    obtain ⟨z1, z2⟩ := dct_le hz2
    rw [toPyKv_fst, e1] at z1
    rw [toPyKv_snd, e2] at z2
    obtain ⟨as, bs, q⟩ := shws_rep hL I hs rs (vals_kt rel) ok2 z2
    obtain ⟨b1, k⟩ := kT_all (X := X) hL I rel ok1 z1
    simp only [toPy]
    refine ⟨_, _, shw_dct (a1 := []) (b1 := b1) (a2 := as) (b2 := bs) h1 h2.1 h3 hd ?_ ?_⟩
    · rw [toPyKv_fst, e1, h4, List.map_map]; exact k
    · rw [toPyKv_snd, e2, h4, List.map_map]; exact q
  | _, _, u, .tok h, r, ok, _ => by simp [okR] at ok
  | _, _, u, .ty n, r, ok, _ => by simp [okR] at ok
  | _, _, u, .glb h h', r, ok, _ => by simp [okR] at ok
  | _, _, u, .exc h h', r, ok, _ => by simp [okR] at ok
  | _, _, u, .fdK h h', r, ok, _ => by simp [okR] at ok
  | _, _, u, .fdT h h', r, ok, _ => by simp [okR] at ok
  | _, _, u, .ktp (a := a) (xs := xs) (ds := ds) h rs, r, ok, hz => by
    cases (show u = Value.ref a from r)
    obtain ⟨its, rv, p, _⟩ := I.tuple (seqT hs h)
    have hz' : (tupleText (PyData.shownAll (toPys ds))).length ≤ sizeLine := by simpa only [toPy, PyData.shown] using hz
    obtain ⟨as, bs, q⟩ := shws_rep hL I hs rs rv (by simpa [okR] using ok) (fun t ht => Nat.le_trans (tupleText_mem_le ht) hz')
    simp only [toPy]
    exact ⟨_, _, shw_tup p q⟩
theorem shws_rep (hL : L ≤ 1920 ∨ (s.heap.NoDigits ∧ L ≤ 12900)) (I : Inv X pins σ H s) (hs : Same G H) : ∀ {vs : List V} {ds : List D} {us : List Value}, RepAll X.K X.mg G τ vs ds → Vals vs us → okRs L ds = true → (∀ t ∈ PyData.shownAll (toPys ds), t.length ≤ sizeLine) → ∃ as bs, ShwAll X.prog X.w s.heap us (toPys ds) as bs
  | _, _, _, .nil, r, _, _ => by
    cases r
    simp only [toPys]
    exact ⟨_, _, shw_nil⟩
  | _, _, _, .cons h t, r, ok, hz => by
    cases r with
    | cons r1 r2 =>
      simp only [okRs, Bool.and_eq_true] at ok
      simp only [toPys, PyData.shownAll, List.mem_cons] at hz
      obtain ⟨as, bs, q⟩ := shw_rep hL I hs h r1 ok.1 (hz _ (.inl rfl))
      obtain ⟨cs, es, q2⟩ := shws_rep hL I hs t r2 ok.2 (fun t ht => hz t (.inr ht))
      simp only [toPys]
      exact ⟨_, _, shw_cons q q2⟩
end
end
def repD (L : Nat) (d : D) : Option D := if okR L d = true ∧ (toPy d).depth ≤ 90 ∧ (toPy d).shown.length ≤ 16777216 then some (.str (toPy d).shown) else none
def dRepr (L : Nat) : FN := fun ds => match ds with
  | [d] => repD L d
  | _ => none
def rRepr (L : Nat) (K : PySem.W.Frag) (mg : Str → Option Value) : List V → Hp → VK → Prop := fun xs H Q => ∃ x d G τ, xs = [x] ∧ Same G H ∧ Rep K mg G τ x d ∧ okR L d = true ∧ (toPy d).depth ≤ 90 ∧ (toPy d).shown.length ≤ 16777216 ∧ Q (.str (toPy d).shown) H
theorem v_repr {L : Nat} {K : PySem.W.Frag} {mg : Str → Option Value} : VC K mg (rRepr L K mg) (dRepr L) := fun W s vs ds z Q B r hz q => by
  unfold dRepr at hz
  split at hz
  · rename_i d
    unfold repD at hz
    split at hz
    · rename_i h
      cases hz
      obtain ⟨v, rfl, rv⟩ := r.one_inv
      exact ⟨v, d, W.G, W.τ, rfl, B.sub, rv, h.1, h.2.1, h.2.2, stay B q (.str _)⟩
    · cases hz
  · cases hz
section
variable {X : Cx}
theorem c_reprL {L : Nat} (hL : L ≤ 1920 ∨ (X.base.NoDigits ∧ L ≤ 12900)) (hg : X.A.guards = some []) (hu : X.A.units + 94 < cLine) : CallR X (.builtin "repr") (rRepr L X.K X.mg) := by
  intro pins s σ H xs us Q I r h
  obtain ⟨x, d, G, τ, rfl, hs, rx, ok, hd, hz, q⟩ := h
  obtain ⟨u, rfl, ru⟩ := vals1 r
  have hz' : (toPy d).shown.length ≤ sizeLine := line_le hz
  have hL' : L ≤ 1920 ∨ (s.heap.NoDigits ∧ L ≤ 12900) := hL.imp id fun z => ⟨z.1.keeps I.bk, z.2⟩
  obtain ⟨as, bs, S⟩ := shw_rep hL' I hs rx ru ok hz'
  have top : ∀ a, u = .ref a → wpAny (model X.prog X.w) X.A (call (.builtin "repr") [u]) (EP X pins σ Q) X.xe s := fun a eu => by
    obtain ⟨T, idr, sl, ⟨o, ho, hc⟩, hcall⟩ := S.tp a eu hz'
    subst eu
    exact call_repr_slot (by omega) ⟨o, ho, hc⟩ sl (hcall X.A.in1 X.xe s _ hg (by show X.A.units + 1 + _ < cLine; omega) (fun _ _ e => e) fun h' t tk hk => ⟨_, t, rfl, ⟨.str _, H, I.kept hk, ⟨_, rfl⟩, q⟩⟩)
  cases rx with
  | non =>
    cases (show u = Value.none from ru)
    simp only [toPy, PyData.shown] at q
    exact PySem.P.repr_of_none ⟨.str _, H, I.tok _, ⟨_, rfl⟩, q⟩
  | bl b =>
    cases (show u = Value.bool b from ru)
    simp only [toPy, PyData.shown] at q
    exact PySem.P.repr_of_bool ⟨.str _, H, I.tok _, ⟨_, rfl⟩, q⟩
  | int i =>
    obtain ⟨t, rfl⟩ := (show ∃ t, u = Value.int i t from ru)
    simp only [toPy, PyData.shown] at q
    have hi : i.natAbs.log2 < L := by simpa [okR] using ok
    by_cases hs : i.natAbs.log2 < 1920
    · exact PySem.P.repr_of_int hs ⟨.str _, H, I.tok _, ⟨_, rfl⟩, q⟩
    · rcases hL' with hL' | ⟨hn, hL'⟩
      · omega
      · exact call_repr_slot (by omega) (typeIs_int s i t) F.slot_int_repr.toG (intL_repr hn (by omega) ⟨_, _, rfl, ⟨.str _, H, I.tok _, ⟨_, rfl⟩, q⟩⟩)
  | str y =>
    obtain ⟨t, rfl⟩ := (show ∃ t, u = Value.str y t from ru)
    simp only [toPy, PyData.shown] at q hz'
    exact PySem.P.repr_of_str ⟨.str _, H, I.tok _, ⟨_, rfl⟩, q⟩ hz'
  | tup _ _ => exact top _ ru
  | lst _ _ => exact top _ ru
  | frz _ _ => exact top _ ru
  | dK _ _ => exact top _ ru
  | dT _ _ => exact top _ ru
  | tok h => simp [okR] at ok
  | ty n => simp [okR] at ok
  | glb h h' => simp [okR] at ok
  | ktp _ _ => exact top _ ru
  | exc h h' => simp [okR] at ok
  | fdK h h' => simp [okR] at ok
  | fdT h h' => simp [okR] at ok
end
end DL
namespace DL
open PySem PySem.Spec PyProof.Rows L2
variable [LT : LawT] [TC : TellC]
/-! ### a new list is published: it becomes a special object -/
def ePub (f : DE) : DE := fun ρ s => (f ρ s).bind fun d s1 => match d with
  | .lst ds => if flats ds = true then .ok (.tok s1.length) (s1 ++ [.l ds]) else .bad
  | _ => .bad
section
variable {K : PySem.W.Frag} {mg : Str → Option Value} {W W0 : Hw} {s : S}
theorem Base.pub (B : Base K mg W s) {a : Addr} {c : Cell} (hG : W.G a = none) (ht : a ∉ W.τ) (hc : CellOk K mg W a c) (hf : flatC c = true) : Base K mg ⟨W.H, W.G, W.τ ++ [a]⟩ (s ++ [c]) := by
  have pre : W.τ <+: W.τ ++ [a] := List.prefix_append _ _
  have mono : ∀ {b : Addr} {c : Cell}, CellOk K mg W b c → CellOk K mg ⟨W.H, W.G, W.τ ++ [a]⟩ b c := fun {b c} q => by
    cases c with
    | l ds =>
      obtain ⟨us, e, r⟩ := q
      exact ⟨us, e, r.mono (Same.refl _) pre⟩
    | o c fs =>
      obtain ⟨C, dx, us, e0, e, r⟩ := q
      exact ⟨C, dx, us, e0, e, r.mono (Same.refl _) pre⟩
    | d fs =>
      obtain ⟨us, e, r⟩ := q
      exact ⟨us, e, r.mono (Same.refl _) pre⟩
    | t fs =>
      obtain ⟨us, e, r⟩ := q
      exact ⟨us, e, r.mono (Same.refl _) pre⟩
    | b ns =>
      obtain ⟨us, e, r⟩ := q
      exact ⟨us, e, r⟩
  refine ⟨B.sub, B.tupI, fun b m => ?_, ?_, by simp [B.len], fun n c' b h1 h2 => ?_, fun c' m => ?_, B.tab, B.nog, B.all⟩
  · rcases List.mem_append.mp m with m | m
    · exact B.spc b m
    · rw [List.mem_singleton.mp m]; exact hG
  · refine List.nodup_append.mpr ⟨B.nd, List.nodup_cons.mpr ⟨by simp, List.nodup_nil⟩, fun x hx y hy e => ?_⟩
    rw [List.mem_singleton.mp hy] at e
    exact ht (e ▸ hx)
  · by_cases hn : n < s.length
    · rw [List.getElem?_append_left hn] at h1
      have hn2 : n < W.τ.length := by rw [← B.len]; exact hn
      have h2' : (W.τ ++ [a])[n]? = some b := h2
      rw [List.getElem?_append_left hn2] at h2'
      exact mono (B.cel n c' b h1 h2')
    · have hn2 : W.τ.length ≤ n := by rw [← B.len]; omega
      have h2' : (W.τ ++ [a])[n]? = some b := h2
      rw [List.getElem?_append_right (by omega)] at h1
      rw [List.getElem?_append_right hn2, ← B.len] at h2'
      by_cases e : n - s.length = 0
      · rw [e] at h1 h2'
        cases h1; cases h2'
        exact mono hc
      · rw [List.getElem?_eq_none (by simp; omega)] at h1
        cases h1
  · rcases List.mem_append.mp m with m | m
    · exact B.flt c' m
    · rw [List.mem_singleton.mp m]; exact hf
end
section
variable {X : Cx} {e a b : Expr} {f h : DE} {pos : Pos} {E : WX} {fs : DA}
theorem e_pub (h : PE X e (tF X.K X.mg E f)) : PE X e (tE X.K X.mg E (ePub f)) := by
  refine PE.mono h fun σ H Q h => ?_
  obtain ⟨W0, W, s, ρ, rfl, st, p⟩ := h
  refine ⟨W0, W, s, ρ, rfl, st, ?_⟩
  unfold ePub at p
  cases hf : f ρ s with
  | exc c s1 => rw [hf] at p; exact p
  | bad => rw [hf] at p; exact p
  | ok d s1 =>
    rw [hf] at p
    refine fun x W1 e B r => ?_
    obtain ⟨a, vs, ds, rfl, rfl, n0, nG, nt, eH, rv⟩ := r
    simp only [Res.bind] at p
    split at p
    · rename_i hfl
      refine p (.ref a) ⟨W1.H, W1.G, W1.τ ++ [a]⟩ ⟨e.keep0, e.grow, e.out, e.tpre.trans (List.prefix_append _ _), fun b m n => ?_, e.tab⟩ (B.pub nG nt ⟨vs, eH, rv⟩ hfl) (.tok ?_)
      · rcases List.mem_append.mp m with m | m
        · exact e.tnew b m n
        · rw [List.mem_singleton.mp m]; exact n0
      · rw [B.len, List.getElem?_append_right (Nat.le_refl _), Nat.sub_self]; rfl
    · exact p.elim
/-! ### reading, with special objects -/
abbrev F2S := S → F2
abbrev V2S (K : PySem.W.Frag) (mg : Str → Option Value) (r : R2) (g : F2S) : Prop :=
  ∀ (W : Hw) (s : S) (x y : V) (d e z : D) (Q : VK), Base K mg W s → Rep K mg W.G W.τ x d → Rep K mg W.G W.τ y e → g s d e = some z → (∀ v W', Ext W W' → Base K mg W' s → Rep K mg W'.G W'.τ v z → Q v W'.H) → r x y W.H Q
def eOp2S (g : F2S) (f h : DE) : DE := fun ρ s => (f ρ s).bind fun a s1 => (h ρ s1).bind fun b s2 => Res.ofO (g s2 a b) s2
theorem r_op2S {r : R2} {g : F2S} (hv : V2S X.K X.mg r g) : ∀ σ H Q, tE X.K X.mg E (eOp2S g f h) σ H Q → tOp r (tE X.K X.mg E f) (tE X.K X.mg E h) σ H Q := fun σ H Q q => by
  obtain ⟨W0, W, s, ρ, rfl, st, p⟩ := q
  refine (go st p).imp fun x H1 ⟨W1, s1, d1, e1, r1, x1, st1, p1⟩ => ?_
  subst e1
  refine (go st1 p1).imp fun y H2 ⟨W2, s2, d2, e2, r2, x2, st2, p2⟩ => ?_
  subst e2
  cases hz : g s2 d1 d2 with
  | none => rw [hz] at p2; exact p2.elim
  | some z =>
    rw [hz] at p2
    exact hv W2 s2 x y d1 d2 z Q st2.base (r1.ext x2) r2 hz p2
/-- what a special list holds -/
def tokL (s : S) (n : Nat) : Option (List D) := match s[n]? with
  | some (.l ds) => some ds
  | _ => none
theorem tok_list {K : PySem.W.Frag} {mg : Str → Option Value} {W : Hw} {s : S} {n : Nat} {v : V} {ds : List D} (B : Base K mg W s) (r : Rep K mg W.G W.τ v (.tok n)) (h : tokL s n = some ds) : ∃ a vs, v = .ref a ∧ W.τ[n]? = some a ∧ W.H a = some (.lst vs) ∧ RepAll K mg W.G W.τ vs ds := by
  cases r with
  | tok ht =>
    unfold tokL at h
    split at h
    · rename_i ds' hs
      cases h
      obtain ⟨vs, e, r⟩ := B.cel n _ _ hs ht
      exact ⟨_, vs, rfl, ht, e, r⟩
    · cases h
/-- x[i] of lists, tuples, texts, special lists -/
def dIxT (s : S) : F2 := fun x y => match x, y with
  | .tok n, .int i => (tokL s n).bind fun ds => atI ds i
  | x, y => dIx x y
theorem v_ixT {K : PySem.W.Frag} {mg : Str → Option Value} : V2S K mg (rIx K) dIxT := fun W s x y d e z Q B rx ry hz q => by
  unfold dIxT at hz
  split at hz
  · obtain ⟨ds, h1, h2⟩ := Option.bind_eq_some_iff.mp hz
    obtain ⟨a, vs, rfl, _, eH, rr⟩ := tok_list B rx h1
    cases ry.int_inv
    obtain ⟨v, hv, rv⟩ := atI_rep rr h2
    exact .inl ⟨a, vs, _, v, rfl, rfl, .of eH, hv, stay B q rv⟩
  · exact v_ix W s x y _ _ z Q B rx ry hz q
theorem e_ixT (ha : PE X a (tE X.K X.mg E f)) (hb : PE X b (tE X.K X.mg E h)) (hs : PlainIx b := by exact fun _ _ => rfl) : PE X (.Subscript a b pos) (tE X.K X.mg E (eOp2S dIxT f h)) :=
  PE.mono (pe_ix ix_seq ha hb hs) (r_op2S v_ixT)
/-- len of special lists too -/
def lenT (s : S) (ds : List D) : Option D := match ds with
  | [.tok n] => (tokL s n).map fun l => .int l.length
  | ds => dLen ds
def eLenT (fs : DA) : DE := fun ρ s => (fs ρ s).bind fun ds s1 => Res.ofO (lenT s1 ds) s1
theorem e_lenT {p' : Pos} {e : Expr} (hm : X.mg "len" = none) (ha : PA X [e] (tA X.K X.mg E fs)) (hg : Gl X "len" := by rfl)
    (he : starEach [e] X.env = (false, eval e X.env) :: starEach [] X.env := by rfl) : PE X (.Call (.Name "len" p') [e] [] pos) (tE X.K X.mg E (eLenT fs)) :=
  PE.mono (pe_callB c_len hg hm (by decide +kernel) ha (by decide) (by decide) he rfl) fun σ H Q z => by
    obtain ⟨W0, W, s, ρ, rfl, st, z⟩ := z
    refine (go st z).imp fun x H1 ⟨W1, s1, d1, e1, r1, x1, st1, z1⟩ => ?_
    subst e1
    cases hz : lenT s1 d1 with
    | none => rw [hz] at z1; exact z1.elim
    | some d =>
      rw [hz] at z1
      unfold lenT at hz
      split at hz
      · rename_i n
        obtain ⟨ds, hd, rfl⟩ := Option.map_eq_some_iff.mp hz
        obtain ⟨v, rfl, rv⟩ := RepAll.one_inv r1
        obtain ⟨p, vs, rfl, _, eH, rr⟩ := tok_list st1.base rv hd
        exact .inl ⟨_, _, rfl, .inl ⟨vs, .of eH, rfl⟩, stay st1.base z1 (by rw [rr.length]; exact .int _)⟩
      · exact v_len W1 s1 x _ d Q st1.base r1 hz z1
end
/-! ### != of special lists -/
def dNeT (s : S) : F2 := fun x y => match x with
  | .tok n => (tokL s n).bind fun ds => dNe (.lst ds) y
  | x => dNe x y
section
variable {X : Cx} {a b : Expr} {f h : DE} {pos : Pos} {E : WX} {r : R2} {g : F2S}
theorem e_cmpS {op : CmpOp} (ho : OpR X (compareOp op) r) (hv : V2S X.K X.mg r g) (ha : PE X a (tE X.K X.mg E f)) (hb : PE X b (tE X.K X.mg E h)) (hm : behindInMarks op b = false) : PE X (.Compare a [op] [b] pos) (tE X.K X.mg E (eOp2S g f h)) :=
  PE.mono (pe_cmpR ho ha hb hm) (r_op2S hv)
end
/-! ### a store into a special object -/
section
variable {K : PySem.W.Frag} {mg : Str → Option Value} {W W0 : Hw} {s : S} {σ : L2.St} {ρ : List Sl}
theorem nodup_at {α : Type} {l : List α} {i j : Nat} {x : α} (h : l.Nodup) (h1 : l[i]? = some x) (h2 : l[j]? = some x) : i = j := by
  obtain ⟨hi, e1⟩ := List.getElem?_eq_some_iff.mp h1
  obtain ⟨hj, e2⟩ := List.getElem?_eq_some_iff.mp h2
  exact (List.getElem_inj h).mp (e1.trans e2.symm)
theorem SSt.cellPut (h : SSt K mg W0 W s σ ρ) {n : Nat} {a : Addr} {o : HO} {c : Cell} (hτ : W.τ[n]? = some a) (no : ∀ vs, o ≠ .tup vs) (hc : CellOk K mg ⟨upd W.H a o, W.G, W.τ⟩ a c) (hf : flatC c = true) (nt : ∀ ps, o ≠ .tbl ps := by exact fun _ z => nomatch z) :
    SSt K mg W0 ⟨upd W.H a o, W.G, W.τ⟩ (s.set n c) σ ρ := by
  have B := h.base
  have X0 := h.ext
  have ma : a ∈ W.τ := List.mem_of_getElem? hτ
  have ga : W.G a = none := B.spc a ma
  have nG : ∀ b x, W.G b = some x → b ≠ a := fun b x e z => by rw [z, ga] at e; cases e
  have pl := B.tau_plain ma
  refine ⟨⟨fun b x e n => ?_, X0.grow, X0.out, X0.tpre, X0.tnew, fun t => tabs_upd pl (X0.tab t)⟩, ⟨fun b x e => ?_, fun b xs e => ?_, B.spc, B.nd, by simp [B.len], fun m c' b h1 h2 => ?_, fun c' m => ?_, tabs_upd pl B.tab, B.nog, all_upd nt B.all⟩, h.len, fun j x z q1 q2 => ?_, h.dist⟩
  · by_cases hb : b = a
    · subst hb
      have := X0.tnew b ma n
      rw [this] at e; cases e
    · rcases X0.keep0 b x e n with z | ⟨ps, ps', z1, z2⟩
      · exact .inl ((upd_ne hb).trans z)
      · exact .inr ⟨ps, ps', z1, (upd_ne hb).trans z2⟩
  · exact (upd_ne (nG b x e)).trans (B.sub b x e)
  · have e' : upd W.H a o b = some (.tup xs) := e
    by_cases hb : b = a
    · rw [hb, upd_same] at e'
      exact absurd (Option.some.inj e') (no xs)
    · rw [upd_ne hb] at e'
      exact B.tupI b xs e'
  · by_cases hm : m = n
    · subst hm
      rw [hτ] at h2
      cases h2
      rw [List.getElem?_set] at h1
      simp only [if_true] at h1
      split at h1
      · cases h1; exact hc
      · cases h1
    · rw [List.getElem?_set_ne (Ne.symm hm)] at h1
      have nb : b ≠ a := fun z => hm (nodup_at B.nd (z ▸ h2) hτ)
      have q := B.cel m c' b h1 h2
      cases c' with
      | l ds =>
        obtain ⟨us, e, r⟩ := q
        exact ⟨us, (upd_ne nb).trans e, r⟩
      | o c fs =>
        obtain ⟨C, dx, us, e0, e, r⟩ := q
        exact ⟨C, dx, us, e0, (upd_ne nb).trans e, r⟩
      | d fs =>
        obtain ⟨us, e, r⟩ := q
        exact ⟨us, (upd_ne nb).trans e, r⟩
      | t fs =>
        obtain ⟨us, e, r⟩ := q
        exact ⟨us, (upd_ne nb).trans e, r⟩
      | b ns =>
        obtain ⟨us, e, r⟩ := q
        exact ⟨us, (upd_ne nb).trans e, r⟩
  · rcases List.mem_or_eq_of_mem_set m with m | m
    · exact B.flt c' m
    · rw [m]; exact hf
  · have z0 := h.sl j x z q1 q2
    have ne : ∀ {b : Addr}, b ∉ W.τ → b ≠ a := fun nb z => nb (z ▸ ma)
    cases z0 with
    | emp => exact .emp
    | dat r => exact .dat r
    | own q e r => exact .own ⟨q.old, q.frz, q.spc⟩ ((upd_ne (ne q.spc)).trans e) r
    | ownK q e r => exact .ownK ⟨q.old, q.frz, q.spc⟩ ((upd_ne (ne q.spc)).trans e) r
    | ownT q e r => exact .ownT ⟨q.old, q.frz, q.spc⟩ ((upd_ne (ne q.spc)).trans e) r
    | fn h g => exact .fn h (g.upd fun q e => (B.tau_plain ma _ e).2 q rfl)
end
def sPutT (f fi fv : DE) : DS := fun ρ s => (fv ρ s).thenS fun d s1 => (f ρ s1).thenS fun t s2 => (fi ρ s2).thenS fun k s3 => match t, k with
  | .tok n, .int k => match tokL s3 n with
    | some ds => match ixN ds.length k with
      | some j => if flat d = true then .next ρ (s3.set n (.l (ds.set j d))) else .bad
      | none => .bad
    | none => .bad
  | _, _ => .bad
theorem flats_set : ∀ {ds : List D} {j : Nat} {d : D}, flats ds = true → flat d = true → flats (ds.set j d) = true
  | [], _, _, h, _ => h
  | x :: xs, 0, d, h, hd => by simp [flats] at h ⊢; exact ⟨hd, h.2⟩
  | x :: xs, j + 1, d, h, hd => by simp [flats] at h ⊢; exact ⟨h.1, flats_set h.2 hd⟩
section
variable {X : Cx} {E : WX} {fr : Fr} {pos : Pos} {f fi fv : DE} {o : Expr}
theorem s_putT {sp : Pos} {v k : Expr} (hv' : PE X v (tE X.K X.mg E fv)) (ho : PE X o (tE X.K X.mg E f)) (hk : PE X k (tE X.K X.mg E fi))
    (ha : ∀ v, assign (.Subscript o k sp) X.env v = (do
      let ov ← holding [v] (eval o X.env)
      let iv ← holding [v, ov] (eval k X.env)
      standAt sp
      holding [v, ov, iv] (setItem ov iv v)
      release [v, ov, iv] []) := by intro _; rfl)
    (hs : swapsWithSole [.Subscript o k sp] v pos.line X.env = pure false := by rfl) (hw : swappedStores [.Subscript o k sp] v X.env = pure none := by rfl)
    (h1 : (assignEach [.Subscript o k sp] X.env).map (·.2) = [assign (.Subscript o k sp) X.env] := by rfl) :
    QS X E fr (.Assign [.Subscript o k sp] v pos) (sPutT f fi fv) := by
  refine PS.mono (ps_asg hv' (pg_sub ho hk set_list ha) hs hw h1) fun σ H T z => ?_
  obtain ⟨W0, W, s, ρ, rfl, st, z⟩ := z
  refine (goS st z).imp fun y H1 ⟨W1, s1, d1, e1, r1, x1, st1, z1⟩ => ?_
  subst e1
  refine (goS st1 z1).imp fun t H2 ⟨W2, s2, d2, e2, r2, x2, st2, z2⟩ => ?_
  subst e2
  refine (goS st2 z2).imp fun kk H3 ⟨W3, s3, d3, e3, r3, x3, st3, z3⟩ => ?_
  subst e3
  cases d2 with
  | tok n =>
    cases d3 with
    | int i =>
      simp only at z3
      cases hd : tokL s3 n with
      | none => rw [hd] at z3; exact z3.elim
      | some ds =>
        rw [hd] at z3
        simp only at z3
        cases hj : ixN ds.length i with
        | none => rw [hj] at z3; exact z3.elim
        | some j =>
          rw [hj] at z3
          simp only at z3
          split at z3
          · rename_i hf
            obtain ⟨p, vs, rfl, hτ, eH, rr⟩ := tok_list st3.base (r2.ext x3) hd
            cases r3.int_inv
            refine ⟨p, vs, i, j, rfl, rfl, eH, by rw [rr.length]; exact hj, ?_⟩
            have hfl : flats ds = true := by
              unfold tokL at hd
              split at hd
              · rename_i ds' hds
                cases hd
                exact st3.base.flt _ (List.mem_of_getElem? hds)
              · cases hd
            exact z3 σ _ (st3.cellPut hτ (fun _ z => nomatch (z : HO.lst _ = HO.tup _)) ⟨_, upd_same, rr.set ((r1.ext x2).ext x3) j⟩ (flats_set hfl hf))
          · exact z3.elim
    | _ => exact z3.elim
  | _ => exact z3.elim
end
end DL
namespace DL
open PySem PySem.Spec PyProof.Rows L2
variable [LT : LawT] [TC : TellC]
/-! ### dicts as lists of pairs -/
def dk : D → Option Key
  | .int i => some (.inl i)
  | .str x => some (.inr x)
  | _ => none
def dks : List D → Option (List Key)
  | [] => some []
  | d :: r => (dk d).bind fun k => (dks r).map (k :: ·)
def dkT : D → Option (List Key)
  | .tup xs => dks xs
  | _ => none
inductive PK {κ : Type} (R : V → D → Prop) (f : κ → D) : List (κ × V) → List (D × D) → Prop
  | nil : PK R f [] []
  | cons {k : κ} {v : V} {d : D} {l : List (κ × V)} {m : List (D × D)} : R v d → PK R f l m → PK R f ((k, v) :: l) ((f k, d) :: m)
def getD {κ : Type} [DecidableEq κ] (g : D → Option κ) (l : List (D × D)) (k : κ) : Option D := (l.find? fun p => decide (g p.1 = some k)).map (·.2)
def putD {κ : Type} [DecidableEq κ] (g : D → Option κ) (f : κ → D) (l : List (D × D)) (k : κ) (d : D) : List (D × D) :=
  if (l.any fun p => decide (g p.1 = some k)) = true then l.map (fun p => if g p.1 = some k then (p.1, d) else p) else l ++ [(f k, d)]
section
variable {κ : Type} [DecidableEq κ] {R : V → D → Prop} {f : κ → D} {g : D → Option κ} {l : List (κ × V)} {m : List (D × D)}
theorem PK.get (h : PK R f l m) (hg : ∀ k, g (f k) = some k) (k : κ) : (valV l k = none ∧ getD g m k = none) ∨ ∃ v d, valV l k = some v ∧ getD g m k = some d ∧ R v d := by
  induction h with
  | nil => exact .inl ⟨rfl, rfl⟩
  | @cons k' v d l m r t ih =>
    by_cases e : k' = k
    · subst e
      exact .inr ⟨v, d, by simp [valV], by simp [getD, hg], r⟩
    · have e2 : ¬ g (f k') = some k := by rw [hg]; exact fun z => e (Option.some.inj z)
      rcases ih with ⟨a, b⟩ | ⟨v', d', a, b, r'⟩
      · exact .inl ⟨(valV_neg e).trans a, by unfold getD at b ⊢; rw [List.find?_cons_of_neg (by simpa using e2)]; exact b⟩
      · exact .inr ⟨v', d', (valV_neg e).trans a, by unfold getD at b ⊢; rw [List.find?_cons_of_neg (by simpa using e2)]; exact b, r'⟩
theorem PK.any (h : PK R f l m) (hg : ∀ k, g (f k) = some k) (k : κ) : (l.any fun kv => decide (kv.1 = k)) = (m.any fun p => decide (g p.1 = some k)) := by
  induction h with
  | nil => rfl
  | @cons k' v d l m r t ih =>
    rw [List.any_cons, List.any_cons, ih, hg]
    simp only [Option.some.injEq]
theorem PK.snoc (h : PK R f l m) {v : V} {d : D} (r : R v d) (k : κ) : PK R f (l ++ [(k, v)]) (m ++ [(f k, d)]) := by
  induction h with
  | nil => exact .cons r .nil
  | cons q t ih => exact .cons q ih
theorem PK.upd (h : PK R f l m) (hg : ∀ k, g (f k) = some k) {v : V} {d : D} (r : R v d) (k : κ) : PK R f (l.map (fun kv => if kv.1 = k then (kv.1, v) else kv)) (m.map (fun p => if g p.1 = some k then (p.1, d) else p)) := by
  induction h with
  | nil => exact .nil
  | @cons k' v' d' l m q t ih =>
    simp only [List.map_cons, hg, Option.some.injEq]
    by_cases e : k' = k
    · rw [if_pos e, if_pos e]; exact .cons r ih
    · rw [if_neg e, if_neg e]; exact .cons q ih
theorem PK.len (h : PK R f l m) : l.length = m.length := by
  induction h with
  | nil => rfl
  | cons _ _ ih => rw [List.length_cons, List.length_cons, ih]
theorem PK.imp {R' : V → D → Prop} (h : PK R f l m) (i : ∀ v d, R v d → R' v d) : PK R' f l m := by
  induction h with
  | nil => exact .nil
  | cons q t ih => exact .cons (i _ _ q) ih
end
section
variable {κ : Type} {K : PySem.W.Frag} {mg : Str → Option Value} {G : Hp} {τ : List Addr} {f : κ → D}
theorem pk_of : ∀ {kvs : List (κ × V)} {vs : List D}, RepAll K mg G τ (kvs.map (·.2)) vs → PK (Rep K mg G τ) f kvs ((kvs.map fun p => f p.1).zip vs)
  | [], _, h => by
    cases h
    exact .nil
  | p :: kvs, _, h => by
    rw [List.map_cons] at h
    obtain ⟨p1, p2⟩ := p
    cases h with
    | cons r t => exact .cons r (pk_of t)
end
/-! ### displays with keys ints and texts -/
def evPairs : List (DE × DE) → List Sl → S → Res (List (Key × D))
  | [], _, s => .ok [] s
  | (f, g) :: r, ρ, s => (f ρ s).bind fun k s1 => (g ρ s1).bind fun d s2 => match dk k with
    | some k => (evPairs r ρ s2).bind fun ps s3 => .ok ((k, d) :: ps) s3
    | none => .bad
def mergeD (l : List (Key × D)) : List (D × D) := l.foldl (fun acc kv => putD dk kD acc kv.1 kv.2) []
def eDisp (ps : List (DE × DE)) : DE := fun ρ s => (evPairs ps ρ s).bind fun l s1 => .ok (.dct (mergeD l)) s1
end DL
namespace DL
open PySem PySem.Spec PyProof.Rows L2
variable [LT : LawT] [TC : TellC]
/-! ### sep.join -/
/-- a text's method of one argument -/
def eMs1 (g : Str → D → Option D) (f h : DE) : DE := fun ρ s => (f ρ s).bind fun x s1 => match x with
  | .str a => (h ρ s1).bind fun y s2 => Res.ofO (g a y) s2
  | _ => .bad
def eMs0 (g : Str → Option D) (f : DE) : DE := fun ρ s => (f ρ s).bind fun x s1 => match x with
  | .str a => Res.ofO (g a) s1
  | _ => .bad
/-! ### what the module's names hold -/
/-- the module's name x holds the plain value d -/
def KVal (K : PySem.W.Frag) (mg : Str → Option Value) (x : Str) (d : D) : Prop := ∃ v u, mg x = some u ∧ RelV v u ∧ ∀ G τ, Rep K mg G τ v d
/-- the module's name x holds the def st -/
def FnAt (K : PySem.W.Frag) (mg : Str → Option Value) (x : Str) (st : Stmt) : Prop := ∃ f fd, Fun K x x st f fd ∧ mg x = some (.ref f)
section
variable {K : PySem.W.Frag} {mg : Str → Option Value} {h : Heap} {x : Str}
theorem mkF {st : Stmt} {f : Addr} {oc kV dc pm cd ct : Value} {od an : Option Addr} {sl : Array (Option Value)} (X : K.In h) (G : h.Ns mainGlobals mg) (a : PySem.W.nsIn K mainGlobals x = some (some (.ref f)))
    (l : K.lookup f = some ⟨oc, od, .func (PySem.W.fnOf x x (defArgs st) (defBody st) (defScope st) .none kV dc pm an cd ct), sl⟩) (c : PySem.W.codeIn K cd x = true) (k : PySem.W.keepIn K (.ref f) = true) : FnAt K mg x st :=
  ⟨f, _, fun_mk l c k, PySem.W.mg_of X G a⟩
theorem mkN (X : K.In h) (G : h.Ns mainGlobals mg) (a : PySem.W.nsIn K mainGlobals x = some none) : mg x = none := PySem.W.mg_none_of X G a
end
section
variable {X : Cx} {E : WX} {pos : Pos}
theorem e_kst {x : Str} {d : D} (h : KVal X.K X.mg x d) (hg : Gl X x := by rfl) (hd : (x == ("__debug__" : Str)) = false := by decide) : PE X (.Name x pos) (tE X.K X.mg E (eC d)) := by
  obtain ⟨v, u, hm, rv, r⟩ := h
  exact e_const (pe_glob hg hm rv hd) r
theorem hu64 {k : Nat} {A : Around} (hr : Room k A) : A.units + 64 < cLine := by have := hr.un; omega
theorem hu94 {k : Nat} {A : Around} (hr : Room k A) : A.units + 94 < cLine := by have := hr.un; omega
theorem hu65 {k : Nat} {A : Around} (hr : Room k A) : A.units + 65 < cLine := by have := hr.un; omega
end
end DL
namespace DL
open PySem PySem.Spec PyProof.Rows L2
variable [LT : LawT] [TC : TellC]
/-! ### bodies that always end with return -/
def NoNx (g : DS) : Prop := ∀ ρ s ρ' s', g ρ s ≠ .next ρ' s'
theorem nn_seq {g h : DS} (n : NoNx h) : NoNx (sSeq g h) := fun ρ s ρ' s' e => by
  unfold sSeq at e
  cases hg : g ρ s with
  | next ρ1 s1 => rw [hg] at e; exact n _ _ _ _ e
  | ret d s1 => rw [hg] at e; cases e
  | brk ρ1 s1 => rw [hg] at e; cases e
  | cont ρ1 s1 => rw [hg] at e; cases e
  | exc c s1 => rw [hg] at e; cases e
  | bad => rw [hg] at e; cases e
theorem nn_ret {f : DE} : NoNx (sRet f) := fun ρ s ρ' s' e => by
  unfold sRet Res.thenS at e
  cases hg : f ρ s with
  | ok d s1 => rw [hg] at e; cases e
  | exc c s1 => rw [hg] at e; cases e
  | bad => rw [hg] at e; cases e
theorem nn_retOwn {i : Nat} : NoNx (sRetOwn i) := fun ρ s ρ' s' e => by
  unfold sRetOwn at e
  split at e <;> cases e
theorem nn_frz {i : Nat} {g : DS} (n : NoNx g) : NoNx (sFrz i g) := fun ρ s ρ' s' e => n _ _ _ _ e
/-! ### name = [.. for ..] -/
end DL
namespace DL
open PySem PySem.Spec PyProof.Rows L2
variable [LT : LawT] [TC : TellC]
/-! ### x[::-1] -/
section
variable {prog : Program} {w : World} {A : Around} {E : Value → Shared → Prop} {s : Shared}
theorem sliceApplied_rev {sl : Addr} {vl vu vs : Value} {n : Nat} {Q : Int × Int × Nat → Shared → Prop} (hs : s.heap.IsSliceOf sl vl vu vs) (pl : IsPart vl none) (pu : IsPart vu none) (ps : IsPart vs (some (-1)))
    (h : Q ((n : Int) - 1, -1, n) s) : wpAny (model prog w) A (Builtin.Slice.sliceApplied (.ref sl) (pure (n : Int))) Q E s := by
  obtain ⟨os, hos, hcs, hds⟩ := id hs
  unfold Builtin.Slice.sliceApplied Builtin.Slice.sliceFields
  refine wpAny_bind (wpAny_bind (wpAny_field hos hds (x := vl) rfl (wpAny_bind (wpAny_field hos hds (x := vu) rfl (wpAny_bind (wpAny_field hos hds (x := vs) rfl (wpAny_pure ?_)))))))
  refine wpAny_bind (HT.slicePart_ ps ?_)
  show wpAny _ _ (if ((-1 : Int) == 0) = true then _ else _) _ _ s
  rw [if_neg (by decide)]
  refine wpAny_bind (HT.slicePart_ pl (wpAny_bind (HT.slicePart_ pu (wpAny_bind (wpAny_pure ?_)))))
  have e1 : Builtin.Slice.sliceAdjust none none (-1) (n : Int) = ((n : Int) - 1, -1) := rfl
  have e2 : Builtin.Slice.slicePlaces ((n : Int) - 1) (-1) (-1) = n := by
    unfold Builtin.Slice.slicePlaces
    rw [if_neg (by decide)]
    by_cases hn : (n : Int) - 1 > -1
    · rw [if_pos hn]
      have : ((n : Int) - 1 - -1 - 1) / (- -1) + 1 = n := by
        rw [show (- -1 : Int) = 1 by decide, Int.ediv_one]
        omega
      rw [this]
      exact Int.toNat_natCast n
    · rw [if_neg hn]
      have : n = 0 := by omega
      rw [this]
      rfl
  show wpAny _ _ (match Builtin.Slice.sliceAdjust none none (-1) (n : Int) with | (lo, hi) => pure (lo, (-1 : Int), Builtin.Slice.slicePlaces lo hi (-1))) _ _ s
  rw [e1]
  show wpAny _ _ (pure ((n : Int) - 1, (-1 : Int), Builtin.Slice.slicePlaces ((n : Int) - 1) (-1) (-1))) _ _ s
  rw [e2]
  exact wpAny_pure h
theorem pick_rev (xs : Array Value) : ((List.range xs.size).filterMap fun (k : Nat) => xs[((xs.size : Int) - 1 + (k : Int) * -1).toNat]?) = xs.toList.reverse := by
  refine List.ext_getElem? fun i => ?_
  have key : ∀ n, n ≤ xs.size → ((List.range n).filterMap fun (k : Nat) => xs[((xs.size : Int) - 1 + (k : Int) * -1).toNat]?) = xs.toList.reverse.take n := by
    intro n
    induction n with
    | zero => intro _; rfl
    | succ n ih =>
      intro hn
      rw [List.range_succ, List.filterMap_append, ih (by omega), List.take_add_one]
      congr 1
      have e : ((xs.size : Int) - 1 + (n : Int) * -1).toNat = xs.size - 1 - n := by omega
      have h2 : xs.size - 1 - n < xs.size := by omega
      simp only [List.filterMap_cons, List.filterMap_nil, e]
      rw [Array.getElem?_eq_getElem h2]
      rw [List.getElem?_reverse (by rw [Array.length_toList]; exact hn)]
      simp [h2]
  rw [key _ (Nat.le_refl _)]
  rw [List.take_of_length_le (by simp)]
theorem getItem_tuple_rev {t sl : Addr} {items : Array Value} {vl vu vs : Value} {Q : Value → Shared → Prop} (ht : IsTup s.heap t items) (hs : s.heap.IsSliceOf sl vl vu vs) (pl : IsPart vl none) (pu : IsPart vu none) (ps : IsPart vs (some (-1)))
    (h : Q (.ref s.heap.objs.size) { s with heap := s.heap.push { cls := .type "tuple", data := .seq items.toList.reverse.toArray } }) (hsz : items.size ≤ sizeLine) : wpAny (model prog w) A (getItem (.ref t) (.ref sl)) Q E s := by
  have htake : sizeOk (.seq items.toList.reverse.toArray) := by
    show items.toList.reverse.toArray.size ≤ sizeLine
    rw [List.size_toArray, List.length_reverse, Array.length_toList]
    exact hsz
  obtain ⟨os, hos, hcs, hds⟩ := id hs
  have hTs : s.TypeIs (.ref sl) "slice" := ⟨os, hos, hcs⟩
  unfold getItem
  try with_reducible refine wpAny_holding ?_
  first | refine wpAny_bind (wpAny_pure ?_) | skip
  refine wpAny_bind (wpAny_sequenceKey ht.typeIs (by decide) ?_)
  refine wpAny_bind (wpAny_callSpecial?_slot (name := Str.ofString "__getitem__") ht.typeIs PyProof.Rows.slot_tuple_getitem
    (wpAny_call_entry PyProof.Rows.slot_tuple_getitem ht.typeIs entry_tuple_getitem ?_ (args_tuple_getitem _ _)))
  show wpAny _ _ (Builtin.Tuple.tupleItemsOf (.ref t) >>= _) _ _ s
  refine wpAny_bind (tupleItemsOf_ ht ?_)
  refine wpAny_bind (wpAny_typeOf hTs ?_)
  rw [if_pos (by decide)]
  refine wpAny_bind (sliceApplied_rev hs pl pu ps ?_)
  show wpAny _ _ (if (((items.size : Int) - 1) == 0 && (-1 : Int) == 1 && items.size == items.size) = true then _ else _) _ _ s
  rw [if_neg (by simp), pick_rev]
  first
    | exact wpAny_bind (m := Builtin.Tuple.tupleExact _) (wpAny_newObj_type (wpAny_pure ⟨_, rfl, wpAny_pure h⟩) htake)
    | exact wpAny_bind (m := Builtin.Tuple.tupleExact _) (wpAny_newObj_type (wpAny_bind (wpAny_pure (wpAny_pure ⟨_, rfl, wpAny_pure h⟩))) htake)
    | exact wpAny_bind (wpAny_bind (m := Builtin.Tuple.tupleExact _) (wpAny_newObj_type (wpAny_pure (wpAny_pure ⟨_, rfl, wpAny_pure h⟩)) htake))
    | exact wpAny_bind (wpAny_bind (m := Builtin.Tuple.tupleExact _) (wpAny_newObj_type (wpAny_pure ⟨_, rfl, wpAny_pure h⟩) htake))
end
section
variable {X : Cx}
def tRevT (K : PySem.W.Frag) (te : TE) : TE := fun σ H Q => te σ H fun x H1 => ∃ a xs, x = .ref a ∧ SqT K H1 a xs ∧ ∀ p, H1 p = none → Q (.ref p) (upd H1 p (.tup xs.reverse))
theorem pe_revT {e : Expr} {te : TE} {k : Nat} {p1 p2 p3 pos : Pos} (he : PE X e te) : PE X (.Subscript e (.Slice none none (some (.UnaryOp .USub (.Constant (.int 1) k p1) p2)) p3) pos) (tRevT X.K te) := by
  refine ⟨fun pins s σ H Q I h => ?_⟩
  refine Subscript_ (thn (he.run pins s σ H _ I h) fun v s1 ⟨x, H1, I1, r1, q1⟩ => ?_)
  obtain ⟨a, xs, ex, hx, q⟩ := q1
  subst ex
  cases r1
  have hst : PO X (some (.UnaryOp .USub (.Constant (.int 1) k p1) p2)) (tPart (tUn (rU fun i => .int (-i)) (tC (.int 1)))) := po_some (pe_un un_neg pe_int)
  refine wpAny_Slice (thn (po_none.run pins s1 σ H1 (fun o H2 => o = none ∧ H2 = H1) I1 ⟨rfl, rfl⟩) fun vl s2 ⟨l, H2, I2, pl, el, e2⟩ => ?_)
  subst el e2
  refine thn (po_none.run pins s2 σ H2 (fun o H3 => o = none ∧ H3 = H2) I2 ⟨rfl, rfl⟩) fun vu s3 ⟨u, H3, I3, pu, eu, e3⟩ => ?_
  subst eu e3
  refine thn (hst.run pins s3 σ H3 (fun o H4 => o = some (-1) ∧ H4 = H3) I3 ⟨1, rfl, -1, rfl, rfl, rfl⟩) fun vs s4 ⟨o, H4, I4, ps, eo, e4⟩ => ?_
  subst eo e4
  have I5 : Inv X pins σ H4 { s4 with heap := s4.heap.push { cls := .type "slice", data := .fields #[vl, vu, vs] } } := I4.kept (t' := s4.toks) fun b ob q => Heap.get?_push_of_some _ q
  obtain ⟨its, r, ht, hz⟩ := I5.tuple hx
  have hlen := r.length
  show wpAny (model X.prog X.w) X.A (subscriptTail e (.Slice none none (some (.UnaryOp .USub (.Constant (.int 1) k p1) p2)) p3) (.ref a) (.ref s4.heap.objs.size)) (EP X pins σ Q) X.xe { s4 with heap := s4.heap.push { cls := .type "slice", data := .fields #[vl, vu, vs] } }
  refine tail_any (ops := [.ref a, .ref s4.heap.objs.size]) ht.typeIs (PyProof.Rows.slot_tuple_getitem.lookup) ?_ (by with_unfolding_all rfl)
  refine getItem_tuple_rev ht (Heap.IsSliceOf.new _ vl vu vs) pl pu ps ?_ (by rw [List.size_toArray]; omega)
  rw [List.toList_toArray]
  refine ⟨.ref _, _, I5.laid (t' := s4.toks) (o := .tup xs.reverse) (fun b ob q => Heap.get?_push_of_some _ q) (Nat.le_refl _) ?_, rfl, q _ (I5.hok.fresh (Nat.le_refl _))⟩
  exact ⟨by rw [List.length_reverse]; exact hz, _, r.reverse, IsTup.new _ _⟩
def dRevS : D → Option D
  | .tup xs => some (.tup xs.reverse)
  | .lst xs => some (.lst xs.reverse)
  | _ => none
def eRevS (f : DE) : DE := fun ρ s => (f ρ s).bind fun d s1 => Res.ofO (dRevS d) s1
theorem e_revS {e : Expr} {f : DE} {E : WX} {k : Nat} {p1 p2 p3 pos : Pos} (he : PE X e (tE X.K X.mg E f)) : PE X (.Subscript e (.Slice none none (some (.UnaryOp .USub (.Constant (.int 1) k p1) p2)) p3) pos) (tE X.K X.mg E (eRevS f)) :=
  PE.mono (PE.or (pe_revT he) (pe_revL he)) fun σ H Q z => by
    obtain ⟨W0, W, s, ρ, rfl, st, z⟩ := z
    unfold eRevS at z
    cases hf : f ρ s with
    | bad => rw [hf] at z; exact z.elim
    | exc c s1 => exact .inl ⟨W0, W, s, ρ, rfl, st, by rw [hf] at z ⊢; exact z⟩
    | ok d s1 =>
      have z' := z
      rw [hf] at z'
      simp only [Res.bind] at z'
      cases d with
      | tup ds =>
        refine .inl ⟨W0, W, s, ρ, rfl, st, ?_⟩
        rw [hf]
        intro x W1 x1 B1 r1
        obtain ⟨a, xs, rfl, h1, rr⟩ := r1.tup_inv
        refine ⟨a, xs, rfl, seqT B1.sub h1, fun p hp => ?_⟩
        exact newFrz B1 hp _ (fun v W' e' B' r' => z' v W' (x1.trans B1 e') B' r') fun W' E' e' => .tup e' (RepAll.ext E' rr.reverse)
      | lst ds =>
        refine .inr ⟨W0, W, s, ρ, rfl, st, ?_⟩
        rw [hf]
        intro x W1 x1 B1 r1
        obtain ⟨a, xs, rfl, h1, rr⟩ := r1.lst_inv
        refine ⟨a, xs, rfl, .of (B1.sub _ _ h1), fun p hp => ?_⟩
        exact newFrz B1 hp _ (fun v W' e' B' r' => z' v W' (x1.trans B1 e') B' r') fun W' E' e' => .lst e' (RepAll.ext E' rr.reverse)
      | _ => exact z'.elim
end
/-! ### xs.insert(i, y) of an own list -/
def sIns (i : Nat) (fk f : DE) : DS := fun ρ s => ownAt i ρ fun ds => (aCons fk (aCons f aNil) ρ s).thenS fun l s1 => match l with
  | [.int k, d] => if ds.length < 16777216 ∧ 0 ≤ k ∧ k < 2 ^ 63 then .next (ρ.set i (.own (ds.take k.toNat ++ [d] ++ ds.drop k.toNat))) s1 else .bad
  | _ => .bad
end DL
namespace DL
open PySem PySem.Spec PyProof.Rows L2
variable [LT : LawT] [TC : TellC]
/-! ### own classes of exceptions -/
/-- what is asked of a class C over ValueError that is raised with a text -/
structure XCls (K : PySem.W.Frag) (mg : Str → Option Value) (x : Str) : Prop where
  ex : ∃ C : Addr, mg x = some (.ref C) ∧ PySem.W.excIn K C [.type "ValueError", .type "Exception", .type "BaseException", .type "object"] "ValueError.__new__" = true ∧ PySem.W.keepIn K (.ref C) = true ∧
    PySem.W.subIn K (.ref C) (.type "BaseException") = some true ∧ PySem.W.typeIn K (.ref C) = some (.type "type") ∧ ExcC K C
def sRaise (c : Str) : DS := fun _ s => .exc c s
section
variable {X : Cx} {E : WX} {fr : Fr}
theorem s_raise {c m : Str} {j : Nat} {p p2 p3 p4 : Pos} (hx : XCls X.K X.mg c) (hc : X.calm = true) (tk : Takes X E) (hg : Gl X c := by rfl) (hdb : (c == ("__debug__" : Str)) = false := by decide) :
    QS X E fr (.Raise (some (.Call (.Name c p) [.Constant (.str m) j p2] [] p3)) none p4) (sRaise c) := by
  obtain ⟨C, gC, xC, kC, bC, tC, _⟩ := hx
  refine PS.mono (ps_raise hc tk (pmk_own PySem.F.excBase_ValueError xC gC kC (raises_own bC tC) hg hdb)) fun σ H T h => ?_
  obtain ⟨W0, W, s, ρ, rfl, st, z⟩ := h
  exact z σ W (.ref C) st.ext st.base gC
end
/-! ### a caught exception is kept -/
section
variable {X : Cx} {pins : List (Addr × Obj)} {σ : L2.St} {H : Hp} {s : Shared}
/-- an object that is new since the entry is from now on looked after -/
theorem Inv.took {a : Addr} {ob : Obj} {o : HO} (I : Inv X ((a, ob) :: pins) σ H s) (fresh : X.s_0.heap.get? a = none) (others : ∀ q ∈ X.pn ++ pins, q.1 ≠ a) (ok : ObjOk X.prog X.w (upd H a o) s.heap a o) : Inv X pins σ (upd H a o) s := by
  obtain ⟨here, nH, nL, nF, nC⟩ := I.pin (a, ob) (List.mem_append.mpr (.inr List.mem_cons_self))
  have old : ∀ {b : Addr} {ob' : Obj}, X.s_0.heap.get? b = some ob' → b ≠ a := fun e z => by rw [z, fresh] at e; cases e
  have some_ne : ∀ {b : Addr} {w : HO}, H b = some w → b ≠ a := fun e z => by rw [z, nH] at e; cases e
  refine ⟨I.ok, I.os, I.bare, ⟨I.base.keep, I.base.slot, ?_, I.base.there, ?_, ?_, ?_⟩, I.loc, I.cell, ?_, ?_, ?_, ?_, I.len⟩
  · intro b ob' e n hx
    rw [upd_ne (old e)]
    exact I.base.free b ob' e n hx
  · intro b xs e
    have q := I.base.tups b xs e
    rw [upd_ne (some_ne q)]
    exact q
  · intro b w u e
    have q := I.base.frzs b w u e
    rw [upd_ne (some_ne q)]
    exact q
  · intro b ps e
    obtain ⟨more, q⟩ := I.base.tbls b ps e
    exact ⟨more, by rw [upd_ne (some_ne q)]; exact q⟩
  · rw [upd_ne (Ne.symm nL)]
    exact I.free
  · intro x c e
    obtain ⟨v, oc, hoc, hdc⟩ := I.cell x c e
    have : c ≠ a := fun z => by
      rw [z, here] at hoc
      cases hoc
      exact nC _ hdc
    rw [upd_ne this]
    exact I.freeC x c e
  · intro q hq
    have hm : q ∈ X.pn ++ ((a, ob) :: pins) := by
      rcases List.mem_append.mp hq with h | h
      · exact List.mem_append_left _ h
      · exact List.mem_append_right _ (List.mem_cons_of_mem _ h)
    obtain ⟨e1, e2, e3, e4, e5⟩ := I.pin q hm
    exact ⟨e1, by rw [upd_ne (others q hq)]; exact e2, e3, e4, e5⟩
  · exact HOk.laidN I.hok (fun _ _ e => e) nH ok
theorem keptX_ok {P : Program} {w : World} {H : Hp} {h : Heap} {a : Addr} {cls : Value} {ob : Obj} {us : Array Value} (e : h.get? a = some ob) (z : Zc cls none ob) (d : ob.data = .fields us) : ObjOk P w H h a (KeptX cls a) :=
  ⟨⟨ob, us, e, z, d⟩, ⟨ob, e⟩, fun _ _ ⟨o, v, q, r⟩ k => ⟨o, v, k o q, r⟩⟩
/-- what the clause asks of an exception of the body: slot i is its own name, slot j keeps the exception -/
def wKept (K : PySem.W.Frag) (c : Value) (i j : Nat) (Wout : WX) (D : Ends) : WX := fun cls d σ H =>
  ∃ b, PySem.W.exmOne K cls c = some b ∧ (b = true → d = none ∧ ∀ a, H a = none → D.nx (((σ.set i (some (.ref a))).set j (some (.ref a))).set i none) (upd H a (KeptX cls a))) ∧ (b = false → Wout cls d σ H)
theorem pin_kept {a : Addr} {q : Addr × Obj} (I : Inv (X.suite a (q :: (X.pn ++ pins))) [] σ H s) (ok : X.Ok) : Inv X (q :: pins) σ H s := by
  refine ⟨ok, I.os, I.bare, I.base, I.loc, I.cell, I.free, I.freeC, fun p hp => I.pin p ?_, I.hok, I.len⟩
  rw [List.append_nil]
  show p ∈ q :: (X.pn ++ pins)
  rcases List.mem_append.mp hp with h | h
  · exact List.mem_cons_of_mem _ (List.mem_append_left _ h)
  · rcases List.mem_cons.mp h with h | h
    · rw [h]; exact List.mem_cons_self
    · exact List.mem_cons_of_mem _ (List.mem_append_right _ h)
end
section
variable {X : Cx} {x n y : Str} {c : Value} {i j : Nat} {body : List Stmt} {np nn py ap pos pos' : Pos} {tb : WX → TS} {Wout : WX}
theorem ps_try_kept (hstk : X.stack = X.env :: X.outer) (hfrm : X.env.frame = some X.env.locals) (hex : X.ex = []) (hnd : X.N.Nodup) (hi : X.N[i]? = some n) (hln : X.env.kindOf n = some .local) (hj : X.N[j]? = some y) (hly : X.env.scope.names.lookup y = some .local)
    (hij : i ≠ j) (hln2 : X.env.scope.names.lookup n = some .local) (hd : (n == ("__debug__" : Str)) = false) (hcd : (n == ("__classdict__" : Str)) = false) (hsw : swapsWith (.Name n nn) (some (.Name y py)) ap.line X.env = pure false) (hcls : Names X x c) (hout : Takes X Wout)
    (hbody : ∀ (W : WX) (pn : List (Addr × Obj)) (xe : Value → Shared → Prop), Takes (X.tr pn xe) W → PassesOwn (model X.prog X.w) X.A X.env xe → PSs (X.tr pn xe) body (tb W)) :
    PS X (.Try body [.ExceptHandler (some (.Name x np)) (some n) [.Assign [.Name y py] (.Name n nn) ap] pos'] [] [] pos) (fun D σ H => tb (wKept X.K c i j Wout D) D σ H) := by
  refine ⟨fun pins s0 σ0 H0 D I hp => ?_⟩
  have xok := I.ok
  have frames : X.A.frames = some (X.env :: X.outer) := by rw [xok.frames, hstk]
  apply wpAny_Try_except
  refine wpAny_mono ((hbody (wKept X.K c i j Wout D) (X.pn ++ pins) (fun v t1 => wpAny (model X.prog X.w) X.A (noteFrame v X.env) (fun _ t2 => wpAny (model X.prog X.w) X.A (setFlight v none) (fun _ t3 =>
    wpAny (model X.prog X.w) X.A (handleBy v X.env [.ExceptHandler (some (.Name x np)) (some n) [.Assign [.Name y py] (.Name n nn) ap] pos']) (SP X pins D) X.xe t3) X.xe t2) X.xe t1) (fun v t hv => ?cc) PassesOwn.looking).run [] s0 σ0 H0 D (I.toTry _) hp) (fun fl t hfl => ?tt) fun v t hv => hv
  case tt =>
    match fl, hfl with
    | .next, ⟨σ1, H1, J, q⟩ => exact wpAny_execs_nil ⟨σ1, H1, J.ofTry xok, q⟩
    | .brk, ⟨σ1, H1, J, q⟩ => exact ⟨σ1, H1, J.ofTry xok, q⟩
    | .cont, ⟨σ1, H1, J, q⟩ => exact ⟨σ1, H1, J.ofTry xok, q⟩
    | .ret u, ⟨v, σ1, H1, J, r, q⟩ => exact ⟨v, σ1, H1, J.ofTry xok, r, q⟩
  case cc =>
    obtain ⟨a, B, tI, pins1, σ1, H1, cls, d, rfl, JT, ground, upto, inSky, nH, hos, hbare, b, hexm, whenYes, whenNo⟩ := hv
    have J : Inv X pins σ1 H1 tI := JT.ofTry xok
    have sky1 : Sky B (X.env :: X.outer) a (Zc cls d) X.env.locals t.heap := by rw [← hstk]; exact inSky
    show wpAny (model X.prog X.w) X.A (noteFrame (.ref a) X.env) _ _ _
    refine Sky.land Zc.steady frames hfrm sky1 fun g3 held3 up3 => ?_
    have J3 : Inv X pins σ1 H1 { t with heap := g3 } := J.landed ground held3.1 (upto.trans up3) hos hbare
    obtain ⟨ob3, us3, at3, z3, fd3⟩ := held3.there
    have offFrames : ∀ {g : Heap} {ob : Obj} {us : Array Value}, g.FunFrames B (X.env :: X.outer) → g.get? a = some ob → ob.data = .fields us → a ∉ frs (X.env :: X.outer) := by
      intro g ob us ff hget hdata hmem
      obtain ⟨_, ob', hget', notData⟩ := ff.mem hmem
      rw [hget] at hget'
      cases hget'
      exact notData _ hdata
    have off := offFrames held3.2.2.1 at3 fd3
    have aL : a ≠ X.env.locals := fun z => off (List.mem_filterMap.mpr ⟨X.env, List.mem_cons_self, by rw [hfrm, z]⟩)
    have aF : a ∉ X.fs := fun hm => by
      obtain ⟨env', hin, hq⟩ := List.mem_filterMap.mp hm
      exact off (List.mem_filterMap.mpr ⟨env', List.mem_cons_of_mem _ hin, hq⟩)
    have aI : tI.heap.get? a = none := by
      cases q : tI.heap.get? a with
      | none => rfl
      | some ob =>
        have z := ground a ob q (by rw [hstk]; exact off)
        rw [held3.2.1] at z
        cases z
    have a0 : X.s_0.heap.get? a = none := by
      cases q : X.s_0.heap.get? a with
      | none => rfl
      | some ob =>
        obtain ⟨ob', z⟩ := J.base.there a ob q (by rw [hex]; simp)
        rw [aI] at z
        cases z
    have aP : ∀ q ∈ X.pn ++ pins, q.1 ≠ a := fun q hq z => by
      have e := (J.pin q hq).1
      rw [z, aI] at e
      cases e
    have S3 := J3.suite at3 fd3 nH aL aF
    refine wpAny_handleBy_cons (codeAny_handlers_test ?_) (by intro z; cases z)
    have looksTy : PySem.W.Looks (model X.prog X.w) g3 (typeOf (.ref a)) cls := fun A1 Q1 E1 t1 k1 q1 => wpAny_typeOf_ref (k1 _ _ at3) (by rw [z3.1]; exact q1)
    have looksM := PySem.W.exm_one (M := model X.prog X.w) (J3.kIn) looksTy hexm
    have named : ∀ {Q1 : Value → Shared → Prop} {E1 : Value → Shared → Prop}, Q1 c { t with heap := g3 } → wpAny (model X.prog X.w) (X.A.mark (some (.ref a))) (eval (.Name x np) X.env) Q1 E1 { t with heap := g3 } := by
      intro Q1 E1 q1
      obtain ⟨gl, dbg, hm | ⟨hm, hv, hnn⟩⟩ := hcls
      · exact ld_glob (X := X.suite a ((a, ob3) :: (X.pn ++ pins))) S3 gl hm q1 dbg
      · exact ld_blt (X := X.suite a ((a, ob3) :: (X.pn ++ pins))) S3 gl hm hv q1 hnn dbg
    refine named (looksM.here ?_)
    cases b with
    | true =>
      refine codeAny_handlers_suite_as (HandSPX.lands_againZ held3 fun g4 held4 up4 => ?_)
      have J4 : Inv X pins σ1 H1 { t with heap := g4 } := J.landed ground held4.1 ((upto.trans up3).trans up4) hos hbare
      obtain ⟨ob4, us4, at4, z4, fd4⟩ := held4.there
      have S4 := J4.suite at4 fd4 nH aL aF
      obtain ⟨rfl, toNext⟩ := whenYes rfl
      refine store_ok (X := X.suite a ((a, ob4) :: (X.pn ++ pins))) (v := .ref a) S4 hnd hi (.inl hln) rfl (fun t5 S5 => ?_) (.inr hln)
      have li : i < σ1.length := by
        rw [J.len]
        exact (List.getElem?_eq_some_iff.mp hi).1
      have stm : PSs (X.suite a ((a, ob4) :: (X.pn ++ pins))) [.Assign [.Name y py] (.Name n nn) ap] _ := pss_one (ps_set (i := j) hnd hj (.inl hly) (pv i hi (.inl hln2) hd hcd) hsw (.inr hly))
      refine wpAny_mono (stm.run [] t5 _ H1 { nx := fun σ2 H2 => σ2 = (σ1.set i (some (.ref a))).set j (some (.ref a)) ∧ H2 = H1, rt := fun _ _ => False } S5 ?_) (fun fl t6 h6 => ?_) (fun _ _ z => False.elim z)
      · exact ⟨.ref a, by rw [List.getElem?_set_self li], rfl, rfl⟩
      · have fin : ∀ {σ2 : L2.St} {H2 : Hp}, Inv (X.suite a ((a, ob4) :: (X.pn ++ pins))) [] σ2 H2 t6 → σ2 = (σ1.set i (some (.ref a))).set j (some (.ref a)) ∧ H2 = H1 →
            wpAny (model X.prog X.w) X.A (do bindName X.env n .none; unbindBehindTheSuite X.env n pos') (fun _ t7 => SP X pins D .next t7) X.xe t6 := by
          rintro σ2 H2 S6 ⟨rfl, rfl⟩
          have S6' := pin_kept S6 xok
          refine gone_ok S6' hnd hi hln fun t7 J7 => ?_
          obtain ⟨e7, _⟩ := J7.pin (a, ob4) (List.mem_append.mpr (.inr List.mem_cons_self))
          exact ⟨_, _, Inv.took J7 a0 aP (keptX_ok e7 z4 fd4), toNext a nH⟩
        match fl, h6 with
        | .next, ⟨σ2, H2, S6, q6⟩ => exact fin S6 q6
        | .ret u, ⟨v, σ2, H2, S6, r, q6⟩ => exact q6.elim
        | .brk, ⟨σ2, H2, S6, q6⟩ => exact q6.elim
        | .cont, ⟨σ2, H2, S6, q6⟩ => exact q6.elim
    | false =>
      show wpAny _ X.A (handleBy (.ref a) X.env []) _ _ _
      refine wpAny_handleBy_nil ?_
      obtain ⟨k1, k2, k3, ob, us, T1, oT, tt, hget, hz, hdat, h1, hr⟩ := id held3
      unfold PySem.passOn
      refine wpAny_bind (wpAny_field hget hdat h1 ?_)
      rw [if_neg (show ¬ ((Value.ref T1 == Value.none) = true) from by simp)]
      have out : wpAny (model X.prog X.w) X.A (setFlight (.ref a) X.env.frame) (fun _ t4 => wpAny (model X.prog X.w) X.A (throw (.ref a) : Sem Flow) (SP X pins D) X.xe t4) X.xe { t with heap := g3 } := by
        rw [hfrm]
        refine HandSPX.setFlight_upZ held3 fun g4 hh4 up4 => wpAny_throw (hout _ _ ?_)
        exact ⟨a, B, tI, pins, σ1, H1, cls, d, rfl, J, ground, (upto.trans up3).trans up4, .inr (.inr (by rw [hstk]; exact hh4)), nH, hos, hbare, whenNo rfl⟩
      first
        | exact wpAny_bind (wpAny_pure (wpAny_bind out))
        | exact wpAny_bind out
end
end DL
namespace DL
open PySem PySem.Spec PyProof.Rows L2
variable [LT : LawT] [TC : TellC]
/-! ### which class is below which -/
abbrev XTb := List (Str × Str × Bool)
def isX (tb : XTb) (x y : Str) : Option Bool := (tb.find? fun p => decide (p.1 = x ∧ p.2.1 = y)).map (·.2.2)
/-- the class that the name y stands for -/
def ClsN (mg : Str → Option Value) (y : Str) (cv : Value) : Prop := (∃ C : Addr, cv = .ref C ∧ mg y = some cv) ∨ (mg y = none ∧ bootBuiltins y = some cv ∧ y ≠ "__name__" ∧ ∃ T : String, cv = .type T ∧ y = (T : Str))
def XRel (K : PySem.W.Frag) (mg : Str → Option Value) (x y : Str) (b : Bool) : Prop := ∃ (C : Addr) (cv : Value), mg x = some (.ref C) ∧ ExcC K C ∧ ClsN mg y cv ∧ PySem.W.kitOne K (.ref C) cv = some b ∧ PySem.W.exmOne K (.ref C) cv = some b
def XTab (K : PySem.W.Frag) (mg : Str → Option Value) (tb : XTb) : Prop := ∀ p ∈ tb, XRel K mg p.1 p.2.1 p.2.2
theorem XTab.get {K : PySem.W.Frag} {mg : Str → Option Value} {tb : XTb} (h : XTab K mg tb) {x y : Str} {b : Bool} (e : isX tb x y = some b) : XRel K mg x y b := by
  unfold isX at e
  obtain ⟨p, hp, rfl⟩ := Option.map_eq_some_iff.mp e
  have hm := List.mem_of_find?_eq_some hp
  have hq := List.find?_some hp
  simp only [decide_eq_true_eq] at hq
  have := h p hm
  rw [hq.1, hq.2] at this
  exact this
section
variable {K : PySem.W.Frag} {mg : Str → Option Value}
def isXs (tb : XTb) (x : Str) : List D → Option Bool
  | [] => some false
  | .glb y :: r => match isX tb x y, isXs tb x r with
    | some b, some c => some (b || c)
    | _, _ => none
  | _ => none
/-- isinstance of a kept exception -/
def dIsX (tb : XTb) : FN := fun ds => match ds with
  | [.exc x, .glb y] => (isX tb x y).map .bl
  | [.exc x, .ty T] => if T = "ValueError" then (isX tb x "ValueError").map .bl else none
  | [.exc x, .tup (.glb y :: cs)] => (isXs tb x (.glb y :: cs)).map .bl
  | _ => none
def rIsKX (K : PySem.W.Frag) : List V → Hp → VK → Prop := fun xs H Q => ∃ (a C : Addr) (c : V) (b : Bool), xs = [.ref a, c] ∧ H a = some (KeptX (.ref C) a) ∧ ExcC K C ∧
  ((∃ cv, ClsV c cv ∧ PySem.W.kitOne K (.ref C) cv = some b) ∨ (∃ tp cs us, c = .ref tp ∧ H tp = some (.tup cs) ∧ Paired ClsV cs us ∧ PySem.W.kitAny K (.ref C) us = some b)) ∧ Q (.bl b) H
theorem c_isX {X : Cx} : CallR X (.builtin "isinstance") (rIsKX X.K) := by
  intro pins s σ H xs us Q I r h
  obtain ⟨a, C, c, b, rfl, ha, E, hc, q⟩ := h
  obtain ⟨u1, u2, rfl, r1, r2⟩ := vals2 r
  cases (show u1 = Value.ref a from r1)
  obtain ⟨⟨ob, vs, hget, hz, hd⟩, _, _⟩ := (show ObjOk X.prog X.w H s.heap a (KeptX (.ref C) a) from I.hok a _ ha)
  have J : PySem.W.InstAt s.heap a ob C none := by
    obtain ⟨oc, od, oda, osl⟩ := ob
    obtain ⟨h1, h2⟩ := hz
    dsimp only at h1 h2 hd
    subst h1 h2 hd
    exact ⟨hget, rfl, rfl, trivial⟩
  have Z := PySem.W.handS_kitx_exc (x := a) (ox := ob) E.hg E.hk E.hs E.hd E.ha E.hn E.ht E.hm
  rcases hc with ⟨cv, hv, e⟩ | ⟨tp, cs, ws, rfl, hT, k, e⟩
  · have e2 := hv.eq r2
    subst e2
    exact PySem.W.kia_one Z I.kIn J e (fun z => nomatch z) fun tk => ⟨.bl b, H, I.tok tk, rfl, q⟩
  · cases (show u2 = Value.ref tp from r2)
    obtain ⟨_, its, rv, o, h1, h2, n, h3⟩ := (show ObjOk X.prog X.w H s.heap tp (.tup cs) from I.hok tp _ hT)
    have e3 := ClsV.all k rv
    subst e3
    obtain ⟨oc, od, dt, sl⟩ := o
    simp only at h2 h3
    subst h2 h3
    exact PySem.W.kia_tup Z I.kIn J h1 e (fun z => nomatch z) fun tk => ⟨.bl b, H, I.tok tk, rfl, q⟩
theorem refV {v : V} {C : Addr} (h : RelV v (.ref C)) : v = .ref C := by
  cases v with
  | ref a => cases h; rfl
  | non => cases h
  | bl b => cases h
  | int i => obtain ⟨t, h⟩ := h; cases h
  | str x => obtain ⟨t, h⟩ := h; cases h
  | byt x => obtain ⟨t, h⟩ := h; cases h
  | flt x => obtain ⟨t, h⟩ := h; cases h
  | ty n => cases h
theorem cls_glb {G : Hp} {τ : List Addr} {v : V} {y : Str} {cv : Value} (r : Rep K mg G τ v (.glb y)) (h : ClsN mg y cv) : ClsV v cv := by
  cases r with
  | glb hm hr =>
    rcases h with ⟨C, rfl, h⟩ | ⟨h, _⟩
    · rw [hm] at h
      cases h
      rw [refV hr]
      exact .own C
    · rw [hm] at h
      cases h
theorem str_inj {a b : String} (h : (a : Str) = (b : Str)) : a = b := by
  have h : Str.ofString a = Str.ofString b := h
  rw [Str.ofString_eq_toList, Str.ofString_eq_toList] at h
  have h2 : a.toList.map Char.toNat = b.toList.map Char.toNat := by simpa using h
  have h3 : a.toList = b.toList := List.map_inj_right (fun x y e => Char.toNat_inj.mp e) |>.mp h2
  rw [← String.ofList_toList (s := a), h3, String.ofList_toList]
theorem cls_ty {G : Hp} {τ : List Addr} {v : V} {T : String} {cv : Value} (r : Rep K mg G τ v (.ty T)) (hb : mg (T : Str) = none) (h : ClsN mg (T : Str) cv) : ClsV v cv := by
  cases r.ty_inv
  rcases h with ⟨C, rfl, h⟩ | ⟨_, _, _, T', rfl, e⟩
  · rw [hb] at h
    cases h
  · rw [str_inj e]
    exact .ty T'
end
section
variable {K : PySem.W.Frag} {mg : Str → Option Value} {tb : XTb}
theorem exc_inv {G : Hp} {τ : List Addr} {v : V} {x : Str} (r : Rep K mg G τ v (.exc x)) : ∃ a C, v = .ref a ∧ mg x = some (.ref C) ∧ G a = some (KeptX (.ref C) a) := by
  cases r with
  | exc h e => exact ⟨_, _, rfl, h, e⟩
theorem isXs_of (hT : XTab K mg tb) {G : Hp} {τ : List Addr} {x : Str} {C : Addr} (hx : mg x = some (.ref C)) : ∀ {cs : List D} {vs : List V} {b : Bool}, isXs tb x cs = some b → RepAll K mg G τ vs cs → ∃ us, Paired ClsV vs us ∧ PySem.W.kitAny K (.ref C) us = some b
  | [], _, _, h, r => by
    cases h
    rw [r.nil_inv]
    exact ⟨[], .nil, kitAny_nil⟩
  | d :: cs, _, b, h, r => by
    obtain ⟨v, us, rfl, rv, ru⟩ := r.cons_inv
    cases d with
    | glb y =>
      unfold isXs at h
      cases hy : isX tb x y with
      | none => rw [hy] at h; cases h
      | some b1 =>
        rw [hy] at h
        cases hr : isXs tb x cs with
        | none => rw [hr] at h; cases h
        | some b2 =>
          rw [hr] at h
          cases h
          obtain ⟨C', cv, h1, h2, h3, h4, h5⟩ := hT.get hy
          rw [hx] at h1
          cases h1
          obtain ⟨ws, hw, hk⟩ := isXs_of hT hx hr ru
          refine ⟨_, .cons (cls_glb rv h3) hw, kitAny_cons h4 (fun e => ?_) (fun e => ?_)⟩
          · rw [e]; exact hk
          · rw [e]; rfl
    | _ => cases h
theorem v_isX (hT : XTab K mg tb) (hv : mg "ValueError" = none) : VC K mg (rIsKX K) (dIsX tb) := fun W s vs ds z Q B r hz q => by
  unfold dIsX at hz
  split at hz
  · rename_i x y
    obtain ⟨b, hb, rfl⟩ := Option.map_eq_some_iff.mp hz
    obtain ⟨v, u, rfl, rv, ru⟩ := r.two_inv
    obtain ⟨a, C, rfl, hm, hG⟩ := exc_inv rv
    obtain ⟨C', cv, h1, h2, h3, h4, h5⟩ := hT.get hb
    rw [hm] at h1
    cases h1
    exact ⟨a, C, u, b, rfl, B.sub _ _ hG, h2, .inl ⟨cv, cls_glb ru h3, h4⟩, stay B q (.bl b)⟩
  · rename_i x T
    split at hz
    · rename_i e
      subst e
      obtain ⟨b, hb, rfl⟩ := Option.map_eq_some_iff.mp hz
      obtain ⟨v, u, rfl, rv, ru⟩ := r.two_inv
      obtain ⟨a, C, rfl, hm, hG⟩ := exc_inv rv
      obtain ⟨C', cv, h1, h2, h3, h4, h5⟩ := hT.get hb
      rw [hm] at h1
      cases h1
      exact ⟨a, C, u, b, rfl, B.sub _ _ hG, h2, .inl ⟨cv, cls_ty (T := "ValueError") ru hv h3, h4⟩, stay B q (.bl b)⟩
    · cases hz
  · rename_i x y cs
    obtain ⟨b, hb, rfl⟩ := Option.map_eq_some_iff.mp hz
    obtain ⟨v, u, rfl, rv, ru⟩ := r.two_inv
    obtain ⟨a, C, rfl, hm, hG⟩ := exc_inv rv
    obtain ⟨p, xs, rfl, hp, rr⟩ := ru.tup_inv'
    obtain ⟨us, hu, hk⟩ := isXs_of hT hm hb rr
    have hE : ExcC K C := by
      unfold isXs at hb
      cases hy : isX tb x y with
      | none => rw [hy] at hb; cases hb
      | some b1 =>
        obtain ⟨C', cv, h1, h2, _⟩ := hT.get hy
        rw [hm] at h1
        cases h1
        exact h2
    exact ⟨a, C, .ref p, b, rfl, B.sub _ _ hG, hE, .inr ⟨p, xs, us, rfl, B.sub _ _ hp, hu, hk⟩, stay B q (.bl b)⟩
  · cases hz
end
end DL
namespace DL
open PySem PySem.Spec PyProof.Rows L2
variable [LT : LawT] [TC : TellC]
/-! ### try: f; except c as n: y = n -/
def sTryE (tb : XTb) (c : Str) (i j : Nat) (f : DE) : DS := fun ρ s => match f ρ s with
  | .ok _ s1 => .next ρ s1
  | .exc x s1 => match isX tb x c with
    | some true => .next ((ρ.set j (.dat (.exc x))).set i .emp) s1
    | some false => .exc x s1
    | none => .bad
  | .bad => .bad
/-- .. with k = f -/
def sTryA (tb : XTb) (c : Str) (i j k : Nat) (f : DE) : DS := fun ρ s => match f ρ s with
  | .ok d s1 => .next (ρ.set k (.dat d)) s1
  | .exc x s1 => match isX tb x c with
    | some true => .next ((ρ.set j (.dat (.exc x))).set i .emp) s1
    | some false => .exc x s1
    | none => .bad
  | .bad => .bad
section
variable {X : Cx} {E : WX} {fr : Fr} {tb : XTb} {x n y : Str} {c : Value} {i j : Nat} {f : DE} {e : Expr} {np nn py ap ep pos pos' : Pos}
theorem kept_post {W0 W W1 : Hw} {s s1 : S} {ρ : List Sl} {σ : L2.St} {T : Ends} {cv : Value} {xx : Str} {u : Value} (hT : XTab X.K X.mg tb) (hcv : X.mg x = some cv) (hij : i ≠ j) (st : SSt X.K X.mg W0 W s σ ρ)
    (z : PostS X.K X.mg E fr W0 (match isX tb xx x with
    | some true => Fl.next ((ρ.set j (.dat (.exc xx))).set i .emp) s1
    | some false => .exc xx s1
    | none => .bad) T) (e1 : Ext W W1) (B1 : Base X.K X.mg W1 s1) (hu : X.mg xx = some u) : wKept X.K cv i j E T u none σ W1.H := by
  cases hb : isX tb xx x with
  | none => rw [hb] at z; exact z.elim
  | some b =>
    rw [hb] at z
    obtain ⟨C, cv', h1, h2, h3, h4, h5⟩ := hT.get hb
    have ec : cv' = cv := by
      rcases h3 with ⟨C2, rfl, h⟩ | ⟨h, _⟩
      · rw [hcv] at h; cases h; rfl
      · rw [hcv] at h; cases h
    subst ec
    rw [hu] at h1
    cases h1
    refine ⟨b, h5, fun e2 => ⟨rfl, fun a ha => ?_⟩, fun e2 => ?_⟩
    · subst e2
      have st1 := st.step e1 B1
      obtain ⟨B2, E2⟩ := B1.newO ha (KeptX (.ref C) a)
      have st2 := st1.step E2 B2
      have r : Rep X.K X.mg (upd W1.G a (KeptX (.ref C) a)) W1.τ (.ref a) (.exc xx) := .exc hu upd_same
      have st3 := (st2.setDat r j).wipe1 i
      have hs : (σ.set j (some (V.ref a))).set i none = ((σ.set i (some (V.ref a))).set j (some (V.ref a))).set i none := by
        rw [List.set_comm _ _ (Ne.symm hij), List.set_comm _ _ (Ne.symm hij), List.set_set]
      rw [← hs]
      exact z _ _ st3
    · subst e2
      exact z σ W1 (.ref C) (st.ext.trans st.base e1) B1 hu
end
/-! ### the facts of a law -/
section
variable {K : PySem.W.Frag} {mg : Str → Option Value} {h : Heap} {x y : Str} {C C2 : Addr} {b : Bool}
theorem kv_some {d : D} (h : KVal K mg x d) : ∃ cv, mg x = some cv := by
  obtain ⟨v, u, e, _⟩ := h
  exact ⟨u, e⟩
theorem mkC (X : K.In h) (G : h.Ns mainGlobals mg) (a : PySem.W.nsIn K mainGlobals x = some (some (.ref C))) : KVal K mg x (.glb x) :=
  ⟨.ref C, .ref C, PySem.W.mg_of X G a, rfl, fun _ _ => .glb (PySem.W.mg_of X G a) rfl⟩
theorem mkXC (X : K.In h) (G : h.Ns mainGlobals mg) (a : PySem.W.nsIn K mainGlobals x = some (some (.ref C))) (xC : PySem.W.excIn K C [.type "ValueError", .type "Exception", .type "BaseException", .type "object"] "ValueError.__new__" = true)
    (kC : PySem.W.keepIn K (.ref C) = true) (bC : PySem.W.subIn K (.ref C) (.type "BaseException") = some true) (tC : PySem.W.typeIn K (.ref C) = some (.type "type")) (e : ExcC K C) : XCls K mg x := ⟨C, PySem.W.mg_of X G a, xC, kC, bC, tC, e⟩
theorem mkXR (X : K.In h) (G : h.Ns mainGlobals mg) (a : PySem.W.nsIn K mainGlobals x = some (some (.ref C))) (e : ExcC K C) (a2 : PySem.W.nsIn K mainGlobals y = some (some (.ref C2))) (h1 : PySem.W.kitOne K (.ref C) (.ref C2) = some b) (h2 : PySem.W.exmOne K (.ref C) (.ref C2) = some b) : XRel K mg x y b :=
  ⟨C, .ref C2, PySem.W.mg_of X G a, e, .inl ⟨C2, rfl, PySem.W.mg_of X G a2⟩, h1, h2⟩
theorem mkXV (X : K.In h) (G : h.Ns mainGlobals mg) (a : PySem.W.nsIn K mainGlobals x = some (some (.ref C))) (e : ExcC K C) (a2 : PySem.W.nsIn K mainGlobals "ValueError" = some none) (h1 : PySem.W.kitOne K (.ref C) (.type "ValueError") = some b) (h2 : PySem.W.exmOne K (.ref C) (.type "ValueError") = some b) : XRel K mg x "ValueError" b :=
  ⟨C, .type "ValueError", PySem.W.mg_of X G a, e, .inr ⟨PySem.W.mg_none_of X G a2, by decide +kernel, by decide, "ValueError", rfl, rfl⟩, h1, h2⟩
theorem xt_nil : XTab K mg [] := fun _ h => nomatch h
theorem xt_cons {tb : XTb} (h1 : XRel K mg x y b) (h2 : XTab K mg tb) : XTab K mg ((x, y, b) :: tb) := fun p hp => by
  rcases List.mem_cons.mp hp with rfl | hp
  · exact h1
  · exact h2 p hp
end
/-! ### repr of long numbers -/
theorem c_reprG {X : Cx} (dg : PySem.W.nsIn X.K cStatics "sys.int_max_str_digits" = some none) (hg : X.A.guards = some []) (hu : X.A.units + 94 < cLine) : CallR X (.builtin "repr") (rRepr 12900 X.K X.mg) := by
  intro pins s σ H xs us Q I r h
  obtain ⟨mc, h1, _⟩ := I.mod.nolimit
  have nd : X.base.NoDigits := ⟨mc, h1, PySem.W.ns_none_of I.mod.kin h1 dg⟩
  exact c_reprL (L := 12900) (.inr ⟨nd, Nat.le_refl _⟩) hg hu pins s σ H xs us Q I r h
end DL
namespace DL
open PySem PySem.Spec PyProof.Rows L2 RT RZ
variable [LT : LawT] [TC : TellC]
/-! ### enumerate, zip, reversed -/
section
variable {K : PySem.W.Frag} {mg : Str → Option Value} {W1 : Hw}
def enumD (ds : List D) : List D := ds.mapIdx fun i d => .tup [.int (i : Int), d]
def zipD (as bs : List D) : List D := List.zipWith (fun a b => .tup [a, b]) as bs
theorem its_revL {a : Addr} {xs : List V} {ds : List D} (h : SqL K W1.G a xs) (r : RepAll K mg W1.G W1.τ xs ds) : ∃ G Y, Its K mg W1 (Itv K a xs.length) ds.reverse G Y := by
  refine ⟨_, _, by rw [List.length_reverse, ← r.length]; exact walk_rev, fun W2 s2 g B => B.sub.seq (g.seq h), fun i W2 s2 x H' g t B hi hy => ?_⟩
  obtain ⟨rfl, hx⟩ := hy
  obtain ⟨d, hd, rd⟩ := (r.mono g t).get hx
  rw [List.length_reverse] at hi
  exact ⟨W2, d, rfl, by rw [List.getElem?_reverse hi, ← r.length]; exact hd, Ext.refl _, B, rd⟩
theorem walk_revT {a : Addr} {xs : List V} : Walk (ItvT K a xs.length) xs.length (fun H => SqT K H a xs) (fun i H x H' => H' = H ∧ xs[xs.length - 1 - i]? = some x) :=
  ⟨fun i _ hi q => ⟨hi, xs, xs[xs.length - 1 - i]'(by omega), q, by simp [show xs.length - 1 - i < xs.length by omega]⟩, fun _ _ => Nat.le_refl _, fun _ _ _ _ _ q y => ⟨y.1, y.2 xs q⟩⟩
theorem its_revT {a : Addr} {xs : List V} {ds : List D} (h : SqT K W1.G a xs) (r : RepAll K mg W1.G W1.τ xs ds) : ∃ G Y, Its K mg W1 (ItvT K a xs.length) ds.reverse G Y := by
  refine ⟨_, _, by rw [List.length_reverse, ← r.length]; exact walk_revT, fun W2 s2 g B => seqT B.sub (seqT g h), fun i W2 s2 x H' g t B hi hy => ?_⟩
  obtain ⟨rfl, hx⟩ := hy
  obtain ⟨d, hd, rd⟩ := (r.mono g t).get hx
  rw [List.length_reverse] at hi
  exact ⟨W2, d, rfl, by rw [List.getElem?_reverse hi, ← r.length]; exact hd, Ext.refl _, B, rd⟩
end
/-- what stands in a list or tuple -/
def sqOf : D → Option (List D)
  | .lst ds => some ds
  | .tup ds => some ds
  | .frz ds => some ds
  | .ktp ds => some ds
  | _ => none
def iEnum (fs : DA) : DA := fun ρ s => (fs ρ s).bind fun ds s1 => match ds with
  | [d] => Res.ofO ((sqOf d).map enumD) s1
  | _ => .bad
def iRev (fs : DE) : DA := fun ρ s => (fs ρ s).bind fun d s1 => Res.ofO ((sqOf d).map List.reverse) s1
def isTu : D → Bool
  | .tup _ => true
  | .ktp _ => true
  | _ => false
def iZip (fs : DA) : DA := fun ρ s => (fs ρ s).bind fun ds s1 => match ds with
  | [d, e] => if isTu d = isTu e then (match sqOf d, sqOf e with
    | some as, some bs => .ok (zipD as bs) s1
    | _, _ => .bad) else .bad
  | _ => .bad
section
variable {X : Cx} {E : WX} {tg e a b c : Expr} {f : DE} {fs : DA} {pos p tpos : Pos} {elts : List Expr} {kk : Nat}
theorem sqv_inv {K : PySem.W.Frag} {mg : Str → Option Value} {W : Hw} {v : V} {d : D} {ds : List D} (r : Rep K mg W.G W.τ v d) (h : sqOf d = some ds) : ∃ a xs, v = .ref a ∧ RepAll K mg W.G W.τ xs ds ∧ ((isTu d = false ∧ SqL K W.G a xs) ∨ (isTu d = true ∧ SqT K W.G a xs)) := by
  cases d with
  | lst ds => cases h; obtain ⟨a, xs, rfl, h1, rr⟩ := r.lst_inv; exact ⟨a, xs, rfl, rr, .inl ⟨rfl, .of h1⟩⟩
  | frz ds => cases h; obtain ⟨a, xs, rfl, h1, rr⟩ := r.frz_inv; exact ⟨a, xs, rfl, rr, .inl ⟨rfl, h1⟩⟩
  | tup ds => cases h; obtain ⟨a, xs, rfl, h1, rr⟩ := r.tup_inv; exact ⟨a, xs, rfl, rr, .inr ⟨rfl, h1⟩⟩
  | ktp ds => cases h; obtain ⟨a, xs, rfl, h1, rr⟩ := r.ktp_inv; exact ⟨a, xs, rfl, rr, .inr ⟨rfl, h1⟩⟩
  | _ => cases h
theorem i_reversed (hm : X.mg "reversed" = none) (ha : PE X a (tE X.K X.mg E f)) (hg : Gl X "reversed" := by rfl) (hs : starEach [a] X.env = (false, eval a X.env) :: starEach [] X.env := by rfl) :
    PI X tg (.Call (.Name "reversed" p) [a] [] pos) (tI X.K X.mg E (iRev f)) := PI.mono (pi_revA hg hm ha hs) fun σ H R z => by
  obtain ⟨W0, W, s, ρ, rfl, st, z⟩ := z
  refine (go st z).imp fun x H1 ⟨W1, s1, d, e1, r1, x1, st1, z1⟩ => ?_
  subst e1
  cases hd : sqOf d with
  | none => rw [hd] at z1; exact z1.elim
  | some es =>
    simp only [hd, Option.map_some] at z1
    obtain ⟨a, xs, rfl, rr, q⟩ := sqv_inv r1 hd
    rcases q with ⟨_, q⟩ | ⟨_, q⟩
    · exact ⟨a, xs, rfl, .inl ⟨st1.base.sub.seq q, z1 _ W1 (Ext.refl _) st1.base (its_revL q rr)⟩⟩
    · exact ⟨a, xs, rfl, .inr ⟨seqT st1.base.sub q, z1 _ W1 (Ext.refl _) st1.base (its_revT q rr)⟩⟩
end
end DL
namespace DL
open PySem PySem.Spec PyProof.Rows L2
variable [LT : LawT] [TC : TellC]
/-! ### special lists of a def's own, forgotten behind it -/
mutual
/-- all special objects in it are among the first n -/
def tokLt (n : Nat) : D → Bool
  | .tok k => decide (k < n)
  | .tup xs => tokLts n xs
  | .lst xs => tokLts n xs
  | .frz xs => tokLts n xs
  | .ktp xs => tokLts n xs
  | .dct kvs => tokLtk n kvs
  | .fd _ kvs => tokLtk n kvs
  | _ => true
def tokLts (n : Nat) : List D → Bool
  | [] => true
  | x :: xs => tokLt n x && tokLts n xs
def tokLtk (n : Nat) : List (D × D) → Bool
  | [] => true
  | (_, v) :: kvs => tokLt n v && tokLtk n kvs
end
section
variable {K : PySem.W.Frag} {mg : Str → Option Value} {G : Hp} {τ : List Addr} {n : Nat}
theorem tokLtk_zip : ∀ {ks vs : List D}, ks.length = vs.length → tokLtk n (ks.zip vs) = tokLts n vs
  | [], [], _ => rfl
  | k :: ks, v :: vs, h => by
    simp only [List.zip_cons_cons, tokLtk, tokLts]
    rw [tokLtk_zip (by simpa using h)]
  | [], _ :: _, h => by simp at h
  | _ :: _, [], h => by simp at h
mutual
theorem Rep.toks : ∀ {v : V} {d : D}, Rep K mg G τ v d → tokLt τ.length d = true
  | _, _, .non => rfl
  | _, _, .bl b => rfl
  | _, _, .int i => rfl
  | _, _, .str x => rfl
  | _, _, .tup _ r => by simpa [tokLt] using RepAll.toks r
  | _, _, .lst _ r => by simpa [tokLt] using RepAll.toks r
  | _, _, .frz _ r => by simpa [tokLt] using RepAll.toks r
  | _, _, .fdK (kvs := kvs) _ r => by
    have h := RepAll.toks r
    have l := r.length
    simp only [tokLt]
    rw [tokLtk_zip (by simpa using l)]
    exact h
  | _, _, .dK (kvs := kvs) _ r => by
    have h := RepAll.toks r
    have l := r.length
    simp only [tokLt]
    rw [tokLtk_zip (by simpa using l)]
    exact h
  | _, _, .fdT (kvs := kvs) _ r => by
    have h := RepAll.toks r
    have l := r.length
    simp only [tokLt]
    rw [tokLtk_zip (by simpa using l)]
    exact h
  | _, _, .dT (kvs := kvs) _ r => by
    have h := RepAll.toks r
    have l := r.length
    simp only [tokLt]
    rw [tokLtk_zip (by simpa using l)]
    exact h
  | _, _, .tok h => by simpa [tokLt] using (List.getElem?_eq_some_iff.mp h).1
  | _, _, .ty n => rfl
  | _, _, .glb _ _ => rfl
  | _, _, .ktp _ r => by simpa [tokLt] using RepAll.toks r
  | _, _, .exc _ _ => rfl
theorem RepAll.toks : ∀ {vs : List V} {ds : List D}, RepAll K mg G τ vs ds → tokLts τ.length ds = true
  | _, _, .nil => rfl
  | _, _, .cons h r => by simp [tokLts, Rep.toks h, RepAll.toks r]
end
mutual
theorem Rep.cut : ∀ {v : V} {d : D}, Rep K mg G τ v d → tokLt n d = true → Rep K mg G (τ.take n) v d
  | _, _, .non, _ => .non
  | _, _, .bl b, _ => .bl b
  | _, _, .int i, _ => .int i
  | _, _, .str x, _ => .str x
  | _, _, .tup h r, f => .tup h (RepAll.cut r (by simpa [tokLt] using f))
  | _, _, .lst h r, f => .lst h (RepAll.cut r (by simpa [tokLt] using f))
  | _, _, .frz h r, f => .frz h (RepAll.cut r (by simpa [tokLt] using f))
  | _, _, .fdK h r, f => .fdK h (RepAll.cut r (by
      have l := r.length
      simp only [tokLt] at f
      rw [tokLtk_zip (by simpa using l)] at f
      exact f))
  | _, _, .dK h r, f => .dK h (RepAll.cut r (by
      have l := r.length
      simp only [tokLt] at f
      rw [tokLtk_zip (by simpa using l)] at f
      exact f))
  | _, _, .fdT h r, f => .fdT h (RepAll.cut r (by
      have l := r.length
      simp only [tokLt] at f
      rw [tokLtk_zip (by simpa using l)] at f
      exact f))
  | _, _, .dT h r, f => .dT h (RepAll.cut r (by
      have l := r.length
      simp only [tokLt] at f
      rw [tokLtk_zip (by simpa using l)] at f
      exact f))
  | _, _, .tok h, f => .tok (by
      simp only [tokLt, decide_eq_true_eq] at f
      rw [List.getElem?_take, if_pos f]
      exact h)
  | _, _, .ty n, _ => .ty n
  | _, _, .glb h r, _ => .glb h r
  | _, _, .ktp h r, f => .ktp h (RepAll.cut r (by simpa [tokLt] using f))
  | _, _, .exc h r, _ => .exc h r
theorem RepAll.cut : ∀ {vs : List V} {ds : List D}, RepAll K mg G τ vs ds → tokLts n ds = true → RepAll K mg G (τ.take n) vs ds
  | _, _, .nil, _ => .nil
  | _, _, .cons h r, f => .cons (Rep.cut h (by simp [tokLts] at f; exact f.1)) (RepAll.cut r (by simp [tokLts] at f; exact f.2))
end
end
open Classical in
/-- a def of which new special lists are forgotten -/
noncomputable def scopeD (F : DFun) : DFun := fun ds s => match F ds s with
  | .ok d s' => if (∃ g, s' = s ++ g) ∧ tokLt s.length d = true then .ok d s else .bad
  | .exc c s' => if ∃ g, s' = s ++ g then .exc c s else .bad
  | .bad => .bad
section
variable {K : PySem.W.Frag} {mg : Str → Option Value} {W W' : Hw} {s : S}
theorem cut_base (B : Base K mg W s) (e : Ext W W') {g : S} (B' : Base K mg W' (s ++ g)) : Base K mg ⟨W'.H, W'.G, W.τ⟩ s ∧ Ext W ⟨W'.H, W'.G, W.τ⟩ ∧ W'.τ.take s.length = W.τ := by
  obtain ⟨t, ht⟩ := e.tpre
  have tk : W'.τ.take s.length = W.τ := by rw [← ht, B.len, List.take_left']; rfl
  have mem : ∀ b ∈ W.τ, b ∈ W'.τ := fun b hb => by rw [← ht]; exact List.mem_append_left _ hb
  refine ⟨⟨B'.sub, B'.tupI, fun b hb => B'.spc b (mem b hb), B.nd, B.len, fun n c a h1 h2 => ?_, fun c hc => B'.flt c (List.mem_append_left _ hc), B'.tab, B'.nog, B'.all⟩, ⟨e.keep0, e.grow, e.out, List.prefix_refl _, fun b h1 h2 => absurd h1 h2, e.tab⟩, tk⟩
  have hn := (List.getElem?_eq_some_iff.mp h1).1
  have q := B'.cel n c a (by rw [List.getElem?_append_left hn]; exact h1) (by rw [← ht, List.getElem?_append_left (by rw [← B.len]; exact hn)]; exact h2)
  have q0 := B.cel n c a h1 h2
  cases c with
  | l ds =>
    obtain ⟨vs0, _, r0⟩ := q0
    obtain ⟨vs, e1, r⟩ := q
    refine ⟨vs, e1, ?_⟩
    have := RepAll.cut r (n := s.length) (by rw [B.len]; exact r0.toks)
    rwa [tk] at this
  | o c fs =>
    obtain ⟨C0, dx0, vs0, _, _, r0⟩ := q0
    obtain ⟨C, dx, vs, e0, e1, r⟩ := q
    refine ⟨C, dx, vs, e0, e1, ?_⟩
    have := RepAll.cut r (n := s.length) (by rw [B.len]; exact r0.toks)
    rwa [tk] at this
  | d fs =>
    obtain ⟨vs0, _, r0⟩ := q0
    obtain ⟨vs, e1, r⟩ := q
    refine ⟨vs, e1, ?_⟩
    have := RepAll.cut r (n := s.length) (by rw [B.len]; exact r0.toks)
    rwa [tk] at this
  | t fs =>
    obtain ⟨vs0, _, r0⟩ := q0
    obtain ⟨vs, e1, r⟩ := q
    refine ⟨vs, e1, ?_⟩
    have := RepAll.cut r (n := s.length) (by rw [B.len]; exact r0.toks)
    rwa [tk] at this
  | b ns => exact q
theorem sp_scope {F : DFun} {n : Nat} {vs : List V} {H : Hp} {Q : VK} {E : XK} (h : spD K mg (scopeD F) false n vs H Q E) : spD K mg F false n vs H Q E := by
  obtain ⟨hl, W, s, ds, rfl, B, r, p⟩ := h
  refine ⟨hl, W, s, ds, rfl, B, r, ?_⟩
  unfold scopeD at p
  cases hF : F ds s with
  | bad => rw [hF] at p; exact p
  | ok d s' =>
    rw [hF] at p
    dsimp only at p
    split at p
    · rename_i hc
      obtain ⟨⟨g, rfl⟩, ht⟩ := hc
      intro x W' e B' rr
      obtain ⟨B2, e2, tk⟩ := cut_base B e B'
      have rr' : Rep K mg W'.G W'.τ x d := rr
      have := rr'.cut ht
      rw [tk] at this
      exact p x ⟨W'.H, W'.G, W.τ⟩ e2 B2 this
    · exact p.elim
  | exc c s' =>
    rw [hF] at p
    dsimp only at p
    split at p
    · rename_i hc
      obtain ⟨g, rfl⟩ := hc
      intro W' u e B' hu
      obtain ⟨B2, e2, tk⟩ := cut_base B e B'
      exact p ⟨W'.H, W'.G, W.τ⟩ u e2 B2 hu
    · exact p.elim
end
theorem DFn.scope {P : Program} {w : World} {K : PySem.W.Frag} {mg : Str → Option Value} {base : Heap} {k n : Nat} {x : Str} {F : DFun} (h : DFn P w K mg base k x n F false) : DFn P w K mg base k x n (scopeD F) false := by
  obtain ⟨⟨f, fd, ps, h1, h2, h3, h4⟩, ar⟩ := h
  refine ⟨⟨f, fd, ps, h1, h2, h3, ⟨fun vs H Q E q => h4.len vs H Q E (sp_scope q), ?_⟩⟩, fun ds s hn => ?_⟩
  · intro A outer s H args us vs Q E hr
    intro hg I hb r hs
    exact h4.run A outer s H args us vs Q E hr hg I hb r (sp_scope hs)
  · unfold scopeD
    rw [ar ds s hn]
/-! ### tuple(x), x a special list too -/
def tupT (s : S) (ds : List D) : Option D := match ds with
  | [.tok n] => (tokL s n).map .tup
  | _ => dTupOf ds
def eTupT (fs : DA) : DE := fun ρ s => (fs ρ s).bind fun ds s1 => Res.ofO (tupT s1 ds) s1
end DL
namespace DL
open PySem PySem.Spec PyProof.Rows L2
variable [LT : LawT] [TC : TellC]
/-! ### x[i], x a list of its own -/
def eIxO (i : Nat) (h : DE) : DE := fun ρ s => match ρ[i]? with
  | some (.own ds) => (h ρ s).bind fun k s1 => (match k with
    | .int z => Res.ofO (atI ds z) s1
    | _ => .bad)
  | _ => .bad
end DL
namespace DL
open PySem PySem.Spec PyProof.Rows L2
variable [LT : LawT] [TC : TellC]
/-! ### reversed(range(..)), list(range(..)) -/
def iRevR1 (f : DE) : DA := fun ρ s => (f ρ s).bind fun d s1 => match d with
  | .int j => if -(2 ^ 62) ≤ j ∧ j < 2 ^ 62 then .ok (rngD ((j.toNat : Int) - 1) (-1) j.toNat) s1 else .bad
  | _ => .bad
def iRevR2 (f g : DE) : DA := fun ρ s => (f ρ s).bind fun d s1 => (g ρ s1).bind fun e s2 => match d, e with
  | .int i, .int j => if -(2 ^ 62) ≤ i ∧ i < 2 ^ 62 ∧ -(2 ^ 62) ≤ j ∧ j < 2 ^ 62 then .ok (rngD (i + ((j - i).toNat : Int) - 1) (-1) (j - i).toNat) s2 else .bad
  | _, _ => .bad
def eLstR1 (f : DE) : DE := fun ρ s => (f ρ s).bind fun d s1 => match d with
  | .int j => if -(2 ^ 62) ≤ j ∧ j ≤ 2 ^ 24 then .ok (.lst (rngD 0 1 j.toNat)) s1 else .bad
  | _ => .bad
def eLstR2 (f g : DE) : DE := fun ρ s => (f ρ s).bind fun d s1 => (g ρ s1).bind fun e s2 => match d, e with
  | .int i, .int j => if -(2 ^ 62) ≤ i ∧ i < 2 ^ 62 ∧ -(2 ^ 62) ≤ j ∧ j < 2 ^ 62 ∧ (j - i).toNat ≤ 2 ^ 24 then .ok (.lst (rngD i 1 (j - i).toNat)) s2 else .bad
  | _, _ => .bad
end DL
namespace DL
open PySem PySem.Spec PyProof.Rows L2
variable [LT : LawT] [TC : TellC]
/-! ### dicts as special objects -/
def tokK (s : S) (n : Nat) : Option (List (Key × D)) := match s[n]? with
  | some (.d l) => some l
  | _ => none
def tokT (s : S) (n : Nat) : Option (List (List Key × D)) := match s[n]? with
  | some (.t l) => some l
  | _ => none
def look {κ : Type} [DecidableEq κ] (l : List (κ × D)) (k : κ) : Option D := (l.find? fun p => decide (p.1 = k)).map (·.2)
def putC {κ : Type} [DecidableEq κ] (l : List (κ × D)) (k : κ) (d : D) : List (κ × D) :=
  if (l.any fun p => decide (p.1 = k)) = true then l.map (fun p => if p.1 = k then (p.1, d) else p) else l ++ [(k, d)]
section
variable {κ : Type} [DecidableEq κ] {R : V → D → Prop}
/-- pairs of the heap and pairs of data -/
inductive PC (R : V → D → Prop) : List (κ × V) → List (κ × D) → Prop
  | nil : PC R [] []
  | cons {k : κ} {v : V} {d : D} {l : List (κ × V)} {m : List (κ × D)} : R v d → PC R l m → PC R ((k, v) :: l) ((k, d) :: m)
variable {l : List (κ × V)} {m : List (κ × D)}
theorem PC.get (h : PC R l m) (k : κ) : (valV l k = none ∧ look m k = none) ∨ ∃ v d, valV l k = some v ∧ look m k = some d ∧ R v d := by
  induction h with
  | nil => exact .inl ⟨rfl, rfl⟩
  | @cons k' v d l m r t ih =>
    by_cases e : k' = k
    · subst e
      exact .inr ⟨v, d, by simp [valV], by simp [look], r⟩
    · rcases ih with ⟨a, b⟩ | ⟨v', d', a, b, r'⟩
      · exact .inl ⟨(valV_neg e).trans a, by unfold look at b ⊢; rw [List.find?_cons_of_neg (by simpa using e)]; exact b⟩
      · exact .inr ⟨v', d', (valV_neg e).trans a, by unfold look at b ⊢; rw [List.find?_cons_of_neg (by simpa using e)]; exact b, r'⟩
theorem PC.any (h : PC R l m) (k : κ) : (l.any fun kv => decide (kv.1 = k)) = (m.any fun p => decide (p.1 = k)) := by
  induction h with
  | nil => rfl
  | @cons k' v d l m r t ih => rw [List.any_cons, List.any_cons, ih]
theorem PC.snoc (h : PC R l m) {v : V} {d : D} (r : R v d) (k : κ) : PC R (l ++ [(k, v)]) (m ++ [(k, d)]) := by
  induction h with
  | nil => exact .cons r .nil
  | cons q t ih => exact .cons q ih
theorem PC.upd (h : PC R l m) {v : V} {d : D} (r : R v d) (k : κ) : PC R (l.map (fun kv => if kv.1 = k then (kv.1, v) else kv)) (m.map (fun p => if p.1 = k then (p.1, d) else p)) := by
  induction h with
  | nil => exact .nil
  | @cons k' v' d' l m q t ih =>
    simp only [List.map_cons]
    by_cases e : k' = k
    · rw [if_pos e, if_pos e]; exact .cons r ih
    · rw [if_neg e, if_neg e]; exact .cons q ih
theorem PC.len (h : PC R l m) : l.length = m.length := by
  induction h with
  | nil => rfl
  | cons _ _ ih => rw [List.length_cons, List.length_cons, ih]
theorem PC.imp {R' : V → D → Prop} (h : PC R l m) (i : ∀ v d, R v d → R' v d) : PC R' l m := by
  induction h with
  | nil => exact .nil
  | cons q t ih => exact .cons (i _ _ q) ih
end
section
variable {κ : Type} {K : PySem.W.Frag} {mg : Str → Option Value} {G : Hp} {τ : List Addr}
theorem pc_of : ∀ {fs : List (κ × D)} {vs : List V}, RepAll K mg G τ vs (fs.map (·.2)) → PC (Rep K mg G τ) ((fs.map (·.1)).zip vs) fs
  | [], _, h => by
    cases h
    exact .nil
  | p :: fs, _, h => by
    rw [List.map_cons] at h
    obtain ⟨p1, p2⟩ := p
    cases h with
    | cons r t => exact .cons r (pc_of t)
theorem pc_to {l : List (κ × V)} {fs : List (κ × D)} (h : PC (Rep K mg G τ) l fs) : ∃ vs, l = (fs.map (·.1)).zip vs ∧ RepAll K mg G τ vs (fs.map (·.2)) := by
  induction h with
  | nil => exact ⟨[], rfl, .nil⟩
  | cons r t ih =>
    obtain ⟨vs, rfl, h1⟩ := ih
    exact ⟨_ :: vs, rfl, .cons r h1⟩
end
/-! ### reading -/
/-- d[k] of a dict told by pairs, none where there is none -/
def getO (t : Bool) (l : List (D × D)) (y : D) : Option (Option D) := match t with
  | false => (dk y).map fun k => DL.getD dk l k
  | true => (dkT y).map fun k => DL.getD dkT l k
/-- d[k], none where there is none -/
def getC (s : S) : D → D → Option (Option D)
  | .tok n, y => match tokK s n, tokT s n, dk y, dkT y with
    | some l, _, some k, _ => some (look l k)
    | _, some l, _, some k => some (look l k)
    | _, _, _, _ => none
  | .dct l, y => match dk y, dkT y with
    | some k, _ => if (l.all fun p => (dk p.1).isSome) = true ∧ l ≠ [] then some (DL.getD dk l k) else none
    | _, some k => if (l.all fun p => (dkT p.1).isSome) = true ∧ l ≠ [] then some (DL.getD dkT l k) else none
    | _, _ => none
  | .fd t l, y => getO t l y
  | _, _ => none
/-- d[k] -/
def dIxC (s : S) : F2 := fun x y => (getC s x y).bind id
/-! d.get(k, e) and d[k] = e -/
/-- d[k] = e -/
def sPutC (f fi fv : DE) : DS := fun ρ s => (fv ρ s).thenS fun d s1 => (f ρ s1).thenS fun t s2 => (fi ρ s2).thenS fun k s3 => match t with
  | .tok n => match tokK s3 n, tokT s3 n, dk k, dkT k with
    | some l, _, some k, _ => if flat d = true ∧ l.length < 16777216 then .next ρ (s3.set n (.d (putC l k d))) else .bad
    | _, some l, _, some k => if flat d = true ∧ l.length < 16777216 then .next ρ (s3.set n (.t (putC l k d))) else .bad
    | _, _, _, _ => .bad
  | _ => .bad
section
variable {X : Cx} {E : WX} {fr : Fr} {a b c o : Expr} {f g h fi fv : DE} {pos : Pos}
/-- a thing that is a dict -/
def isDct (s : S) : D → Bool
  | .tok n => (tokK s n).isSome || (tokT s n).isSome
  | .dct _ => true
  | .fd _ _ => true
  | _ => false
def eGet2 (f h g : DE) : DE := fun ρ s => (f ρ s).bind fun a s1 => if isDct s1 a = true then (h ρ s1).bind fun y s2 => (g ρ s2).bind fun z s3 => Res.ofO ((getC s3 a y).map fun o => o.getD z) s3 else .bad
/-! ### new ones -/
def eNewK : DE := fun _ s => .ok (.tok s.length) (s ++ [.d []])
def eNewT : DE := fun _ s => .ok (.tok s.length) (s ++ [.t []])
end
end DL
namespace DL
open PySem PySem.Spec PyProof.Rows L2
variable [LT : LawT] [TC : TellC]
/-! ### displays that become special objects -/
def mergeC (l : List (Key × D)) : List (Key × D) := l.foldl (fun acc kv => putC acc kv.1 kv.2) []
def eDispK (ps : List (DE × DE)) : DE := fun ρ s => (evPairs ps ρ s).bind fun l s1 => if flats ((mergeC l).map (·.2)) = true then .ok (.tok s1.length) (s1 ++ [.d (mergeC l)]) else .bad
section
variable {X : Cx} {E : WX} {pos : Pos} {keys : List (Option Expr)} {values : List Expr}
/-! ### {t: e}, t a tuple -/
def eDispT (f g : DE) : DE := fun ρ s => (f ρ s).bind fun k s1 => (g ρ s1).bind fun d s2 => match dkT k with
  | some k => if flat d = true then .ok (.tok s2.length) (s2 ++ [.t [(k, d)]]) else .bad
  | none => .bad
end
end DL
namespace DL
open PySem PySem.Spec PyProof.Rows L2
variable [LT : LawT] [TC : TellC]
/-! ### zip of a list and a tuple -/
def iZipM (fs : DA) : DA := fun ρ s => (fs ρ s).bind fun ds s1 => match ds with
  | [d, e] => if isTu d = false ∧ isTu e = true then (match sqOf d, sqOf e with
    | some as, some bs => .ok (zipD as bs) s1
    | _, _ => .bad) else .bad
  | _ => .bad
end DL
namespace DL
open PySem PySem.Spec PyProof.Rows L2
variable [LT : LawT] [TC : TellC]
/-! ### an own list gets another name -/
def sMove (i j : Nat) : DS := fun ρ s => ownAt j ρ fun ds => .next ((ρ.set j .emp).set i (.own ds)) s
/-! ### expressions that change an own list -/
abbrev DY := List Sl → S → Res (D × List Sl)
def yPop (i : Nat) : DY := fun ρ s => match ρ[i]? with
  | some (.own ds) => match ds.getLast? with
    | some d => .ok (d, ρ.set i (.own ds.dropLast)) s
    | none => .bad
  | _ => .bad
def yPopI (i : Nat) (f : DE) : DY := fun ρ s => match ρ[i]? with
  | some (.own ds) => (f ρ s).bind fun k s1 => (match k with
    | .int z => if -(2 ^ 63) ≤ z ∧ z < 2 ^ 63 then (match dropAt ds z with
      | some (d, es) => .ok (d, ρ.set i (.own es)) s1
      | none => .bad) else .bad
    | _ => .bad)
  | _ => .bad
def yOp2 (g : F2) (f : DY) (h : DE) : DY := fun ρ s => (f ρ s).bind fun p s1 => (h p.2 s1).bind fun b s2 => match g p.1 b with
  | some d => .ok (d, p.2) s2
  | none => .bad
section
variable {X : Cx} {E : WX} {fr : Fr} {pos apos cpos : Pos}
/-- x.append(e), e changes an own list too -/
def sAppY (i : Nat) (f : DY) : DS := fun ρ s => ownAt i ρ fun _ => (f ρ s).thenS fun p s1 => ownAt i p.2 fun ds => if ds.length < 16777216 then .next (p.2.set i (.own (ds ++ [p.1]))) s1 else .bad
end
end DL
namespace DL
open PySem PySem.Spec PyProof.Rows L2
variable [LT : LawT] [TC : TellC]
/-! ### texts put together of parts -/
def eFmt (f : DE) : DE := fun ρ s => (f ρ s).bind fun d s1 => match d with
  | .int i => if i.natAbs.log2 < 1920 then .ok (.str (toString i)) s1 else .bad
  | .str y => if y.length ≤ 16777216 then .ok (.str y) s1 else .bad
  | _ => .bad
def jsD : List DE → Str → List Sl → S → Res D
  | [], acc, _, s => .ok (.str acc) s
  | f :: fs, acc, ρ, s => (f ρ s).bind fun d s1 => match d with
    | .str y => if (acc ++ y).length ≤ 16777216 then jsD fs (acc ++ y) ρ s1 else .bad
    | _ => .bad
def eJs (fs : List DE) : DE := fun ρ s => jsD fs Str.empty ρ s
/-! ### divmod -/
def dDivmod : FN := fun ds => match ds with
  | [.int i, .int j] => if 0 < j ∧ j < 1073741824 then some (.tup [.int (i / j), .int (i % j)]) else none
  | _ => none
/-! ### x.append(e), x whatever is a special list -/
def isTokL (s : S) : D → Bool
  | .tok n => (tokL s n).isSome
  | _ => false
def appS (s : S) (t d : D) : Option S := match t with
  | .tok n => match tokL s n with
    | some ds => if flat d = true ∧ ds.length < 16777216 then some (s.set n (.l (ds ++ [d]))) else none
    | none => none
  | _ => none
def sAppT (f fv : DE) : DS := fun ρ s => (f ρ s).thenS fun t s1 => if isTokL s1 t = true then (fv ρ s1).thenS fun d s2 => (match appS s2 t d with
    | some s3 => .next ρ s3
    | none => .bad) else .bad
section
variable {X : Cx} {E : WX} {fr : Fr} {pos apos cpos : Pos} {f fv : DE} {o e : Expr}
theorem flats_ap1 {d : D} (hd : flat d = true) : ∀ {ds : List D}, flats ds = true → flats (ds ++ [d]) = true
  | [], _ => by simp [flats, hd]
  | x :: xs, h => by simp [flats] at h ⊢; exact ⟨h.1, flats_ap1 hd h.2⟩
theorem s_appT (ho : PE X o (tE X.K X.mg E f)) (he : PE X e (tE X.K X.mg E fv))
    (hbase : attributeBase o "append" X.env (eval o X.env) = eval o X.env := by rfl)
    (hfew : ((backTo cpos (starEach [e] X.env)).all (fun x => !x.1) && (backToKw cpos (keywordEach [] X.env)).all (fun x => x.1.isSome) && decide (([e] : List Expr).length + ([] : List Keyword).length + (if ([] : List Keyword).isEmpty then 0 else 1) < 30)) = true := by rfl)
    (hline : (apos.endLine == cpos.line) = true := by rfl) (hs : starEach [e] X.env = (false, eval e X.env) :: starEach [] X.env := by rfl) (hplain : (backTo cpos (starEach [] X.env)).any (·.1) = false := by rfl)
    (hsw : swapsWith (.Call (.Attribute o "append" apos) [e] [] cpos) none pos.line X.env = pure false := by rfl) :
    QS X E fr (.Expr (.Call (.Attribute o "append" apos) [e] [] cpos) pos) (sAppT f fv) := by
  refine PS.mono (ps_expr (pe_bm PySem.F.plainAttrs_list PySem.F.slot_list_append PySem.F.type_list_append mt_append ho (pa_cons he pa_nil hs) hbase hfew hline hs hplain) hsw) fun σ H T z => ?_
  obtain ⟨W0, W, s, ρ, rfl, st, z⟩ := z
  refine (goS st z).imp fun t H1 ⟨W1, s1, d1, e1, r1, x1, st1, z1⟩ => ?_
  subst e1
  have tL : ∀ {W' : Hw} {s' : S} {v : V} {n : Nat} {ds : List D}, Base X.K X.mg W' s' → Rep X.K X.mg W'.G W'.τ v (.tok n) → tokL s' n = some ds → tyV X.K "list" v W'.H := fun B r h => by
    obtain ⟨p, vs, rfl, hτ, eH, rr⟩ := tok_list B r h
    exact tyL eH
  split at z1
  · rename_i ht
    refine ⟨?_, (goS st1 z1).imp fun y H2 ⟨W2, s2, d2, e2, r2, x2, st2, z2⟩ => ?_⟩
    · cases d1 with
      | tok n =>
        cases hd : tokL s1 n with
        | none => simp [isTokL, hd] at ht
        | some ds => exact tL st1.base r1 hd
      | _ => simp [isTokL] at ht
    · subst e2
      cases ha : appS s2 d1 d2 with
      | none => rw [ha] at z2; exact z2.elim
      | some s3 =>
        rw [ha] at z2
        unfold appS at ha
        split at ha
        · rename_i n
          split at ha
          · rename_i ds hd
            split at ha
            · rename_i hf
              cases ha
              obtain ⟨p, vs, rfl, hτ, eH, rr⟩ := tok_list st2.base (r1.ext x2) hd
              refine ⟨p, vs, y, rfl, rfl, eH, by rw [rr.length, sizeLine_eq]; exact hf.2, ?_⟩
              have hfl : flats ds = true := by
                unfold tokL at hd
                split at hd
                · rename_i ds' hds
                  cases hd
                  exact st2.base.flt _ (List.mem_of_getElem? hds)
                · cases hd
              exact z2 σ _ (st2.cellPut hτ (fun _ z => nomatch (z : HO.lst _ = HO.tup _)) ⟨_, upd_same, rr.snoc r2⟩ (flats_ap1 hf.1 hfl))
            · cases ha
          · cases ha
        · cases ha
  · exact z1.elim
end
/-! ### a < b < c < d -/
def eChain3 (g g' g'' : F2) (f h k l : DE) : DE := fun ρ s => (f ρ s).bind fun x s1 => (h ρ s1).bind fun y s2 => match g x y with
  | some (.bl b) => if b then (k ρ s2).bind fun z s3 => (match g' y z with
    | some (.bl c) => if c then (l ρ s3).bind fun u s4 => Res.ofO (g'' z u) s4 else .ok (.bl false) s3
    | _ => .bad) else .ok (.bl false) s2
  | _ => .bad
/-! ### a def that calls itself -/
end DL
namespace DL
open PySem PySem.Spec PyProof.Rows L2
variable [LT : LawT] [TC : TellC]
/-! ### two places of an own list at once -/
def sSwap (i : Nat) (fe gi gj : DE) : DS := fun ρ s => (fe ρ s).thenS fun v s1 => match v with
  | .tup [d, e] => ownAt i ρ fun ds => (gi ρ s1).thenS fun k s2 => match k with
    | .int z => match ixN ds.length z with
      | some j => (gj (ρ.set i (.own (ds.set j d))) s2).thenS fun k' s3 => match k' with
        | .int z' => match ixN ds.length z' with
          | some j' => .next (ρ.set i (.own ((ds.set j d).set j' e))) s3
          | none => .bad
        | _ => .bad
      | none => .bad
    | _ => .bad
  | _ => .bad
end DL
namespace DL
open PySem PySem.Spec PyProof.Rows L2
variable [LT : LawT] [TC : TellC]
/-! ### index of a list -/
def dIdx (ds : List D) (y : D) : Option D := if ready y && ready (.lst ds) then (ds.findIdx? fun z => eqB z y).map fun j => .int (j : Nat) else none
def eIdx (f h : DE) : DE := fun ρ s => (f ρ s).bind fun x s1 => match x with
  | .lst ds => (h ρ s1).bind fun y s2 => Res.ofO (dIdx ds y) s2
  | _ => .bad
section
variable {X : Cx} {E : WX} {apos pos : Pos} {o e : Expr} {f h : DE}
theorem e_idx (hu : X.A.units + 65 < cLine) (ho : PE X o (tE X.K X.mg E f)) (he : PE X e (tE X.K X.mg E h))
    (hbase : attributeBase o "index" X.env (eval o X.env) = eval o X.env := by rfl)
    (hfew : ((backTo pos (starEach [e] X.env)).all (fun x => !x.1) && (backToKw pos (keywordEach [] X.env)).all (fun x => x.1.isSome) && decide (([e] : List Expr).length + ([] : List Keyword).length + (if ([] : List Keyword).isEmpty then 0 else 1) < 30)) = true := by rfl)
    (hline : (apos.endLine == pos.line) = true := by rfl) (hs : starEach [e] X.env = (false, eval e X.env) :: starEach [] X.env := by rfl) (hplain : (backTo pos (starEach [] X.env)).any (·.1) = false := by rfl) :
    PE X (.Call (.Attribute o "index" apos) [e] [] pos) (tE X.K X.mg E (eIdx f h)) := by
  refine PE.mono (pe_bm PySem.F.plainAttrs_list PySem.F.slot_list_index PySem.F.type_list_index (mt_indexD hu) ho (pa_cons he pa_nil hs) hbase hfew hline hs hplain) fun σ H Q z => ?_
  obtain ⟨W0, W, s, ρ, rfl, st, z⟩ := z
  refine (go st z).imp fun x H1 ⟨W1, s1, d1, e1, r1, x1, st1, z1⟩ => ?_
  subst e1
  cases d1 with
  | lst ds =>
    obtain ⟨a, xs, rfl, hG, rr⟩ := r1.lst_inv
    refine ⟨tyL (st1.base.sub _ _ hG), (go st1 z1).imp fun y H2 ⟨W2, s2, d2, e2, r2, x2, st2, z2⟩ => ?_⟩
    subst e2
    cases hz : dIdx ds d2 with
    | none => rw [hz] at z2; exact z2.elim
    | some d =>
      rw [hz] at z2
      unfold dIdx at hz
      split at hz
      · rename_i hr
        rw [Bool.and_eq_true] at hr
        obtain ⟨j, hj, rfl⟩ := Option.map_eq_some_iff.mp hz
        obtain ⟨hjl, hp, hn⟩ := List.findIdx?_eq_some_iff_getElem.mp hj
        have r1' := Rep.ext x2 r1
        refine ⟨a, y, toPy d2, toPys ds, j, toPy ds[j], rfl, rfl, by simpa [toPy] using dp_of st2.base.sub r1' (ready_ok hr.2), dp_of st2.base.sub r2 (ready_ok hr.1), by simpa [toPy] using shaped_of hr.2, shaped_of hr.1, ?_, hp, fun m z' hm hz' => ?_, z2.of_ok st2.base (.int _)⟩
        · rw [toPys_map, List.getElem?_map, List.getElem?_eq_getElem hjl]; rfl
        · rw [toPys_map, List.getElem?_map, List.getElem?_eq_getElem (by omega)] at hz'
          cases hz'
          have := hn m hm
          simpa [eqB] using this
      · cases hz
  | _ => exact z1.elim
end
end DL
namespace DL
open PySem PySem.Spec PyProof.Rows L2
variable [LT : LawT] [TC : TellC]
/-! ### zip of three lists -/
def zip3D (as bs cs : List D) : List D := List.zipWith (fun a p => match p with
  | .tup [b, c] => .tup [a, b, c]
  | _ => a) as (zipD bs cs)
def zp3Of (ds : List D) : Option (List D) := match ds with
  | [.lst as, .lst bs, .lst cs] => some (zip3D as bs cs)
  | _ => none
def iZip3 (fs : DA) : DA := fun ρ s => (fs ρ s).bind fun ds s1 => Res.ofO (zp3Of ds) s1
end DL
namespace DL
open PySem PySem.Spec PyProof.Rows L2
variable [LT : LawT] [TC : TellC]
/-! ### len of an own dict -/
def lenC (s : S) (ds : List D) : Option D := match ds with
  | [.tok n] => match tokT s n, tokK s n with
    | some l, _ => some (.int l.length)
    | none, some l => some (.int l.length)
    | none, none => none
  | _ => none
def eLenC (fs : DA) : DE := fun ρ s => (fs ρ s).bind fun ds s1 => Res.ofO (lenC s1 ds) s1
end DL
namespace DL
open PySem PySem.Spec PyProof.Rows L2
variable [LT : LawT] [TC : TellC]
/-! ### zip of a tuple, a list and a tuple -/
def zp3OfX (ds : List D) : Option (List D) := match ds with
  | [.tup as, .lst bs, .tup cs] => some (zip3D as bs cs)
  | _ => none
def iZip3X (fs : DA) : DA := fun ρ s => (fs ρ s).bind fun ds s1 => Res.ofO (zp3OfX ds) s1
end DL
namespace DL
open PySem PySem.Spec PyProof.Rows L2
variable [LT : LawT] [TC : TellC]
/-! ### a lambda without parameters, made -/
/-- behind the making: nothing new is known, or the maker's table has grown by a code object -/
def MadeAt (H H1 : Hp) (P c' : Addr) (q : Str) : Prop :=
  H1 = H ∨ (H c' = none ∧ c' ≠ P ∧ ∃ ps', H1 = upd (upd H P (.tbl ps')) c' (LamX.CodeO c' q) ∧ LamX.TabS H1 P q)
section
variable {X : Cx} {pins : List (Addr × Obj)} {σ : L2.St} {H : Hp} {s : Shared}
abbrev lamFn (X : Cx) (params : Arguments) (body : Expr) (scope : Scope) (c' : Addr) (pm ctv : Value) : Obj :=
  PySem.W.kla_obj "<lambda>" (X.env.qual ++ "<lambda>") params body scope (cloFrom X.env.cells scope.names []) pm c' ctv
theorem not_frame (I : Inv X pins σ H s) {f : Addr} (hf : s.heap.objs.size ≤ f) : f ∉ frs X.stack := by
  intro m
  rcases List.mem_cons.mp (I.stkSub _ m) with e | e
  · subst e
    exact absurd I.lt (Nat.not_lt_of_le hf)
  · exact I.nofs hf e
theorem lam_made {c P : Addr} {params : Arguments} {body : Expr} {scope : Scope} {pos : Pos} {E Q : Value → Shared → Prop} (I : Inv X pins σ H s)
    (TB : LamX.TabB X.base X.mg c P) (hcode : X.env.code = .ref c) (hT : LamX.TabS H P (X.env.qual ++ "<lambda>"))
    (hdef : defaultsOf params X.env = ([], [])) (hfree : ∀ y ∈ scope.names, y.2 = .free → ∃ c, X.env.cells.lookup y.1 = some c)
    (h : ∀ (f c' : Addr) (pm ctv : Value) (H1 : Hp) (s' : Shared), Inv X pins σ H1 s' → MadeAt H H1 P c' (X.env.qual ++ "<lambda>") →
      s'.heap.get? f = some (lamFn X params body scope c' pm ctv) → H1 f = none → f ∉ frs X.stack → H1 c' = some (LamX.CodeO c' (X.env.qual ++ "<lambda>")) → Q (.ref f) s') :
    wpAny (model X.prog X.w) X.A (eval (.Lambda params body scope pos) X.env) Q E s := by
  obtain ⟨ps, tP, triples, known⟩ := hT
  have atP := I.hok P _ tP
  have builtins := TB.bm.keeps I.bk
  apply PySem.W.kla_eval hdef
  generalize hq : codeAmong pos ps.toList = found
  match found, hq with
  | some cv, hq =>
    obtain ⟨c', rfl, code⟩ := known pos cv hq
    refine PySem.W.kla_makeFunctionHit (closure_ok hfree) I.ok.glob (I.mod.glob.keeps I.bk) hcode (TB.code.keeps I.bk) atP triples hq builtins ?_
    intro ctv h' tk grown bigger
    refine h _ c' _ ctv H _ (I.kept fun b o e => Heap.get?_push_of_some _ (grown b o e)) (.inl rfl) (Heap.get?_push_size _ rfl) (I.hok.fresh bigger) (not_frame I bigger) code
  | none, hq =>
    refine PySem.W.kla_makeFunction (closure_ok hfree) I.ok.glob (I.mod.glob.keeps I.bk) hcode (TB.code.keeps I.bk) atP triples hq TB.gP builtins ?_
    intro c' ctv h' tk others above below rec tab
    obtain ⟨_, oc, vs, t, same, goc, doc, qoc⟩ := rec
    cases same
    have bigger : s.heap.objs.size ≤ h'.objs.size := Nat.le_of_lt (Nat.lt_of_le_of_lt above below)
    have newC := I.hok.fresh above
    have cP : c' ≠ P := fun z => by rw [z, tP] at newC; cases newC
    have made := LamX.inv_table (t' := tk) (c := c') (q := X.env.qual ++ "<lambda>") (more := #[rawInt pos.line, rawInt pos.col, .ref c'])
      (h' := h'.push (lamFn X params body scope c' ((X.mg "__name__").getD .none) ctv)) I tP
      (fun b o hb e => Heap.get?_push_of_some _ (others b o hb e)) (Heap.get?_push_of_some _ tab) above ⟨oc, vs, t, Heap.get?_push_of_some _ goc, doc, qoc⟩
    have newTab : LamX.TabS (upd (upd H P (.tbl (ps ++ #[rawInt pos.line, rawInt pos.col, .ref c']))) c' (LamX.CodeO c' (X.env.qual ++ "<lambda>"))) P (X.env.qual ++ "<lambda>") := by
      have lst : (ps ++ #[rawInt pos.line, rawInt pos.col, Value.ref c']).toList = ps.toList ++ [rawInt pos.line, rawInt pos.col, .ref c'] := by simp
      refine ⟨_, (upd_ne (Ne.symm cP)).trans upd_same, ?_, fun p' cv => ?_⟩ <;> rw [lst]
      · exact PySem.TriplesOk_snoc _ _ _ _ triples
      · intro hcv
        rcases LamX.among_app _ triples hcv with z | rfl
        · obtain ⟨c0, e1, e2⟩ := known p' cv z
          have n1 : c0 ≠ c' := fun z => by rw [z, newC] at e2; cases e2
          have n2 : c0 ≠ P := fun z => by rw [z, tP] at e2; cases e2
          exact ⟨c0, e1, (upd_ne n1).trans ((upd_ne n2).trans e2)⟩
        · exact ⟨c', rfl, upd_same⟩
    refine h h'.objs.size c' _ ctv _ _ made (.inr ⟨newC, cP, _, rfl, newTab⟩) (Heap.get?_push_size _ rfl) ?_ (not_frame I bigger) upd_same
    have n1 : h'.objs.size ≠ c' := Nat.ne_of_gt below
    have n2 : h'.objs.size ≠ P := Nat.ne_of_gt (Nat.lt_of_lt_of_le (Heap.lt_size atP) bigger)
    exact (upd_ne n1).trans ((upd_ne n2).trans (I.hok.fresh bigger))
/-- the world behind the making -/
theorem made_base {K : PySem.W.Frag} {mg : Str → Option Value} {W : Hw} {s0 : S} {H1 : Hp} {P c' : Addr} {q : Str} (B : Base K mg W s0) (M : MadeAt W.H H1 P c' q) (hP : (P, q) ∈ LT.T) (hu : ∀ p ∈ LT.T, p.1 = P → p.2 = q) :
    Base K mg ⟨H1, W.G, W.τ⟩ s0 ∧ Ext W ⟨H1, W.G, W.τ⟩ := by
  rcases M with rfl | ⟨nC, cP, ps', rfl, tab⟩
  · exact ⟨B, Ext.refl W⟩
  · obtain ⟨ps, tP, _, _⟩ := B.tab _ hP
    have tP : W.H P = some (.tbl ps) := tP
    have off : ∀ b, b ≠ P → b ≠ c' → upd (upd W.H P (.tbl ps')) c' (LamX.CodeO c' q) b = W.H b := fun b h1 h2 => (upd_ne h2).trans (upd_ne h1)
    have atP : upd (upd W.H P (.tbl ps')) c' (LamX.CodeO c' q) P = some (.tbl ps') := (upd_ne (Ne.symm cP)).trans upd_same
    have atC : upd (upd W.H P (.tbl ps')) c' (LamX.CodeO c' q) c' = some (LamX.CodeO c' q) := upd_same
    have keep : ∀ b o, W.H b = some o → (∀ ps, o ≠ .tbl ps) → upd (upd W.H P (.tbl ps')) c' (LamX.CodeO c' q) b = some o := fun b o e n => by
      refine (off b (fun z => ?_) fun z => ?_).trans e
      · rw [z, tP] at e; exact n ps (Option.some.inj e).symm
      · rw [z, nC] at e; cases e
    have tabs : LamX.Tabs LT.T (upd (upd W.H P (.tbl ps')) c' (LamX.CodeO c' q)) := fun p hp => by
      by_cases hb : p.1 = P
      · rw [hu p hp hb, hb]; exact tab
      · obtain ⟨qs, e1, e2, e3⟩ := B.tab p hp
        refine ⟨qs, (off _ hb fun z => ?_).trans e1, e2, fun pos cv hc => ?_⟩
        · rw [z, nC] at e1; cases e1
        · obtain ⟨c0, f1, f2⟩ := e3 pos cv hc
          exact ⟨c0, f1, keep _ _ f2 LamX.codeO_ne⟩
    refine ⟨⟨fun b o e => ?_, fun b xs e => ?_, B.spc, B.nd, B.len, fun n c a h1 h2 => ?_, B.flt, tabs, B.nog, fun b qs e => ?_⟩, fun b o e _ => ?_, fun _ _ e => e, fun _ _ => rfl, List.prefix_refl _, fun _ m n => absurd m n, fun _ => tabs⟩
    · exact keep b o (B.sub b o e) fun qs z => B.nog b qs (by rw [e, z])
    · have e : upd (upd W.H P (.tbl ps')) c' (LamX.CodeO c' q) b = some (.tup xs) := e
      by_cases h1 : b = P
      · rw [h1, atP] at e; cases e
      · by_cases h2 : b = c'
        · rw [h2, atC] at e; cases e
        · rw [off b h1 h2] at e; exact B.tupI b xs e
    · have pl := B.tau_plain (List.mem_of_getElem? h2)
      have z := B.cel n c a h1 h2
      have same : ∀ u, W.H a = some u → upd (upd W.H P (.tbl ps')) c' (LamX.CodeO c' q) a = some u := fun u e => keep a u e (pl u e).1
      cases c with
      | l ds => obtain ⟨us, e, r⟩ := z; exact ⟨us, same _ e, r⟩
      | o c fs => obtain ⟨C, dx, us, e0, e, r⟩ := z; exact ⟨C, dx, us, e0, same _ e, r⟩
      | d fs => obtain ⟨us, e, r⟩ := z; exact ⟨us, same _ e, r⟩
      | t fs => obtain ⟨us, e, r⟩ := z; exact ⟨us, same _ e, r⟩
      | b ns => obtain ⟨us, e, r⟩ := z; exact ⟨us, same _ e, r⟩
    · have e : upd (upd W.H P (.tbl ps')) c' (LamX.CodeO c' q) b = some (.tbl qs) := e
      by_cases h1 : b = P
      · rw [h1]; exact ⟨q, hP⟩
      · by_cases h2 : b = c'
        · rw [h2, atC] at e; cases e
        · rw [off b h1 h2] at e; exact B.all b qs e
    · by_cases h1 : b = P
      · subst h1
        rw [tP] at e
        exact .inr ⟨ps, ps', (Option.some.inj e).symm, atP⟩
      · refine .inl ((off b h1 fun z => ?_).trans e)
        rw [z, nC] at e; cases e
end
/-! ### what a def is handed that it may call -/
/-- a(), within X: what r says of the world W -/
def ActAt (X : Cx) (a : Str) (f : Addr) (W : Hw) (r : Res D) : Prop :=
  ∀ (V : WX) (pn : List (Addr × Obj)) (xe : Value → Shared → Prop) (p1 p2 : Pos), Takes (X.tr pn xe) V →
    PE (X.tr pn xe) (.Call (.Name a p1) [] [] p2) (fun σ H Q => σ[0]? = some (some (.ref f)) ∧ H = W.H ∧ Post X.K X.mg (relE X.K X.mg) (fun u d H' => V u d σ H') r W Q)
section
variable {X : Cx} {pins : List (Addr × Obj)} {σ : L2.St} {s : Shared} {W W0 : Hw} {s0 : S} {ρ : List Sl}
theorem act_at {f c' g : Addr} {pm ctv cdg : Value} {params : Arguments} {body : Expr} {scope sg : Scope} {k : Nat} {a qg : Str} {Ng : List Str} {Eg : XK} {fb : DE}
    (I : Inv X pins σ W.H s) (st : SSt X.K X.mg W0 W s0 σ ρ) (L : LamX.LamS X.env.scope scope) (gf : s.heap.get? f = some (lamFn X params body scope c' pm ctv)) (nf : W.H f = none) (off : f ∉ frs X.stack)
    (code : W.H c' = some (LamX.CodeO c' (X.env.qual ++ "<lambda>")))
    (hbind : ∀ (q : Str) (cl : List (Str × Addr)) (pm cv ctv : Value), bindArgs (PySem.W.kla_fn "<lambda>" q params body scope cl pm cv ctv) ⟨[], []⟩ = pure [])
    (hr : Room (k + 2) X.A) (hg : X.A.guards = some [])
    (hbody : ∀ Y : Cx, Y.K = X.K → Y.mg = X.mg → (∃ (A : Around) (outer : List Env) (s : Shared) (H : Hp) (E : XK), Y = LamX.lamCx X A outer s H E scope f c') → Room k Y.A → Y.A.guards = some [] →
      ∀ E : XK, Takes Y (fun u d _ H' => E u d H') → PE Y body (tE X.K X.mg (fun u d _ H' => E u d H') fb))
    (hN : Ng[0]? = some a) (hv : Vis sg a) (hd : (a == ("__debug__" : Str)) = false) (hcd : (a == ("__classdict__" : Str)) = false) :
    ActAt (cxOf (L2.CX X.prog X.w) X.prog X.w X.K X.mg X.base Ng qg sg g cdg X.A X.stack s W.H Eg) a f W (fb ρ s0) := by
  intro V pn xe p1 p2 tk
  refine ⟨fun qs t τ H Q J hp => ?_⟩
  obtain ⟨h0, hH, post⟩ := hp
  subst hH
  have load := (pe_var (X := (cxOf (L2.CX X.prog X.w) X.prog X.w X.K X.mg X.base Ng qg sg g cdg X.A X.stack s W.H Eg).tr pn xe) (pos := p1) (i := 0) hN hv hd hcd).run qs t τ W.H (fun v H1 => v = .ref f ∧ H1 = W.H) J ⟨.ref f, h0, rfl, rfl⟩
  refine wpAny_Call_Name_kw (thn load ?_)
  rintro u t1 ⟨_, _, J1, rv, rfl, rfl⟩
  obtain rfl : u = Value.ref f := rv
  have gf1 := J1.base.keep f _ gf nf off (fun z => nomatch (show f ∈ ([] : List Addr) from z))
  refine PySem.W.callWith_F0 ⟨_, _, _, _, gf1⟩ ?_
  have un : Un (frs X.stack) [] W.H W.H s.heap t1.heap := J1.base
  obtain ⟨⟨oc, vs, tq, goc, doc, qoc⟩, _, _⟩ := J1.hok c' _ code
  have hr1 : Room (k + 1) (X.A.deeper (envOfC qg sg s.heap.objs.size g cdg)) := hr.deeper _
  have run : codeAny (model X.prog X.w) (X.A.deeper (envOfC qg sg s.heap.objs.size g cdg)) (.call (.ref f) ⟨[], []⟩)
      (CR (L2.CX X.prog X.w) (envOfC qg sg s.heap.objs.size g cdg :: X.stack) X.prog X.w W.H t1 Q (fun u d H' => V u d τ H')) t1 := by
    refine PySem.W.kla_callFunE hr1.depth gf1 rfl L.co L.gen rfl ⟨c', oc, vs, tq, rfl, goc, doc, qoc⟩ ?_
    rw [hbind]
    apply wpAny_pure
    refine wpAny_newFunctionEnv (fun y hy => (L.own y hy).2) (fun y hy => absurd hy (by simp)) ?_ L.kind
    intro h₁ names same
    refine ⟨J1.nolimit.fresh _ same, ?_⟩
    have grown : ∀ b o, t1.heap.get? b = some o → h₁.get? b = some o := fun b o e => same.extBut b o (Nat.ne_of_lt (Heap.lt_size e)) (Heap.get?_push_of_some _ e)
    have J2 := LamX.lam_start2 (E := fun u d H' => V u d τ H') (f := f) (c' := c') (tk := t1.toks + ([] : List (Str × Value)).length) I L J1.env0 hr1.hd un names grown
    have told : tE X.K X.mg (fun u d _ H' => V u d τ H') fb σ W.H Q := ⟨W0, W, s0, ρ, rfl, st, post⟩
    have inner := hbody (LamX.lamCx X (X.A.deeper (envOfC qg sg s.heap.objs.size g cdg)) (envOfC qg sg s.heap.objs.size g cdg :: X.stack) t1 W.H (fun u d H' => V u d τ H') scope f c') rfl rfl ⟨_, _, _, _, _, rfl⟩
      (hr1.deeper _) (guards_deeper (guards_deeper hg)) (fun u d H' => V u d τ H') (takes_of rfl rfl rfl rfl)
    refine PySem.W.kla_codeExpr (wpAny_mono (inner.run [] _ _ W.H Q J2 told) ?_ fun e s' hq => hq)
    rintro v s' ⟨w', H', J', rv, q⟩
    exact ⟨w', H', J'.os, J'.bare, J'.base, J'.hok, rv, q⟩
  refine wpAny_call (codeAny_mono run ?_)
  intro res s' hq
  match res, hq with
  | .error e, hq => exact passAt tk τ qs W.H t1 e s' J1 hq
  | .ok (.ret u), hq => exact J1.after hq
  | .ok .next, hq => exact False.elim hq
  | .ok .brk, hq => exact False.elim hq
  | .ok .cont, hq => exact False.elim hq
end
end DL
namespace DL
open PySem PySem.Spec PyProof.Rows L2
variable [LT : LawT] [TC : TellC]
/-! ### a def that calls what it is handed, once, within a try -/
def finD (x : Fl) : Res D := match x with
  | .ret d s1 => .ok d s1
  | .next _ s1 => .ok .non s1
  | .exc c s1 => .exc c s1
  | _ => .bad
def actD (N : Nat) (tb : XTb) (c : Str) (i j : Nat) (g : DS) : Res D → Res D := fun r => match r with
  | .ok _ s1 => finD (g ((List.replicate N .emp).set j (.dat .non)) s1)
  | .exc x s1 => match isX tb x c with
    | some true => finD (g ((((List.replicate N .emp).set j (.dat .non)).set j (.dat (.exc x))).set i .emp) s1)
    | some false => .exc x s1
    | none => .bad
  | .bad => .bad
structure FnAct (P : Program) (w : World) (K : PySem.W.Frag) (mg : Str → Option Value) (base : Heap) (k : Nat) (g : Addr) (fd : FuncData) (a : Str) (F : Res D → Res D) : Prop where
  run : ∀ (A : Around) (outer : List Env) (s : Shared) (args : Args) (f : Addr) (W : Hw) (s0 : S) (r : Res D) (Q : VK) (E : XK),
    Room k A → A.guards = some [] → Env0 P w K mg base A outer s W.H → BindsTo s fd args [(a, .ref f)] → Base K mg W s0 →
    (∀ (N : List Str) (qual : Str) (sg : Scope) (cdg : Value), N[0]? = some a → Vis sg a → ActAt (cxOf (L2.CX P w) P w K mg base N qual sg g cdg A outer s W.H E) a f W r) →
    Post K mg (relE K mg) E (F r) W Q → codeAny (model P w) A (.call (.ref g) args) (CR (L2.CX P w) outer P w W.H s Q E) s
structure DAct (P : Program) (w : World) (K : PySem.W.Frag) (mg : Str → Option Value) (base : Heap) (k : Nat) (x : Str) (F : Res D → Res D) : Prop where
  ex : ∃ g fd a, mg x = some (.ref g) ∧ PySem.W.keepIn K (.ref g) = true ∧ Binds K fd [a] [] ∧ (a == ("__debug__" : Str)) = false ∧ (a == ("__classdict__" : Str)) = false ∧ FnAct P w K mg base k g fd a F
section
variable {P : Program} {w : World} {K : PySem.W.Frag} {mg : Str → Option Value} {base : Heap}
theorem fin_post {W : Hw} {x : Fl} {Q : VK} {E : XK} (h : Post K mg (relE K mg) E (finD x) W Q) : ∀ W', Ext W W' → Base K mg W' s → PostS K mg (fun u d _ H' => E u d H') false W x { nx := fun _ H' => Q .non H', rt := Q } := fun W' e B => by
  cases x with
  | ret d s1 => exact fun v W1 e1 B1 r => h v W1 e1 B1 r
  | next ρ s1 => exact fun σ W1 st => h .non W1 st.ext st.base .non
  | exc c s1 => exact fun σ W1 u e1 B1 hu => h W1 u e1 B1 hu
  | brk ρ s1 => exact h.elim
  | cont ρ s1 => exact h.elim
  | bad => exact h.elim
theorem empty_ok {W : Hw} {s0 : S} {N : List Str} {f : Addr} (B : Base K mg W s0) (hN : 1 ≤ N.length) : SSt K mg W W s0 (L2.start N [.ref f]) (List.replicate N.length .emp) := by
  have at_ : ∀ (i : Nat) (y : Sl), (List.replicate N.length Sl.emp)[i]? = some y → y = .emp := fun i y e => by
    rw [List.getElem?_replicate] at e
    split at e
    · exact (Option.some.inj e).symm
    · cases e
  refine ⟨Ext.refl W, B, by simp [L2.start]; omega, fun i x y _ e2 => ?_, fun i j b y z _ _ _ e3 _ o1 _ => ?_⟩
  · rw [at_ i y e2]; exact .emp
  · rw [at_ i y e3] at o1; exact Bool.noConfusion o1
theorem act_mk {x qual c n y a : Str} {st : Stmt} {g : Addr} {fd : FuncData} {N : List Str} {k i j j0 : Nat} {tb : XTb} {dn : DS} {rest : List Stmt} {py0 p0 ap0 p1 p2 ep np nn py ap pos pos' : Pos}
    (F : Fun K x qual st g fd) (S : FnScope N [a] (defScope st)) (hT : XTab K mg tb) (hcv : ∃ cv, mg c = some cv)
    (hbd : defBody st = .Assign [.Name y py0] (.Constant .none j0 p0) ap0 :: .Try [.Expr (.Call (.Name a p1) [] [] p2) ep] [.ExceptHandler (some (.Name c np)) (some n) [.Assign [.Name y py] (.Name n nn) ap] pos'] [] [] pos :: rest)
    (hi : N[i]? = some n) (hj : N[j]? = some y) (hN0 : N[0]? = some a) (hij : i ≠ j) (hj0 : j ≠ 0)
    (hva : Vis (defScope st) a) (hly : (defScope st).names.lookup y = some .local) (hln : (defScope st).names.lookup n = some .local)
    (hkd : ∀ f cdv L, (envOfC qual (defScope st) L f cdv).kindOf n = some .local)
    (hg : (defScope st).names.lookup c = some .globalImplicit) (hdc : (c == ("__debug__" : Str)) = false) (hd : (n == ("__debug__" : Str)) = false) (hcd : (n == ("__classdict__" : Str)) = false)
    (hs0 : ∀ env : Env, swapsWith (.Constant .none j0 p0) (some (.Name y py0)) ap0.line env = pure false)
    (hsw : ∀ env : Env, swapsWith (.Name n nn) (some (.Name y py)) ap.line env = pure false)
    (hs : ∀ env : Env, swapsWith (.Call (.Name a p1) [] [] p2) none ep.line env = pure false)
    (body : ∀ (X : Cx) (E : XK), X.K = K → X.mg = mg → (∃ (cdv : Value) (A : Around) (outer : List Env) (s : Shared) (H : Hp), X = cxOf (L2.CX P w) P w K mg base N qual (defScope st) g cdv A outer s H E) → Room k X.A → X.A.guards = some [] →
      QSs X (fun u d _ H' => E u d H') false rest dn) :
    FnAct P w K mg base (k + 1) g fd a (actD N.length tb c i j dn) := by
  obtain ⟨oc, od, kV, doc, pm, an, cdv, ct, osl, rfl, lk, hcode⟩ := F.ex
  obtain ⟨cv, hcv⟩ := hcv
  refine ⟨fun A outer s args f W s0 r Q E hr hgd e0 hb B act post => ?_⟩
  have grown := fun b o e => (e0.bs b o e).1
  have inK : K.In s.heap := e0.mod.kin.keeps grown
  have free : s.heap.NoLimit := e0.mod.nolimit.keeps grown
  have kinds : ∀ z ∈ [a].zip [Value.ref f], (defScope st).names.lookup z.1 = some .local ∨ ((defScope st).names.lookup z.1 = some .cell ∧ ((cellsFrom (s.heap.objs.size + 1) (defScope st).names []).lookup z.1).isSome = true) := by
    intro z hz
    rw [List.mem_singleton.mp hz]
    rcases S.par a List.mem_cons_self with q | q
    · exact .inl q
    · exact .inr ⟨q, PySem.W.cellsFrom_some _ _ _ (.inl q)⟩
  refine codeAny_call_function hr.depth (inK _ _ lk) rfl S.co S.gen rfl (PySem.W.codeRec_of inK hcode) (hb _ _ _ _ ?_)
  refine wpAny_newFunctionEnv_cells S.kind kinds fun env same t1 inCall => ?_
  subst same
  refine ⟨free.keeps inCall.toInCall.keep, codeAny_func ?_⟩
  have hr1 : Room k (A.deeper (envOfC qual (defScope st) s.heap.objs.size g cdv)) := hr.deeper _
  have I : Inv (cxOf (L2.CX P w) P w K mg base N qual (defScope st) g cdv A outer s W.H E) [] (L2.start N [.ref f]) W.H t1 := inv_start S hr.hd e0 rfl (.cons rfl .nil) inCall
  have nd := S.nd
  have lN : 1 ≤ N.length := (List.getElem?_eq_some_iff.mp hN0).1
  have told := act N qual (defScope st) cdv hN0 hva
  have stm := pss_cons (ps_set (X := cxOf (L2.CX P w) P w K mg base N qual (defScope st) g cdv A outer s W.H E) (i := j) (pos := ap0) (pos' := py0) nd hj (.inl hly) (pe_non (pos := p0) (j := j0)) (hs0 _) (.inr hly))
    (pss_cons (ps_try_kept (X := cxOf (L2.CX P w) P w K mg base N qual (defScope st) g cdv A outer s W.H E) (np := np) (nn := nn) (py := py) (ap := ap) (pos := pos) (pos' := pos') (tb := fun V => tDrop fun σ H Q => σ[0]? = some (some (.ref f)) ∧ H = W.H ∧ Post K mg (relE K mg) (fun u d H' => V u d σ H') r W Q)
        rfl rfl rfl nd hi (hkd _ _ _) hj hly hij hln hd hcd (hsw _) ⟨hg, hdc, .inl hcv⟩ (takes_of rfl rfl rfl rfl)
        (fun V pn xe tk _ => pss_one (ps_expr (pos := ep) (told V pn xe p1 p2 tk) (hs _))))
      (body _ E rfl rfl ⟨cdv, A, outer, s, W.H, rfl⟩ hr1 (guards_deeper hgd)))
  rw [← hbd] at stm
  have st0 := (empty_ok (f := f) B lN).setDat (v := .non) (d := .non) .non j
  refine wpAny_mono (stm.run [] t1 _ W.H { nx := fun _ H' => Q .non H', rt := Q } I ?_) (fun fl s' hs => ?_) (fun e s' hs => hs)
  · show (((L2.start N [V.ref f]).set j (some .non))[0]? = some (some (.ref f)) ∧ W.H = W.H ∧ _)
    refine ⟨?_, rfl, ?_⟩
    · rw [List.getElem?_set_ne hj0]; rfl
    · cases r with
      | bad => exact post.elim
      | ok d s1 =>
        intro v W1 e1 B1 r1
        exact ⟨W, W1, s1, _, rfl, st0.step e1 B1, fin_post post W1 e1 B1⟩
      | exc xx s1 =>
        intro W1 u e1 B1 hu
        refine kept_post (fr := false) (T := { nx := fun σ H => tS K mg (fun u d _ H' => E u d H') false dn { nx := fun _ H' => Q .non H', rt := Q } σ H, rt := Q }) hT hcv hij st0 ?_ e1 B1 hu
        unfold actD at post
        dsimp only at post
        cases hx : isX tb xx c with
        | none => rw [hx] at post; exact post.elim
        | some b =>
          rw [hx] at post
          cases b with
          | true => exact fun σ W2 st2 => ⟨W, W2, s1, _, rfl, st2, fin_post post W2 st2.ext st2.base⟩
          | false => exact fun σ W2 u e2 B2 hu => post W2 u e2 B2 hu
  · cases fl with
    | ret u =>
      obtain ⟨v, σ', H', J, rv, q⟩ := hs
      exact ⟨v, H', J.os, J.bare, J.base, J.hok, rv, q⟩
    | next =>
      obtain ⟨σ', H', J, q⟩ := hs
      exact ⟨V.non, H', J.os, J.bare, J.base, J.hok, rfl, q⟩
    | brk =>
      obtain ⟨_, _, _, q⟩ := hs
      exact q.elim
    | cont =>
      obtain ⟨_, _, _, q⟩ := hs
      exact q.elim
end
/-! ### x(lambda: e) -/
section
variable {X : Cx} {E : WX} {k : Nat} {x : Str} {F : Res D → Res D} {fb : DE} {p lpos pos : Pos} {params : Arguments} {body : Expr} {scope : Scope} {c P : Addr}
def eLam (F : Res D → Res D) (f : DE) : DE := fun ρ s => F (f ρ s)
theorem e_lam (D' : DAct X.prog X.w X.K X.mg X.base k x F) (hr : Room k X.A) {j : Nat} (hr2 : Room (j + 2) X.A) (hgd : X.A.guards = some []) (tk : Takes X E)
    (TB : LamX.TabB X.base X.mg c P) (hcode : X.env.code = .ref c) (hmT : (P, X.env.qual ++ "<lambda>") ∈ LT.T) (hu : ∀ p ∈ LT.T, p.1 = P → p.2 = X.env.qual ++ "<lambda>")
    (L : LamX.LamS X.env.scope scope)
    (hbody : ∀ Y : Cx, Y.K = X.K → Y.mg = X.mg → (∃ (f c' : Addr) (A : Around) (outer : List Env) (s : Shared) (H : Hp) (E : XK), Y = LamX.lamCx X A outer s H E scope f c') → Room j Y.A → Y.A.guards = some [] →
      ∀ E : XK, Takes Y (fun u d _ H' => E u d H') → PE Y body (tE X.K X.mg (fun u d _ H' => E u d H') fb))
    (hdef : defaultsOf params X.env = ([], []) := by rfl)
    (hbind : ∀ (q : Str) (cl : List (Str × Addr)) (pm cv ctv : Value), bindArgs (PySem.W.kla_fn "<lambda>" q params body scope cl pm cv ctv) ⟨[], []⟩ = pure [] := by intros; rfl)
    (hg : Gl X x := by rfl) (hdb : (x == ("__debug__" : Str)) = false := by decide) :
    PE X (.Call (.Name x p) [.Lambda params body scope lpos] [] pos) (tE X.K X.mg E (eLam F fb)) := by
  obtain ⟨g, fd, a, gx, kp, hb, hd, hcd, FA⟩ := D'.ex
  refine ⟨fun pins s σ H Q I h => ?_⟩
  obtain ⟨W0, W, s0, ρ, rfl, st, z⟩ := h
  refine wpAny_Call_Name_kw (ld_glob I hg gx ?_ hdb)
  refine PySem.W.callWith_K (h₀ := X.base) I.ok.mod.kin kp ?_ (by rfl) (by rfl)
  show wpAny _ _ (spliced ((false, eval (.Lambda params body scope lpos) X.env) :: backTo pos (starEach [] X.env))) _ _ s
  refine Calls.spliced_cons (lam_made I TB hcode (st.base.tab _ hmT) hdef (L.has I.ok) ?_)
  intro f c' pm ctv H1 s' I1 made gf nf off code
  refine Calls.spliced_nil ⟨I1.kIn, ?_⟩
  obtain ⟨B1, E1⟩ := made_base st.base made hmT hu
  have st1 := st.step E1 B1
  have bd := hb s' [.ref f] I1.kIn rfl
  refine wpAny_call (codeAny_mono (FA.run X.A X.stack s' ⟨[.ref f], []⟩ f ⟨H1, W.G, W.τ⟩ s0 (fb ρ s0) Q (fun u d H' => E u d σ H') hr hgd I1.env0 bd B1
    (fun N qual sg cdg hN hv => act_at (W := ⟨H1, W.G, W.τ⟩) I1 st1 L gf nf off code hbind hr2 hgd (fun Y h1 h2 h3 => hbody Y h1 h2 (by obtain ⟨A, o, s, H, E, h⟩ := h3; exact ⟨f, c', A, o, s, H, E, h⟩)) hN hv hd hcd) (Post.ext E1 B1 z)) ?_)
  intro res s2 hq
  match res, hq with
  | .error e, hq => exact passAt tk σ pins H1 s' e s2 I1 hq
  | .ok (.ret u), hq => exact I1.after hq
  | .ok .next, hq => exact False.elim hq
  | .ok .brk, hq => exact False.elim hq
  | .ok .cont, hq => exact False.elim hq
end
end DL
namespace DL
open PySem PySem.Spec PyProof.Rows L2
/-! ### a def that makes lambdas -/
section
variable [LT : LawT] [TC : TellC]
/-- the def x at st, its code object's table among the known ones -/
structure LamAt (K : PySem.W.Frag) (mg : Str → Option Value) (base : Heap) (x : Str) (st : Stmt) (f : Addr) (fd : FuncData) (c P : Addr) : Prop where
  fn : Fun K x x st f fd
  gx : mg x = some (.ref f)
  code : fd.code = .ref c
  tb : LamX.TabB base mg c P
  mem : (P, x ++ ".<locals>." ++ "<lambda>") ∈ LT.T
  uni : ∀ p ∈ LT.T, p.1 = P → p.2 = x ++ ".<locals>." ++ "<lambda>"
def LamOf (K : PySem.W.Frag) (mg : Str → Option Value) (base : Heap) (x : Str) (st : Stmt) : Prop := ∃ f fd c P, LamAt K mg base x st f fd c P
end
/-- the def x at st, its code object at c -/
def FnC (K : PySem.W.Frag) (mg : Str → Option Value) (x : Str) (st : Stmt) (c : Addr) : Prop := ∃ f fd, Fun K x x st f fd ∧ mg x = some (.ref f) ∧ fd.code = .ref c
theorem mkFC {K : PySem.W.Frag} {mg : Str → Option Value} {h : Heap} {x : Str} {st : Stmt} {f c : Addr} {oc kV dc pm ct : Value} {od an : Option Addr} {sl : Array (Option Value)} (X : K.In h) (G : h.Ns mainGlobals mg)
    (a : PySem.W.nsIn K mainGlobals x = some (some (.ref f))) (l : K.lookup f = some ⟨oc, od, .func (PySem.W.fnOf x x (defArgs st) (defBody st) (defScope st) .none kV dc pm an (.ref c) ct), sl⟩)
    (cc : PySem.W.codeIn K (.ref c) x = true) (k : PySem.W.keepIn K (.ref f) = true) : FnC K mg x st c := ⟨f, _, fun_mk l cc k, PySem.W.mg_of X G a, rfl⟩
/-! ### the law's call where tables are known -/
/-- what the heap that the law starts from knows: the script, and empty tables -/
structure Start (cs : List (Addr × Addr)) (H : Hp) : Prop where
  tabs : ∀ p ∈ cs, H p.2 = some (.tbl #[])
  only : ∀ b, H b = none ∨ (∃ o xs, H b = some (.frz o (.lst xs))) ∨ (b ∈ cs.map (·.2) ∧ H b = some (.tbl #[]))
section
variable {P : Program} {w : World} {K : PySem.W.Frag} {mg mb : Str → Option Value}
theorem law_callT {k : Nat} {fa a : Addr} {cs : List (Addr × Addr)} {fd : FuncData} {x : Str} {sp : Sp} {t₁ : Shared} {vs : List Value} {ns : List Int}
    (KX : K.In t₁.heap) (hns : t₁.heap.Ns mainGlobals mg) (hb : t₁.heap.Ns builtinsNs mb) (hbb : ∀ x : Str, x ≠ "__name__" → mb x = bootBuiltins x) (hlim : t₁.heap.NoLimit) (hg : t₁.gens = #[])
    (hT : ∀ p ∈ cs, PySem.W.CodeHd t₁.heap p.1 p.2 ∧ t₁.heap.get? p.2 = some (PySem.W.tabObj #[])) (nT : ∀ p ∈ cs, K.lookup p.2 = none)
    (hbm : ∃ (bm : Addr) (ob : Obj), mg "__builtins__" = some (.ref bm) ∧ bm ≠ builtinsNs ∧ t₁.heap.get? bm = some ob ∧ ob.cls = .type "module" ∧ ob.dict = some builtinsNs ∧ ob.data = .plain)
    (ha : t₁.heap.get? a = some { cls := .type "list", data := .seq vs.toArray }) (hi : IntsAre vs ns) (hl : ns.length ≤ sizeLine) (hr : Room k callerA)
    (F : ∀ base : Heap, K.In base → base.Ns mainGlobals mg → (∀ p ∈ cs, LamX.TabB base mg p.1 p.2) → FnG P w K mg base k fa fd [x] sp) (hbind : ∀ (s : Shared) (u : Value), BindsTo s fd ⟨[u], []⟩ [(x, u)])
    (hsp : ∀ H : Hp, Start cs H → SqL K H a (ns.map V.int) → sp [.ref a] H (fun v _ => v = .bl true) fun _ _ _ => False) :
    codeAny (model P w) callerA (.call (.ref fa) ⟨[.ref a], []⟩) (fun r s' => r = .ok (.ret (.bool true)) ∧ OldK t₁.heap s'.heap ∧ s'.os = t₁.os ∧ AllBare s'.gens) t₁ := by
  have lenV := hi.length
  have isT : ∀ b : Addr, b ∈ cs.map (·.2) → t₁.heap.get? b = some (PySem.W.tabObj #[]) := fun b m => by
    obtain ⟨p, hp, rfl⟩ := List.mem_map.mp m
    exact (hT p hp).2
  have listNo : a ∉ cs.map (·.2) := fun m => by
    have q := isT a m
    rw [ha] at q
    cases q
  have core : ∀ H : Hp, Start cs H → SqL K H a (ns.map V.int) → HOk P w H t₁.heap → (∀ b, H b ≠ none → (b = a ∧ K.lookup a = none) ∨ b ∈ cs.map (·.2)) →
      codeAny (model P w) callerA (.call (.ref fa) ⟨[.ref a], []⟩) (fun r s' => r = .ok (.ret (.bool true)) ∧ OldK t₁.heap s'.heap ∧ s'.os = t₁.os ∧ AllBare s'.gens) t₁ := by
    intro H hO hS hok only
    have unseen : ∀ {b : Addr} {o : Obj}, t₁.heap.get? b = some o → (∀ xs n, o.data ≠ .seq xs n) → o.data ≠ .fields #[] → H b = none := by
      intro b o e n1 n2
      cases q : H b with
      | none => rfl
      | some u =>
        rcases only b (by rw [q]; exact fun z => nomatch z) with ⟨z, _⟩ | z
        · subst z; rw [ha] at e; cases e; exact absurd rfl (n1 _ _)
        · rw [isT b z] at e; cases e; exact absurd rfl n2
    have nsK : ∀ {b : Addr} {m : Str → Option Value}, t₁.heap.Ns b m → (hidT t₁.heap H).Ns b m := by
      rintro b m ⟨o, es, ep, e, d, r⟩
      exact ⟨o, es, ep, hidT_get e (unseen e (fun _ _ z => by rw [d] at z; cases z) (fun z => by rw [d] at z; cases z)), d, r⟩
    have hKb : K.In (hidT t₁.heap H) := by
      intro b o e
      refine hidT_get (KX b o e) ?_
      cases q : H b with
      | none => rfl
      | some u =>
        rcases only b (by rw [q]; exact fun z => nomatch z) with ⟨rfl, z⟩ | z
        · rw [z] at e; cases e
        · obtain ⟨p, hp, rfl⟩ := List.mem_map.mp z
          rw [nT p hp] at e; cases e
    have hM : Mod K mg (hidT t₁.heap H) := by
      refine ⟨hKb, nsK hns, ⟨mb, nsK hb, hbb⟩, ?_⟩
      obtain ⟨mc, h1, h2⟩ := hlim
      exact ⟨mc, nsK h1, h2⟩
    have e0 : Env0 P w K mg (hidT t₁.heap H) callerA [] t₁ H := by
      refine ⟨rfl, hM, fun b o e => of_hidT e, Nat.le_of_eq (hidT_size _ _), trivial, fun b hb => ?_, hok, .of_eq hg⟩
      exact absurd (show b ∈ ([] : List Addr) from hb) (by simp)
    have makers : ∀ p ∈ cs, LamX.TabB (hidT t₁.heap H) mg p.1 p.2 := by
      intro p hp
      obtain ⟨⟨o, us, file, tf, flags, tg, inF, text, tt, e1, r1, r2, r3, r⟩, tP⟩ := hT p hp
      obtain ⟨bm, ob, b1, b2, b3, b4, b5, b6⟩ := hbm
      have dict_of : ∃ o es ep, t₁.heap.get? mainGlobals = some o ∧ o.data = .dict es ep := by
        obtain ⟨o, es, ep, e, d, _⟩ := hns
        exact ⟨o, es, ep, e, d⟩
      obtain ⟨og, es, ep, eg, dg⟩ := dict_of
      refine ⟨⟨o, us, file, tf, flags, tg, inF, text, tt, hidT_get e1 (unseen e1 ?_ ?_), r1, r2, r3, r⟩, ⟨bm, ob, b1, b2, ?_, ?_, hidT_get b3 (unseen b3 ?_ ?_), b4, b5, b6⟩, ?_⟩
      · intro xs n z; rw [r2] at z; cases z
      · intro z; rw [r2] at z; cases z; simp at r3
      · intro z; rw [z, eg] at b3; cases b3; rw [dg] at b6; cases b6
      · intro z; rw [z, tP] at b3; cases b3; cases b6
      · intro xs n z; rw [b6] at z; cases z
      · intro z; rw [b6] at z; cases z
      · intro z; rw [z, tP] at eg; cases eg; cases dg
    refine codeAny_mono ((F _ hKb (nsK hns) makers).run callerA [] t₁ H ⟨[.ref a], []⟩ [.ref a] [.ref a] _ _ hr rfl e0 (hbind t₁ (.ref a)) (.cons rfl .nil) (hsp H hO hS)) ?_
    intro r s' h
    match r, h with
    | .error e, h =>
      obtain ⟨_, _, _, _, _, _, _, _, _, _, _, _, z⟩ := h
      exact z.elim
    | .ok .next, h => exact False.elim h
    | .ok .brk, h => exact False.elim h
    | .ok .cont, h => exact False.elim h
    | .ok (.ret u), h =>
      obtain ⟨v, H', os, bare, un, hok', r', q⟩ := h
      have hv : v = .bl true := q
      subst hv
      have hu : u = Value.bool true := r'
      subst hu
      have stays : ∀ b o, b ∉ cs.map (·.2) → t₁.heap.get? b = some o → s'.heap.get? b = some o := by
        intro b o nb e
        rcases hO.only b with z | ⟨ob, xs, z⟩ | ⟨z, _⟩
        · exact un.keep b o e z (by intro z; exact absurd (show b ∈ ([] : List Addr) from z) (by simp)) (by simp)
        · have z2 := un.frzs b ob _ z
          obtain ⟨e1, _⟩ := hok b _ z
          obtain ⟨e2, _⟩ := hok' b _ z2
          rw [e] at e1
          cases e1
          exact e2
        · exact absurd z nb
      have grows : ∀ p ∈ cs, ∃ more : Array Value, s'.heap.get? p.2 = some (PySem.W.tabObj more) := by
        intro p hp
        obtain ⟨more, z⟩ := un.tbls p.2 #[] (hO.tabs p hp)
        exact ⟨_, hok' p.2 _ z⟩
      refine ⟨rfl, ⟨fun b o e => ?_, fun b o e => ?_⟩, os, bare⟩
      · by_cases m : b ∈ cs.map (·.2)
        · obtain ⟨p, hp, rfl⟩ := List.mem_map.mp m
          obtain ⟨more, hm⟩ := grows p hp
          have eP := (hT p hp).2
          rw [eP] at e
          cases e
          exact .inr (.inl ⟨((hT p hp).1.tab eP).isCodeTable, rfl, #[], more, rfl, by simpa using hm⟩)
        · exact .inl (stays b o m e)
      · by_cases m : b ∈ cs.map (·.2)
        · obtain ⟨p, hp, rfl⟩ := List.mem_map.mp m
          obtain ⟨more, hm⟩ := grows p hp
          exact ⟨_, hm⟩
        · exact ⟨o, stays b o m e⟩
  cases hk : K.lookup a with
  | some o =>
    have e := KX a o hk
    rw [ha] at e
    cases e
    refine core (fun b => if b ∈ cs.map (·.2) then some (.tbl #[]) else none) ⟨fun p hp => if_pos (List.mem_map_of_mem hp), fun b => ?_⟩ (.inr ⟨_, vs.toArray, _, hk, rfl, rfl, rfl, ?_, by simpa using vals_ints hi⟩) (fun b u z => ?_) (fun b z => ?_)
    · by_cases m : b ∈ cs.map (·.2)
      · exact .inr (.inr ⟨m, if_pos m⟩)
      · exact .inl (if_neg m)
    · rw [List.size_toArray, lenV]; exact hl
    · by_cases m : b ∈ cs.map (·.2)
      · have z' := (if_pos m).symm.trans z
        cases z'
        exact isT b m
      · exact absurd ((if_neg m).symm.trans z) (fun z => nomatch z)
    · by_cases m : b ∈ cs.map (·.2)
      · exact .inr m
      · exact absurd (if_neg m) z
  | none =>
    refine core (fun b => if b = a then some (.frz { cls := .type "list", data := .seq vs.toArray } (.lst (ns.map V.int))) else if b ∈ cs.map (·.2) then some (.tbl #[]) else none)
      ⟨fun p hp => ?_, fun b => ?_⟩ (.inl (.inr ⟨_, if_pos rfl⟩)) (fun b u z => ?_) (fun b z => ?_)
    · have m : p.2 ∈ cs.map (·.2) := List.mem_map_of_mem hp
      rw [if_neg (fun z : p.2 = a => listNo (z ▸ m)), if_pos m]
    · by_cases hb : b = a
      · exact .inr (.inl ⟨_, _, if_pos hb⟩)
      · by_cases m : b ∈ cs.map (·.2)
        · exact .inr (.inr ⟨m, (if_neg hb).trans (if_pos m)⟩)
        · exact .inl ((if_neg hb).trans (if_neg m))
    · by_cases hb : b = a
      · have z' := (if_pos hb).symm.trans z
        cases z'
        subst hb
        refine ⟨ha, ?_, vs, _, vals_ints hi, ha⟩
        rw [List.length_map]
        exact hl
      · have z1 := (if_neg hb).symm.trans z
        by_cases m : b ∈ cs.map (·.2)
        · have z' := (if_pos m).symm.trans z1
          cases z'
          exact isT b m
        · exact absurd ((if_neg m).symm.trans z1) (fun z => nomatch z)
    · by_cases hb : b = a
      · exact .inl ⟨hb, hk⟩
      · by_cases m : b ∈ cs.map (·.2)
        · exact .inr m
        · exact absurd ((if_neg hb).trans (if_neg m)) z
end
theorem sp_lawT [LT : LawT] {K : PySem.W.Frag} {mg : Str → Option Value} {F : DFun} (h : LawOk F) {H : Hp} {a : Addr} {ns : List Int} {cs : List (Addr × Addr)} (hl : ns.length ≤ 63) (hO : Start cs H) (hS : SqL K H a (ns.map V.int))
    (hT : ∀ p ∈ LT.T, p.1 ∈ cs.map (·.2)) (hC : ∀ p ∈ cs, ∃ q, (p.2, q) ∈ LT.T) :
    spD K mg F false 1 [.ref a] H (fun v _ => v = .bl true) fun _ _ _ => False := by
  obtain ⟨s, e⟩ := h ns hl
  have cut : ∀ b o, (if b ∈ cs.map (·.2) then none else H b) = some o → b ∉ cs.map (·.2) ∧ H b = some o := fun b o z => by
    by_cases m : b ∈ cs.map (·.2)
    · rw [if_pos m] at z; cases z
    · rw [if_neg m] at z; exact ⟨m, z⟩
  have tabs : LamX.Tabs LT.T H := fun p hp => by
    obtain ⟨r, hr, e⟩ := List.mem_map.mp (hT p hp)
    rw [← e]
    exact LamX.TabS.nil (hO.tabs r hr)
  have sq : SqL K (fun b => if b ∈ cs.map (·.2) then none else H b) a (ns.map V.int) := by
    have no : ∀ o, H a = some o → (∀ ps, o ≠ .tbl ps) → a ∉ cs.map (·.2) := fun o e n m => by
      obtain ⟨r, hr, e2⟩ := List.mem_map.mp m
      have := hO.tabs r hr
      rw [e2, e] at this
      exact n _ (Option.some.inj this)
    rcases hS with (z | ⟨o, z⟩) | z
    · exact .inl (.inl ((if_neg (no _ z fun _ z => nomatch z)).trans z))
    · exact .inl (.inr ⟨o, (if_neg (no _ z fun _ z => nomatch z)).trans z⟩)
    · exact .inr z
  refine ⟨rfl, ⟨H, fun b => if b ∈ cs.map (·.2) then none else H b, []⟩, [], [.frz (ns.map .int)], rfl, ⟨fun b o e => (cut b o e).2, fun b xs e => ?_, fun _ m => absurd m (by simp), List.nodup_nil, rfl, fun n c a e => absurd e (by simp), fun c m => absurd m (by simp), tabs, fun b ps z => ?_, fun b ps z => ?_⟩, .cons (.frz sq (ints_rep ns)) .nil, ?_⟩
  · have e : H b = some (.tup xs) := e
    rcases hO.only b with q | ⟨o, ys, q⟩ | ⟨_, q⟩ <;> rw [q] at e <;> cases e
  · obtain ⟨m, z⟩ := cut b _ z
    rcases hO.only b with q | ⟨o, ys, q⟩ | ⟨q, _⟩
    · rw [q] at z; cases z
    · rw [q] at z; cases z
    · exact m q
  · have z : H b = some (.tbl ps) := z
    rcases hO.only b with q | ⟨o, ys, q⟩ | ⟨q, _⟩
    · rw [q] at z; cases z
    · rw [q] at z; cases z
    · obtain ⟨r, hr, e2⟩ := List.mem_map.mp q
      obtain ⟨y, hy⟩ := hC r hr
      exact ⟨y, e2 ▸ hy⟩
  · rw [e]
    exact fun v W1 e B r => Rep.bl_inv r
/-- the end, where some defs make lambdas: ms, their names -/
theorem walk_ofT {l : PySem.W.OpenLaw} {k : Nat} {q : Program} {loose : List Str} {XP : (Str → Option Value) → Heap → Prop} {YP : World → Heap → Prop} {d : DefRec} {K : Params → PySem.W.Frag} {x : Str} {F : DFun} (ms : List Str)
    (hn : l.most = some 63) (hdf : d.params.defaults = []) (hr : Room k callerA)
    (hY : ∀ (w : World) (h : Heap), YP w h → (K w.params).In h) (hF : LawOk F) (hm : ∀ m ∈ ms, ∃ e, (recsOf q).find? (fun e => e.name == m) = some e)
    (hD : ∀ (w : World) (mg : Str → Option Value) (fa : Addr) (h : Heap), (K w.params).In h → h.Ns mainGlobals mg → mg d.name = some (.ref fa) →
      ∃ (cs : List (Addr × Addr)) (LT : LawT) (fd : FuncData), (∀ p ∈ cs, ∃ m ∈ ms, PySem.W.tabIn (K w.params) m = some p) ∧ (∀ p ∈ cs, (K w.params).lookup p.2 = none) ∧ (∀ p ∈ LT.T, p.1 ∈ cs.map (·.2)) ∧ (∀ p ∈ cs, ∃ q, (p.2, q) ∈ LT.T) ∧
        (∀ (s : Shared) (u : Value), BindsTo s fd ⟨[u], []⟩ [(x, u)]) ∧ ∀ base : Heap, (K w.params).In base → base.Ns mainGlobals mg → (∀ p ∈ cs, LamX.TabB base mg p.1 p.2) →
          FnG l.prog w (K w.params) mg base k fa fd [x] (@spD LT (K w.params) mg F false 1)) :
    PySem.W.WalkO q loose XP YP l.row.toRowW d [] (fun f vs => PySem.call f vs) := by
  refine Att.attach_call hn hdf ?_
  intro w s₀ s₁ mg mb fa o pm cd doc a vs ns G Y ho hd hcd hmg hobj hints hlen hg
  have KX := hY w _ Y
  obtain ⟨cs, LT, fd, c1, c2, c3, c4, hb, hF'⟩ := hD w mg fa _ KX G.T.g hmg
  have h63 : ns.length ≤ sizeLine := by
    rw [sizeLine_eq]
    omega
  have hT : ∀ p ∈ cs, PySem.W.CodeHd s₁.heap p.1 p.2 ∧ s₁.heap.get? p.2 = some (PySem.W.tabObj #[]) := by
    intro p hp
    obtain ⟨m, hm1, hm2⟩ := c1 p hp
    obtain ⟨e, he⟩ := hm m hm1
    exact PySem.W.tab_of G.T KX he hm2
  exact law_callT KX G.T.g G.T.b G.T.builtins G.T.nolimit hg hT c2 G.T.bmain hobj hints h63 hr hF' hb (fun H hO hS => @sp_lawT LT _ _ _ hF _ _ _ _ hlen hO hS c3 c4)
end DL
namespace DL
open PySem PySem.Spec PyProof.Rows L2
section
variable [LT : LawT] [TC : TellC]
/-! ### count of truths in a list -/
def trsOf : List D → Option (List Bool)
  | [] => some []
  | .bl b :: ds => (trsOf ds).map fun l => b :: l
  | _ => none
def dCnt (ds : List D) (y : D) : Option D := match y with
  | .bl k => (trsOf ds).map fun l => .int (l.count k : Nat)
  | _ => none
def eCnt (f h : DE) : DE := fun ρ s => (f ρ s).bind fun x s1 => match x with
  | .lst ds => (h ρ s1).bind fun y s2 => Res.ofO (dCnt ds y) s2
  | _ => .bad
def eqb (k : Bool) (v : Value) : Bool := match v with
  | .bool n => n == k
  | _ => false
theorem bls_vals {us : List Value} {ns : List Bool} (h : Vals (ns.map V.bl) us) : us = ns.map Value.bool := by
  induction ns generalizing us with
  | nil => cases h; rfl
  | cons n ns ih =>
    cases h with
    | cons r t =>
      rw [ih t]
      have : _ = Value.bool n := r
      rw [this]
      rfl
theorem eqb_count (k : Bool) (ns : List Bool) : (ns.map Value.bool).countP (eqb k) = ns.count k := by
  rw [List.countP_map, List.count]
  rfl
def rCntB (K : PySem.W.Frag) : V → List V → Hp → VK → Prop := fun x xs H Q => ∃ (p : Addr) (ns : List Bool) (k : Bool), x = .ref p ∧ xs = [.bl k] ∧ SqL K H p (ns.map V.bl) ∧ Q (.int (ns.count k : Nat)) H
theorem mt_countB {X : Cx} (hu : X.A.units + 65 < cLine) : MtR X "list.count" (rCntB X.K) := by
  rintro pins s σ H x xs v us Q I rx rxs ⟨p, ns, k, rfl, rfl, hs, q⟩
  cases rx
  obtain ⟨u, rfl, ru⟩ := rxs.one
  obtain rfl : u = Value.bool k := ru
  obtain ⟨its, rv, ⟨⟨cls, dd, data, sl⟩, n, ho, hc, hdn, hd⟩, hlen⟩ := I.list hs
  simp only at hc hd
  subst hc hd
  have hi := bls_vals rv
  subst hi
  refine call_meets PySem.F.slot_list_count ⟨_, ho, rfl⟩ PySem.F.entry_list_count (PySem.F.args_list_count_2 _ _)
    (SeqAt.list_countAt p _ n dd sl (.bool k) (eqb k)) ⟨ho, fun y hy => ?_, ?_⟩
  · obtain ⟨b, _, rfl⟩ := List.mem_map.mp (List.mem_toArray.mp hy)
    have z := SeqAt.eqAt_reads (.bool b) (.bool k) X.A.in1 s (.bool b) (.bool k) [] [] (.bool b) (.bool k) rfl rfl (by show X.A.units + 1 + min (PyData.bool b).depth (PyData.bool k).depth < cLine; simp [PyData.depth]; omega)
    have e : PyData.eqv (.bool b) (.bool k) = eqb k (.bool b) := by cases b <;> cases k <;> rfl
    rw [← e]
    exact z
  · refine ⟨.int (ns.count k : Nat), H, I.tok _, ⟨s.toks, ?_⟩, q⟩
    have e : ((ns.map Value.bool).toArray.toList.countP (eqb k) : Nat) = ns.count k := eqb_count k ns
    rw [← e]
theorem bls_of {K : PySem.W.Frag} {mg : Str → Option Value} {G : Hp} {τ : List Addr} : ∀ {vs : List V} {ds : List D} {l : List Bool}, RepAll K mg G τ vs ds → trsOf ds = some l → vs = l.map V.bl
  | _, _, _, .nil, h => by cases h; rfl
  | _, d :: ds, l, .cons r t, h => by
    cases d with
    | bl b =>
      obtain ⟨l2, h2, rfl⟩ := Option.map_eq_some_iff.mp (show (trsOf ds).map _ = some l from h)
      rw [bls_of t h2, r.bl_inv]
      rfl
    | _ => cases h
variable {X : Cx} {E : WX} {apos pos : Pos} {o e : Expr} {f h : DE}
theorem e_cnt (hu : X.A.units + 65 < cLine) (ho : PE X o (tE X.K X.mg E f)) (he : PE X e (tE X.K X.mg E h))
    (hbase : attributeBase o "count" X.env (eval o X.env) = eval o X.env := by rfl)
    (hfew : ((backTo pos (starEach [e] X.env)).all (fun x => !x.1) && (backToKw pos (keywordEach [] X.env)).all (fun x => x.1.isSome) && decide (([e] : List Expr).length + ([] : List Keyword).length + (if ([] : List Keyword).isEmpty then 0 else 1) < 30)) = true := by rfl)
    (hline : (apos.endLine == pos.line) = true := by rfl) (hs : starEach [e] X.env = (false, eval e X.env) :: starEach [] X.env := by rfl) (hplain : (backTo pos (starEach [] X.env)).any (·.1) = false := by rfl) :
    PE X (.Call (.Attribute o "count" apos) [e] [] pos) (tE X.K X.mg E (eCnt f h)) := by
  refine PE.mono (pe_bm PySem.F.plainAttrs_list PySem.F.slot_list_count PySem.F.type_list_count (mt_countB hu) ho (pa_cons he pa_nil hs) hbase hfew hline hs hplain) fun σ H Q z => ?_
  obtain ⟨W0, W, s, ρ, rfl, st, z⟩ := z
  refine (go st z).imp fun x H1 ⟨W1, s1, d1, e1, r1, x1, st1, z1⟩ => ?_
  subst e1
  cases d1 with
  | lst ds =>
    obtain ⟨a, xs, rfl, hG, rr⟩ := r1.lst_inv
    refine ⟨tyL (st1.base.sub _ _ hG), (go st1 z1).imp fun y H2 ⟨W2, s2, d2, e2, r2, x2, st2, z2⟩ => ?_⟩
    subst e2
    cases hz : dCnt ds d2 with
    | none => rw [hz] at z2; exact z2.elim
    | some d =>
      rw [hz] at z2
      cases d2 with
      | bl k =>
        obtain ⟨l, hl, rfl⟩ := Option.map_eq_some_iff.mp (show (trsOf ds).map _ = some d from hz)
        have ev := bls_of rr hl
        subst ev
        refine ⟨a, l, k, rfl, by rw [r2.bl_inv], .inl (.inl (st2.base.sub _ _ (x2.grow _ _ hG))), z2.of_ok st2.base (.int _)⟩
      | _ => cases hz
  | _ => exact z1.elim
end
end DL
namespace DL
open PySem PySem.Spec PyProof.Rows L2
variable [LT : LawT] [TC : TellC]
/-! ### x.pop(e), x a special list, the value taken -/
def popS (s : S) (t d : D) : Option (D × S) := match t, d with
  | .tok n, .int k => match tokL s n with
    | some ds => if -(2 ^ 63) ≤ k ∧ k < 2 ^ 63 then (match dropAt ds k with
      | some p => some (p.1, s.set n (.l p.2))
      | none => none) else none
    | none => none
  | _, _ => none
def ePopT (f fv : DE) : DE := fun ρ s => (f ρ s).bind fun t s1 => if isTokL s1 t = true then (fv ρ s1).bind fun d s2 => (match popS s2 t d with
    | some p => .ok p.1 p.2
    | none => .bad) else .bad
end DL
namespace DL
open PySem PySem.Spec PyProof.Rows L2
variable [LT : LawT] [TC : TellC]
/-! ### dicts that stand still for good -/
theorem PS.or {X : Cx} {st : Stmt} {t t' : TS} (h : PS X st t) (h' : PS X st t') : PS X st (fun T σ H => t T σ H ∨ t' T σ H) := ⟨fun pins s σ H T I q => q.elim (h.run pins s σ H T I) (h'.run pins s σ H T I)⟩
section
variable {K : PySem.W.Frag} {mg : Str → Option Value} {σ : L2.St} {W W0 W' : Hw} {s s' : S} {ρ : List Sl}
/-- what an own dict's slot tells -/
theorem SSt.ownD (h : SSt K mg W0 W s σ ρ) {i : Nat} {t : Bool} {l : List (D × D)} (hr : ρ[i]? = some (.ownD t l)) :
    ∃ a, σ[i]? = some (some (.ref a)) ∧ OwnAt W0 W a ∧ ((t = false ∧ ∃ ks, W.H a = some (.dK ks) ∧ PK (Rep K mg W.G W.τ) kD ks l) ∨ (t = true ∧ ∃ ks, W.H a = some (.dT ks) ∧ PK (Rep K mg W.G W.τ) kT ks l)) := by
  have hl : i < σ.length := by rw [h.len]; exact (List.getElem?_eq_some_iff.mp hr).1
  have q := h.sl i _ _ (List.getElem?_eq_getElem hl) hr
  generalize hx : σ[i] = x at q
  cases q with
  | ownK o e r => exact ⟨_, by rw [List.getElem?_eq_getElem hl, hx], o, .inl ⟨rfl, _, e, pk_of r⟩⟩
  | ownT o e r => exact ⟨_, by rw [List.getElem?_eq_getElem hl, hx], o, .inr ⟨rfl, _, e, pk_of r⟩⟩
end
/-- ahead of a statement a slot's own dict is locked for good, and data from now on -/
def sLk (i : Nat) (g : DS) : DS := fun ρ s => match ρ[i]? with
  | some (.ownD t l) => g (ρ.set i (.dat (.fd t l))) s
  | some (.dat _) => g ρ s
  | _ => .bad
/-- x = {} -/
def sNewD (i : Nat) (t : Bool) : DS := fun ρ s => .next (ρ.set i (.ownD t [])) s
/-- the dict with a thing put in -/
def putO (t : Bool) (l : List (D × D)) (k d : D) : Option (List (D × D)) := match t with
  | false => (dk k).map fun k => putD dk kD l k d
  | true => (dkT k).map fun k => putD dkT kT l k d
/-- x[k] = e -/
def sPutO (i : Nat) (fi fv : DE) : DS := fun ρ s => match ρ[i]? with
  | some (.ownD t l) => (fv ρ s).thenS fun d s1 => (fi ρ s1).thenS fun k s2 => (match putO t l k d with
    | some l' => if l.length < 16777216 then .next (ρ.set i (.ownD t l')) s2 else .bad
    | none => .bad)
  | _ => .bad
/-- x.get(k, e) -/
def eGetO (i : Nat) (fk fe : DE) : DE := fun ρ s => match ρ[i]? with
  | some (.ownD t l) => (fk ρ s).bind fun y s1 => (fe ρ s1).bind fun z s2 => Res.ofO ((getO t l y).map fun o => o.getD z) s2
  | _ => .bad
/-- x[k] -/
def eIxD (i : Nat) (fk : DE) : DE := fun ρ s => match ρ[i]? with
  | some (.ownD t l) => (fk ρ s).bind fun y s1 => Res.ofO ((getO t l y).bind id) s1
  | _ => .bad
/-! ### a locked dict, key by key -/
def iKeysF (f : DE) : DA := fun ρ s => (f ρ s).bind fun d s1 => match d with
  | .fd _ l => .ok (l.map (·.1)) s1
  | _ => .bad
end DL
namespace DL
open PySem PySem.Spec PyProof.Rows L2
variable [LT : LawT] [TC : TellC]
/-! ### x = {k: v}, a dict of its own, k a tuple -/
def sDispO (i : Nat) (f g : DE) : DS := fun ρ s => (f ρ s).thenS fun k s1 => (g ρ s1).thenS fun d s2 => match dkT k with
  | some k => .next (ρ.set i (.ownD true [(kT k, d)])) s2
  | none => .bad
end DL
namespace DL
open PySem PySem.Spec PyProof.Rows L2
variable [LT : LawT] [TC : TellC]
/-! ### dict(pairs), keys that are tuples: a dict that stands still -/
/-- pairs told by a list of tuples -/
def pairsD : List D → Option (List (List Key × D))
  | [] => some []
  | .tup [k, v] :: r => (dkT k).bind fun k => (pairsD r).map ((k, v) :: ·)
  | _ => none
def mergeT (l : List (List Key × D)) : List (D × D) := l.foldl (fun acc kv => putD dkT kT acc kv.1 kv.2) []
/-! ### {k: v}, k a tuple: a dict that stands still -/
def eDispF (f g : DE) : DE := fun ρ s => (f ρ s).bind fun k s1 => (g ρ s1).bind fun d s2 => match dkT k with
  | some k => .ok (.fd true [(kT k, d)]) s2
  | none => .bad
/-! ### list(d) of a dict that stands still -/
def dLstF : FN := fun ds => match ds with
  | [.fd true l] => some (.lst (l.map (·.1)))
  | _ => none
/-! ### k in d, k not in d, d a dict of a def's own -/
def eInO (b : Bool) (i : Nat) (fk : DE) : DE := fun ρ s => (fk ρ s).bind fun y s1 => match ρ[i]? with
  | some (.ownD t l) => Res.ofO ((getO t l y).map fun o => .bl (o.isSome == b)) s1
  | _ => .bad
end DL
namespace DL
open PySem PySem.Spec PyProof.Rows L2
variable [LT : LawT] [TC : TellC]
/-! ### d.values(), d.items(), d a dict that stands still, keyed by tuples -/
def ItvT (d : Addr) (o : Obj) (kvs : List (List Key × V)) : It :=
  ⟨fun i H => H d = some (.frz o (.dT kvs)) ∧ i < kvs.length, fun i H x H' => H' = H ∧ ∃ k, kvs[i]? = some (k, x), fun i H => H d = some (.frz o (.dT kvs)) ∧ kvs.length ≤ i⟩
def iValsF (f : DE) : DA := fun ρ s => (f ρ s).bind fun d s1 => match d with
  | .fd true l => .ok (l.map (·.2)) s1
  | _ => .bad
def iItmsF (f : DE) : DA := fun ρ s => (f ρ s).bind fun d s1 => match d with
  | .fd true l => .ok (l.map fun p => .tup [p.1, p.2]) s1
  | _ => .bad
end DL
namespace DL
open PySem PySem.Spec PyProof.Rows L2
variable [LT : LawT] [TC : TellC]
/-! ### what a def is handed that it may call with data -/
def datOnly : Sl → Sl
  | .dat d => .dat d
  | _ => .emp
end DL
namespace DL
open PySem PySem.Spec PyProof.Rows L2
abbrev TL := List D → S → Res D
abbrev PFun := List D → TL → List D → S → Res D
/-! ### functions in slots -/
section
variable [LT : LawT] [TC : TellC]
def eTell (i : Nat) (fs : DA) : DE := fun ρ s => match ρ[i]? with
  | some (.fn n tl) => (fs ρ s).bind fun ds s1 => if ds.length = n then tl ds s1 else .bad
  | _ => .bad
/-! ### arguments with a function among them -/
def aFn (f : DE) (F : List Sl → S → Res (List D × TL × List D)) : List Sl → S → Res (List D × TL × List D) := fun ρ s => (f ρ s).bind fun d s1 => (F ρ s1).bind fun q s2 => .ok (d :: q.1, q.2) s2
def aLam (fb : DE) (fs : DA) : List Sl → S → Res (List D × TL × List D) := fun ρ s => (fs ρ s).bind fun d2 s2 => .ok ([], (fun ds s1 => fb (ρ.map datOnly ++ ds.map .dat) s1), d2) s2
def aSl (n i : Nat) (fs : DA) : List Sl → S → Res (List D × TL × List D) := fun ρ s => match ρ[i]? with
  | some (.fn m tl) => if m = n then (fs ρ s).bind fun d2 s2 => .ok ([], tl, d2) s2 else .bad
  | _ => .bad
end
/-! ### a def that is handed a function -/
section
variable [LT : LawT]
def eCallP (F : PFun) (fa : List Sl → S → Res (List D × TL × List D)) : DE := fun ρ s => (fa ρ s).bind fun q s1 => F q.1 q.2.1 q.2.2 s1
end
section
variable [LT : LawT] [TC : TellC]
inductive SlAll (K : PySem.W.Frag) (mg : Str → Option Value) (W0 W : Hw) : List V → List Sl → Prop
  | nil : SlAll K mg W0 W [] []
  | cons {v : V} {y : Sl} {vs : List V} {ys : List Sl} : SlOk K mg W0 W (some v) y → y.isOwn = false → SlAll K mg W0 W vs ys → SlAll K mg W0 W (v :: vs) (y :: ys)
section
variable {K : PySem.W.Frag} {mg : Str → Option Value} {W0 W : Hw} {s : S}
theorem SlAll.dat : ∀ {vs : List V} {ds : List D}, RepAll K mg W.G W.τ vs ds → SlAll K mg W0 W vs (ds.map .dat)
  | _, _, .nil => .nil
  | _, _, .cons r t => .cons (.dat r) rfl (SlAll.dat t)
theorem SlAll.append : ∀ {vs us : List V} {ys zs : List Sl}, SlAll K mg W0 W vs ys → SlAll K mg W0 W us zs → SlAll K mg W0 W (vs ++ us) (ys ++ zs)
  | _, _, _, _, .nil, h => h
  | _, _, _, _, .cons r o t, h => .cons r o (t.append h)
theorem SlAll.length : ∀ {vs : List V} {ys : List Sl}, SlAll K mg W0 W vs ys → vs.length = ys.length
  | _, _, .nil => rfl
  | _, _, .cons _ _ t => congrArg (· + 1) t.length
theorem SlAll.get : ∀ {vs : List V} {ys : List Sl} {i : Nat} {y : Sl}, SlAll K mg W0 W vs ys → ys[i]? = some y → y.isOwn = false ∧ ∃ v, vs[i]? = some v ∧ SlOk K mg W0 W (some v) y
  | _, _, _, _, .nil, e => by simp at e
  | _, _, 0, _, .cons r o t, e => by
    cases (show some _ = some _ from e)
    exact ⟨o, _, rfl, r⟩
  | _, _, i + 1, _, .cons r o t, e => SlAll.get (i := i) t e
end
end
end DL
namespace DL
open PySem PySem.Spec PyProof.Rows L2
variable [LT : LawT] [TC : TellC]
def eSumV (f : DE) : DE := fun ρ s => (f ρ s).bind fun d s1 => match d with
  | .fd true l => Res.ofO ((intsOf (l.map (·.2))).map fun ns => .int ns.sum) s1
  | _ => .bad
end DL
namespace DL
open PySem PySem.Spec PyProof.Rows L2
variable [LT : LawT] [TC : TellC]
/-! ### x = dict(pairs), a dict of its own, keyed by tuples -/
def sDictO (i : Nat) (f : DE) : DS := fun ρ s => (f ρ s).thenS fun d s1 => match d with
  | .lst ps => (match pairsD ps with
    | some l => .next (ρ.set i (.ownD true (mergeT l))) s1
    | none => .bad)
  | _ => .bad
/-! ### x.pop()[:k] -/
def ySlN (f : DY) (k : Int) : DY := fun ρ s => (f ρ s).bind fun p s1 => match p.1 with
  | .tup ds => .ok (.tup (cutL ds none (some k)), p.2) s1
  | _ => .bad
/-! ### e, as a statement, e changes an own list -/
def sExprY (f : DY) : DS := fun ρ s => (f ρ s).thenS fun p s1 => .next p.2 s1
theorem nn_lk {i : Nat} {g : DS} (h : NoNx g) : NoNx (sLk i g) := fun ρ s ρ' s' => by
  unfold sLk
  cases ρ[i]? with
  | none => exact fun z => nomatch z
  | some y =>
    cases y with
    | ownD t l => exact h _ _ _ _
    | dat d => exact h _ _ _ _
    | _ => exact fun z => nomatch z
end DL
namespace DL
open PySem PySem.Spec PyProof.Rows L2
variable [LT : LawT] [TC : TellC]
/-! ### dict(enumerate(t)), t a tuple of four things -/
/-- dict(enumerate(t)) -/
def dDictEn : F1 := fun d => match d with
  | .tup [a, b, c, d] => some (.dct [(.int 0, a), (.int 1, b), (.int 2, c), (.int 3, d)])
  | _ => none
end DL
namespace DL
open PySem PySem.Spec PyProof.Rows L2
/-! ### a division of numbers of any size: what it wants of the ground -/
def dFdivP : F2 := fun x y => match x, y with
  | .int i, .int j => if j ≠ 0 then some (.int (i.fdiv j)) else none
  | _, _ => none
end DL
namespace DL
open PySem PySem.Spec PyProof.Rows L2
variable [LT : LawT] [TC : TellC]
/-! ### rows: tuples of whole numbers whose objects are known, special objects of a def that hands them out at its end -/
/-- tuple(e), e a list of whole numbers: a row -/
def eRow (fs : DA) : DE := fun ρ s => (fs ρ s).bind fun ds s1 => match ds with
  | [.lst xs] => (match intsOf xs with
    | some ns => .ok (.tok s1.length) (s1 ++ [.b ns])
    | none => .bad)
  | _ => .bad
/-! ### rows handed out -/
/-- H2 is H1, where some objects that H hadn't are known no longer -/
def Thawed (H H1 H2 : Hp) : Prop := ∀ b, H2 b = H1 b ∨ (H b = none ∧ ∃ o xs, H1 b = some (.frz o (.tup xs)) ∧ H2 b = some (.tup xs))
section
omit LT TC
theorem Thawed.un {fs ex : List Addr} {H H1 H2 : Hp} {h h1 : Heap} (t : Thawed H H1 H2) (u : Un fs ex H H1 h h1) : Un fs ex H H2 h h1 := by
  refine ⟨u.keep, u.slot, fun b o e n hx => ?_, u.there, fun b xs e => ?_, fun b o x e => ?_, fun b ps e => ?_⟩
  · rcases t b with z | ⟨_, ob, xs, z, _⟩
    · rw [z]; exact u.free b o e n hx
    · rw [u.free b o e n hx] at z; cases z
  · rcases t b with z | ⟨z, _⟩
    · rw [z]; exact u.tups b xs e
    · rw [e] at z; cases z
  · rcases t b with z | ⟨z, _⟩
    · rw [z]; exact u.frzs b o x e
    · rw [e] at z; cases z
  · rcases t b with z | ⟨z, _⟩
    · rw [z]; exact u.tbls b ps e
    · rw [e] at z; cases z
theorem Thawed.hok {P : Program} {w : World} {H H1 H2 : Hp} {h : Heap} (t : Thawed H H1 H2) (k : HOk P w H1 h) : HOk P w H2 h := by
  have own : ∀ b a, H1 b = some (.own a) → H2 b = some (.own a) := fun b a e => by
    rcases t b with z | ⟨_, o, xs, z, _⟩
    · rw [z]; exact e
    · rw [e] at z; cases z
  have tup : ∀ b xs, H1 b = some (.tup xs) → H2 b = some (.tup xs) := fun b xs e => by
    rcases t b with z | ⟨_, o, ys, z, _⟩
    · rw [z]; exact e
    · rw [e] at z; cases z
  intro b o e
  rcases t b with z | ⟨_, ob, xs, z, z2⟩
  · rw [z] at e
    exact (k b o e).stay (fun _ _ _ q => q) (fun c q => own c b q) tup
  · rw [z2] at e
    cases e
    obtain ⟨_, q⟩ := k b _ z
    exact ObjOk.stay q (fun _ _ _ q => q) (fun c q => own c b q) tup
end
end DL
namespace DL
open PySem PySem.Spec PyProof.Rows L2
variable [LT : LawT] [TC : TellC]
/-! ### sorted(set(xs)), xs a list of tuples of whole numbers -/
/-- ys: each of es once, rising -/
def IsSorted (es ys : List (List Int)) : Prop := ys.Pairwise (· < ·) ∧ ∀ e, e ∈ ys ↔ e ∈ es
section
omit LT TC
theorem sorted_one {es ys zs : List (List Int)} (h : IsSorted es ys) (h' : IsSorted es zs) : ys = zs := by
  have nd : ∀ {l : List (List Int)}, l.Pairwise (· < ·) → l.Nodup := fun {l} p => List.Pairwise.imp (fun {a b} (q : a < b) (e : a = b) => List.lt_irrefl b (e ▸ q)) p
  have pm : ys.Perm zs := (List.perm_ext_iff_of_nodup (nd h.1) (nd h'.1)).mpr fun e => (h.2 e).trans (h'.2 e).symm
  refine List.Perm.eq_of_pairwise (le := fun a b : List Int => a < b) (fun a b _ _ h1 h2 => ?_) h.1 h'.1 pm
  exact absurd (List.lt_trans h1 h2) (List.lt_irrefl a)
end
def tupsOf : List D → Option (List (List Int))
  | [] => some []
  | .tup xs :: r => match intsOf xs, tupsOf r with
    | some e, some es => some (e :: es)
    | _, _ => none
  | _ :: _ => none
structure SetOk (es : List (List Int)) : Prop where
  few : es.length < 64
  same : ∃ d, 1 ≤ d ∧ ∀ e ∈ es, e.length = d ∧ TS.Bd 64 e
open Classical in
/-- sorted(set(e)) -/
noncomputable def eSortS (f : DE) : DE := fun ρ s => (f ρ s).bind fun x s1 => match x with
  | .lst xs => (match tupsOf xs with
    | some es => if h : SetOk es ∧ ∃ ys, IsSorted es ys then .ok (.lst ((Classical.choose h.2).map fun e => .tup (e.map .int))) s1 else .bad
    | none => .bad)
  | _ => .bad
end DL
namespace DL
open PySem PySem.Spec PyProof.Rows L2
variable [LT : LawT] [TC : TellC]
/-! ### min of three whole numbers -/
def dMin3 : FN := fun ds => match ds with
  | [.int a, .int b, .int c] => some (.int (min a (min b c)))
  | _ => none
variable {K : PySem.W.Frag} {mg : Str → Option Value}
end DL
namespace DL
open PySem PySem.Spec PyProof.Rows L2
variable [LT : LawT] [TC : TellC]
/-! ### d.setdefault(k, e), d a special dict keyed by tuples -/
/-- d.setdefault(k, e): the thing that is there, or e, which then is there -/
def eSetdT (f fk fe : DE) : DE := fun ρ s => (f ρ s).bind fun t s1 => match t with
  | .tok n => if (tokT s1 n).isSome then (fk ρ s1).bind fun y s2 => (fe ρ s2).bind fun z s3 => (match tokT s3 n, dkT y with
    | some l, some k => if l.length < 16777216 then (match look l k with
        | some d => .ok d s3
        | none => if flat z = true then .ok z (s3.set n (.t (putC l k z))) else .bad) else .bad
    | _, _ => .bad) else .bad
  | _ => .bad
/-! ### defs that are called by another name -/
end DL
namespace DL
open PySem PySem.Spec PyProof.Rows L2
variable [LT : LawT] [TC : TellC]
/-! ### pairs of data and a new dict -/
theorem relPd.mono {K : PySem.W.Frag} {mg : Str → Option Value} {W W1 W2 : Hw} {s : S} {v : V} {d : D} (e : Ext W W1) (B : Base K mg W1 s) (h : relPd K mg W1 W2 v d) : relPd K mg W W2 v d := by
  obtain ⟨p, v1, a, x, kvs, vs, h1, h2, h3, h4, o, h5, h6⟩ := h
  exact ⟨p, v1, a, x, kvs, vs, h1, h2, h3, h4, ⟨old_none e B o.old, o.frz, o.spc⟩, h5, h6⟩
/-- a, b = f(..), b a new dict -/
def sUnpPd (i j : Nat) (F : DFun) (fs : DA) : DS := fun ρ s => (eCall F fs ρ s).thenS fun d s1 => match d with
  | .tup [x, .fd true l] => .next ((ρ.set i (.dat x)).set j (.ownD true l)) s1
  | _ => .bad
/-- return (e, dict(ps)), a pair of data and a new dict -/
def sRetPd (f g : DE) : DS := fun ρ s => (f ρ s).thenS fun x s1 => (g ρ s1).thenS fun d s2 => match d with
  | .lst ps => (match pairsD ps with
    | some l => .ret (.tup [x, .fd true (mergeT l)]) s2
    | none => .bad)
  | _ => .bad
/-! ### d[k], d[k'] = a, b -/
def sSwapD (i : Nat) (fe gi gj : DE) : DS := fun ρ s => (fe ρ s).thenS fun v s1 => match v with
  | .tup [d, e] => (match ρ[i]? with
    | some (.ownD t l) => (gi ρ s1).thenS fun k s2 => (match putO t l k d with
      | some l1 => if l.length < 16777216 then (gj (ρ.set i (.ownD t l1)) s2).thenS fun k' s3 => (match putO t l1 k' e with
        | some l2 => if l1.length < 16777216 then .next ((ρ.set i (.ownD t l1)).set i (.ownD t l2)) s3 else .bad
        | none => .bad) else .bad
      | none => .bad)
    | _ => .bad)
  | _ => .bad
theorem nn_retPd {f g : DE} : NoNx (sRetPd f g) := fun ρ s ρ' s' e => by
  unfold sRetPd at e
  cases h : f ρ s with
  | ok x s1 =>
    rw [h] at e
    simp only [Res.thenS] at e
    cases h2 : g ρ s1 with
    | ok d s2 =>
      rw [h2] at e
      simp only [Res.thenS] at e
      split at e
      · split at e <;> cases e
      · cases e
    | exc c s2 => rw [h2] at e; cases e
    | bad => rw [h2] at e; cases e
  | exc c s1 => rw [h] at e; cases e
  | bad => rw [h] at e; cases e
end DL
namespace DL
open PySem PySem.Spec PyProof.Rows L2
variable [LT : LawT] [TC : TellC]
/-! ### a pair of data and a new list: told, looked at, its list cleared -/
section
variable {K : PySem.W.Frag} {mg : Str → Option Value} {σ : L2.St} {W W0 : Hw} {s : S} {ρ : List Sl}
theorem SSt.push (h : SSt K mg W0 W s σ ρ) {a : Addr} {y : Sl} (n0 : ∀ (j : Nat) (z : Sl), σ[j]? = some (some (.ref a)) → ρ[j]? = some z → z.isOwn = true → False) (sl : SlOk K mg W0 W (some (.ref a)) y) : SSt K mg W0 W s (σ ++ [some (.ref a)]) (ρ ++ [y]) := by
  have at1 : ∀ (j : Nat) (x : Option V), (σ ++ [some (.ref a)])[j]? = some x → σ[j]? = some x ∨ j = σ.length ∧ x = some (.ref a) := fun j x e => by
    by_cases hj : j < σ.length
    · rw [List.getElem?_append_left hj] at e; exact .inl e
    · rw [List.getElem?_append_right (by omega)] at e
      have : j - σ.length = 0 := by
        have := (List.getElem?_eq_some_iff.mp e).1
        simp at this
        omega
      rw [this] at e
      cases e
      exact .inr ⟨by omega, rfl⟩
  have at2 : ∀ (j : Nat) (x : Sl), (ρ ++ [y])[j]? = some x → ρ[j]? = some x ∨ j = ρ.length ∧ x = y := fun j x e => by
    by_cases hj : j < ρ.length
    · rw [List.getElem?_append_left hj] at e; exact .inl e
    · rw [List.getElem?_append_right (by omega)] at e
      have : j - ρ.length = 0 := by
        have := (List.getElem?_eq_some_iff.mp e).1
        simp at this
        omega
      rw [this] at e
      cases e
      exact .inr ⟨by omega, rfl⟩
  have lt : ∀ {α : Type} {l : List α} {j : Nat} {x : α}, l[j]? = some x → j < l.length := fun e => (List.getElem?_eq_some_iff.mp e).1
  refine ⟨h.ext, h.base, by simp [h.len], fun j x z e1 e2 => ?_, fun j k b z z' ne e1 e2 e3 e4 o1 o2 => ?_⟩
  · rcases at1 j x e1 with e1 | ⟨j1, rfl⟩
    · rcases at2 j z e2 with e2 | ⟨j2, rfl⟩
      · exact h.sl j x z e1 e2
      · have := lt e1; have := h.len; omega
    · rcases at2 j z e2 with e2 | ⟨j2, rfl⟩
      · have := lt e2; have := h.len; omega
      · exact sl
  · rcases at1 j _ e1 with e1 | ⟨j1, q1⟩
    · rcases at2 j z e3 with e3 | ⟨j3, rfl⟩
      · rcases at1 k _ e2 with e2 | ⟨j2, q2⟩
        · rcases at2 k z' e4 with e4 | ⟨j4, rfl⟩
          · exact h.dist j k b z z' ne e1 e2 e3 e4 o1 o2
          · have := lt e2; have := h.len; omega
        · cases q2
          exact n0 j z e1 e3 o1
      · have := lt e1; have := h.len; omega
    · cases q1
      rcases at1 k _ e2 with e2 | ⟨j2, q2⟩
      · rcases at2 k z' e4 with e4 | ⟨j4, rfl⟩
        · exact n0 k z' e2 e4 o2
        · have := lt e2; have := h.len; omega
      · omega
end
theorem relPl.mono {K : PySem.W.Frag} {mg : Str → Option Value} {W W1 W2 : Hw} {s : S} {v : V} {d : D} (e : Ext W W1) (B : Base K mg W1 s) (h : relPl K mg W1 W2 v d) : relPl K mg W W2 v d := by
  obtain ⟨p, v1, v2, x, y, h1, h2, h3, h4, h5⟩ := h
  exact ⟨p, v1, v2, x, y, h1, h2, h3, h4, h5.mono e B⟩
/-- x = f(..); if c: return False; x[1].clear(); the rest -/
def sPlUse (i : Nat) (F : DFun) (fs : DA) (c : DT) (h : DS) : DS := fun ρ s => (eCall F fs ρ s).thenS fun d s1 => match d with
  | .tup [x, .lst ds] => if flats ds = true ∧ i < ρ.length then (c (ρ.set i (.dat (.tup [x, .lst ds]))) s1).thenS fun b s2 => (match b with
    | true => .ret (.bl false) s2
    | false => h (ρ.set i .emp) s2) else .bad
  | _ => .bad
/-- return (e, x), x an own list's name -/
def sRetPl (i : Nat) (f : DE) : DS := fun ρ s => (f ρ s).thenS fun d s1 => match ρ[i]? with
  | some (.own ds) => .ret (.tup [d, .lst ds]) s1
  | _ => .bad
theorem nn_retPl {i : Nat} {f : DE} : NoNx (sRetPl i f) := fun ρ s ρ' s' e => by
  unfold sRetPl at e
  cases h : f ρ s with
  | ok x s1 =>
    rw [h] at e
    simp only [Res.thenS] at e
    split at e <;> cases e
  | exc c s1 => rw [h] at e; cases e
  | bad => rw [h] at e; cases e
end DL
namespace DL
open PySem PySem.Spec PyProof.Rows L2
variable [LT : LawT] [TC : TellC]
/-! ### sum of a tuple of whole numbers -/
def rSumTp (K : PySem.W.Frag) : List V → Hp → VK → Prop := fun vs H Q => ∃ (a : Addr) (ns : List Int), vs = [V.ref a] ∧ SqT K H a (ns.map V.int) ∧ Q (.int ns.sum) H
theorem cr_sumTp {X : Cx} (quiet : X.calm = true) : CallR X (.builtin "sum") (rSumTp X.K) := by
  intro pins s σ H vs us Q I r h
  obtain ⟨a, ns, rfl, tup, q⟩ := h
  obtain ⟨its, rv, plain, _⟩ := I.tuple tup
  rw [Vals.ref1 r]
  have whole := rv.ints
  have there : s.heap.IsTuple a its.toArray := plain
  obtain ⟨xs, same⟩ := whole.allInts.items
  have nums : numsOf its.toArray.toList = ns := by
    rw [show its.toArray.toList = its from rfl]
    exact whole.numsOf
  rw [same] at there nums
  rw [nums_intItems] at nums
  refine PySem.W.ktm_sumG (I.ok.hd quiet) there fun h' tk t' kept => ?_
  rw [preSum_eq, List.take_of_length_le (by simp), nums]
  exact ⟨.int _, H, I.kept kept, ⟨_, rfl⟩, q⟩
def dSumT : FN := fun ds => match ds with
  | [.tup xs] => (intsOf xs).map fun ns => .int ns.sum
  | _ => none
theorem v_sumTp {K : PySem.W.Frag} {mg : Str → Option Value} : VC K mg (rSumTp K) dSumT := fun W s vs ds z Q B r hz q => by
  unfold dSumT at hz
  split at hz
  · obtain ⟨ns, h, rfl⟩ := Option.map_eq_some_iff.mp hz
    obtain ⟨v, rfl, rv⟩ := r.one_inv
    obtain ⟨a, xs, rfl, hl, rr⟩ := rv.tup_inv'
    rw [ints_inv h rr] at hl
    exact ⟨a, ns, rfl, .inl (.inl (B.sub _ _ hl)), stay B q (.int _)⟩
  · cases hz
end DL
namespace DL
open PySem PySem.Spec PyProof.Rows L2
/-! ### a def of the program handed over as an argument -/
section
variable [LT : LawT] [TC : TellC]
def aGl (F : DFun) (fs : DA) : List Sl → S → Res (List D × TL × List D) := fun ρ s => (fs ρ s).bind fun d2 s2 => .ok ([], F, d2) s2
variable {X : Cx} {E : WX} {k n : Nat} {x q : Str} {st : Stmt} {es : List Expr} {F : DFun} {fs : DA} {p : Pos}
end
end DL
namespace DL
open PySem PySem.Spec PyProof.Rows L2 PySem.Builtin
/-! ### numbers of many figures in an f-string -/
section
variable [LT : LawT] [TC : TellC]
def eFmtL (f : DE) : DE := fun ρ s => (f ρ s).bind fun d s1 => match d with
  | .int i => if i.natAbs.log2 < 12900 then .ok (.str (toString i)) s1 else .bad
  | .str y => if y.length ≤ 16777216 then .ok (.str y) s1 else .bad
  | _ => .bad
variable {X : Cx} {E : WX} {pos : Pos}
end
end DL
namespace DL
open PySem PySem.Spec PyProof.Rows L2
variable [LT : LawT] [TC : TellC]
/-! ### try: one of some assignments to one name; except c as n: y = n -/
section
variable {X : Cx} {E : WX} {fr : Fr} {tb : XTb} {x n y : Str} {i j : Nat} {f g : DE} {c : DT} {e ce : Expr} {a b : List Stmt} {np nn py ap ep pos pos' : Pos}
/-- the statements put f into slot k, and do nothing else -/
def PG (X : Cx) (W : WX) (k : Nat) (body : List Stmt) (f : DE) : Prop := PSs X body (fun D σ H => tE X.K X.mg W f σ H fun x H1 => D.nx (σ.set k (some x)) H1)
end
end DL
namespace DL
open PySem PySem.Spec PyProof.Rows L2
variable [LT : LawT] [TC : TellC]
/-! ### instances: special objects with named fields -/
def tokO (s : S) (n : Nat) : Option (Str × List (Str × D)) := match s[n]? with
  | some (.o c fs) => some (c, fs)
  | _ => none
def putG (f : Str) (d : D) : List (Str × D) → List (Str × D)
  | [] => [(f, d)]
  | p :: r => if p.1 = f then (p.1, d) :: r else p :: putG f d r
/-- the fields of an instance of c -/
def insOf (s : S) (c : Str) : D → Option (Nat × List (Str × D))
  | .tok n => match tokO s n with
    | some (c', fs) => if c' = c then some (n, fs) else none
    | none => none
  | _ => none
def eFld (c x : Str) (f : DE) : DE := fun ρ s => (f ρ s).bind fun d s1 => match insOf s1 c d with
  | some (_, fs) => Res.ofO (fs.lookup x) s1
  | none => .bad
def sFld (c x : Str) (f fv : DE) : DS := fun ρ s => (fv ρ s).thenS fun d s1 => (f ρ s1).thenS fun t s2 => match insOf s2 c t with
  | some (n, fs) => if flat d = true ∧ fs.length < 1000 then .next ρ (s2.set n (.o c (putG x d fs))) else .bad
  | none => .bad
/-- o.m(e, ..) -/
def eMeth (c m : Str) (F : DFun) (f : DE) (fs : DA) : DE := fun ρ s => (f ρ s).bind fun t s1 => match insOf s1 c t with
  | some (n, l) => if l.lookup m = none then (fs ρ s1).bind fun ds s2 => F (.tok n :: ds) s2 else .bad
  | none => .bad
/-- C(e, ..) -/
def eMake (c : Str) (F : DFun) (fs : DA) : DE := fun ρ s => (fs ρ s).bind fun ds s1 => match F (.tok s1.length :: ds) (s1 ++ [.o c []]) with
  | .ok .non s2 => .ok (.tok s1.length) s2
  | .exc e s2 => .exc e s2
  | _ => .bad
section
variable {R : V → D → Prop} {l : List (Str × V)} {m : List (Str × D)}
theorem PC.putF (h : PC R l m) {v : V} {d : D} (r : R v d) (x : Str) : PC R (L2.putF x v l) (putG x d m) := by
  induction h with
  | nil => exact .cons r .nil
  | @cons k v' d' l m q t ih =>
    show PC R (if k = x then (k, v) :: l else (k, v') :: L2.putF x v l) (if k = x then (k, d) :: m else (k, d') :: putG x d m)
    by_cases e : k = x
    · rw [if_pos e, if_pos e]; exact .cons r t
    · rw [if_neg e, if_neg e]; exact .cons q ih
theorem PC.lookup (h : PC R l m) (x : Str) : (l.lookup x = none ∧ m.lookup x = none) ∨ ∃ v d, l.lookup x = some v ∧ m.lookup x = some d ∧ R v d := by
  induction h with
  | nil => exact .inl ⟨rfl, rfl⟩
  | @cons k v d l m q t ih =>
    by_cases e : x = k
    · subst e
      exact .inr ⟨v, d, by simp [List.lookup], by simp [List.lookup], q⟩
    · have hb : (x == k) = false := by simpa using e
      simp only [List.lookup, hb]
      exact ih
theorem flats_putG {x : Str} {d : D} (hd : flat d = true) : ∀ {l : List (Str × D)}, flats (l.map (·.2)) = true → flats ((putG x d l).map (·.2)) = true
  | [], _ => by simp [putG, flats, hd]
  | p :: l, h => by
    simp only [List.map_cons, flats, Bool.and_eq_true] at h
    unfold putG
    split
    · simp only [List.map_cons, flats, Bool.and_eq_true]; exact ⟨hd, h.2⟩
    · simp only [List.map_cons, flats, Bool.and_eq_true]; exact ⟨h.1, flats_putG hd h.2⟩
end
section
variable {K : PySem.W.Frag} {mg : Str → Option Value}
theorem ins_at {W : Hw} {s : S} {v : V} {t : D} {c : Str} {n : Nat} {fs : List (Str × D)} {C : Addr} (B : Base K mg W s) (r : Rep K mg W.G W.τ v t) (h : insOf s c t = some (n, fs)) (hC : mg c = some (.ref C)) :
    ∃ a dx ks, t = .tok n ∧ v = .ref a ∧ W.τ[n]? = some a ∧ W.H a = some (.ins C dx ks) ∧ PC (Rep K mg W.G W.τ) ks fs ∧ flats (fs.map (·.2)) = true := by
  unfold insOf at h
  split at h
  · rename_i n'
    cases r with
    | tok ht =>
      split at h
      · rename_i c' fs' hs
        split at h
        · rename_i hc
          cases h
          subst hc
          unfold tokO at hs
          split at hs
          · rename_i c'' fs'' hs'
            cases hs
            obtain ⟨C', dx, vs, e0, e, rr⟩ := B.cel n _ _ hs' ht
            obtain rfl : C' = C := by rw [hC] at e0; cases e0; rfl
            exact ⟨_, dx, _, rfl, rfl, ht, e, pc_of rr, B.flt _ (List.mem_of_getElem? hs')⟩
          · cases hs
        · cases h
      · cases h
  · cases h
/-- the class c, of plain instances, has no attribute x of its own -/
def FldAt (K : PySem.W.Frag) (mg : Str → Option Value) (c x : Str) : Prop := ∃ C, mg c = some (.ref C) ∧ Cls K C ∧ NoAttr K C x
/-- the method m of the class c does what F says -/
structure MFn (P : Program) (w : World) (K : PySem.W.Frag) (mg : Str → Option Value) (base : Heap) (k : Nat) (c m : Str) (n : Nat) (F : DFun) (fr : Fr) : Prop where
  ex : ∃ C f fd ps, mg c = some (.ref C) ∧ Cls K C ∧ Meth K C m f ∧ Binds K fd ps [] ∧ FnG P w K mg base k f fd ps (spD K mg F fr n)
  ar : ∀ ds s, ds.length ≠ n → F ds s = .bad
/-- making an instance of the class c calls F -/
structure KFn (P : Program) (w : World) (K : PySem.W.Frag) (mg : Str → Option Value) (base : Heap) (k : Nat) (c : Str) (n : Nat) (F : DFun) : Prop where
  ex : ∃ C f fd ps, mg c = some (.ref C) ∧ Mk K C f ∧ Binds K fd ps [] ∧ FnG P w K mg base k f fd ps (spD K mg F false n)
  ar : ∀ ds s, ds.length ≠ n → F ds s = .bad
theorem MFn.mono {P : Program} {w : World} {base : Heap} {k k' n : Nat} {c m : Str} {F : DFun} {fr : Fr} (h : MFn P w K mg base k c m n F fr) (hk : k ≤ k') : MFn P w K mg base k' c m n F fr := by
  obtain ⟨⟨C, f, fd, ps, h0, h1, h2, h3, h4⟩, ar⟩ := h
  exact ⟨⟨C, f, fd, ps, h0, h1, h2, h3, h4.len, fun A outer s H args us vs Q E hr => h4.run A outer s H args us vs Q E (hr.mono hk)⟩, ar⟩
end
section
variable {X : Cx} {E : WX} {fr : Fr} {apos pos pos' p : Pos} {f fv : DE} {fs : DA} {o e : Expr} {es : List Expr} {c x m : Str} {k n : Nat} {F : DFun}
theorem e_fld (A : FldAt X.K X.mg c x) (ho : PE X o (tE X.K X.mg E f)) (hb : attributeBase o x X.env (eval o X.env) = eval o X.env := by rfl) : PE X (.Attribute o x pos) (tE X.K X.mg E (eFld c x f)) := by
  obtain ⟨C, hC, cls, no⟩ := A
  refine PE.mono (pe_fld ho hb) fun σ H Q z => ?_
  obtain ⟨W0, W, s, ρ, rfl, st, z⟩ := z
  refine (go st z).imp fun v H1 ⟨W1, s1, d1, e1, r1, x1, st1, z1⟩ => ?_
  subst e1
  cases hi : insOf s1 c d1 with
  | none => rw [hi] at z1; exact z1.elim
  | some q =>
    obtain ⟨n, l⟩ := q
    rw [hi] at z1
    obtain ⟨a, dx, ks, rfl, rfl, ht, eH, pc, _⟩ := ins_at st1.base r1 hi hC
    rcases pc.lookup x with ⟨_, e2⟩ | ⟨u, d, e2, e3, rr⟩
    · simp only [e2] at z1; exact z1.elim
    · simp only [e3] at z1
      exact ⟨a, C, dx, ks, u, rfl, eH, cls, no, e2, z1.of_ok st1.base rr⟩
theorem s_fld (A : FldAt X.K X.mg c x) (ho : PE X o (tE X.K X.mg E f)) (he : PE X e (tE X.K X.mg E fv)) (hs : swapsWith e (some (.Attribute o x pos')) pos.line X.env = pure false := by rfl) :
    QS X E fr (.Assign [.Attribute o x pos'] e pos) (sFld c x f fv) := by
  obtain ⟨C, hC, cls, no⟩ := A
  refine PS.mono (ps_fld ho he hs) fun σ H T z => ?_
  obtain ⟨W0, W, s, ρ, rfl, st, z⟩ := z
  refine (goS st z).imp fun y H1 ⟨W1, s1, d1, e1, r1, x1, st1, z1⟩ => ?_
  subst e1
  refine (goS st1 z1).imp fun v H2 ⟨W2, s2, d2, e2, r2, x2, st2, z2⟩ => ?_
  subst e2
  cases hi : insOf s2 c d2 with
  | none => rw [hi] at z2; exact z2.elim
  | some q =>
    obtain ⟨n, l⟩ := q
    rw [hi] at z2
    simp only at z2
    split at z2
    · rename_i hf
      obtain ⟨a, dx, ks, rfl, rfl, ht, eH, pc, hfl⟩ := ins_at st2.base r2 hi hC
      refine ⟨a, C, dx, ks, rfl, eH, cls, no, by rw [pc.len]; exact hf.2, ?_⟩
      obtain ⟨vs, ev, rr⟩ := pc_to (pc.putF (r1.ext x2) x)
      exact z2 σ _ (st2.cellPut ht (fun _ z => nomatch (z : HO.ins _ _ _ = HO.tup _)) (c := .o c (putG x d1 l)) ⟨C, dx, vs, hC, by rw [← ev]; exact upd_same, rr⟩ (flats_putG hf.1 hfl))
    · exact z2.elim
/-- the call of a method, whatever it hands out -/
theorem meth_any {rel : Hw → Hw → V → D → Prop} {pl : Sem Bool} (M : MFn X.prog X.w X.K X.mg X.base k c m n F fr) (hr : Room k X.A) (hgd : X.A.guards = some []) (tk : Takes X E) (ho : PE X o (tE X.K X.mg E f)) (ha : PA X (e :: es) (tA X.K X.mg E fs))
    (hrel : ∀ (W W1 W2 : Hw) (s1 : S) (v : V) (d : D), Ext W W1 → Base X.K X.mg W1 s1 → relR X.K X.mg fr W1 W2 v d → rel W W2 v d)
    (hst : starEach (e :: es) X.env = (false, eval e X.env) :: starEach es X.env) (hpl : (backTo pos (starEach es X.env)).any (·.1) = false)
    (htr : eval (.Call (.Attribute o m apos) (e :: es) [] pos) X.env = (do
      let who ← eval o X.env
      standAt apos.atName
      let (g, ahead) ← holding [who] (getMethod who m pl)
      callWith pos g ahead (backTo pos (starEach (e :: es) X.env)) (backToKw pos (keywordEach [] X.env)))) :
    PE X (.Call (.Attribute o m apos) (e :: es) [] pos) (tX X.K X.mg rel E (eMeth c m F f fs)) := by
  obtain ⟨⟨C, g, fd, ps, hC, cls, me, hb, FG⟩, ar⟩ := M
  refine ⟨fun pins s σ H Q I h => ?_⟩
  obtain ⟨W0, W, s0, ρ, rfl, st, z⟩ := h
  refine PySem.W.methodCall_KW (pl := pl) (thn (ho.run pins s σ W.H _ I (go st z)) fun u s1 ⟨v, H1, I1, rv, W1, t1, d1, e1, r1, x1, st1, z1⟩ => ?_) htr
  subst e1
  cases hi : insOf t1 c d1 with
  | none => rw [hi] at z1; exact z1.elim
  | some q =>
    obtain ⟨j, l⟩ := q
    rw [hi] at z1
    simp only at z1
    split at z1
    · rename_i hno
      obtain ⟨a, dx, ks, rfl, rfl, ht, eH, pc, _⟩ := ins_at st1.base r1 hi hC
      obtain rfl : u = Value.ref a := rv
      have kno : ks.lookup m = none := by
        rcases pc.lookup m with ⟨q, _⟩ | ⟨_, _, _, q, _⟩
        · exact q
        · rw [hno] at q; cases q
      refine getmeth_ok I1 eH cls me kno ?_
      refine PySem.W.callWith_K (first := [Value.ref a]) (h₀ := X.base) I1.ok.mod.kin me.kp (thn (ha.run pos pins s1 σ W1.H _ I1 (go st1 z1)) ?_) hst hpl
      rintro us s2 ⟨vs, H2, I2, r, W2, t2, ds, e2, r2, x2, st2, z2⟩
      subst e2
      refine ⟨I2.kIn, run_fnG FG hr hgd hb (passAt tk σ) I2 (us := Value.ref a :: us) (vs := V.ref a :: vs) (.cons rfl r) ?_⟩
      have hl : (V.ref a :: vs).length = n := by
        have l0 := r2.length
        by_cases hd : (D.tok j :: ds).length = n
        · rw [← hd, List.length_cons, List.length_cons, l0]
        · rw [ar _ t2 hd] at z2; exact z2.elim
      refine ⟨hl, W2, t2, .tok j :: ds, rfl, st2.base, .cons ((Rep.tok ht).ext x2) r2, ?_⟩
      cases hF : F (.tok j :: ds) t2 with
      | ok d t3 => rw [hF] at z2; exact fun v W3 e3 B3 q => z2 v W3 e3 B3 (hrel _ _ _ _ v d (x1.trans st1.base x2) st2.base q)
      | exc c t3 => rw [hF] at z2; exact z2
      | bad => rw [hF] at z2; exact z2.elim
    · exact z1.elim
theorem meth_any0 {rel : Hw → Hw → V → D → Prop} {pl : Sem Bool} (M : MFn X.prog X.w X.K X.mg X.base k c m n F fr) (hr : Room k X.A) (hgd : X.A.guards = some []) (tk : Takes X E) (ho : PE X o (tE X.K X.mg E f))
    (hrel : ∀ (W W1 W2 : Hw) (s1 : S) (v : V) (d : D), Ext W W1 → Base X.K X.mg W1 s1 → relR X.K X.mg fr W1 W2 v d → rel W W2 v d)
    (htr : eval (.Call (.Attribute o m apos) [] [] pos) X.env = (do
      let who ← eval o X.env
      standAt apos.atName
      let (g, ahead) ← holding [who] (getMethod who m pl)
      callWith pos g ahead (backTo pos (starEach [] X.env)) (backToKw pos (keywordEach [] X.env)))) :
    PE X (.Call (.Attribute o m apos) [] [] pos) (tX X.K X.mg rel E (eMeth c m F f aNil)) := by
  obtain ⟨⟨C, g, fd, ps, hC, cls, me, hb, FG⟩, ar⟩ := M
  refine ⟨fun pins s σ H Q I h => ?_⟩
  obtain ⟨W0, W, s0, ρ, rfl, st, z⟩ := h
  refine PySem.W.methodCall_KW (pl := pl) (thn (ho.run pins s σ W.H _ I (go st z)) fun u s1 ⟨v, H1, I1, rv, W1, t1, d1, e1, r1, x1, st1, z1⟩ => ?_) htr
  subst e1
  cases hi : insOf t1 c d1 with
  | none => rw [hi] at z1; exact z1.elim
  | some q =>
    obtain ⟨j, l⟩ := q
    rw [hi] at z1
    simp only at z1
    split at z1
    · rename_i hno
      obtain ⟨a, dx, ks, rfl, rfl, ht, eH, pc, _⟩ := ins_at st1.base r1 hi hC
      obtain rfl : u = Value.ref a := rv
      have kno : ks.lookup m = none := by
        rcases pc.lookup m with ⟨q, _⟩ | ⟨_, _, _, q, _⟩
        · exact q
        · rw [hno] at q; cases q
      refine getmeth_ok I1 eH cls me kno ?_
      refine PySem.W.callWith_K0 (first := [Value.ref a]) I1.kIn me.kp (run_fnG FG hr hgd hb (passAt tk σ) I1 (us := [Value.ref a]) (vs := [V.ref a]) (.cons rfl .nil) ?_)
      have z2 : Post X.K X.mg _ _ (F [.tok j] t1) W1 _ := z1
      have hl : [V.ref a].length = n := by
        by_cases hd : [D.tok j].length = n
        · exact hd
        · rw [ar _ t1 hd] at z2; exact z2.elim
      refine ⟨hl, W1, t1, [.tok j], rfl, st1.base, .cons (.tok ht) .nil, ?_⟩
      cases hF : F [.tok j] t1 with
      | ok d t3 => rw [hF] at z2; exact fun v W3 e3 B3 q => z2 v W3 e3 B3 (hrel _ _ _ _ v d x1 st1.base q)
      | exc c t3 => rw [hF] at z2; exact z2
      | bad => rw [hF] at z2; exact z2.elim
    · exact z1.elim
theorem e_meth {pl : Sem Bool} (M : MFn X.prog X.w X.K X.mg X.base k c m n F false) (hr : Room k X.A) (hgd : X.A.guards = some []) (tk : Takes X E) (ho : PE X o (tE X.K X.mg E f)) (ha : PA X (e :: es) (tA X.K X.mg E fs))
    (hst : starEach (e :: es) X.env = (false, eval e X.env) :: starEach es X.env := by rfl) (hpl : (backTo pos (starEach es X.env)).any (·.1) = false := by rfl)
    (htr : eval (.Call (.Attribute o m apos) (e :: es) [] pos) X.env = (do
      let who ← eval o X.env
      standAt apos.atName
      let (g, ahead) ← holding [who] (getMethod who m pl)
      callWith pos g ahead (backTo pos (starEach (e :: es) X.env)) (backToKw pos (keywordEach [] X.env))) := by rfl) :
    PE X (.Call (.Attribute o m apos) (e :: es) [] pos) (tE X.K X.mg E (eMeth c m F f fs)) := meth_any M hr hgd tk ho ha (fun _ _ _ _ _ _ _ _ h => h) hst hpl htr
theorem e_meth0 {pl : Sem Bool} (M : MFn X.prog X.w X.K X.mg X.base k c m n F false) (hr : Room k X.A) (hgd : X.A.guards = some []) (tk : Takes X E) (ho : PE X o (tE X.K X.mg E f))
    (htr : eval (.Call (.Attribute o m apos) [] [] pos) X.env = (do
      let who ← eval o X.env
      standAt apos.atName
      let (g, ahead) ← holding [who] (getMethod who m pl)
      callWith pos g ahead (backTo pos (starEach [] X.env)) (backToKw pos (keywordEach [] X.env))) := by rfl) :
    PE X (.Call (.Attribute o m apos) [] [] pos) (tE X.K X.mg E (eMeth c m F f aNil)) := meth_any0 M hr hgd tk ho (fun _ _ _ _ _ _ _ _ h => h) htr
theorem f_meth0 {pl : Sem Bool} (M : MFn X.prog X.w X.K X.mg X.base k c m n F true) (hr : Room k X.A) (hgd : X.A.guards = some []) (tk : Takes X E) (ho : PE X o (tE X.K X.mg E f))
    (htr : eval (.Call (.Attribute o m apos) [] [] pos) X.env = (do
      let who ← eval o X.env
      standAt apos.atName
      let (g, ahead) ← holding [who] (getMethod who m pl)
      callWith pos g ahead (backTo pos (starEach [] X.env)) (backToKw pos (keywordEach [] X.env))) := by rfl) :
    PE X (.Call (.Attribute o m apos) [] [] pos) (tF X.K X.mg E (eMeth c m F f aNil)) := meth_any0 M hr hgd tk ho (fun _ _ _ _ _ _ e B h => h.mono e B) htr
end
/-! ### making -/
section
variable {X : Cx} {pins : List (Addr × Obj)} {σ : L2.St} {H : Hp} {s : Shared} {k : Nat} {f C : Addr} {fd : FuncData} {ps : List Str} {sp : Sp} {E : XK} {Q : VK}
theorem guards_make {A : Around} (h : A.guards = some []) (C : Addr) (us : List Value) : (A.under (.builtin "type.__call__" ⟨.ref C :: us, []⟩)).guards = some [] := by
  first
    | exact h
    | (simp [Around.under, h])
theorem make_fnG {us : List Value} {vs : List V} (M : Mk X.K C f) (F : FnG X.prog X.w X.K X.mg X.base k f fd ps sp) (hr : Room (k + 1) X.A) (hg : X.A.guards = some []) (hb : Binds X.K fd ps []) (hx : PassesAt (L2.CX X.prog X.w) X σ E)
    (I : Inv X pins σ H s) (r : Vals vs us) (h : ∀ y dy, H y = none → H dy = none → dy ≠ y → sp (.ref y :: vs) (upd (upd H dy (.own y)) y (.ins C dy [])) (fun v H2 => v = .non ∧ Q (.ref y) H2) E) :
    wpAny (model X.prog X.w) X.A (call (.ref C) us) (EP X pins σ Q) X.xe s := by
  have z := h (s.heap.objs.size + 1) s.heap.objs.size (I.hok.fresh (Nat.le_succ _)) (I.hok.fresh (Nat.le_refl _)) (Nat.ne_of_lt (Nat.lt_succ_self _))
  have J := Inv.made (C := C) I
  have rr : Vals (V.ref (s.heap.objs.size + 1) :: vs) (Value.ref (s.heap.objs.size + 1) :: us) := .cons rfl r
  have many : (Value.ref (s.heap.objs.size + 1) :: us ++ []).length = ps.length := by
    rw [List.append_nil, ← rr.length]
    exact F.len _ _ _ _ z
  have bd := hb _ (Value.ref (s.heap.objs.size + 1) :: us) J.kIn many
  rw [List.append_nil] at bd
  refine wpAny_call (make_map (f := f) I.kIn M.makes M.init (beq_iff_eq.mp M.fn) (codeAny_mono (F.run _ X.stack _ _ ⟨Value.ref (s.heap.objs.size + 1) :: us, []⟩ _ _ _ E (hr.make C us []) (guards_make hg C us)
    (J.env0.make C us []) bd rr z) fun res s' hq => ?_))
  match res, hq with
  | .error e, hq => exact hx pins _ _ e s' J hq
  | .ok (.ret u), hq =>
    obtain ⟨v, H', J', rv, ev, q⟩ := J.after hq
    subst ev
    exact ⟨rv, ⟨V.ref (s.heap.objs.size + 1), H', J', rfl, q⟩⟩
  | .ok .next, hq => exact False.elim hq
  | .ok .brk, hq => exact False.elim hq
  | .ok .cont, hq => exact False.elim hq
end
section
variable {X : Cx} {E : WX} {pos p : Pos} {fs : DA} {e : Expr} {es : List Expr} {c : Str} {k n : Nat} {F : DFun}
theorem ins_base {K : PySem.W.Frag} {mg : Str → Option Value} {W : Hw} {s : S} {y dy C : Addr} (B : Base K mg W s) (hC : mg c = some (.ref C)) (hy : W.H y = none) (hd : W.H dy = none) (ne : dy ≠ y) :
    Base K mg ⟨upd (upd W.H dy (.own y)) y (.ins C dy []), W.G, W.τ ++ [y]⟩ (s ++ [.o c []]) ∧ Ext W ⟨upd (upd W.H dy (.own y)) y (.ins C dy []), W.G, W.τ ++ [y]⟩ := by
  obtain ⟨B1, x1⟩ := B.newL hd (o := .own y) (fun _ z => nomatch z)
  have hy1 : upd W.H dy (.own y) y = none := (upd_ne (fun z => ne z.symm)).trans hy
  obtain ⟨B2, x2⟩ := B1.newL (W := ⟨upd W.H dy (.own y), W.G, W.τ⟩) hy1 (o := .ins C dy []) (fun _ z => nomatch z)
  have hG : W.G y = none := B.frz_none hy
  have ht : y ∉ W.τ := fun m => B.tau_some m hy
  have B3 := B2.pub (a := y) (c := .o c []) hG ht ⟨C, dy, [], hC, upd_same, .nil⟩ rfl
  have x3 := x1.trans B1 x2
  refine ⟨B3, ⟨x3.keep0, x3.grow, x3.out, List.prefix_append _ _, fun b m q => ?_, x3.tab⟩⟩
  rcases List.mem_append.mp m with m | m
  · exact absurd m q
  · rw [List.mem_singleton.mp m]; exact hy
theorem make_sp {K : PySem.W.Frag} {mg : Str → Option Value} {W : Hw} {s : S} {vs : List V} {ds : List D} {C : Addr} {u : XK} {Q : VK} (B : Base K mg W s) (r : RepAll K mg W.G W.τ vs ds) (hC : mg c = some (.ref C)) (ar : ∀ ds s, ds.length ≠ n → F ds s = .bad)
    (z : Post K mg (relE K mg) u (match F (.tok s.length :: ds) (s ++ [.o c []]) with
      | .ok .non s2 => .ok (.tok s.length) s2
      | .exc e s2 => .exc e s2
      | _ => .bad) W Q) :
    ∀ y dy, W.H y = none → W.H dy = none → dy ≠ y → spD K mg F false n (.ref y :: vs) (upd (upd W.H dy (.own y)) y (.ins C dy [])) (fun v H2 => v = .non ∧ Q (.ref y) H2) u := fun y dy hy hd ne => by
  obtain ⟨B1, x1⟩ := ins_base (c := c) B hC hy hd ne
  have l0 := r.length
  have rt : ∀ W', Ext ⟨upd (upd W.H dy (.own y)) y (.ins C dy []), W.G, W.τ ++ [y]⟩ W' → Rep K mg W'.G W'.τ (.ref y) (.tok s.length) := fun W' x => (Rep.tok (by
    show (W.τ ++ [y])[s.length]? = some y
    rw [B.len, List.getElem?_append_right (Nat.le_refl _), Nat.sub_self]; rfl)).ext x
  have hl : (V.ref y :: vs).length = n := by
    by_cases h : (D.tok s.length :: ds).length = n
    · rw [← h, List.length_cons, List.length_cons, l0]
    · rw [ar _ _ h] at z; exact z.elim
  refine ⟨hl, _, _, .tok s.length :: ds, rfl, B1, .cons (rt _ (Ext.refl _)) (r.ext x1), ?_⟩
  cases hF : F (.tok s.length :: ds) (s ++ [.o c []]) with
  | ok d s2 =>
    rw [hF] at z
    cases d with
    | non => exact fun v W2 e2 B2 q => ⟨Rep.non_inv q, z (.ref y) W2 (x1.trans B1 e2) B2 (rt _ e2)⟩
    | _ => exact z.elim
  | exc e s2 => rw [hF] at z; exact fun W2 u e2 B2 h => z W2 u (x1.trans B1 e2) B2 h
  | bad => rw [hF] at z; exact z.elim
theorem e_make (M : KFn X.prog X.w X.K X.mg X.base k c n F) (hr : Room (k + 1) X.A) (hgd : X.A.guards = some []) (tk : Takes X E) (ha : PA X (e :: es) (tA X.K X.mg E fs))
    (hg : Gl X c := by rfl) (hdb : (c == ("__debug__" : Str)) = false := by decide) (he : starEach (e :: es) X.env = (false, eval e X.env) :: starEach es X.env := by rfl) (hpl : (backTo pos (starEach es X.env)).any (·.1) = false := by rfl) :
    PE X (.Call (.Name c p) (e :: es) [] pos) (tE X.K X.mg E (eMake c F fs)) := by
  obtain ⟨⟨C, g, fd, ps, hC, mk, hb, FG⟩, ar⟩ := M
  refine ⟨fun pins s σ H Q I h => ?_⟩
  obtain ⟨W0, W, s0, ρ, rfl, st, z⟩ := h
  refine wpAny_Call_Name_kw (ld_glob I hg hC ?_ hdb)
  refine PySem.W.callWith_K (h₀ := X.base) I.ok.mod.kin mk.kp (thn (ha.run pos pins s σ W.H _ I (go st z)) ?_) he hpl
  rintro us s2 ⟨vs, H1, I1, r, W1, s1, ds, e1, r1, x1, st1, z1⟩
  subst e1
  exact ⟨I1.kIn, make_fnG mk FG hr hgd hb (passAt tk σ) I1 r (make_sp st1.base r1 hC ar z1)⟩
end
/-! ### where they stand -/
section
variable {P : Program} {w : World} {K : PySem.W.Frag} {mg : Str → Option Value} {base : Heap}
/-- the class c has a method m, the def st -/
def MetAt (K : PySem.W.Frag) (mg : Str → Option Value) (c m q : Str) (st : Stmt) : Prop := ∃ C f fd, mg c = some (.ref C) ∧ Cls K C ∧ Meth K C m f ∧ Fun K m q st f fd
def MakAt (K : PySem.W.Frag) (mg : Str → Option Value) (c q : Str) (st : Stmt) : Prop := ∃ C f fd, mg c = some (.ref C) ∧ Mk K C f ∧ Fun K "__init__" q st f fd
end
end DL
namespace DL
open PySem PySem.Spec PyProof.Rows L2
variable [LT : LawT] [TC : TellC]
/-! ### methods and makers from their bodies -/
section
variable {P : Program} {w : World} {K : PySem.W.Frag} {mg : Str → Option Value} {base : Heap}
theorem MFn.mk' {c m x' qual : Str} {C : Addr} {st : Stmt} {f : Addr} {fd : FuncData} {N ps : List Str} {k n : Nat} {g : DS} {fr : Fr} (F : Fun K x' qual st f fd) (S : FnScope N ps (defScope st)) (hC : mg c = some (.ref C)) (cls : Cls K C) (me : Meth K C m f) (hb : Binds K fd ps []) (hn : ps.length = n)
    (body : ∀ (X : Cx) (E : XK), X.K = K → X.mg = mg → (∃ (cdv : Value) (A : Around) (outer : List Env) (s : Shared) (H : Hp), X = cxOf (L2.CX P w) P w K mg base N qual (defScope st) f cdv A outer s H E) → Room k X.A → X.A.guards = some [] →
      QSs X (fun u d _ H' => E u d H') fr (defBody st) g) (hng : fr.own = true → ∀ ρ s ρ' s', g ρ s ≠ .next ρ' s') :
    MFn P w K mg base (k + 1) c m n (defD N.length n g) fr := ⟨⟨C, f, fd, ps, hC, cls, me, hb, fnG_mk F S hn body hng⟩, fun ds s h => if_neg h⟩
theorem KFn.mk' {c x' qual : Str} {C : Addr} {st : Stmt} {f : Addr} {fd : FuncData} {N ps : List Str} {k n : Nat} {g : DS} (F : Fun K x' qual st f fd) (S : FnScope N ps (defScope st)) (hC : mg c = some (.ref C)) (mk : Mk K C f) (hb : Binds K fd ps []) (hn : ps.length = n)
    (body : ∀ (X : Cx) (E : XK), X.K = K → X.mg = mg → (∃ (cdv : Value) (A : Around) (outer : List Env) (s : Shared) (H : Hp), X = cxOf (L2.CX P w) P w K mg base N qual (defScope st) f cdv A outer s H E) → Room k X.A → X.A.guards = some [] →
      QSs X (fun u d _ H' => E u d H') false (defBody st) g) :
    KFn P w K mg base (k + 1) c n (defD N.length n g) := ⟨⟨C, f, fd, ps, hC, mk, hb, fnG_mk F S hn body (fun z => Bool.noConfusion z)⟩, fun ds s h => if_neg h⟩
end
/-! ### x.pop() of a special list -/
def popL (s : S) : D → Option (D × S)
  | .tok n => match tokL s n with
    | some ds => match ds.getLast? with
      | some d => some (d, s.set n (.l ds.dropLast))
      | none => none
    | none => none
  | _ => none
def ePop0T (f : DE) : DE := fun ρ s => (f ρ s).bind fun t s1 => match popL s1 t with
  | some p => .ok p.1 p.2
  | none => .bad
section
variable {X : Cx} {E : WX} {apos cpos : Pos} {f h : DE} {o a b : Expr} {pos : Pos}
theorem flats_dl : ∀ {ds : List D}, flats ds = true → flats ds.dropLast = true
  | [], _ => rfl
  | [x], _ => rfl
  | x :: y :: r, h => by
    simp only [flats, Bool.and_eq_true] at h
    show flats (x :: (y :: r).dropLast) = true
    simp only [flats, Bool.and_eq_true]
    exact ⟨h.1, flats_dl (by simp only [flats, Bool.and_eq_true]; exact h.2)⟩
theorem e_pop0T (ho : PE X o (tE X.K X.mg E f)) (hbase : attributeBase o "pop" X.env (eval o X.env) = eval o X.env := by rfl) (hline : (apos.endLine == cpos.line) = true := by rfl) :
    PE X (.Call (.Attribute o "pop" apos) [] [] cpos) (tE X.K X.mg E (ePop0T f)) := by
  refine PE.mono (pe_bm0 PySem.F.plainAttrs_list PySem.F.slot_list_pop PySem.F.type_list_pop mt_pop ho hbase hline) fun σ H Q z => ?_
  obtain ⟨W0, W, s, ρ, rfl, st, z⟩ := z
  refine (go st z).imp fun t H1 ⟨W1, s1, d1, e1, r1, x1, st1, z1⟩ => ?_
  subst e1
  cases d1 with
  | tok n =>
    cases hd : tokL s1 n with
    | none => simp only [popL, hd] at z1; exact z1.elim
    | some ds =>
      cases hl : ds.getLast? with
      | none => simp only [popL, hd, hl] at z1; exact z1.elim
      | some d =>
        simp only [popL, hd, hl] at z1
        obtain ⟨p, vs, rfl, hτ, eH, rr⟩ := tok_list st1.base r1 hd
        obtain ⟨es, rfl⟩ : ∃ es, ds = es ++ [d] := List.getLast?_eq_some_iff.mp hl
        have hfl : flats (es ++ [d]) = true := by
          unfold tokL at hd
          split at hd
          · rename_i ds' hds
            cases hd
            exact st1.base.flt _ (List.mem_of_getElem? hds)
          · cases hd
        obtain ⟨a1, b1, rfl, q1, q2⟩ := RepAll.split (us := [d]) rr
        obtain ⟨v, rfl, rv⟩ := q2.one_inv
        refine ⟨tyL eH, p, a1 ++ [v], v, rfl, rfl, eH, by simp, ?_⟩
        have e6 : (a1 ++ [v]).dropLast = a1 := by simp
        have e7 : (es ++ [d]).dropLast = es := by simp
        rw [e6]
        rw [e7] at z1
        have fe : flats es = true := e7 ▸ flats_dl hfl
        have st0 : SSt X.K X.mg W1 W1 s1 [] [] := ⟨Ext.refl W1, st1.base, rfl, fun i x y h => by simp at h, fun i j a y z _ h => by simp at h⟩
        have st3 := st0.cellPut (o := .lst a1) (c := .l es) hτ (fun _ z => nomatch (z : HO.lst _ = HO.tup _)) ⟨_, upd_same, q1⟩ fe
        exact z1 v _ st3.ext st3.base (rv.ext st3.ext)
  | _ => exact z1.elim
end
end DL
namespace DL
open PySem PySem.Spec PyProof.Rows L2
variable [LT : LawT] [TC : TellC]
/-! ### what the top has written of a class -/
section
variable {K : PySem.W.Frag} {mg : Str → Option Value} {h : Heap} {c m q x : Str} {C f : Addr} {st : Stmt} {oc kV dc pm cd ct : Value} {od an : Option Addr} {sl : Array (Option Value)}
/-- the class c stands and its instances are plain -/
def ClsAt (K : PySem.W.Frag) (mg : Str → Option Value) (c : Str) : Prop := ∃ C, mg c = some (.ref C) ∧ Cls K C
omit LT TC
theorem mkCl (X : K.In h) (G : h.Ns mainGlobals mg) (a : PySem.W.nsIn K mainGlobals c = some (some (.ref C))) (pg : PySem.W.plainGet K C Str.empty = true) (hd : PySem.W.hasDictIn K C = true) (po : PySem.W.plainOver K C = true)
    (sa : PySem.W.findIn K (.ref C) "__setattr__" = some (some (.builtin "object.__setattr__"))) : ClsAt K mg c := ⟨C, PySem.W.mg_of X G a, ⟨pg, hd, po, sa⟩⟩
theorem mkMt (X : K.In h) (G : h.Ns mainGlobals mg) (a : PySem.W.nsIn K mainGlobals c = some (some (.ref C))) (cl : ClsAt K mg c) (at_ : PySem.W.findIn K (.ref C) m = some (some (.ref f))) (fn : PySem.W.isFn K (.ref f) = true)
    (l : K.lookup f = some ⟨oc, od, .func (PySem.W.fnOf m q (defArgs st) (defBody st) (defScope st) .none kV dc pm an cd ct), sl⟩) (cc : PySem.W.codeIn K cd q = true) (k : PySem.W.keepIn K (.ref f) = true) : MetAt K mg c m q st := by
  obtain ⟨C', hC, cls⟩ := cl
  have e := hC.symm.trans (PySem.W.mg_of X G a)
  cases e
  exact ⟨C, f, _, hC, cls, ⟨at_, fn, k⟩, fun_mk l cc k⟩
theorem mkMk (X : K.In h) (G : h.Ns mainGlobals mg) (a : PySem.W.nsIn K mainGlobals c = some (some (.ref C))) (mk : PySem.W.makesIn K C = true) (kc : PySem.W.keepIn K (.ref C) = true) (at_ : PySem.W.findIn K (.ref C) "__init__" = some (some (.ref f))) (fn : PySem.W.isFn K (.ref f) = true)
    (l : K.lookup f = some ⟨oc, od, .func (PySem.W.fnOf "__init__" q (defArgs st) (defBody st) (defScope st) .none kV dc pm an cd ct), sl⟩) (cc : PySem.W.codeIn K cd q = true) (k : PySem.W.keepIn K (.ref f) = true) : MakAt K mg c q st :=
  ⟨C, f, _, PySem.W.mg_of X G a, ⟨mk, at_, fn, kc⟩, fun_mk l cc k⟩
theorem mkFd (X : K.In h) (G : h.Ns mainGlobals mg) (a : PySem.W.nsIn K mainGlobals c = some (some (.ref C))) (cl : ClsAt K mg c) (n : PySem.W.findIn K (.ref C) x = some none) : FldAt K mg c x := by
  obtain ⟨C', hC, cls⟩ := cl
  have e := hC.symm.trans (PySem.W.mg_of X G a)
  cases e
  exact ⟨C, hC, cls, n⟩
end
end DL
namespace DL
open PySem PySem.Spec PyProof.Rows L2
variable [LT : LawT] [TC : TellC]
/-! ### list(range(a, b, -1)) -/
def eLstR3 (fs : DA) : DE := fun ρ s => (fs ρ s).bind fun ds s1 => match ds with
  | [.int i, .int j, .int c] => if c = -1 ∧ -(2 ^ 60) ≤ i ∧ i < 2 ^ 60 ∧ -(2 ^ 60) ≤ j ∧ j < 2 ^ 60 ∧ (i - j).toNat ≤ 2 ^ 24 then .ok (.lst (rngD i c (i - j).toNat)) s1 else .bad
  | _ => .bad
end DL
namespace DL
open PySem PySem.Spec PyProof.Rows L2
variable [LT : LawT] [TC : TellC]
/-! ### a written dict of texts and whole numbers: x.get(e) -/
def eGetK (kvs : List (Str × Int)) (fs : DA) : DE := fun ρ s => (fs ρ s).bind fun ds s1 => match ds with
  | [.str z] => .ok (match kvs.lookup z with | some i => .int i | none => .non) s1
  | _ => .bad
/-! ### a call of one of two defs, chosen by an expression -/
def eCallE (x1 : Str) (F1 : DFun) (x2 : Str) (F2 : DFun) (ff : DE) (fs : DA) : DE := fun ρ s => (ff ρ s).bind fun d s1 => match d with
  | .glb y => if y = x1 then (fs ρ s1).bind F1 else if y = x2 then (fs ρ s1).bind F2 else .bad
  | _ => .bad
end DL
namespace DL
open PySem PySem.Spec PyProof.Rows L2 PySem.Builtin
/-! ### str of long numbers -/
section
variable {X : Cx}
def dStrL : FN := fun ds => match ds with
  | [.int i] => if i.natAbs.log2 < 12900 then some (.str (toString i)) else none
  | [.str a] => some (.str a)
  | _ => none
end
end DL
namespace DL
open PySem PySem.Spec PyProof.Rows L2
variable [LT : LawT] [TC : TellC]
/-! ### try: f; except c1: y = z1; except c2: y = z2 -/
def pickS (tb : XTb) (k : Nat) (ρ : List Sl) (x : Str) (s : S) : List (Str × Str) → Fl
  | [] => .exc x s
  | (c, z) :: r => match isX tb x c with
    | some true => .next (ρ.set k (.dat (.str z))) s
    | some false => pickS tb k ρ x s r
    | none => .bad
def sTryS (tb : XTb) (k : Nat) (hs : List (Str × Str)) (f : DE) : DS := fun ρ s => match f ρ s with
  | .ok _ s1 => .next ρ s1
  | .exc x s1 => pickS tb k ρ x s1 hs
  | .bad => .bad
end DL
namespace DL
open PySem PySem.Spec PyProof.Rows L2
variable [LT : LawT] [TC : TellC]
/-! ### a list's parts to names -/
def gTL (n : Nat) (h : List D → List Sl → Option (List Sl)) : DG := fun d ρ => match d with
  | .lst ds => if ds.length = n then h ds ρ else none
  | _ => none
end DL
namespace DL
open PySem PySem.Spec PyProof.Rows L2
variable [LT : LawT] [TC : TellC]
/-! ### x.get(k), x a dict of its own -/
def eGetO1 (i : Nat) (fk : DE) : DE := fun ρ s => match ρ[i]? with
  | some (.ownD t l) => (fk ρ s).bind fun y s1 => Res.ofO ((getO t l y).map fun o => o.getD .non) s1
  | _ => .bad
end DL
namespace DL
open PySem PySem.Spec PyProof.Rows L2
variable [LT : LawT] [TC : TellC]
/-! ### x.update(e), x a dict of its own, e a dict of names or numbers -/
def mergeO (l : List (D × D)) : List (D × D) → Option (List (D × D))
  | [] => some l
  | (k, v) :: r => match dk k with
    | some x => mergeO (putD dk kD l x v) r
    | none => none
def sUpdO (i : Nat) (f : DE) : DS := fun ρ s => match ρ[i]? with
  | some (.ownD false l) => (f ρ s).thenS fun d s1 => match d with
    | .dct m => match m with
      | [] => .bad
      | p :: r => match mergeO l (p :: r) with
        | some l' => if l.length + (p :: r).length ≤ 16777216 then .next (ρ.set i (.ownD false l')) s1 else .bad
        | none => .bad
    | _ => .bad
  | _ => .bad
end DL
namespace DL
open PySem PySem.Spec PyProof.Rows L2
variable [LT : LawT] [TC : TellC]
/-! ### x = {name: number, ..}, a dict of its own -/
def dispD (kvs : List (Str × Int)) : List (D × D) := (kvs.map fun p => ((Sum.inr p.1 : Key), D.int p.2)).foldl (fun acc kv => putD dk kD acc kv.1 kv.2) []
def sDispC (i : Nat) (kvs : List (Str × Int)) : DS := fun ρ s => .next (ρ.set i (.ownD false (dispD kvs))) s
end DL
namespace DL
open PySem PySem.Spec PyProof.Rows L2
variable [LT : LawT] [TC : TellC]
/-! ### for over a special list, or over data -/
def loopT (clr : List Nat) (g : DG) (body : DS) (n N : Nat) : Nat → List Sl → S → Fl
  | 0, ρ, s => match tokL s n with
    | none => .bad
    | some ds => if ds.length = N then .next ρ s else .bad
  | k + 1, ρ, s => match tokL s n with
    | none => .bad
    | some ds => if ds.length = N then (match ds[N - (k + 1)]? with
      | none => .bad
      | some d => match g d ρ with
        | none => .bad
        | some ρ1 => match body ρ1 s with
          | .next ρ2 s2 => loopT clr g body n N k (wipeD ρ2 clr) s2
          | .cont ρ2 s2 => loopT clr g body n N k (wipeD ρ2 clr) s2
          | .brk ρ2 s2 => .next (wipeD ρ2 clr) s2
          | .ret d s2 => .ret d s2
          | .exc c s2 => .exc c s2
          | .bad => .bad) else .bad
def sForV (clr : List Nat) (f : DE) (g : DG) (body : DS) : DS := fun ρ s => (f ρ s).thenS fun d s1 => match d with
  | .tok n => match tokL s1 n with
    | none => .bad
    | some ds => loopT clr g body n ds.length ds.length (wipeD ρ clr) s1
  | d => match dIter d with
    | none => .bad
    | some ds => loopN clr g body ds (wipeD ρ clr) s1
end DL
namespace DL
open PySem PySem.Spec PyProof.Rows L2
variable [LT : LawT] [TC : TellC]
/-! ### list(d), d a special dict keyed by tuples -/
def eLstKT (fs : DA) : DE := fun ρ s => (fs ρ s).bind fun ds s1 => match ds with
  | [.tok n] => match tokT s1 n with
    | none => .bad
    | some l => .ok (.lst (l.map fun p => kT p.1)) s1
  | _ => .bad
end DL
namespace DL
open PySem PySem.Spec PyProof.Rows L2
variable [LT : LawT] [TC : TellC]
/-! ### list(d.values()), d a dict that stands still, keyed by tuples -/
def eLstV (f : DE) : DE := fun ρ s => (f ρ s).bind fun d s1 => match d with
  | .fd true l => .ok (.lst (l.map (·.2))) s1
  | _ => .bad
end DL
namespace DL
open PySem PySem.Spec PyProof.Rows L2
variable [LT : LawT] [TC : TellC]
/-! ### y = dict(x), both dicts of their own, keyed by tuples of whole numbers whose hashes differ -/
def hashN (ks : List Key) : Int := reduceHash (Builtin.Tuple.tupleHashOf (ks.map fun k => match k with | .inl i => hashInt i | .inr _ => 0))
def numsK (ks : List Key) : Bool := ks.all fun k => match k with
  | .inl _ => true
  | .inr _ => false
def apartB (l : List (D × D)) : Bool := (l.all fun p => match dkT p.1 with
    | some ks => numsK ks
    | none => false) && decide ((l.map fun p => match dkT p.1 with
    | some ks => hashN ks
    | none => 0).Nodup)
def sCpyO (i k : Nat) : DS := fun ρ s => match ρ[k]? with
  | some (.ownD true l) => if apartB l = true then .next (ρ.set i (.ownD true l)) s else .bad
  | _ => .bad
end DL
namespace DL
open PySem PySem.Spec PyProof.Rows L2
/-! ### special lists in a sum, as a text, behind == -/
/-- special list + list, a new list of its own -/
def dAddT (s : S) : F2 := fun x y => match x with
  | .tok n => (tokL s n).bind fun ds => dAddL (.lst ds) y
  | x => dAddL x y
section
variable {K : PySem.W.Frag} {mg : Str → Option Value} [LT : LawT]
theorem vF_addT {W : Hw} {s : S} {x y : V} {d e z : D} {Q : VK} (B : Base K mg W s) (rx : Rep K mg W.G W.τ x d) (ry : Rep K mg W.G W.τ y e) (hz : dAddT s d e = some z) (q : ∀ v W', Ext W W' → Base K mg W' s → relF K mg W W' v z → Q v W'.H) : rCat x y W.H Q := by
  unfold dAddT at hz
  split at hz
  · obtain ⟨ds, h1, hz⟩ := Option.bind_eq_some_iff.mp hz
    obtain ⟨a, vs, rfl, _, eH, rr⟩ := tok_list B rx h1
    unfold dAddL at hz
    split at hz
    · split at hz
      · cases hz
        rename_i a' b hab hl
        cases hab
        obtain ⟨b1, ys, rfl, h2, r2⟩ := ry.lst_inv
        have l1 := rr.length
        have l2 := r2.length
        exact ⟨a, b1, vs, ys, rfl, rfl, eH, B.sub _ _ h2, line_le (by omega), fun p hp => newOwn B hp q (rr.append r2)⟩
      · cases hz
    · cases hz
  · exact vF_add W s x y _ e z Q B rx ry hz q
end
section
variable {X : Cx} {a b : Expr} {f h : DE} {pos : Pos} {E : WX} [LT : LawT]
theorem f_addT (hop : OpR X (binaryOp .Add) rCat) (ha : PE X a (tE X.K X.mg E f)) (hb : PE X b (tE X.K X.mg E h)) : PE X (.BinOp a .Add b pos) (tF X.K X.mg E (eOp2S dAddT f h)) := by
  refine PE.mono (pe_op hop ha hb) fun σ H Q q => ?_
  obtain ⟨W0, W, s, ρ, rfl, st, p⟩ := q
  refine (go st p).imp fun x H1 ⟨W1, s1, d1, e1, r1, x1, st1, p1⟩ => ?_
  subst e1
  refine (go st1 p1).imp fun y H2 ⟨W2, s2, d2, e2, r2, x2, st2, p2⟩ => ?_
  subst e2
  cases hz : dAddT s2 d1 d2 with
  | none => rw [hz] at p2; exact p2.elim
  | some z =>
    rw [hz] at p2
    exact vF_addT st2.base (r1.ext x2) r2 hz fun v W' e B rf => p2 v W' e B ((rf.mono x2 st2.base).mono x1 st1.base)
end
/-- == with a special list behind it -/
def dEqR (s : S) : F2 := fun x y => match y with
  | .tok n => (tokL s n).bind fun ds => dEq x (.lst ds)
  | y => dEq x y
section
variable {K : PySem.W.Frag} {mg : Str → Option Value} [LT : LawT]
theorem v_eqR : V2S K mg (rEqA K) dEqR := fun W s x y d e z Q B rx ry hz q => by
  unfold dEqR at hz
  split at hz
  · obtain ⟨ds, h1, hz⟩ := Option.bind_eq_some_iff.mp hz
    obtain ⟨a, vs, rfl, _, eH, rr⟩ := tok_list B ry h1
    have hz' : (if ready d && ready (.lst ds) then some (D.bl (eqB d (.lst ds))) else none) = some z := by
      rw [← hz]
      cases d <;> rfl
    split at hz'
    · rename_i hr
      cases hz'
      rw [Bool.and_eq_true] at hr
      have hx : Dp K W.H (.ref a) (toPy (.lst ds)) := .lst (.of eH) (dps_of B.sub rr (by simpa [okD] using ready_ok hr.2))
      exact .inr ⟨_, _, dp_of B.sub rx (ready_ok hr.1), hx, shaped_of hr.1, shaped_of hr.2, stay B q (.bl _)⟩
    · cases hz'
  · exact v_eq W s x y d _ z Q B rx ry hz q
end
/-- repr of a special list too -/
def dRepT (L : Nat) (s : S) (ds : List D) : Option D := match ds with
  | [.tok n] => (tokL s n).bind fun l => repD L (.lst l)
  | ds => dRepr L ds
def eRepT (L : Nat) (fs : DA) : DE := fun ρ s => (fs ρ s).bind fun ds s1 => Res.ofO (dRepT L s1 ds) s1
section
variable {X : Cx} {E : WX} {pos : Pos} {e : Expr} {fs : DA} [LT : LawT]
theorem e_repT {L : Nat} {p' : Pos} (hc : CallR X (.builtin "repr") (rRepr L X.K X.mg)) (hm : X.mg "repr" = none) (ha : PA X [e] (tA X.K X.mg E fs)) (hb : bootBuiltins "repr" = some (.builtin "repr") := by decide +kernel) (hg : Gl X "repr" := by rfl)
    (he : starEach [e] X.env = (false, eval e X.env) :: starEach [] X.env := by rfl) : PE X (.Call (.Name "repr" p') [e] [] pos) (tE X.K X.mg E (eRepT L fs)) :=
  PE.mono (pe_callB hc hg hm hb ha (by decide) (by decide) he rfl) fun σ H Q z => by
    obtain ⟨W0, W, s, ρ, rfl, st, z⟩ := z
    refine (go st z).imp fun x H1 ⟨W1, s1, d1, e1, r1, x1, st1, z1⟩ => ?_
    subst e1
    cases hz : dRepT L s1 d1 with
    | none => rw [hz] at z1; exact z1.elim
    | some d =>
      rw [hz] at z1
      unfold dRepT at hz
      split at hz
      · rename_i n
        obtain ⟨ds, hd, hz⟩ := Option.bind_eq_some_iff.mp hz
        obtain ⟨v, rfl, rv⟩ := RepAll.one_inv r1
        obtain ⟨p, vs, rfl, ht, eH, rr⟩ := tok_list st1.base rv hd
        have g0 : W1.G p = none := st1.base.spc p (List.mem_of_getElem? ht)
        have s1' : Same W1.G (upd W1.G p (.lst vs)) := fun b o hb => by
          rw [upd_ne (fun z => by rw [z, g0] at hb; cases hb)]
          exact hb
        have s2' : Same (upd W1.G p (.lst vs)) W1.H := fun b o hb => by
          by_cases z : b = p
          · subst z
            rw [upd_same] at hb
            exact eH.trans hb
          · rw [upd_ne z] at hb
            exact st1.base.sub b o hb
        unfold repD at hz
        split at hz
        · rename_i h
          cases hz
          exact ⟨.ref p, .lst ds, _, W1.τ, rfl, s2', .lst upd_same (rr.mono s1' (List.prefix_refl _)), h.1, h.2.1, h.2.2, stay st1.base z1 (.str _)⟩
        · cases hz
      · exact v_repr W1 s1 x _ d Q st1.base r1 hz z1
end
end DL
namespace DL
open PySem PySem.Spec PyProof.Rows L2
/-! ### plain reasoning about denotations -/
@[irreducible] def wp {α : Type} (r : Res α) (Q : α → S → Prop) (X : Str → S → Prop) : Prop := match r with
  | .ok a s => Q a s
  | .exc c s => X c s
  | .bad => False
@[irreducible] def wps (g : Fl) (N B C : List Sl → S → Prop) (R : D → S → Prop) (X : Str → S → Prop) : Prop := match g with
  | .next ρ s => N ρ s
  | .brk ρ s => B ρ s
  | .cont ρ s => C ρ s
  | .ret d s => R d s
  | .exc c s => X c s
  | .bad => False
section
variable {α β : Type} {Q Q' : α → S → Prop} {X X' : Str → S → Prop} {ρ : List Sl} {s : S} {N B C : List Sl → S → Prop} {R : D → S → Prop}
theorem wp_ok {a : α} : wp (.ok a s) Q X = Q a s := by unfold wp; rfl
theorem wp_exc {c : Str} : wp (.exc c s : Res α) Q X = X c s := by unfold wp; rfl
theorem wp_bad : wp (.bad : Res α) Q X = False := by unfold wp; rfl
theorem wz_next : wps (.next ρ s) N B C R X = N ρ s := by unfold wps; rfl
theorem wz_brk : wps (.brk ρ s) N B C R X = B ρ s := by unfold wps; rfl
theorem wz_cont : wps (.cont ρ s) N B C R X = C ρ s := by unfold wps; rfl
theorem wz_ret {d : D} : wps (.ret d s) N B C R X = R d s := by unfold wps; rfl
theorem wz_exc {c : Str} : wps (.exc c s) N B C R X = X c s := by unfold wps; rfl
theorem wz_bad : wps .bad N B C R X = False := by unfold wps; rfl
theorem wp_bind {r : Res β} {f : β → S → Res α} : wp (r.bind f) Q X = wp r (fun a s => wp (f a s) Q X) X := by cases r <;> (with_unfolding_all rfl)
theorem wp_ofO {o : Option α} : wp (Res.ofO o s) Q X = ∃ a, o = some a ∧ Q a s := by
  cases o with
  | none => simp [Res.ofO, wp]
  | some a => simp [Res.ofO, wp]
theorem wp_ite {c : Prop} [Decidable c] {r q : Res α} : wp (if c then r else q) Q X = if c then wp r Q X else wp q Q X := by split <;> (with_unfolding_all rfl)
theorem wp_mono {r : Res α} (h : wp r Q X) (i : ∀ a s, Q a s → Q' a s) (j : ∀ c s, X c s → X' c s) : wp r Q' X' := by
  cases r with
  | ok a s => rw [wp_ok] at h ⊢; exact i _ _ h
  | exc c s => rw [wp_exc] at h ⊢; exact j _ _ h
  | bad => rw [wp_bad] at h; exact h.elim
/-- the rule for a call whose promise is known -/
theorem wp_call {r : Res α} (h : wp r Q fun _ _ => False) (i : ∀ a s, Q a s → Q' a s) : wp r Q' X' := wp_mono h i fun _ _ z => z.elim
theorem ok_of_wp {r : Res D} {d : D} (h : wp r (fun a _ => a = d) fun _ _ => False) : ∃ s, r = .ok d s := by
  cases r with
  | ok a s => rw [wp_ok] at h; cases h; exact ⟨s, rfl⟩
  | exc c s => rw [wp_exc] at h; exact h.elim
  | bad => rw [wp_bad] at h; exact h.elim
/-! the slots -/
def setAt : List Sl → Nat → Sl → List Sl
  | [], _, _ => []
  | _ :: r, 0, y => y :: r
  | x :: r, n + 1, y => x :: setAt r n y
theorem set_at : ∀ (ρ : List Sl) (i : Nat) (y : Sl), ρ.set i y = setAt ρ i y
  | [], _, _ => rfl
  | x :: r, 0, y => rfl
  | x :: r, i + 1, y => by rw [List.set_cons_succ, set_at r i y]; rfl
/-! expressions -/
theorem wp_eC {d : D} {Q : D → S → Prop} : wp (eC d ρ s) Q X = Q d s := by with_unfolding_all rfl
theorem wp_op2 {g : F2} {f h : DE} {Q : D → S → Prop} : wp (eOp2 g f h ρ s) Q X = wp (f ρ s) (fun a s1 => wp (h ρ s1) (fun b s2 => ∃ z, g a b = some z ∧ Q z s2) X) X := by
  unfold eOp2
  rw [wp_bind]
  congr 1
  funext a s1
  rw [wp_bind]
  congr 1
  funext b s2
  rw [wp_ofO]
theorem wp_op2S {g : F2S} {f h : DE} {Q : D → S → Prop} : wp (eOp2S g f h ρ s) Q X = wp (f ρ s) (fun a s1 => wp (h ρ s1) (fun b s2 => ∃ z, g s2 a b = some z ∧ Q z s2) X) X := by
  unfold eOp2S
  rw [wp_bind]
  congr 1
  funext a s1
  rw [wp_bind]
  congr 1
  funext b s2
  rw [wp_ofO]
theorem wp_op1 {g : F1} {f : DE} {Q : D → S → Prop} : wp (eOp1 g f ρ s) Q X = wp (f ρ s) (fun a s1 => ∃ z, g a = some z ∧ Q z s1) X := by
  unfold eOp1
  rw [wp_bind]
  congr 1
  funext a s1
  rw [wp_ofO]
theorem wp_aNil {Q : List D → S → Prop} : wp (aNil ρ s) Q X = Q [] s := by with_unfolding_all rfl
theorem wp_aCons {f : DE} {g : DA} {Q : List D → S → Prop} : wp (aCons f g ρ s) Q X = wp (f ρ s) (fun d s1 => wp (g ρ s1) (fun ds s2 => Q (d :: ds) s2) X) X := by
  unfold aCons
  rw [wp_bind]
  congr 1
  funext a s1
  rw [wp_bind]
  with_unfolding_all rfl
theorem wp_eB {g : FN} {fs : DA} {Q : D → S → Prop} : wp (eB g fs ρ s) Q X = wp (fs ρ s) (fun ds s1 => ∃ z, g ds = some z ∧ Q z s1) X := by
  unfold eB
  rw [wp_bind]
  congr 1
  funext a s1
  rw [wp_ofO]
theorem wp_eTup {fs : DA} {Q : D → S → Prop} : wp (eTup fs ρ s) Q X = wp (fs ρ s) (fun ds s1 => ds.length ≤ 16777216 ∧ Q (.tup ds) s1) X := by
  unfold eTup
  rw [wp_bind]
  congr 1
  funext a s1
  rw [wp_ite]
  simp only [wp_ok, wp_bad]
  by_cases h : a.length ≤ 16777216 <;> simp [h]
theorem wp_eLst {fs : DA} {Q : D → S → Prop} : wp (eLst fs ρ s) Q X = wp (fs ρ s) (fun ds s1 => ds.length ≤ 16777216 ∧ Q (.lst ds) s1) X := by
  unfold eLst
  rw [wp_bind]
  congr 1
  funext a s1
  rw [wp_ite]
  simp only [wp_ok, wp_bad]
  by_cases h : a.length ≤ 16777216 <;> simp [h]
theorem wp_tBl {f : DE} {Q : Bool → S → Prop} : wp (tBl f ρ s) Q X = wp (f ρ s) (fun d s1 => ∃ b, d = .bl b ∧ Q b s1) X := by
  unfold tBl
  rw [wp_bind]
  congr 1
  funext d s1
  cases d <;> simp [wp]
theorem wp_tTru {f : DE} {Q : Bool → S → Prop} : wp (tTru f ρ s) Q X = wp (f ρ s) (fun d s1 => ∃ b, dTruth d = some b ∧ Q b s1) X := by
  unfold tTru
  rw [wp_bind]
  congr 1
  funext d s1
  rw [wp_ofO]
theorem wp_and {f g : DT} {Q : Bool → S → Prop} : wp (tAndD f g ρ s) Q X = wp (f ρ s) (fun b s1 => if b = true then wp (g ρ s1) Q X else Q false s1) X := by
  unfold tAndD
  rw [wp_bind]
  congr 1
  funext b s1
  cases b <;> simp [wp]
theorem wp_or {f g : DT} {Q : Bool → S → Prop} : wp (tOrD f g ρ s) Q X = wp (f ρ s) (fun b s1 => if b = true then Q true s1 else wp (g ρ s1) Q X) X := by
  unfold tOrD
  rw [wp_bind]
  congr 1
  funext b s1
  cases b <;> simp [wp]
theorem wp_not {f : DT} {Q : Bool → S → Prop} : wp (tNotD f ρ s) Q X = wp (f ρ s) (fun b s1 => Q (!b) s1) X := by
  unfold tNotD
  rw [wp_bind]
  with_unfolding_all rfl
theorem wp_eIf {c : DT} {f g : DE} {Q : D → S → Prop} : wp (eIf c f g ρ s) Q X = wp (c ρ s) (fun b s1 => if b = true then wp (f ρ s1) Q X else wp (g ρ s1) Q X) X := by
  unfold eIf
  rw [wp_bind]
  congr 1
  funext b s1
  cases b <;> simp
theorem wp_eNot {f : DE} {Q : D → S → Prop} : wp (eNot f ρ s) Q X = wp (f ρ s) (fun d s1 => ∃ b, dTruth d = some b ∧ Q (.bl (!b)) s1) X := by
  unfold eNot
  rw [wp_bind]
  congr 1
  funext d s1
  cases h : dTruth d <;> simp [wp]
theorem wp_eAnd {f g : DE} {Q : D → S → Prop} : wp (eAnd f g ρ s) Q X = wp (f ρ s) (fun d s1 => ∃ b, dTruth d = some b ∧ if b = true then wp (g ρ s1) Q X else Q d s1) X := by
  unfold eAnd
  rw [wp_bind]
  congr 1
  funext d s1
  cases h : dTruth d with
  | none => simp [wp]
  | some b => cases b <;> simp [wp]
theorem wp_eOr {f g : DE} {Q : D → S → Prop} : wp (eOr f g ρ s) Q X = wp (f ρ s) (fun d s1 => ∃ b, dTruth d = some b ∧ if b = true then Q d s1 else wp (g ρ s1) Q X) X := by
  unfold eOr
  rw [wp_bind]
  congr 1
  funext d s1
  cases h : dTruth d with
  | none => simp [wp]
  | some b => cases b <;> simp [wp]
theorem wp_eChain {g g' : F2} {f h k : DE} {Q : D → S → Prop} : wp (eChain g g' f h k ρ s) Q X = wp (f ρ s) (fun x s1 => wp (h ρ s1) (fun y s2 => ∃ b, g x y = some (.bl b) ∧ if b = true then wp (k ρ s2) (fun z s3 => ∃ u, g' y z = some u ∧ Q u s3) X else Q (.bl false) s2) X) X := by
  unfold eChain
  rw [wp_bind]
  congr 1
  funext x s1
  rw [wp_bind]
  congr 1
  funext y s2
  split
  · rename_i e
    rw [wp_bind]
    simp only [e, Option.some.injEq, D.bl.injEq, exists_eq_left', if_true]
    congr 1
    funext z s3
    rw [wp_ofO]
  · rename_i e
    simp [e, wp]
  · rename_i h1 h2
    simp only [wp_bad]
    refine propext ⟨fun z => z.elim, fun ⟨b, e, _⟩ => ?_⟩
    cases b with
    | true => exact h1 e
    | false => exact h2 e
theorem wp_lenT {fs : DA} {Q : D → S → Prop} : wp (eLenT fs ρ s) Q X = wp (fs ρ s) (fun ds s1 => ∃ z, lenT s1 ds = some z ∧ Q z s1) X := by
  unfold eLenT
  rw [wp_bind]
  congr 1
  funext ds s1
  rw [wp_ofO]
theorem wp_oNone {Q : Option Int → S → Prop} : wp (oNone ρ s) Q X = Q none s := by with_unfolding_all rfl
theorem wp_oSome {f : DE} {Q : Option Int → S → Prop} : wp (oSome f ρ s) Q X = wp (f ρ s) (fun d s1 => ∃ i, d = .int i ∧ Q (some i) s1) X := by
  unfold oSome
  rw [wp_bind]
  congr 1
  funext d s1
  cases d <;> simp [wp]
theorem wp_eSl {f : DE} {l h : DO} {Q : D → S → Prop} : wp (eSl f l h ρ s) Q X = wp (f ρ s) (fun d s1 => wp (l ρ s1) (fun lo s2 => wp (h ρ s2) (fun hi s3 => ∃ z, dSl d lo hi = some z ∧ Q z s3) X) X) X := by
  unfold eSl
  rw [wp_bind]
  congr 1
  funext d s1
  rw [wp_bind]
  congr 1
  funext lo s2
  rw [wp_bind]
  congr 1
  funext hi s3
  rw [wp_ofO]
theorem wp_iVal {f : DE} {Q : List D → S → Prop} : wp (iVal f ρ s) Q X = wp (f ρ s) (fun d s1 => ∃ z, dIter d = some z ∧ Q z s1) X := by
  unfold iVal
  rw [wp_bind]
  congr 1
  funext d s1
  rw [wp_ofO]
theorem wp_iRange1 {fs : DA} {Q : List D → S → Prop} : wp (iRange1 fs ρ s) Q X = wp (fs ρ s) (fun ds s1 => ∃ j, ds = [.int j] ∧ (-(2 ^ 62) ≤ j ∧ j < 2 ^ 62) ∧ Q (rngD 0 1 j.toNat) s1) X := by
  unfold iRange1
  rw [wp_bind]
  congr 1
  funext ds s1
  split
  · rename_i j
    rw [wp_ite]
    simp only [wp_ok, wp_bad, List.cons.injEq, D.int.injEq, and_true, exists_eq_left']
    by_cases h : -(2 ^ 62) ≤ j ∧ j < 2 ^ 62
    · rw [if_pos h]
      exact propext ⟨fun q => ⟨h, q⟩, fun q => q.2⟩
    · rw [if_neg h]; simp only [h, false_and]
  · rename_i h
    simp only [wp_bad]
    refine propext ⟨fun z => z.elim, fun ⟨j, e, _⟩ => h j e⟩
theorem wp_iRange2 {fs : DA} {Q : List D → S → Prop} : wp (iRange2 fs ρ s) Q X = wp (fs ρ s) (fun ds s1 => ∃ i j, ds = [.int i, .int j] ∧ (-(2 ^ 62) ≤ i ∧ i < 2 ^ 62 ∧ -(2 ^ 62) ≤ j ∧ j < 2 ^ 62) ∧ Q (rngD i 1 (j - i).toNat) s1) X := by
  unfold iRange2
  rw [wp_bind]
  congr 1
  funext ds s1
  split
  · rename_i i j
    rw [wp_ite]
    simp only [wp_ok, wp_bad]
    by_cases h : -(2 ^ 62) ≤ i ∧ i < 2 ^ 62 ∧ -(2 ^ 62) ≤ j ∧ j < 2 ^ 62
    · rw [if_pos h]
      refine propext ⟨fun q => ⟨i, j, rfl, h, q⟩, fun ⟨i', j', e, _, q⟩ => ?_⟩
      cases e
      exact q
    · rw [if_neg h]
      refine propext ⟨fun q => q.elim, fun ⟨i', j', e, h', q⟩ => ?_⟩
      cases e
      exact h h'
  · rename_i h
    simp only [wp_bad]
    refine propext ⟨fun z => z.elim, fun ⟨i, j, e, _⟩ => h i j e⟩
theorem comp_inv {g : DG} {c : DT} {f : DE} {ρ : List Sl} (I : Nat → List D → S → Prop) : ∀ {ds : List D} {s : S} {Q : List D → S → Prop}, I 0 [] s →
    (∀ i d acc s, ds[i]? = some d → I i acc s → ∃ ρ1, g d ρ = some ρ1 ∧ wp (c ρ1 s) (fun b s1 => if b = true then wp (f ρ1 s1) (fun y s2 => I (i + 1) (acc ++ [y]) s2) (fun _ _ => False) else I (i + 1) acc s1) fun _ _ => False) →
    (∀ ys s, I ds.length ys s → Q ys s) → wp (compN g c f ρ ds s) Q fun _ _ => False := by
  have key : ∀ {ds : List D} (k : Nat) (acc : List D) {s : S} {Q : List D → S → Prop}, I k acc s →
      (∀ i d acc s, ds[i]? = some d → I (k + i) acc s → ∃ ρ1, g d ρ = some ρ1 ∧ wp (c ρ1 s) (fun b s1 => if b = true then wp (f ρ1 s1) (fun y s2 => I (k + i + 1) (acc ++ [y]) s2) (fun _ _ => False) else I (k + i + 1) acc s1) fun _ _ => False) →
      (∀ ys s, I (k + ds.length) ys s → Q ys s) → wp (compN g c f ρ ds s) (fun ys s' => Q (acc ++ ys) s') fun _ _ => False := by
    intro ds
    induction ds with
    | nil =>
      intro k acc s Q h0 hs hq
      unfold compN
      simp only [wp_ok, List.append_nil]
      exact hq _ _ h0
    | cons d ds ih =>
      intro k acc s Q h0 hs hq
      obtain ⟨ρ1, e1, h1⟩ := hs 0 d acc s rfl h0
      unfold compN
      rw [e1]
      simp only
      rw [wp_bind]
      have step : ∀ acc' s', I (k + 1) acc' s' → wp (compN g c f ρ ds s') (fun ys s'' => Q (acc' ++ ys) s'') fun _ _ => False := fun acc' s' h' =>
        ih (k + 1) acc' h' (fun i d acc s e h => by
          have := hs (i + 1) d acc s (by simpa using e) (by rw [show k + (i + 1) = k + 1 + i by omega]; exact h)
          rw [show k + (i + 1) + 1 = k + 1 + i + 1 by omega] at this
          exact this) (fun ys s h => hq ys s (by rw [List.length_cons, show k + (ds.length + 1) = k + 1 + ds.length by omega]; exact h))
      refine wp_mono h1 (fun b s1 hb => ?_) fun _ _ z => z
      cases b with
      | true =>
        simp only [if_true] at hb ⊢
        rw [wp_bind]
        refine wp_mono hb (fun y s2 hy => ?_) fun _ _ z => z
        rw [wp_bind]
        refine wp_mono (step _ _ hy) (fun ys s3 q => ?_) fun _ _ z => z
        rw [List.append_assoc] at q
        rw [wp_ok]
        exact q
      | false => exact step _ _ hb
  intro ds s Q h0 hs hq
  have := key (ds := ds) 0 [] (Q := Q) h0 (fun i d acc s e h => by simpa using hs i d acc s e (by simpa using h)) (fun ys s h => hq ys s (by simpa using h))
  simpa using this
/-! statements -/
theorem wps_seq {g h : DS} : wps (sSeq g h ρ s) N B C R X = wps (g ρ s) (fun ρ s => wps (h ρ s) N B C R X) B C R X := by
  unfold sSeq
  cases g ρ s <;> (with_unfolding_all rfl)
theorem wps_then {r : Res α} {k : α → S → Fl} : wps (r.thenS k) N B C R X = wp r (fun a s => wps (k a s) N B C R X) X := by cases r <;> (with_unfolding_all rfl)
theorem wps_set {i : Nat} {f : DE} : wps (sSet i f ρ s) N B C R X = wp (f ρ s) (fun d s => N (setAt ρ i (.dat d)) s) X := by
  unfold sSet
  rw [wps_then]
  simp only [set_at]
  with_unfolding_all rfl
theorem wps_own {i : Nat} {f : DE} : wps (sOwn i f ρ s) N B C R X = wp (f ρ s) (fun d s => ∃ ds, d = .lst ds ∧ N (setAt ρ i (.own ds)) s) X := by
  unfold sOwn
  rw [wps_then]
  congr 1
  funext d s1
  cases d <;> simp [wps, set_at]
theorem wps_ret {f : DE} : wps (sRet f ρ s) N B C R X = wp (f ρ s) R X := by
  unfold sRet
  rw [wps_then]
  with_unfolding_all rfl
theorem wps_expr {f : DE} : wps (sExpr f ρ s) N B C R X = wp (f ρ s) (fun _ s => N ρ s) X := by
  unfold sExpr
  rw [wps_then]
  with_unfolding_all rfl
theorem wps_if {c : DT} {g h : DS} : wps (sIf c g h ρ s) N B C R X = wp (c ρ s) (fun b s => if b = true then wps (g ρ s) N B C R X else wps (h ρ s) N B C R X) X := by
  unfold sIf
  rw [wps_then]
  congr 1
  funext b s1
  cases b <;> simp
theorem wps_skip : wps (sSkip ρ s) N B C R X = N ρ s := by with_unfolding_all rfl
theorem wps_brk : wps (sBrk ρ s) N B C R X = B ρ s := by with_unfolding_all rfl
theorem wps_cont : wps (sCont ρ s) N B C R X = C ρ s := by with_unfolding_all rfl
theorem wps_par {i j : Nat} {fs : DA} : wps (sPar i j fs ρ s) N B C R X = wp (fs ρ s) (fun ds s => ∃ d e, ds = [d, e] ∧ N (setAt (setAt ρ i (.dat d)) j (.dat e)) s) X := by
  unfold sPar
  rw [wps_then]
  congr 1
  funext ds s1
  split
  · rename_i d e
    rw [set_at, set_at, wz_next]
    refine propext ⟨fun q => ⟨d, e, rfl, q⟩, fun ⟨d', e', h, q⟩ => ?_⟩
    cases h
    exact q
  · rename_i h
    rw [wz_bad]
    refine propext ⟨fun z => z.elim, fun ⟨d, e, q, _⟩ => h d e q⟩
theorem wps_unp {g : DG} {f : DE} : wps (sUnp g f ρ s) N B C R X = wp (f ρ s) (fun d s => ∃ ρ1, g d ρ = some ρ1 ∧ N ρ1 s) X := by
  unfold sUnp
  rw [wps_then]
  congr 1
  funext d s1
  cases g d ρ <;> simp [wps]
theorem wps_putT {f fi fv : DE} : wps (sPutT f fi fv ρ s) N B C R X = wp (fv ρ s) (fun d s1 => wp (f ρ s1) (fun t s2 => wp (fi ρ s2) (fun k s3 => ∃ n i l j, t = .tok n ∧ k = .int i ∧ tokL s3 n = some l ∧ ixN l.length i = some j ∧ flat d = true ∧ N ρ (s3.set n (.l (l.set j d)))) X) X) X := by
  unfold sPutT
  rw [wps_then]
  congr 1
  funext d s1
  rw [wps_then]
  congr 1
  funext t s2
  rw [wps_then]
  congr 1
  funext k s3
  split
  · rename_i n i
    cases hl : tokL s3 n with
    | none => simp [wps, hl]
    | some l =>
      cases hj : ixN l.length i with
      | none => simp [wps, hl, hj]
      | some j =>
        simp only [hl, hj]
        by_cases hf : flat d = true
        rw [if_pos hf]
        rotate_left
        rw [if_neg hf]
        rotate_left
        · rw [wz_next]
          refine propext ⟨fun q => ⟨n, i, l, j, rfl, rfl, hl, hj, hf, q⟩, fun ⟨n', i', l', j', e1, e2, e3, e4, _, q⟩ => ?_⟩
          cases e1; cases e2
          rw [hl] at e3
          cases e3
          rw [hj] at e4
          cases e4
          exact q
        · rw [wz_bad]
          refine propext ⟨fun q => q.elim, fun ⟨_, _, _, _, _, _, _, _, e5, _⟩ => hf e5⟩
  · rename_i h
    rw [wz_bad]
    refine propext ⟨fun q => q.elim, fun ⟨n, i, _, _, e1, e2, _⟩ => h n i e1 e2⟩
theorem loop_inv {clr : List Nat} {g : DG} {body : DS} (I : Nat → List Sl → S → Prop) : ∀ {ds : List D} {ρ : List Sl} {s : S}, I 0 ρ s →
    (∀ i d ρ s, ds[i]? = some d → I i ρ s → ∃ ρ1, g d ρ = some ρ1 ∧ wps (body ρ1 s) (fun ρ2 s2 => I (i + 1) (wipeD ρ2 clr) s2) (fun ρ2 s2 => N (wipeD ρ2 clr) s2) (fun ρ2 s2 => I (i + 1) (wipeD ρ2 clr) s2) R X) →
    (∀ ρ s, I ds.length ρ s → N ρ s) → wps (loopN clr g body ds ρ s) N B C R X := by
  have key : ∀ {ds : List D} (k : Nat) {ρ : List Sl} {s : S}, I k ρ s →
      (∀ i d ρ s, ds[i]? = some d → I (k + i) ρ s → ∃ ρ1, g d ρ = some ρ1 ∧ wps (body ρ1 s) (fun ρ2 s2 => I (k + i + 1) (wipeD ρ2 clr) s2) (fun ρ2 s2 => N (wipeD ρ2 clr) s2) (fun ρ2 s2 => I (k + i + 1) (wipeD ρ2 clr) s2) R X) →
      (∀ ρ s, I (k + ds.length) ρ s → N ρ s) → wps (loopN clr g body ds ρ s) N B C R X := by
    intro ds
    induction ds with
    | nil => intro k ρ s h0 hs hq; unfold loopN; rw [wz_next]; exact hq _ _ h0
    | cons d ds ih =>
      intro k ρ s h0 hs hq
      obtain ⟨ρ1, e1, h1⟩ := hs 0 d ρ s rfl h0
      unfold loopN
      rw [e1]
      simp only
      have step : ∀ ρ' s', I (k + 1) ρ' s' → wps (loopN clr g body ds ρ' s') N B C R X := fun ρ' s' h' =>
        ih (k + 1) h' (fun i d ρ s e h => by
          have := hs (i + 1) d ρ s (by simpa using e) (by rw [show k + (i + 1) = k + 1 + i by omega]; exact h)
          rw [show k + (i + 1) + 1 = k + 1 + i + 1 by omega] at this
          exact this) (fun ρ s h => hq ρ s (by rw [List.length_cons, show k + (ds.length + 1) = k + 1 + ds.length by omega]; exact h))
      cases hb : body ρ1 s with
      | next ρ2 s2 => rw [hb, wz_next] at h1; exact step _ _ h1
      | cont ρ2 s2 => rw [hb, wz_cont] at h1; exact step _ _ h1
      | brk ρ2 s2 => rw [hb, wz_brk] at h1; rw [wz_next]; exact h1
      | ret d s2 => rw [hb, wz_ret] at h1; rw [wz_ret]; exact h1
      | exc c s2 => rw [hb, wz_exc] at h1; rw [wz_exc]; exact h1
      | bad => rw [hb, wz_bad] at h1; exact h1.elim
  intro ds ρ s h0 hs hq
  exact key 0 h0 (fun i d ρ s e h => by simpa using hs i d ρ s e (by simpa using h)) (fun ρ s h => hq ρ s (by simpa using h))
theorem wps_while {clr : List Nat} {c : DT} {b : DS} (I : List Sl → S → Prop) (m : List Sl → Nat) (h0 : I (wipeD ρ clr) s)
    (hs : ∀ ρ s, I ρ s → wp (c ρ s) (fun k s1 => if k = true then wps (b ρ s1) (fun ρ2 s2 => I (wipeD ρ2 clr) s2 ∧ m (wipeD ρ2 clr) < m ρ) N (fun ρ2 s2 => I (wipeD ρ2 clr) s2 ∧ m (wipeD ρ2 clr) < m ρ) R X else N ρ s1) X) : wps (sWhile clr c b ρ s) N B C R X := by
  have key : ∀ n ρ s, I ρ s → m ρ < n → ∃ r, whileN clr c b n ρ s = some r ∧ wps r N B C R X := by
    intro n
    induction n with
    | zero => intro ρ s _ h; omega
    | succ n ih =>
      intro ρ s hI hm
      have h := hs ρ s hI
      unfold whileN
      cases hc : c ρ s with
      | ok k s1 =>
        rw [hc] at h
        cases k with
        | true =>
          have h' : wps (b ρ s1) (fun ρ2 s2 => I (wipeD ρ2 clr) s2 ∧ m (wipeD ρ2 clr) < m ρ) N (fun ρ2 s2 => I (wipeD ρ2 clr) s2 ∧ m (wipeD ρ2 clr) < m ρ) R X := by rw [wp_ok] at h; simpa using h
          simp only
          cases hb : b ρ s1 with
          | next ρ2 s2 => rw [hb, wz_next] at h'; exact ih _ _ h'.1 (by have := h'.2; omega)
          | cont ρ2 s2 => rw [hb, wz_cont] at h'; exact ih _ _ h'.1 (by have := h'.2; omega)
          | brk ρ2 s2 => rw [hb, wz_brk] at h'; exact ⟨_, rfl, by rw [wz_next]; exact h'⟩
          | ret d s2 => rw [hb, wz_ret] at h'; exact ⟨_, rfl, by rw [wz_ret]; exact h'⟩
          | exc c s2 => rw [hb, wz_exc] at h'; exact ⟨_, rfl, by rw [wz_exc]; exact h'⟩
          | bad => rw [hb, wz_bad] at h'; exact h'.elim
        | false =>
          have h' : N ρ s1 := by rw [wp_ok] at h; simpa using h
          exact ⟨_, rfl, by rw [wz_next]; exact h'⟩
      | exc c s1 => rw [hc, wp_exc] at h; exact ⟨_, rfl, by rw [wz_exc]; exact h⟩
      | bad => rw [hc, wp_bad] at h; exact h.elim
  obtain ⟨r, e, h⟩ := key _ _ _ h0 (Nat.lt_succ_self _)
  rw [sWhile_of e]
  exact h
theorem wp_defD {N n : Nat} {g : DS} {ds : List D} {Q : D → S → Prop} : wp (defD N n g ds s) Q X = (ds.length = n ∧ wps (g (ds.map .dat ++ List.replicate (N - n) .emp) s) (fun _ s => Q .non s) (fun _ _ => False) (fun _ _ => False) Q X) := by
  unfold defD
  by_cases h : ds.length = n
  · rw [if_pos h]
    simp only [h, true_and]
    cases g (ds.map .dat ++ List.replicate (N - n) .emp) s <;> (with_unfolding_all rfl)
  · rw [if_neg h]
    simp [h, wp]
theorem ex_some {α : Type} {x : α} {P : α → Prop} : (∃ z, some x = some z ∧ P z) = P x := by simp
theorem ex_ite {α : Type} {c : Prop} [Decidable c] {x : α} {P : α → Prop} : (∃ z, (if c then some x else none) = some z ∧ P z) = (c ∧ P x) := by
  by_cases h : c <;> simp [h]
theorem ex_none {α : Type} {P : α → Prop} : (∃ z, (none : Option α) = some z ∧ P z) = False := by simp
end
theorem kb_NoneType_int : kitB "NoneType" "int" = some false := by decide +kernel
theorem kb_NoneType_bool : kitB "NoneType" "bool" = some false := by decide +kernel
theorem kb_NoneType_tuple : kitB "NoneType" "tuple" = some false := by decide +kernel
theorem kb_NoneType_str : kitB "NoneType" "str" = some false := by decide +kernel
theorem kb_NoneType_list : kitB "NoneType" "list" = some false := by decide +kernel
theorem kb_NoneType_dict : kitB "NoneType" "dict" = some false := by decide +kernel
theorem kb_bool_int : kitB "bool" "int" = some true := by decide +kernel
theorem kb_bool_bool : kitB "bool" "bool" = some true := by decide +kernel
theorem kb_bool_tuple : kitB "bool" "tuple" = some false := by decide +kernel
theorem kb_bool_str : kitB "bool" "str" = some false := by decide +kernel
theorem kb_bool_list : kitB "bool" "list" = some false := by decide +kernel
theorem kb_bool_dict : kitB "bool" "dict" = some false := by decide +kernel
theorem kb_int_int : kitB "int" "int" = some true := by decide +kernel
theorem kb_int_bool : kitB "int" "bool" = some false := by decide +kernel
theorem kb_int_tuple : kitB "int" "tuple" = some false := by decide +kernel
theorem kb_int_str : kitB "int" "str" = some false := by decide +kernel
theorem kb_int_list : kitB "int" "list" = some false := by decide +kernel
theorem kb_int_dict : kitB "int" "dict" = some false := by decide +kernel
theorem kb_str_int : kitB "str" "int" = some false := by decide +kernel
theorem kb_str_bool : kitB "str" "bool" = some false := by decide +kernel
theorem kb_str_tuple : kitB "str" "tuple" = some false := by decide +kernel
theorem kb_str_str : kitB "str" "str" = some true := by decide +kernel
theorem kb_str_list : kitB "str" "list" = some false := by decide +kernel
theorem kb_str_dict : kitB "str" "dict" = some false := by decide +kernel
theorem kb_tuple_int : kitB "tuple" "int" = some false := by decide +kernel
theorem kb_tuple_bool : kitB "tuple" "bool" = some false := by decide +kernel
theorem kb_tuple_tuple : kitB "tuple" "tuple" = some true := by decide +kernel
theorem kb_tuple_str : kitB "tuple" "str" = some false := by decide +kernel
theorem kb_tuple_list : kitB "tuple" "list" = some false := by decide +kernel
theorem kb_tuple_dict : kitB "tuple" "dict" = some false := by decide +kernel
theorem kb_list_int : kitB "list" "int" = some false := by decide +kernel
theorem kb_list_bool : kitB "list" "bool" = some false := by decide +kernel
theorem kb_list_tuple : kitB "list" "tuple" = some false := by decide +kernel
theorem kb_list_str : kitB "list" "str" = some false := by decide +kernel
theorem kb_list_list : kitB "list" "list" = some true := by decide +kernel
theorem kb_list_dict : kitB "list" "dict" = some false := by decide +kernel
theorem kb_dict_int : kitB "dict" "int" = some false := by decide +kernel
theorem kb_dict_bool : kitB "dict" "bool" = some false := by decide +kernel
theorem kb_dict_tuple : kitB "dict" "tuple" = some false := by decide +kernel
theorem kb_dict_str : kitB "dict" "str" = some false := by decide +kernel
theorem kb_dict_list : kitB "dict" "list" = some false := by decide +kernel
theorem kb_dict_dict : kitB "dict" "dict" = some true := by decide +kernel
theorem is_non_int  : dIsi [.non, .ty "int"] = some (.bl false) := by simp only [dIsi, tyD, kb_NoneType_int, Option.map_some]
theorem is_non_bool  : dIsi [.non, .ty "bool"] = some (.bl false) := by simp only [dIsi, tyD, kb_NoneType_bool, Option.map_some]
theorem is_non_tuple  : dIsi [.non, .ty "tuple"] = some (.bl false) := by simp only [dIsi, tyD, kb_NoneType_tuple, Option.map_some]
theorem is_non_str  : dIsi [.non, .ty "str"] = some (.bl false) := by simp only [dIsi, tyD, kb_NoneType_str, Option.map_some]
theorem is_non_list  : dIsi [.non, .ty "list"] = some (.bl false) := by simp only [dIsi, tyD, kb_NoneType_list, Option.map_some]
theorem is_non_dict  : dIsi [.non, .ty "dict"] = some (.bl false) := by simp only [dIsi, tyD, kb_NoneType_dict, Option.map_some]
theorem is_bl_int (b : Bool) : dIsi [(.bl b), .ty "int"] = some (.bl true) := by simp only [dIsi, tyD, kb_bool_int, Option.map_some]
theorem is_bl_bool (b : Bool) : dIsi [(.bl b), .ty "bool"] = some (.bl true) := by simp only [dIsi, tyD, kb_bool_bool, Option.map_some]
theorem is_bl_tuple (b : Bool) : dIsi [(.bl b), .ty "tuple"] = some (.bl false) := by simp only [dIsi, tyD, kb_bool_tuple, Option.map_some]
theorem is_bl_str (b : Bool) : dIsi [(.bl b), .ty "str"] = some (.bl false) := by simp only [dIsi, tyD, kb_bool_str, Option.map_some]
theorem is_bl_list (b : Bool) : dIsi [(.bl b), .ty "list"] = some (.bl false) := by simp only [dIsi, tyD, kb_bool_list, Option.map_some]
theorem is_bl_dict (b : Bool) : dIsi [(.bl b), .ty "dict"] = some (.bl false) := by simp only [dIsi, tyD, kb_bool_dict, Option.map_some]
theorem is_int_int (i : Int) : dIsi [(.int i), .ty "int"] = some (.bl true) := by simp only [dIsi, tyD, kb_int_int, Option.map_some]
theorem is_int_bool (i : Int) : dIsi [(.int i), .ty "bool"] = some (.bl false) := by simp only [dIsi, tyD, kb_int_bool, Option.map_some]
theorem is_int_tuple (i : Int) : dIsi [(.int i), .ty "tuple"] = some (.bl false) := by simp only [dIsi, tyD, kb_int_tuple, Option.map_some]
theorem is_int_str (i : Int) : dIsi [(.int i), .ty "str"] = some (.bl false) := by simp only [dIsi, tyD, kb_int_str, Option.map_some]
theorem is_int_list (i : Int) : dIsi [(.int i), .ty "list"] = some (.bl false) := by simp only [dIsi, tyD, kb_int_list, Option.map_some]
theorem is_int_dict (i : Int) : dIsi [(.int i), .ty "dict"] = some (.bl false) := by simp only [dIsi, tyD, kb_int_dict, Option.map_some]
theorem is_str_int (x : Str) : dIsi [(.str x), .ty "int"] = some (.bl false) := by simp only [dIsi, tyD, kb_str_int, Option.map_some]
theorem is_str_bool (x : Str) : dIsi [(.str x), .ty "bool"] = some (.bl false) := by simp only [dIsi, tyD, kb_str_bool, Option.map_some]
theorem is_str_tuple (x : Str) : dIsi [(.str x), .ty "tuple"] = some (.bl false) := by simp only [dIsi, tyD, kb_str_tuple, Option.map_some]
theorem is_str_str (x : Str) : dIsi [(.str x), .ty "str"] = some (.bl true) := by simp only [dIsi, tyD, kb_str_str, Option.map_some]
theorem is_str_list (x : Str) : dIsi [(.str x), .ty "list"] = some (.bl false) := by simp only [dIsi, tyD, kb_str_list, Option.map_some]
theorem is_str_dict (x : Str) : dIsi [(.str x), .ty "dict"] = some (.bl false) := by simp only [dIsi, tyD, kb_str_dict, Option.map_some]
theorem is_tup_int (x : List D) : dIsi [(.tup x), .ty "int"] = some (.bl false) := by simp only [dIsi, tyD, kb_tuple_int, Option.map_some]
theorem is_tup_bool (x : List D) : dIsi [(.tup x), .ty "bool"] = some (.bl false) := by simp only [dIsi, tyD, kb_tuple_bool, Option.map_some]
theorem is_tup_tuple (x : List D) : dIsi [(.tup x), .ty "tuple"] = some (.bl true) := by simp only [dIsi, tyD, kb_tuple_tuple, Option.map_some]
theorem is_tup_str (x : List D) : dIsi [(.tup x), .ty "str"] = some (.bl false) := by simp only [dIsi, tyD, kb_tuple_str, Option.map_some]
theorem is_tup_list (x : List D) : dIsi [(.tup x), .ty "list"] = some (.bl false) := by simp only [dIsi, tyD, kb_tuple_list, Option.map_some]
theorem is_tup_dict (x : List D) : dIsi [(.tup x), .ty "dict"] = some (.bl false) := by simp only [dIsi, tyD, kb_tuple_dict, Option.map_some]
theorem is_lst_int (x : List D) : dIsi [(.lst x), .ty "int"] = some (.bl false) := by simp only [dIsi, tyD, kb_list_int, Option.map_some]
theorem is_lst_bool (x : List D) : dIsi [(.lst x), .ty "bool"] = some (.bl false) := by simp only [dIsi, tyD, kb_list_bool, Option.map_some]
theorem is_lst_tuple (x : List D) : dIsi [(.lst x), .ty "tuple"] = some (.bl false) := by simp only [dIsi, tyD, kb_list_tuple, Option.map_some]
theorem is_lst_str (x : List D) : dIsi [(.lst x), .ty "str"] = some (.bl false) := by simp only [dIsi, tyD, kb_list_str, Option.map_some]
theorem is_lst_list (x : List D) : dIsi [(.lst x), .ty "list"] = some (.bl true) := by simp only [dIsi, tyD, kb_list_list, Option.map_some]
theorem is_lst_dict (x : List D) : dIsi [(.lst x), .ty "dict"] = some (.bl false) := by simp only [dIsi, tyD, kb_list_dict, Option.map_some]
theorem is_frz_int (x : List D) : dIsi [(.frz x), .ty "int"] = some (.bl false) := by simp only [dIsi, tyD, kb_list_int, Option.map_some]
theorem is_frz_bool (x : List D) : dIsi [(.frz x), .ty "bool"] = some (.bl false) := by simp only [dIsi, tyD, kb_list_bool, Option.map_some]
theorem is_frz_tuple (x : List D) : dIsi [(.frz x), .ty "tuple"] = some (.bl false) := by simp only [dIsi, tyD, kb_list_tuple, Option.map_some]
theorem is_frz_str (x : List D) : dIsi [(.frz x), .ty "str"] = some (.bl false) := by simp only [dIsi, tyD, kb_list_str, Option.map_some]
theorem is_frz_list (x : List D) : dIsi [(.frz x), .ty "list"] = some (.bl true) := by simp only [dIsi, tyD, kb_list_list, Option.map_some]
theorem is_frz_dict (x : List D) : dIsi [(.frz x), .ty "dict"] = some (.bl false) := by simp only [dIsi, tyD, kb_list_dict, Option.map_some]
theorem is_dct_int (x : List (D × D)) : dIsi [(.dct x), .ty "int"] = some (.bl false) := by simp only [dIsi, tyD, kb_dict_int, Option.map_some]
theorem is_dct_bool (x : List (D × D)) : dIsi [(.dct x), .ty "bool"] = some (.bl false) := by simp only [dIsi, tyD, kb_dict_bool, Option.map_some]
theorem is_dct_tuple (x : List (D × D)) : dIsi [(.dct x), .ty "tuple"] = some (.bl false) := by simp only [dIsi, tyD, kb_dict_tuple, Option.map_some]
theorem is_dct_str (x : List (D × D)) : dIsi [(.dct x), .ty "str"] = some (.bl false) := by simp only [dIsi, tyD, kb_dict_str, Option.map_some]
theorem is_dct_list (x : List (D × D)) : dIsi [(.dct x), .ty "list"] = some (.bl false) := by simp only [dIsi, tyD, kb_dict_list, Option.map_some]
theorem is_dct_dict (x : List (D × D)) : dIsi [(.dct x), .ty "dict"] = some (.bl true) := by simp only [dIsi, tyD, kb_dict_dict, Option.map_some]
theorem is_ktp_int (x : List D) : dIsi [(.ktp x), .ty "int"] = some (.bl false) := by simp only [dIsi, tyD, kb_tuple_int, Option.map_some]
theorem is_ktp_bool (x : List D) : dIsi [(.ktp x), .ty "bool"] = some (.bl false) := by simp only [dIsi, tyD, kb_tuple_bool, Option.map_some]
theorem is_ktp_tuple (x : List D) : dIsi [(.ktp x), .ty "tuple"] = some (.bl true) := by simp only [dIsi, tyD, kb_tuple_tuple, Option.map_some]
theorem is_ktp_str (x : List D) : dIsi [(.ktp x), .ty "str"] = some (.bl false) := by simp only [dIsi, tyD, kb_tuple_str, Option.map_some]
theorem is_ktp_list (x : List D) : dIsi [(.ktp x), .ty "list"] = some (.bl false) := by simp only [dIsi, tyD, kb_tuple_list, Option.map_some]
theorem is_ktp_dict (x : List D) : dIsi [(.ktp x), .ty "dict"] = some (.bl false) := by simp only [dIsi, tyD, kb_tuple_dict, Option.map_some]
theorem eq_int (i j : Int) : dEq (.int i) (.int j) = some (.bl (decide (i = j))) := by
  simp [dEq, ready, okD, toPy, PyData.depth, eqB, PyData.eqv, BEq.beq]
theorem ne_int (i j : Int) : dNe (.int i) (.int j) = some (.bl (!decide (i = j))) := by
  simp [dNe, ready, okD, toPy, PyData.depth, eqB, PyData.eqv, BEq.beq]
theorem eq_bl (i j : Bool) : dEq (.bl i) (.bl j) = some (.bl (decide (i = j))) := by
  cases i <;> cases j <;> simp [dEq, ready, okD, toPy, PyData.depth, eqB, PyData.eqv]
theorem ne_bl (i j : Bool) : dNe (.bl i) (.bl j) = some (.bl (!decide (i = j))) := by
  cases i <;> cases j <;> simp [dNe, ready, okD, toPy, PyData.depth, eqB, PyData.eqv]
theorem eq_str (i j : Str) : dEq (.str i) (.str j) = some (.bl (decide (i = j))) := rfl
theorem ne_str (i j : Str) : dNe (.str i) (.str j) = some (.bl (!decide (i = j))) := rfl
theorem tr_bl (b : Bool) : dTruth (.bl b) = some b := rfl
theorem tr_int (b : Int) : dTruth (.int b) = some (b != 0) := rfl
theorem ad_int (i j : Int) : dAdd (.int i) (.int j) = some (.int (i + j)) := rfl
theorem sb_int (i j : Int) : dSub (.int i) (.int j) = some (.int (i - j)) := rfl
theorem ng_int (i : Int) : dNeg (.int i) = some (.int (-i)) := rfl
theorem lt_int' (i j : Int) : dLt (.int i) (.int j) = some (.bl (decide (i < j))) := rfl
theorem le_int' (i j : Int) : dLe (.int i) (.int j) = some (.bl (decide (i ≤ j))) := rfl
theorem gt_int' (i j : Int) : dGt (.int i) (.int j) = some (.bl (decide (j < i))) := rfl
theorem ge_int' (i j : Int) : dGe (.int i) (.int j) = some (.bl (decide (j ≤ i))) := rfl
theorem md_int (i j : Int) : dMod (.int i) (.int j) = if j ≠ 0 then some (.int (i.fmod j)) else none := rfl
theorem fd_int (i j : Int) : dFdiv (.int i) (.int j) = if CFd i j then some (.int (i.fdiv j)) else none := rfl
theorem pw_int (i j : Int) : dPow (.int i) (.int j) = if CPw i j then some (.int (i ^ j.toNat)) else none := rfl
theorem ml_int (i j : Int) : dMul (.int i) (.int j) = if CMulX i j then some (.int (i * j)) else none := rfl
theorem ml_tup (a : List D) (k : Int) : dMul (.tup a) (.int k) = if a.length ≤ 1000 ∧ k ≤ 1000 ∧ -1000 ≤ k then some (.tup (List.replicate k.toNat a).flatten) else none := rfl
theorem ad_tup (a b : List D) : dAdd (.tup a) (.tup b) = if a.length + b.length ≤ 16777216 then some (.tup (a ++ b)) else none := rfl
theorem ad_lst (a b : List D) : dAdd (.lst a) (.lst b) = if a.length + b.length ≤ 16777216 then some (.lst (a ++ b)) else none := rfl
theorem ad_str (a b : Str) : dAdd (.str a) (.str b) = if a.length + b.length ≤ 16777216 then some (.str (a ++ b)) else none := rfl
theorem ab_int (i : Int) : dAbs [.int i] = some (.int (if i < 0 then -i else i)) := rfl
theorem ln_tup (xs : List D) {s : S} : lenT s [.tup xs] = some (.int xs.length) := rfl
theorem ln_lst (xs : List D) {s : S} : lenT s [.lst xs] = some (.int xs.length) := rfl
theorem ln_frz (xs : List D) {s : S} : lenT s [.frz xs] = some (.int xs.length) := rfl
theorem ln_ktp (xs : List D) {s : S} : lenT s [.ktp xs] = some (.int xs.length) := rfl
theorem ln_dct (xs : List (D × D)) {s : S} : lenT s [.dct xs] = some (.int xs.length) := rfl
theorem ln_tok (n : Nat) {s : S} : lenT s [.tok n] = (tokL s n).map fun l => .int l.length := rfl
theorem ix_tok (n : Nat) (i : Int) {s : S} : dIxT s (.tok n) (.int i) = (tokL s n).bind fun ds => atI ds i := rfl
theorem dI_tup (x : List D) : dIter (.tup x) = some x := rfl
theorem dI_lst (x : List D) : dIter (.lst x) = some x := rfl
theorem dI_frz (x : List D) : dIter (.frz x) = some x := rfl
theorem dI_ktp (x : List D) : dIter (.ktp x) = some x := rfl
theorem dI_str (x : Str) : dIter (.str x) = some (strD x) := rfl
theorem to_lst (x : List D) : dTupOf [.lst x] = some (.tup x) := rfl
theorem to_tup (x : List D) : dTupOf [.tup x] = some (.tup x) := rfl
theorem to_frz (x : List D) : dTupOf [.frz x] = some (.tup x) := rfl
theorem lo_lst (x : List D) : dLstOf [.lst x] = some (.lst x) := rfl
theorem lo_tup (x : List D) : dLstOf [.tup x] = some (.lst x) := rfl
theorem lo_frz (x : List D) : dLstOf [.frz x] = some (.lst x) := rfl
theorem al_lst (x : List D) : dAll [.lst x] = (blsOf x).map fun ns => .bl (ns.all id) := rfl
theorem an_lst (x : List D) : dAny [.lst x] = (blsOf x).map fun ns => .bl (ns.any id) := rfl
theorem sm_lst (x : List D) : dSum [.lst x] = (intsOf x).map fun ns => .int ns.sum := rfl
theorem sl_tup (x : List D) (l h : Option Int) : dSl (.tup x) l h = some (.tup (cutL x l h)) := rfl
theorem sl_lst (x : List D) (l h : Option Int) : dSl (.lst x) l h = some (.lst (cutL x l h)) := rfl
theorem sl_frz (x : List D) (l h : Option Int) : dSl (.frz x) l h = some (.lst (cutL x l h)) := rfl
theorem al_add (a b : List D) : dAddL (.lst a) (.lst b) = if a.length + b.length ≤ 16777216 then some (.lst (a ++ b)) else none := rfl
theorem st_int (i : Int) : dStr [.int i] = if i.natAbs.log2 < 1920 then some (.str (toString i)) else none := rfl
theorem st_str (i : Str) : dStr [.str i] = some (.str i) := rfl
theorem nt_int (i : Int) : dInt [.int i] = some (.int i) := rfl
theorem nt_bl (k : Bool) : dInt [.bl k] = some (.int (if k then 1 else 0)) := rfl
theorem mx_int (i j : Int) : dMax [.int i, .int j] = some (.int (if j > i then j else i)) := rfl
theorem mn_int (i j : Int) : dMin [.int i, .int j] = some (.int (if j < i then j else i)) := rfl
theorem nT_tok (n : Nat) (y : D) {s : S} : dNeT s (.tok n) y = (tokL s n).bind fun ds => dNe (.lst ds) y := rfl
theorem is_bl (a b : Bool) : dIs (.bl a) (.bl b) = some (.bl (decide (a = b))) := rfl
theorem isnt_bl (a b : Bool) : dIsnt (.bl a) (.bl b) = some (.bl (!decide (a = b))) := rfl
theorem ex_map {α β : Type} {o : Option α} {f : α → β} {P : β → Prop} : (∃ z, o.map f = some z ∧ P z) = ∃ z, o = some z ∧ P (f z) := by cases o <;> simp
theorem ex_bind {α β : Type} {o : Option α} {f : α → Option β} {P : β → Prop} : (∃ z, o.bind f = some z ∧ P z) = ∃ a, o = some a ∧ ∃ z, f a = some z ∧ P z := by cases o <;> simp
theorem at_0 {a : D} {l : List D} : atI (a :: l) 0 = some a := atI_nat (j := 0) rfl
theorem at_1 {a b : D} {l : List D} : atI (a :: b :: l) 1 = some b := atI_nat (j := 1) rfl
theorem at_2 {a b c : D} {l : List D} : atI (a :: b :: c :: l) 2 = some c := atI_nat (j := 2) rfl
theorem at_3 {a b c d : D} {l : List D} : atI (a :: b :: c :: d :: l) 3 = some d := atI_nat (j := 3) rfl
theorem at_4 {a b c d e : D} {l : List D} : atI (a :: b :: c :: d :: e :: l) 4 = some e := atI_nat (j := 4) rfl
theorem tk_0 {ds : List D} {r : S} : tokL (.l ds :: r) 0 = some ds := rfl
theorem tk_1 {c : Cell} {ds : List D} {r : S} : tokL (c :: .l ds :: r) 1 = some ds := rfl
theorem st_1 {c d e : Cell} {r : S} : (c :: d :: r).set 1 e = c :: e :: r := rfl
theorem atI_of {xs : List D} {i : Int} (h0 : 0 ≤ i) (h1 : i < xs.length) : ∃ d, atI xs i = some d ∧ xs[i.toNat]? = some d := by
  have h : i.toNat < xs.length := by omega
  refine ⟨xs[i.toNat], ?_, List.getElem?_eq_getElem h⟩
  have := atI_nat (xs := xs) (j := i.toNat) (v := xs[i.toNat]) (List.getElem?_eq_getElem h)
  rwa [Int.toNat_of_nonneg h0] at this
theorem fmod_rng {i j : Int} (h : 0 < j) : 0 ≤ i.fmod j ∧ i.fmod j < j := ⟨Int.fmod_nonneg_of_pos i h, Int.fmod_lt_of_pos i h⟩
theorem fdiv_nn {i j : Int} (h0 : 0 ≤ i) (h : 0 < j) : 0 ≤ i.fdiv j := Int.fdiv_nonneg h0 (Int.le_of_lt h)
/-- the law's pen: the script's numbers, the place, what is left -/
def Pen (k : Int) (r : S) (s : S) : Prop := ∃ (ns : List Int) (p left : Int), s = .l (ns.map .int) :: .l [.tok 0, .int p, .int left] :: r ∧ 0 ≤ p ∧ p ≤ k ∧ 0 ≤ left
/-- what a draw hands out -/
def Drawn (m k : Int) (r : S) (a : D) (s : S) : Prop := ∃ i, a = .int i ∧ 0 ≤ i ∧ i < m ∧ Pen (k + 1) r s
theorem bits_le {i : Int} {n : Nat} (h : i.natAbs < 2 ^ n) : Builtin.Int.intBits i ≤ n := by
  unfold Builtin.Int.intBits
  split
  · exact Nat.zero_le _
  · rename_i h0
    have hne : i.natAbs ≠ 0 := by
      intro z
      exact h0 (by simp [Int.natAbs_eq_zero.mp z])
    exact (Nat.log2_lt hne).mpr h
theorem cmul_of {i j : Int} {n m : Nat} (h1 : i.natAbs < 2 ^ n) (h2 : j.natAbs < 2 ^ m) (h : n + m ≤ 134217728 := by decide) : CMulX i j := by
  have a := bits_le h1
  have b := bits_le h2
  unfold CMulX
  omega
theorem cpw_of {i : Int} {n k : Nat} (h1 : i.natAbs < 2 ^ n) (h : n * k ≤ 134217728 := by decide) : CPw i (k : Int) := by
  have a := bits_le h1
  refine ⟨Int.natCast_nonneg k, ?_⟩
  have : Builtin.Int.intBits i * k ≤ n * k := Nat.mul_le_mul_right k a
  have e : ((Builtin.Int.intBits i * k : Nat) : Int) = (Builtin.Int.intBits i : Int) * (k : Int) := by push_cast; rfl
  rw [← e]
  have : (2 : Int) ^ 27 = 134217728 := by decide
  omega
theorem cfd_of {i j : Int} (h0 : j ≠ 0) (h : j.natAbs < 2 ^ 64) : CFd i j := by
  refine ⟨h0, ?_⟩
  unfold Builtin.divisionGoesByPylong
  have : j.natAbs.log2 < 64 := (Nat.log2_lt (by omega)).mpr h
  have hb : (j == 0) = false := by simpa using h0
  simp only [hb]
  simp
  intro h1
  omega
end DL
namespace DL
open PySem PySem.Spec PyProof.Rows L2
/-! ### stops: what hides the rest from the rewriting -/
structure Wit {α : Type} (Q : α → S → Prop) (X : Str → S → Prop) : Type where
structure Wits (N B C : List Sl → S → Prop) (R : D → S → Prop) (X : Str → S → Prop) : Type where
/-- a call -/
def wpc {α : Type} (r : Res α) (Q : α → S → Prop) (X : Str → S → Prop) (_ : Wit Q X) : Prop := wp r Q X
/-- a loop -/
def wpl (clr : List Nat) (g : DG) (b : DS) (ds : List D) (ρ : List Sl) (s : S) (N B C : List Sl → S → Prop) (R : D → S → Prop) (X : Str → S → Prop) (_ : Wits N B C R X) : Prop := wps (loopN clr g b ds (wipeD ρ clr) s) N B C R X
def wpw (clr : List Nat) (c : DT) (b : DS) (ρ : List Sl) (s : S) (N B C : List Sl → S → Prop) (R : D → S → Prop) (X : Str → S → Prop) (_ : Wits N B C R X) : Prop := wps (sWhile clr c b ρ s) N B C R X
/-- a comprehension -/
def wpk (vs : List Nat) (g : DG) (c : DT) (f : DE) (ds : List D) (ρ : List Sl) (s : S) (Q : D → S → Prop) (X : Str → S → Prop) (_ : Wit Q X) : Prop :=
  ds.length ≤ 16777216 ∧ wp (compN g c f (wipeD ρ vs) ds s) (fun ys s2 => Q (.lst ys) s2) fun _ _ => False
/-- slots are set -/
def wpn (ρ : List Sl) : List (Nat × Sl) → (List Sl → Prop) → Prop
  | [], P => P ρ
  | (i, x) :: u, P => wpn (setAt ρ i x) u P
section
variable {α β : Type} {Q Q' : α → S → Prop} {X X' : Str → S → Prop} {ρ : List Sl} {s : S} {N B C : List Sl → S → Prop} {R : D → S → Prop}
theorem wpc_of {r : Res α} {w : Wit Q' X'} (h : wp r Q fun _ _ => False) (i : ∀ a s, Q a s → Q' a s) : wpc r Q' X' w := wp_call h i
theorem wpc_exc {r : Res α} {c : Str} {w : Wit Q X} (h : r = .exc c s) (q : X c s) : wpc r Q X w := by unfold wpc; rw [h, wp_exc]; exact q
theorem wpn_nil {P : List Sl → Prop} : wpn ρ [] P = P ρ := by with_unfolding_all rfl
theorem q_call {F : DFun} {fs : DA} {Q : D → S → Prop} : wp (eCall F fs ρ s) Q X = wp (fs ρ s) (fun ds s1 => wpc (F ds s1) Q X ⟨⟩) X := wp_bind
theorem q_comp {vs : List Nat} {fi : DA} {g : DG} {c : DT} {f : DE} {Q : D → S → Prop} : wp (eComp vs fi g c f ρ s) Q X = wp (fi ρ s) (fun ds s1 => wpk vs g c f ds ρ s1 Q X ⟨⟩) X := by
  unfold eComp
  rw [wp_bind]
  congr 1
  funext ds s1
  unfold wpk
  by_cases h : ds.length ≤ 16777216
  · rw [if_pos h]
    simp only [h, true_and]
    cases compN g c f (wipeD ρ vs) ds s1 <;> (with_unfolding_all rfl)
  · rw [if_neg h]
    simp only [h, false_and]
    with_unfolding_all rfl
theorem q_for {clr : List Nat} {fi : DA} {g : DG} {b : DS} : wps (sFor clr fi g b ρ s) N B C R X = wp (fi ρ s) (fun ds s1 => wpl clr g b ds ρ s1 N B C R X ⟨⟩) X := by
  unfold sFor
  rw [wps_then]
  with_unfolding_all rfl
theorem q_while {clr : List Nat} {c : DT} {b : DS} : wps (sWhile clr c b ρ s) N B C R X = wpw clr c b ρ s N B C R X ⟨⟩ := by with_unfolding_all rfl
theorem q_set {i : Nat} {f : DE} : wps (sSet i f ρ s) N B C R X = wp (f ρ s) (fun d s => wpn ρ [(i, .dat d)] fun ρ => N ρ s) X := wps_set
theorem q_own {i : Nat} {f : DE} : wps (sOwn i f ρ s) N B C R X = wp (f ρ s) (fun d s => ∃ ds, d = .lst ds ∧ wpn ρ [(i, .own ds)] fun ρ => N ρ s) X := wps_own
theorem q_par {i j : Nat} {fs : DA} : wps (sPar i j fs ρ s) N B C R X = wp (fs ρ s) (fun ds s => ∃ d e, ds = [d, e] ∧ wpn ρ [(i, .dat d), (j, .dat e)] fun ρ => N ρ s) X := wps_par
theorem q_par2 {d e : D} {P : D → D → Prop} : (∃ d' e', [d, e] = [d', e'] ∧ P d' e') = P d e := by
  refine propext ⟨fun ⟨d', e', h, q⟩ => ?_, fun q => ⟨d, e, rfl, q⟩⟩
  cases h
  exact q
theorem q_gN {i : Nat} {d : D} {P : List Sl → Prop} : (∃ ρ1, gN i d ρ = some ρ1 ∧ P ρ1) = wpn ρ [(i, .dat d)] P := by
  unfold gN
  rw [set_at]
  simp [wpn]
theorem q_gT {n : Nat} {h : List D → List Sl → Option (List Sl)} {ds : List D} {P : List Sl → Prop} : (∃ ρ1, gT n h (.tup ds) ρ = some ρ1 ∧ P ρ1) = (ds.length = n ∧ ∃ ρ1, h ds ρ = some ρ1 ∧ P ρ1) := by
  unfold gT
  by_cases e : ds.length = n <;> simp [e]
theorem q_gTk {n : Nat} {h : List D → List Sl → Option (List Sl)} {ds : List D} {P : List Sl → Prop} : (∃ ρ1, gT n h (.ktp ds) ρ = some ρ1 ∧ P ρ1) = (ds.length = n ∧ ∃ ρ1, h ds ρ = some ρ1 ∧ P ρ1) := by
  unfold gT
  by_cases e : ds.length = n <;> simp [e]
theorem q_gsNil {P : List Sl → Prop} : (∃ ρ1, gsNil [] ρ = some ρ1 ∧ P ρ1) = P ρ := by simp [gsNil]
theorem q_gsCons {g : DG} {h : List D → List Sl → Option (List Sl)} {d : D} {ds : List D} {P : List Sl → Prop} : (∃ ρ1, gsCons g h (d :: ds) ρ = some ρ1 ∧ P ρ1) = ∃ ρ1, g d ρ = some ρ1 ∧ ∃ ρ2, h ds ρ1 = some ρ2 ∧ P ρ2 := by
  show (∃ ρ1, (g d ρ).bind (fun ρ1 => h ds ρ1) = some ρ1 ∧ P ρ1) = _
  exact ex_bind
theorem q_tbl {b : Bool} {P : Bool → Prop} : (∃ c, D.bl b = .bl c ∧ P c) = P b := by simp
theorem q_oint {i : Int} {P : Int → Prop} : (∃ c, D.int i = .int c ∧ P c) = P i := by simp
theorem q_lst {i : List D} {P : List D → Prop} : (∃ c, D.lst i = .lst c ∧ P c) = P i := by simp
theorem q_r1 {i : Int} {P : Int → Prop} : (∃ j, [D.int i] = [D.int j] ∧ P j) = P i := by
  refine propext ⟨fun ⟨j, h, q⟩ => ?_, fun q => ⟨i, rfl, q⟩⟩
  cases h
  exact q
theorem q_r2 {i j : Int} {P : Int → Int → Prop} : (∃ a b, [D.int i, D.int j] = [D.int a, D.int b] ∧ P a b) = P i j := by
  refine propext ⟨fun ⟨a, b, h, q⟩ => ?_, fun q => ⟨i, j, rfl, q⟩⟩
  cases h
  exact q
theorem q_put {n : Nat} {i : Int} {s3 : S} {d : D} {P : Nat → List D → Nat → Prop} : (∃ n' i' l j, D.tok n = .tok n' ∧ D.int i = .int i' ∧ tokL s3 n' = some l ∧ ixN l.length i' = some j ∧ flat d = true ∧ P n' l j) = ∃ l, tokL s3 n = some l ∧ ∃ j, ixN l.length i = some j ∧ flat d = true ∧ P n l j := by
  refine propext ⟨fun ⟨n', i', l, j, e1, e2, q⟩ => ?_, fun ⟨l, e1, j, e2, e3, q⟩ => ⟨n, i, l, j, rfl, rfl, e1, e2, e3, q⟩⟩
  cases e1; cases e2
  exact ⟨l, q.1, j, q.2.1, q.2.2.1, q.2.2.2⟩
theorem v_0 {r : List Sl} {d : D} {Q : D → S → Prop} : wp (eV 0 (.dat d :: r) s) Q X = Q d s := by with_unfolding_all rfl
theorem n_0 {r : List Sl} {y z : Sl} {u : List (Nat × Sl)} {P : List Sl → Prop} : wpn (y :: r) ((0, z) :: u) P = wpn (z :: r) u P := by with_unfolding_all rfl
theorem v_1 {x0 : Sl} {r : List Sl} {d : D} {Q : D → S → Prop} : wp (eV 1 (x0 :: .dat d :: r) s) Q X = Q d s := by with_unfolding_all rfl
theorem n_1 {x0 : Sl} {r : List Sl} {y z : Sl} {u : List (Nat × Sl)} {P : List Sl → Prop} : wpn (x0 :: y :: r) ((1, z) :: u) P = wpn (x0 :: z :: r) u P := by with_unfolding_all rfl
theorem v_2 {x0 x1 : Sl} {r : List Sl} {d : D} {Q : D → S → Prop} : wp (eV 2 (x0 :: x1 :: .dat d :: r) s) Q X = Q d s := by with_unfolding_all rfl
theorem n_2 {x0 x1 : Sl} {r : List Sl} {y z : Sl} {u : List (Nat × Sl)} {P : List Sl → Prop} : wpn (x0 :: x1 :: y :: r) ((2, z) :: u) P = wpn (x0 :: x1 :: z :: r) u P := by with_unfolding_all rfl
theorem v_3 {x0 x1 x2 : Sl} {r : List Sl} {d : D} {Q : D → S → Prop} : wp (eV 3 (x0 :: x1 :: x2 :: .dat d :: r) s) Q X = Q d s := by with_unfolding_all rfl
theorem n_3 {x0 x1 x2 : Sl} {r : List Sl} {y z : Sl} {u : List (Nat × Sl)} {P : List Sl → Prop} : wpn (x0 :: x1 :: x2 :: y :: r) ((3, z) :: u) P = wpn (x0 :: x1 :: x2 :: z :: r) u P := by with_unfolding_all rfl
theorem v_4 {x0 x1 x2 x3 : Sl} {r : List Sl} {d : D} {Q : D → S → Prop} : wp (eV 4 (x0 :: x1 :: x2 :: x3 :: .dat d :: r) s) Q X = Q d s := by with_unfolding_all rfl
theorem n_4 {x0 x1 x2 x3 : Sl} {r : List Sl} {y z : Sl} {u : List (Nat × Sl)} {P : List Sl → Prop} : wpn (x0 :: x1 :: x2 :: x3 :: y :: r) ((4, z) :: u) P = wpn (x0 :: x1 :: x2 :: x3 :: z :: r) u P := by with_unfolding_all rfl
theorem v_5 {x0 x1 x2 x3 x4 : Sl} {r : List Sl} {d : D} {Q : D → S → Prop} : wp (eV 5 (x0 :: x1 :: x2 :: x3 :: x4 :: .dat d :: r) s) Q X = Q d s := by with_unfolding_all rfl
theorem n_5 {x0 x1 x2 x3 x4 : Sl} {r : List Sl} {y z : Sl} {u : List (Nat × Sl)} {P : List Sl → Prop} : wpn (x0 :: x1 :: x2 :: x3 :: x4 :: y :: r) ((5, z) :: u) P = wpn (x0 :: x1 :: x2 :: x3 :: x4 :: z :: r) u P := by with_unfolding_all rfl
theorem v_6 {x0 x1 x2 x3 x4 x5 : Sl} {r : List Sl} {d : D} {Q : D → S → Prop} : wp (eV 6 (x0 :: x1 :: x2 :: x3 :: x4 :: x5 :: .dat d :: r) s) Q X = Q d s := by with_unfolding_all rfl
theorem n_6 {x0 x1 x2 x3 x4 x5 : Sl} {r : List Sl} {y z : Sl} {u : List (Nat × Sl)} {P : List Sl → Prop} : wpn (x0 :: x1 :: x2 :: x3 :: x4 :: x5 :: y :: r) ((6, z) :: u) P = wpn (x0 :: x1 :: x2 :: x3 :: x4 :: x5 :: z :: r) u P := by with_unfolding_all rfl
theorem v_7 {x0 x1 x2 x3 x4 x5 x6 : Sl} {r : List Sl} {d : D} {Q : D → S → Prop} : wp (eV 7 (x0 :: x1 :: x2 :: x3 :: x4 :: x5 :: x6 :: .dat d :: r) s) Q X = Q d s := by with_unfolding_all rfl
theorem n_7 {x0 x1 x2 x3 x4 x5 x6 : Sl} {r : List Sl} {y z : Sl} {u : List (Nat × Sl)} {P : List Sl → Prop} : wpn (x0 :: x1 :: x2 :: x3 :: x4 :: x5 :: x6 :: y :: r) ((7, z) :: u) P = wpn (x0 :: x1 :: x2 :: x3 :: x4 :: x5 :: x6 :: z :: r) u P := by with_unfolding_all rfl
theorem v_8 {x0 x1 x2 x3 x4 x5 x6 x7 : Sl} {r : List Sl} {d : D} {Q : D → S → Prop} : wp (eV 8 (x0 :: x1 :: x2 :: x3 :: x4 :: x5 :: x6 :: x7 :: .dat d :: r) s) Q X = Q d s := by with_unfolding_all rfl
theorem n_8 {x0 x1 x2 x3 x4 x5 x6 x7 : Sl} {r : List Sl} {y z : Sl} {u : List (Nat × Sl)} {P : List Sl → Prop} : wpn (x0 :: x1 :: x2 :: x3 :: x4 :: x5 :: x6 :: x7 :: y :: r) ((8, z) :: u) P = wpn (x0 :: x1 :: x2 :: x3 :: x4 :: x5 :: x6 :: x7 :: z :: r) u P := by with_unfolding_all rfl
theorem v_9 {x0 x1 x2 x3 x4 x5 x6 x7 x8 : Sl} {r : List Sl} {d : D} {Q : D → S → Prop} : wp (eV 9 (x0 :: x1 :: x2 :: x3 :: x4 :: x5 :: x6 :: x7 :: x8 :: .dat d :: r) s) Q X = Q d s := by with_unfolding_all rfl
theorem n_9 {x0 x1 x2 x3 x4 x5 x6 x7 x8 : Sl} {r : List Sl} {y z : Sl} {u : List (Nat × Sl)} {P : List Sl → Prop} : wpn (x0 :: x1 :: x2 :: x3 :: x4 :: x5 :: x6 :: x7 :: x8 :: y :: r) ((9, z) :: u) P = wpn (x0 :: x1 :: x2 :: x3 :: x4 :: x5 :: x6 :: x7 :: x8 :: z :: r) u P := by with_unfolding_all rfl
theorem v_10 {x0 x1 x2 x3 x4 x5 x6 x7 x8 x9 : Sl} {r : List Sl} {d : D} {Q : D → S → Prop} : wp (eV 10 (x0 :: x1 :: x2 :: x3 :: x4 :: x5 :: x6 :: x7 :: x8 :: x9 :: .dat d :: r) s) Q X = Q d s := by with_unfolding_all rfl
theorem n_10 {x0 x1 x2 x3 x4 x5 x6 x7 x8 x9 : Sl} {r : List Sl} {y z : Sl} {u : List (Nat × Sl)} {P : List Sl → Prop} : wpn (x0 :: x1 :: x2 :: x3 :: x4 :: x5 :: x6 :: x7 :: x8 :: x9 :: y :: r) ((10, z) :: u) P = wpn (x0 :: x1 :: x2 :: x3 :: x4 :: x5 :: x6 :: x7 :: x8 :: x9 :: z :: r) u P := by with_unfolding_all rfl
theorem v_11 {x0 x1 x2 x3 x4 x5 x6 x7 x8 x9 x10 : Sl} {r : List Sl} {d : D} {Q : D → S → Prop} : wp (eV 11 (x0 :: x1 :: x2 :: x3 :: x4 :: x5 :: x6 :: x7 :: x8 :: x9 :: x10 :: .dat d :: r) s) Q X = Q d s := by with_unfolding_all rfl
theorem n_11 {x0 x1 x2 x3 x4 x5 x6 x7 x8 x9 x10 : Sl} {r : List Sl} {y z : Sl} {u : List (Nat × Sl)} {P : List Sl → Prop} : wpn (x0 :: x1 :: x2 :: x3 :: x4 :: x5 :: x6 :: x7 :: x8 :: x9 :: x10 :: y :: r) ((11, z) :: u) P = wpn (x0 :: x1 :: x2 :: x3 :: x4 :: x5 :: x6 :: x7 :: x8 :: x9 :: x10 :: z :: r) u P := by with_unfolding_all rfl
theorem v_12 {x0 x1 x2 x3 x4 x5 x6 x7 x8 x9 x10 x11 : Sl} {r : List Sl} {d : D} {Q : D → S → Prop} : wp (eV 12 (x0 :: x1 :: x2 :: x3 :: x4 :: x5 :: x6 :: x7 :: x8 :: x9 :: x10 :: x11 :: .dat d :: r) s) Q X = Q d s := by with_unfolding_all rfl
theorem n_12 {x0 x1 x2 x3 x4 x5 x6 x7 x8 x9 x10 x11 : Sl} {r : List Sl} {y z : Sl} {u : List (Nat × Sl)} {P : List Sl → Prop} : wpn (x0 :: x1 :: x2 :: x3 :: x4 :: x5 :: x6 :: x7 :: x8 :: x9 :: x10 :: x11 :: y :: r) ((12, z) :: u) P = wpn (x0 :: x1 :: x2 :: x3 :: x4 :: x5 :: x6 :: x7 :: x8 :: x9 :: x10 :: x11 :: z :: r) u P := by with_unfolding_all rfl
theorem v_13 {x0 x1 x2 x3 x4 x5 x6 x7 x8 x9 x10 x11 x12 : Sl} {r : List Sl} {d : D} {Q : D → S → Prop} : wp (eV 13 (x0 :: x1 :: x2 :: x3 :: x4 :: x5 :: x6 :: x7 :: x8 :: x9 :: x10 :: x11 :: x12 :: .dat d :: r) s) Q X = Q d s := by with_unfolding_all rfl
theorem n_13 {x0 x1 x2 x3 x4 x5 x6 x7 x8 x9 x10 x11 x12 : Sl} {r : List Sl} {y z : Sl} {u : List (Nat × Sl)} {P : List Sl → Prop} : wpn (x0 :: x1 :: x2 :: x3 :: x4 :: x5 :: x6 :: x7 :: x8 :: x9 :: x10 :: x11 :: x12 :: y :: r) ((13, z) :: u) P = wpn (x0 :: x1 :: x2 :: x3 :: x4 :: x5 :: x6 :: x7 :: x8 :: x9 :: x10 :: x11 :: x12 :: z :: r) u P := by with_unfolding_all rfl
theorem v_14 {x0 x1 x2 x3 x4 x5 x6 x7 x8 x9 x10 x11 x12 x13 : Sl} {r : List Sl} {d : D} {Q : D → S → Prop} : wp (eV 14 (x0 :: x1 :: x2 :: x3 :: x4 :: x5 :: x6 :: x7 :: x8 :: x9 :: x10 :: x11 :: x12 :: x13 :: .dat d :: r) s) Q X = Q d s := by with_unfolding_all rfl
theorem n_14 {x0 x1 x2 x3 x4 x5 x6 x7 x8 x9 x10 x11 x12 x13 : Sl} {r : List Sl} {y z : Sl} {u : List (Nat × Sl)} {P : List Sl → Prop} : wpn (x0 :: x1 :: x2 :: x3 :: x4 :: x5 :: x6 :: x7 :: x8 :: x9 :: x10 :: x11 :: x12 :: x13 :: y :: r) ((14, z) :: u) P = wpn (x0 :: x1 :: x2 :: x3 :: x4 :: x5 :: x6 :: x7 :: x8 :: x9 :: x10 :: x11 :: x12 :: x13 :: z :: r) u P := by with_unfolding_all rfl
theorem v_15 {x0 x1 x2 x3 x4 x5 x6 x7 x8 x9 x10 x11 x12 x13 x14 : Sl} {r : List Sl} {d : D} {Q : D → S → Prop} : wp (eV 15 (x0 :: x1 :: x2 :: x3 :: x4 :: x5 :: x6 :: x7 :: x8 :: x9 :: x10 :: x11 :: x12 :: x13 :: x14 :: .dat d :: r) s) Q X = Q d s := by with_unfolding_all rfl
theorem n_15 {x0 x1 x2 x3 x4 x5 x6 x7 x8 x9 x10 x11 x12 x13 x14 : Sl} {r : List Sl} {y z : Sl} {u : List (Nat × Sl)} {P : List Sl → Prop} : wpn (x0 :: x1 :: x2 :: x3 :: x4 :: x5 :: x6 :: x7 :: x8 :: x9 :: x10 :: x11 :: x12 :: x13 :: x14 :: y :: r) ((15, z) :: u) P = wpn (x0 :: x1 :: x2 :: x3 :: x4 :: x5 :: x6 :: x7 :: x8 :: x9 :: x10 :: x11 :: x12 :: x13 :: x14 :: z :: r) u P := by with_unfolding_all rfl
theorem v_16 {x0 x1 x2 x3 x4 x5 x6 x7 x8 x9 x10 x11 x12 x13 x14 x15 : Sl} {r : List Sl} {d : D} {Q : D → S → Prop} : wp (eV 16 (x0 :: x1 :: x2 :: x3 :: x4 :: x5 :: x6 :: x7 :: x8 :: x9 :: x10 :: x11 :: x12 :: x13 :: x14 :: x15 :: .dat d :: r) s) Q X = Q d s := by with_unfolding_all rfl
theorem n_16 {x0 x1 x2 x3 x4 x5 x6 x7 x8 x9 x10 x11 x12 x13 x14 x15 : Sl} {r : List Sl} {y z : Sl} {u : List (Nat × Sl)} {P : List Sl → Prop} : wpn (x0 :: x1 :: x2 :: x3 :: x4 :: x5 :: x6 :: x7 :: x8 :: x9 :: x10 :: x11 :: x12 :: x13 :: x14 :: x15 :: y :: r) ((16, z) :: u) P = wpn (x0 :: x1 :: x2 :: x3 :: x4 :: x5 :: x6 :: x7 :: x8 :: x9 :: x10 :: x11 :: x12 :: x13 :: x14 :: x15 :: z :: r) u P := by with_unfolding_all rfl
theorem v_17 {x0 x1 x2 x3 x4 x5 x6 x7 x8 x9 x10 x11 x12 x13 x14 x15 x16 : Sl} {r : List Sl} {d : D} {Q : D → S → Prop} : wp (eV 17 (x0 :: x1 :: x2 :: x3 :: x4 :: x5 :: x6 :: x7 :: x8 :: x9 :: x10 :: x11 :: x12 :: x13 :: x14 :: x15 :: x16 :: .dat d :: r) s) Q X = Q d s := by with_unfolding_all rfl
theorem n_17 {x0 x1 x2 x3 x4 x5 x6 x7 x8 x9 x10 x11 x12 x13 x14 x15 x16 : Sl} {r : List Sl} {y z : Sl} {u : List (Nat × Sl)} {P : List Sl → Prop} : wpn (x0 :: x1 :: x2 :: x3 :: x4 :: x5 :: x6 :: x7 :: x8 :: x9 :: x10 :: x11 :: x12 :: x13 :: x14 :: x15 :: x16 :: y :: r) ((17, z) :: u) P = wpn (x0 :: x1 :: x2 :: x3 :: x4 :: x5 :: x6 :: x7 :: x8 :: x9 :: x10 :: x11 :: x12 :: x13 :: x14 :: x15 :: x16 :: z :: r) u P := by with_unfolding_all rfl
theorem v_18 {x0 x1 x2 x3 x4 x5 x6 x7 x8 x9 x10 x11 x12 x13 x14 x15 x16 x17 : Sl} {r : List Sl} {d : D} {Q : D → S → Prop} : wp (eV 18 (x0 :: x1 :: x2 :: x3 :: x4 :: x5 :: x6 :: x7 :: x8 :: x9 :: x10 :: x11 :: x12 :: x13 :: x14 :: x15 :: x16 :: x17 :: .dat d :: r) s) Q X = Q d s := by with_unfolding_all rfl
theorem n_18 {x0 x1 x2 x3 x4 x5 x6 x7 x8 x9 x10 x11 x12 x13 x14 x15 x16 x17 : Sl} {r : List Sl} {y z : Sl} {u : List (Nat × Sl)} {P : List Sl → Prop} : wpn (x0 :: x1 :: x2 :: x3 :: x4 :: x5 :: x6 :: x7 :: x8 :: x9 :: x10 :: x11 :: x12 :: x13 :: x14 :: x15 :: x16 :: x17 :: y :: r) ((18, z) :: u) P = wpn (x0 :: x1 :: x2 :: x3 :: x4 :: x5 :: x6 :: x7 :: x8 :: x9 :: x10 :: x11 :: x12 :: x13 :: x14 :: x15 :: x16 :: x17 :: z :: r) u P := by with_unfolding_all rfl
theorem v_19 {x0 x1 x2 x3 x4 x5 x6 x7 x8 x9 x10 x11 x12 x13 x14 x15 x16 x17 x18 : Sl} {r : List Sl} {d : D} {Q : D → S → Prop} : wp (eV 19 (x0 :: x1 :: x2 :: x3 :: x4 :: x5 :: x6 :: x7 :: x8 :: x9 :: x10 :: x11 :: x12 :: x13 :: x14 :: x15 :: x16 :: x17 :: x18 :: .dat d :: r) s) Q X = Q d s := by with_unfolding_all rfl
theorem n_19 {x0 x1 x2 x3 x4 x5 x6 x7 x8 x9 x10 x11 x12 x13 x14 x15 x16 x17 x18 : Sl} {r : List Sl} {y z : Sl} {u : List (Nat × Sl)} {P : List Sl → Prop} : wpn (x0 :: x1 :: x2 :: x3 :: x4 :: x5 :: x6 :: x7 :: x8 :: x9 :: x10 :: x11 :: x12 :: x13 :: x14 :: x15 :: x16 :: x17 :: x18 :: y :: r) ((19, z) :: u) P = wpn (x0 :: x1 :: x2 :: x3 :: x4 :: x5 :: x6 :: x7 :: x8 :: x9 :: x10 :: x11 :: x12 :: x13 :: x14 :: x15 :: x16 :: x17 :: x18 :: z :: r) u P := by with_unfolding_all rfl
theorem v_20 {x0 x1 x2 x3 x4 x5 x6 x7 x8 x9 x10 x11 x12 x13 x14 x15 x16 x17 x18 x19 : Sl} {r : List Sl} {d : D} {Q : D → S → Prop} : wp (eV 20 (x0 :: x1 :: x2 :: x3 :: x4 :: x5 :: x6 :: x7 :: x8 :: x9 :: x10 :: x11 :: x12 :: x13 :: x14 :: x15 :: x16 :: x17 :: x18 :: x19 :: .dat d :: r) s) Q X = Q d s := by with_unfolding_all rfl
theorem n_20 {x0 x1 x2 x3 x4 x5 x6 x7 x8 x9 x10 x11 x12 x13 x14 x15 x16 x17 x18 x19 : Sl} {r : List Sl} {y z : Sl} {u : List (Nat × Sl)} {P : List Sl → Prop} : wpn (x0 :: x1 :: x2 :: x3 :: x4 :: x5 :: x6 :: x7 :: x8 :: x9 :: x10 :: x11 :: x12 :: x13 :: x14 :: x15 :: x16 :: x17 :: x18 :: x19 :: y :: r) ((20, z) :: u) P = wpn (x0 :: x1 :: x2 :: x3 :: x4 :: x5 :: x6 :: x7 :: x8 :: x9 :: x10 :: x11 :: x12 :: x13 :: x14 :: x15 :: x16 :: x17 :: x18 :: x19 :: z :: r) u P := by with_unfolding_all rfl
theorem v_21 {x0 x1 x2 x3 x4 x5 x6 x7 x8 x9 x10 x11 x12 x13 x14 x15 x16 x17 x18 x19 x20 : Sl} {r : List Sl} {d : D} {Q : D → S → Prop} : wp (eV 21 (x0 :: x1 :: x2 :: x3 :: x4 :: x5 :: x6 :: x7 :: x8 :: x9 :: x10 :: x11 :: x12 :: x13 :: x14 :: x15 :: x16 :: x17 :: x18 :: x19 :: x20 :: .dat d :: r) s) Q X = Q d s := by with_unfolding_all rfl
theorem n_21 {x0 x1 x2 x3 x4 x5 x6 x7 x8 x9 x10 x11 x12 x13 x14 x15 x16 x17 x18 x19 x20 : Sl} {r : List Sl} {y z : Sl} {u : List (Nat × Sl)} {P : List Sl → Prop} : wpn (x0 :: x1 :: x2 :: x3 :: x4 :: x5 :: x6 :: x7 :: x8 :: x9 :: x10 :: x11 :: x12 :: x13 :: x14 :: x15 :: x16 :: x17 :: x18 :: x19 :: x20 :: y :: r) ((21, z) :: u) P = wpn (x0 :: x1 :: x2 :: x3 :: x4 :: x5 :: x6 :: x7 :: x8 :: x9 :: x10 :: x11 :: x12 :: x13 :: x14 :: x15 :: x16 :: x17 :: x18 :: x19 :: x20 :: z :: r) u P := by with_unfolding_all rfl
theorem v_22 {x0 x1 x2 x3 x4 x5 x6 x7 x8 x9 x10 x11 x12 x13 x14 x15 x16 x17 x18 x19 x20 x21 : Sl} {r : List Sl} {d : D} {Q : D → S → Prop} : wp (eV 22 (x0 :: x1 :: x2 :: x3 :: x4 :: x5 :: x6 :: x7 :: x8 :: x9 :: x10 :: x11 :: x12 :: x13 :: x14 :: x15 :: x16 :: x17 :: x18 :: x19 :: x20 :: x21 :: .dat d :: r) s) Q X = Q d s := by with_unfolding_all rfl
theorem n_22 {x0 x1 x2 x3 x4 x5 x6 x7 x8 x9 x10 x11 x12 x13 x14 x15 x16 x17 x18 x19 x20 x21 : Sl} {r : List Sl} {y z : Sl} {u : List (Nat × Sl)} {P : List Sl → Prop} : wpn (x0 :: x1 :: x2 :: x3 :: x4 :: x5 :: x6 :: x7 :: x8 :: x9 :: x10 :: x11 :: x12 :: x13 :: x14 :: x15 :: x16 :: x17 :: x18 :: x19 :: x20 :: x21 :: y :: r) ((22, z) :: u) P = wpn (x0 :: x1 :: x2 :: x3 :: x4 :: x5 :: x6 :: x7 :: x8 :: x9 :: x10 :: x11 :: x12 :: x13 :: x14 :: x15 :: x16 :: x17 :: x18 :: x19 :: x20 :: x21 :: z :: r) u P := by with_unfolding_all rfl
theorem v_23 {x0 x1 x2 x3 x4 x5 x6 x7 x8 x9 x10 x11 x12 x13 x14 x15 x16 x17 x18 x19 x20 x21 x22 : Sl} {r : List Sl} {d : D} {Q : D → S → Prop} : wp (eV 23 (x0 :: x1 :: x2 :: x3 :: x4 :: x5 :: x6 :: x7 :: x8 :: x9 :: x10 :: x11 :: x12 :: x13 :: x14 :: x15 :: x16 :: x17 :: x18 :: x19 :: x20 :: x21 :: x22 :: .dat d :: r) s) Q X = Q d s := by with_unfolding_all rfl
theorem n_23 {x0 x1 x2 x3 x4 x5 x6 x7 x8 x9 x10 x11 x12 x13 x14 x15 x16 x17 x18 x19 x20 x21 x22 : Sl} {r : List Sl} {y z : Sl} {u : List (Nat × Sl)} {P : List Sl → Prop} : wpn (x0 :: x1 :: x2 :: x3 :: x4 :: x5 :: x6 :: x7 :: x8 :: x9 :: x10 :: x11 :: x12 :: x13 :: x14 :: x15 :: x16 :: x17 :: x18 :: x19 :: x20 :: x21 :: x22 :: y :: r) ((23, z) :: u) P = wpn (x0 :: x1 :: x2 :: x3 :: x4 :: x5 :: x6 :: x7 :: x8 :: x9 :: x10 :: x11 :: x12 :: x13 :: x14 :: x15 :: x16 :: x17 :: x18 :: x19 :: x20 :: x21 :: x22 :: z :: r) u P := by with_unfolding_all rfl
theorem v_24 {x0 x1 x2 x3 x4 x5 x6 x7 x8 x9 x10 x11 x12 x13 x14 x15 x16 x17 x18 x19 x20 x21 x22 x23 : Sl} {r : List Sl} {d : D} {Q : D → S → Prop} : wp (eV 24 (x0 :: x1 :: x2 :: x3 :: x4 :: x5 :: x6 :: x7 :: x8 :: x9 :: x10 :: x11 :: x12 :: x13 :: x14 :: x15 :: x16 :: x17 :: x18 :: x19 :: x20 :: x21 :: x22 :: x23 :: .dat d :: r) s) Q X = Q d s := by with_unfolding_all rfl
theorem n_24 {x0 x1 x2 x3 x4 x5 x6 x7 x8 x9 x10 x11 x12 x13 x14 x15 x16 x17 x18 x19 x20 x21 x22 x23 : Sl} {r : List Sl} {y z : Sl} {u : List (Nat × Sl)} {P : List Sl → Prop} : wpn (x0 :: x1 :: x2 :: x3 :: x4 :: x5 :: x6 :: x7 :: x8 :: x9 :: x10 :: x11 :: x12 :: x13 :: x14 :: x15 :: x16 :: x17 :: x18 :: x19 :: x20 :: x21 :: x22 :: x23 :: y :: r) ((24, z) :: u) P = wpn (x0 :: x1 :: x2 :: x3 :: x4 :: x5 :: x6 :: x7 :: x8 :: x9 :: x10 :: x11 :: x12 :: x13 :: x14 :: x15 :: x16 :: x17 :: x18 :: x19 :: x20 :: x21 :: x22 :: x23 :: z :: r) u P := by with_unfolding_all rfl
theorem v_25 {x0 x1 x2 x3 x4 x5 x6 x7 x8 x9 x10 x11 x12 x13 x14 x15 x16 x17 x18 x19 x20 x21 x22 x23 x24 : Sl} {r : List Sl} {d : D} {Q : D → S → Prop} : wp (eV 25 (x0 :: x1 :: x2 :: x3 :: x4 :: x5 :: x6 :: x7 :: x8 :: x9 :: x10 :: x11 :: x12 :: x13 :: x14 :: x15 :: x16 :: x17 :: x18 :: x19 :: x20 :: x21 :: x22 :: x23 :: x24 :: .dat d :: r) s) Q X = Q d s := by with_unfolding_all rfl
theorem n_25 {x0 x1 x2 x3 x4 x5 x6 x7 x8 x9 x10 x11 x12 x13 x14 x15 x16 x17 x18 x19 x20 x21 x22 x23 x24 : Sl} {r : List Sl} {y z : Sl} {u : List (Nat × Sl)} {P : List Sl → Prop} : wpn (x0 :: x1 :: x2 :: x3 :: x4 :: x5 :: x6 :: x7 :: x8 :: x9 :: x10 :: x11 :: x12 :: x13 :: x14 :: x15 :: x16 :: x17 :: x18 :: x19 :: x20 :: x21 :: x22 :: x23 :: x24 :: y :: r) ((25, z) :: u) P = wpn (x0 :: x1 :: x2 :: x3 :: x4 :: x5 :: x6 :: x7 :: x8 :: x9 :: x10 :: x11 :: x12 :: x13 :: x14 :: x15 :: x16 :: x17 :: x18 :: x19 :: x20 :: x21 :: x22 :: x23 :: x24 :: z :: r) u P := by with_unfolding_all rfl
theorem v_26 {x0 x1 x2 x3 x4 x5 x6 x7 x8 x9 x10 x11 x12 x13 x14 x15 x16 x17 x18 x19 x20 x21 x22 x23 x24 x25 : Sl} {r : List Sl} {d : D} {Q : D → S → Prop} : wp (eV 26 (x0 :: x1 :: x2 :: x3 :: x4 :: x5 :: x6 :: x7 :: x8 :: x9 :: x10 :: x11 :: x12 :: x13 :: x14 :: x15 :: x16 :: x17 :: x18 :: x19 :: x20 :: x21 :: x22 :: x23 :: x24 :: x25 :: .dat d :: r) s) Q X = Q d s := by with_unfolding_all rfl
theorem n_26 {x0 x1 x2 x3 x4 x5 x6 x7 x8 x9 x10 x11 x12 x13 x14 x15 x16 x17 x18 x19 x20 x21 x22 x23 x24 x25 : Sl} {r : List Sl} {y z : Sl} {u : List (Nat × Sl)} {P : List Sl → Prop} : wpn (x0 :: x1 :: x2 :: x3 :: x4 :: x5 :: x6 :: x7 :: x8 :: x9 :: x10 :: x11 :: x12 :: x13 :: x14 :: x15 :: x16 :: x17 :: x18 :: x19 :: x20 :: x21 :: x22 :: x23 :: x24 :: x25 :: y :: r) ((26, z) :: u) P = wpn (x0 :: x1 :: x2 :: x3 :: x4 :: x5 :: x6 :: x7 :: x8 :: x9 :: x10 :: x11 :: x12 :: x13 :: x14 :: x15 :: x16 :: x17 :: x18 :: x19 :: x20 :: x21 :: x22 :: x23 :: x24 :: x25 :: z :: r) u P := by with_unfolding_all rfl
theorem v_27 {x0 x1 x2 x3 x4 x5 x6 x7 x8 x9 x10 x11 x12 x13 x14 x15 x16 x17 x18 x19 x20 x21 x22 x23 x24 x25 x26 : Sl} {r : List Sl} {d : D} {Q : D → S → Prop} : wp (eV 27 (x0 :: x1 :: x2 :: x3 :: x4 :: x5 :: x6 :: x7 :: x8 :: x9 :: x10 :: x11 :: x12 :: x13 :: x14 :: x15 :: x16 :: x17 :: x18 :: x19 :: x20 :: x21 :: x22 :: x23 :: x24 :: x25 :: x26 :: .dat d :: r) s) Q X = Q d s := by with_unfolding_all rfl
theorem n_27 {x0 x1 x2 x3 x4 x5 x6 x7 x8 x9 x10 x11 x12 x13 x14 x15 x16 x17 x18 x19 x20 x21 x22 x23 x24 x25 x26 : Sl} {r : List Sl} {y z : Sl} {u : List (Nat × Sl)} {P : List Sl → Prop} : wpn (x0 :: x1 :: x2 :: x3 :: x4 :: x5 :: x6 :: x7 :: x8 :: x9 :: x10 :: x11 :: x12 :: x13 :: x14 :: x15 :: x16 :: x17 :: x18 :: x19 :: x20 :: x21 :: x22 :: x23 :: x24 :: x25 :: x26 :: y :: r) ((27, z) :: u) P = wpn (x0 :: x1 :: x2 :: x3 :: x4 :: x5 :: x6 :: x7 :: x8 :: x9 :: x10 :: x11 :: x12 :: x13 :: x14 :: x15 :: x16 :: x17 :: x18 :: x19 :: x20 :: x21 :: x22 :: x23 :: x24 :: x25 :: x26 :: z :: r) u P := by with_unfolding_all rfl
theorem v_28 {x0 x1 x2 x3 x4 x5 x6 x7 x8 x9 x10 x11 x12 x13 x14 x15 x16 x17 x18 x19 x20 x21 x22 x23 x24 x25 x26 x27 : Sl} {r : List Sl} {d : D} {Q : D → S → Prop} : wp (eV 28 (x0 :: x1 :: x2 :: x3 :: x4 :: x5 :: x6 :: x7 :: x8 :: x9 :: x10 :: x11 :: x12 :: x13 :: x14 :: x15 :: x16 :: x17 :: x18 :: x19 :: x20 :: x21 :: x22 :: x23 :: x24 :: x25 :: x26 :: x27 :: .dat d :: r) s) Q X = Q d s := by with_unfolding_all rfl
theorem n_28 {x0 x1 x2 x3 x4 x5 x6 x7 x8 x9 x10 x11 x12 x13 x14 x15 x16 x17 x18 x19 x20 x21 x22 x23 x24 x25 x26 x27 : Sl} {r : List Sl} {y z : Sl} {u : List (Nat × Sl)} {P : List Sl → Prop} : wpn (x0 :: x1 :: x2 :: x3 :: x4 :: x5 :: x6 :: x7 :: x8 :: x9 :: x10 :: x11 :: x12 :: x13 :: x14 :: x15 :: x16 :: x17 :: x18 :: x19 :: x20 :: x21 :: x22 :: x23 :: x24 :: x25 :: x26 :: x27 :: y :: r) ((28, z) :: u) P = wpn (x0 :: x1 :: x2 :: x3 :: x4 :: x5 :: x6 :: x7 :: x8 :: x9 :: x10 :: x11 :: x12 :: x13 :: x14 :: x15 :: x16 :: x17 :: x18 :: x19 :: x20 :: x21 :: x22 :: x23 :: x24 :: x25 :: x26 :: x27 :: z :: r) u P := by with_unfolding_all rfl
theorem v_29 {x0 x1 x2 x3 x4 x5 x6 x7 x8 x9 x10 x11 x12 x13 x14 x15 x16 x17 x18 x19 x20 x21 x22 x23 x24 x25 x26 x27 x28 : Sl} {r : List Sl} {d : D} {Q : D → S → Prop} : wp (eV 29 (x0 :: x1 :: x2 :: x3 :: x4 :: x5 :: x6 :: x7 :: x8 :: x9 :: x10 :: x11 :: x12 :: x13 :: x14 :: x15 :: x16 :: x17 :: x18 :: x19 :: x20 :: x21 :: x22 :: x23 :: x24 :: x25 :: x26 :: x27 :: x28 :: .dat d :: r) s) Q X = Q d s := by with_unfolding_all rfl
theorem n_29 {x0 x1 x2 x3 x4 x5 x6 x7 x8 x9 x10 x11 x12 x13 x14 x15 x16 x17 x18 x19 x20 x21 x22 x23 x24 x25 x26 x27 x28 : Sl} {r : List Sl} {y z : Sl} {u : List (Nat × Sl)} {P : List Sl → Prop} : wpn (x0 :: x1 :: x2 :: x3 :: x4 :: x5 :: x6 :: x7 :: x8 :: x9 :: x10 :: x11 :: x12 :: x13 :: x14 :: x15 :: x16 :: x17 :: x18 :: x19 :: x20 :: x21 :: x22 :: x23 :: x24 :: x25 :: x26 :: x27 :: x28 :: y :: r) ((29, z) :: u) P = wpn (x0 :: x1 :: x2 :: x3 :: x4 :: x5 :: x6 :: x7 :: x8 :: x9 :: x10 :: x11 :: x12 :: x13 :: x14 :: x15 :: x16 :: x17 :: x18 :: x19 :: x20 :: x21 :: x22 :: x23 :: x24 :: x25 :: x26 :: x27 :: x28 :: z :: r) u P := by with_unfolding_all rfl
theorem v_30 {x0 x1 x2 x3 x4 x5 x6 x7 x8 x9 x10 x11 x12 x13 x14 x15 x16 x17 x18 x19 x20 x21 x22 x23 x24 x25 x26 x27 x28 x29 : Sl} {r : List Sl} {d : D} {Q : D → S → Prop} : wp (eV 30 (x0 :: x1 :: x2 :: x3 :: x4 :: x5 :: x6 :: x7 :: x8 :: x9 :: x10 :: x11 :: x12 :: x13 :: x14 :: x15 :: x16 :: x17 :: x18 :: x19 :: x20 :: x21 :: x22 :: x23 :: x24 :: x25 :: x26 :: x27 :: x28 :: x29 :: .dat d :: r) s) Q X = Q d s := by with_unfolding_all rfl
theorem n_30 {x0 x1 x2 x3 x4 x5 x6 x7 x8 x9 x10 x11 x12 x13 x14 x15 x16 x17 x18 x19 x20 x21 x22 x23 x24 x25 x26 x27 x28 x29 : Sl} {r : List Sl} {y z : Sl} {u : List (Nat × Sl)} {P : List Sl → Prop} : wpn (x0 :: x1 :: x2 :: x3 :: x4 :: x5 :: x6 :: x7 :: x8 :: x9 :: x10 :: x11 :: x12 :: x13 :: x14 :: x15 :: x16 :: x17 :: x18 :: x19 :: x20 :: x21 :: x22 :: x23 :: x24 :: x25 :: x26 :: x27 :: x28 :: x29 :: y :: r) ((30, z) :: u) P = wpn (x0 :: x1 :: x2 :: x3 :: x4 :: x5 :: x6 :: x7 :: x8 :: x9 :: x10 :: x11 :: x12 :: x13 :: x14 :: x15 :: x16 :: x17 :: x18 :: x19 :: x20 :: x21 :: x22 :: x23 :: x24 :: x25 :: x26 :: x27 :: x28 :: x29 :: z :: r) u P := by with_unfolding_all rfl
theorem v_31 {x0 x1 x2 x3 x4 x5 x6 x7 x8 x9 x10 x11 x12 x13 x14 x15 x16 x17 x18 x19 x20 x21 x22 x23 x24 x25 x26 x27 x28 x29 x30 : Sl} {r : List Sl} {d : D} {Q : D → S → Prop} : wp (eV 31 (x0 :: x1 :: x2 :: x3 :: x4 :: x5 :: x6 :: x7 :: x8 :: x9 :: x10 :: x11 :: x12 :: x13 :: x14 :: x15 :: x16 :: x17 :: x18 :: x19 :: x20 :: x21 :: x22 :: x23 :: x24 :: x25 :: x26 :: x27 :: x28 :: x29 :: x30 :: .dat d :: r) s) Q X = Q d s := by with_unfolding_all rfl
theorem n_31 {x0 x1 x2 x3 x4 x5 x6 x7 x8 x9 x10 x11 x12 x13 x14 x15 x16 x17 x18 x19 x20 x21 x22 x23 x24 x25 x26 x27 x28 x29 x30 : Sl} {r : List Sl} {y z : Sl} {u : List (Nat × Sl)} {P : List Sl → Prop} : wpn (x0 :: x1 :: x2 :: x3 :: x4 :: x5 :: x6 :: x7 :: x8 :: x9 :: x10 :: x11 :: x12 :: x13 :: x14 :: x15 :: x16 :: x17 :: x18 :: x19 :: x20 :: x21 :: x22 :: x23 :: x24 :: x25 :: x26 :: x27 :: x28 :: x29 :: x30 :: y :: r) ((31, z) :: u) P = wpn (x0 :: x1 :: x2 :: x3 :: x4 :: x5 :: x6 :: x7 :: x8 :: x9 :: x10 :: x11 :: x12 :: x13 :: x14 :: x15 :: x16 :: x17 :: x18 :: x19 :: x20 :: x21 :: x22 :: x23 :: x24 :: x25 :: x26 :: x27 :: x28 :: x29 :: x30 :: z :: r) u P := by with_unfolding_all rfl
theorem v_32 {x0 x1 x2 x3 x4 x5 x6 x7 x8 x9 x10 x11 x12 x13 x14 x15 x16 x17 x18 x19 x20 x21 x22 x23 x24 x25 x26 x27 x28 x29 x30 x31 : Sl} {r : List Sl} {d : D} {Q : D → S → Prop} : wp (eV 32 (x0 :: x1 :: x2 :: x3 :: x4 :: x5 :: x6 :: x7 :: x8 :: x9 :: x10 :: x11 :: x12 :: x13 :: x14 :: x15 :: x16 :: x17 :: x18 :: x19 :: x20 :: x21 :: x22 :: x23 :: x24 :: x25 :: x26 :: x27 :: x28 :: x29 :: x30 :: x31 :: .dat d :: r) s) Q X = Q d s := by with_unfolding_all rfl
theorem n_32 {x0 x1 x2 x3 x4 x5 x6 x7 x8 x9 x10 x11 x12 x13 x14 x15 x16 x17 x18 x19 x20 x21 x22 x23 x24 x25 x26 x27 x28 x29 x30 x31 : Sl} {r : List Sl} {y z : Sl} {u : List (Nat × Sl)} {P : List Sl → Prop} : wpn (x0 :: x1 :: x2 :: x3 :: x4 :: x5 :: x6 :: x7 :: x8 :: x9 :: x10 :: x11 :: x12 :: x13 :: x14 :: x15 :: x16 :: x17 :: x18 :: x19 :: x20 :: x21 :: x22 :: x23 :: x24 :: x25 :: x26 :: x27 :: x28 :: x29 :: x30 :: x31 :: y :: r) ((32, z) :: u) P = wpn (x0 :: x1 :: x2 :: x3 :: x4 :: x5 :: x6 :: x7 :: x8 :: x9 :: x10 :: x11 :: x12 :: x13 :: x14 :: x15 :: x16 :: x17 :: x18 :: x19 :: x20 :: x21 :: x22 :: x23 :: x24 :: x25 :: x26 :: x27 :: x28 :: x29 :: x30 :: x31 :: z :: r) u P := by with_unfolding_all rfl
theorem v_33 {x0 x1 x2 x3 x4 x5 x6 x7 x8 x9 x10 x11 x12 x13 x14 x15 x16 x17 x18 x19 x20 x21 x22 x23 x24 x25 x26 x27 x28 x29 x30 x31 x32 : Sl} {r : List Sl} {d : D} {Q : D → S → Prop} : wp (eV 33 (x0 :: x1 :: x2 :: x3 :: x4 :: x5 :: x6 :: x7 :: x8 :: x9 :: x10 :: x11 :: x12 :: x13 :: x14 :: x15 :: x16 :: x17 :: x18 :: x19 :: x20 :: x21 :: x22 :: x23 :: x24 :: x25 :: x26 :: x27 :: x28 :: x29 :: x30 :: x31 :: x32 :: .dat d :: r) s) Q X = Q d s := by with_unfolding_all rfl
theorem n_33 {x0 x1 x2 x3 x4 x5 x6 x7 x8 x9 x10 x11 x12 x13 x14 x15 x16 x17 x18 x19 x20 x21 x22 x23 x24 x25 x26 x27 x28 x29 x30 x31 x32 : Sl} {r : List Sl} {y z : Sl} {u : List (Nat × Sl)} {P : List Sl → Prop} : wpn (x0 :: x1 :: x2 :: x3 :: x4 :: x5 :: x6 :: x7 :: x8 :: x9 :: x10 :: x11 :: x12 :: x13 :: x14 :: x15 :: x16 :: x17 :: x18 :: x19 :: x20 :: x21 :: x22 :: x23 :: x24 :: x25 :: x26 :: x27 :: x28 :: x29 :: x30 :: x31 :: x32 :: y :: r) ((33, z) :: u) P = wpn (x0 :: x1 :: x2 :: x3 :: x4 :: x5 :: x6 :: x7 :: x8 :: x9 :: x10 :: x11 :: x12 :: x13 :: x14 :: x15 :: x16 :: x17 :: x18 :: x19 :: x20 :: x21 :: x22 :: x23 :: x24 :: x25 :: x26 :: x27 :: x28 :: x29 :: x30 :: x31 :: x32 :: z :: r) u P := by with_unfolding_all rfl
theorem x_is_non_int  {P : D → Prop} : (∃ z, dIsi [.non, .ty "int"] = some z ∧ P z) = P (.bl false) := by rw [is_non_int]; exact ex_some
theorem x_is_non_bool  {P : D → Prop} : (∃ z, dIsi [.non, .ty "bool"] = some z ∧ P z) = P (.bl false) := by rw [is_non_bool]; exact ex_some
theorem x_is_non_tuple  {P : D → Prop} : (∃ z, dIsi [.non, .ty "tuple"] = some z ∧ P z) = P (.bl false) := by rw [is_non_tuple]; exact ex_some
theorem x_is_non_str  {P : D → Prop} : (∃ z, dIsi [.non, .ty "str"] = some z ∧ P z) = P (.bl false) := by rw [is_non_str]; exact ex_some
theorem x_is_non_list  {P : D → Prop} : (∃ z, dIsi [.non, .ty "list"] = some z ∧ P z) = P (.bl false) := by rw [is_non_list]; exact ex_some
theorem x_is_non_dict  {P : D → Prop} : (∃ z, dIsi [.non, .ty "dict"] = some z ∧ P z) = P (.bl false) := by rw [is_non_dict]; exact ex_some
theorem x_is_bl_int {b : Bool} {P : D → Prop} : (∃ z, dIsi [(.bl b), .ty "int"] = some z ∧ P z) = P (.bl true) := by rw [is_bl_int]; exact ex_some
theorem x_is_bl_bool {b : Bool} {P : D → Prop} : (∃ z, dIsi [(.bl b), .ty "bool"] = some z ∧ P z) = P (.bl true) := by rw [is_bl_bool]; exact ex_some
theorem x_is_bl_tuple {b : Bool} {P : D → Prop} : (∃ z, dIsi [(.bl b), .ty "tuple"] = some z ∧ P z) = P (.bl false) := by rw [is_bl_tuple]; exact ex_some
theorem x_is_bl_str {b : Bool} {P : D → Prop} : (∃ z, dIsi [(.bl b), .ty "str"] = some z ∧ P z) = P (.bl false) := by rw [is_bl_str]; exact ex_some
theorem x_is_bl_list {b : Bool} {P : D → Prop} : (∃ z, dIsi [(.bl b), .ty "list"] = some z ∧ P z) = P (.bl false) := by rw [is_bl_list]; exact ex_some
theorem x_is_bl_dict {b : Bool} {P : D → Prop} : (∃ z, dIsi [(.bl b), .ty "dict"] = some z ∧ P z) = P (.bl false) := by rw [is_bl_dict]; exact ex_some
theorem x_is_int_int {i : Int} {P : D → Prop} : (∃ z, dIsi [(.int i), .ty "int"] = some z ∧ P z) = P (.bl true) := by rw [is_int_int]; exact ex_some
theorem x_is_int_bool {i : Int} {P : D → Prop} : (∃ z, dIsi [(.int i), .ty "bool"] = some z ∧ P z) = P (.bl false) := by rw [is_int_bool]; exact ex_some
theorem x_is_int_tuple {i : Int} {P : D → Prop} : (∃ z, dIsi [(.int i), .ty "tuple"] = some z ∧ P z) = P (.bl false) := by rw [is_int_tuple]; exact ex_some
theorem x_is_int_str {i : Int} {P : D → Prop} : (∃ z, dIsi [(.int i), .ty "str"] = some z ∧ P z) = P (.bl false) := by rw [is_int_str]; exact ex_some
theorem x_is_int_list {i : Int} {P : D → Prop} : (∃ z, dIsi [(.int i), .ty "list"] = some z ∧ P z) = P (.bl false) := by rw [is_int_list]; exact ex_some
theorem x_is_int_dict {i : Int} {P : D → Prop} : (∃ z, dIsi [(.int i), .ty "dict"] = some z ∧ P z) = P (.bl false) := by rw [is_int_dict]; exact ex_some
theorem x_is_str_int {x : Str} {P : D → Prop} : (∃ z, dIsi [(.str x), .ty "int"] = some z ∧ P z) = P (.bl false) := by rw [is_str_int]; exact ex_some
theorem x_is_str_bool {x : Str} {P : D → Prop} : (∃ z, dIsi [(.str x), .ty "bool"] = some z ∧ P z) = P (.bl false) := by rw [is_str_bool]; exact ex_some
theorem x_is_str_tuple {x : Str} {P : D → Prop} : (∃ z, dIsi [(.str x), .ty "tuple"] = some z ∧ P z) = P (.bl false) := by rw [is_str_tuple]; exact ex_some
theorem x_is_str_str {x : Str} {P : D → Prop} : (∃ z, dIsi [(.str x), .ty "str"] = some z ∧ P z) = P (.bl true) := by rw [is_str_str]; exact ex_some
theorem x_is_str_list {x : Str} {P : D → Prop} : (∃ z, dIsi [(.str x), .ty "list"] = some z ∧ P z) = P (.bl false) := by rw [is_str_list]; exact ex_some
theorem x_is_str_dict {x : Str} {P : D → Prop} : (∃ z, dIsi [(.str x), .ty "dict"] = some z ∧ P z) = P (.bl false) := by rw [is_str_dict]; exact ex_some
theorem x_is_tup_int {x : List D} {P : D → Prop} : (∃ z, dIsi [(.tup x), .ty "int"] = some z ∧ P z) = P (.bl false) := by rw [is_tup_int]; exact ex_some
theorem x_is_tup_bool {x : List D} {P : D → Prop} : (∃ z, dIsi [(.tup x), .ty "bool"] = some z ∧ P z) = P (.bl false) := by rw [is_tup_bool]; exact ex_some
theorem x_is_tup_tuple {x : List D} {P : D → Prop} : (∃ z, dIsi [(.tup x), .ty "tuple"] = some z ∧ P z) = P (.bl true) := by rw [is_tup_tuple]; exact ex_some
theorem x_is_tup_str {x : List D} {P : D → Prop} : (∃ z, dIsi [(.tup x), .ty "str"] = some z ∧ P z) = P (.bl false) := by rw [is_tup_str]; exact ex_some
theorem x_is_tup_list {x : List D} {P : D → Prop} : (∃ z, dIsi [(.tup x), .ty "list"] = some z ∧ P z) = P (.bl false) := by rw [is_tup_list]; exact ex_some
theorem x_is_tup_dict {x : List D} {P : D → Prop} : (∃ z, dIsi [(.tup x), .ty "dict"] = some z ∧ P z) = P (.bl false) := by rw [is_tup_dict]; exact ex_some
theorem x_is_lst_int {x : List D} {P : D → Prop} : (∃ z, dIsi [(.lst x), .ty "int"] = some z ∧ P z) = P (.bl false) := by rw [is_lst_int]; exact ex_some
theorem x_is_lst_bool {x : List D} {P : D → Prop} : (∃ z, dIsi [(.lst x), .ty "bool"] = some z ∧ P z) = P (.bl false) := by rw [is_lst_bool]; exact ex_some
theorem x_is_lst_tuple {x : List D} {P : D → Prop} : (∃ z, dIsi [(.lst x), .ty "tuple"] = some z ∧ P z) = P (.bl false) := by rw [is_lst_tuple]; exact ex_some
theorem x_is_lst_str {x : List D} {P : D → Prop} : (∃ z, dIsi [(.lst x), .ty "str"] = some z ∧ P z) = P (.bl false) := by rw [is_lst_str]; exact ex_some
theorem x_is_lst_list {x : List D} {P : D → Prop} : (∃ z, dIsi [(.lst x), .ty "list"] = some z ∧ P z) = P (.bl true) := by rw [is_lst_list]; exact ex_some
theorem x_is_lst_dict {x : List D} {P : D → Prop} : (∃ z, dIsi [(.lst x), .ty "dict"] = some z ∧ P z) = P (.bl false) := by rw [is_lst_dict]; exact ex_some
theorem x_is_frz_int {x : List D} {P : D → Prop} : (∃ z, dIsi [(.frz x), .ty "int"] = some z ∧ P z) = P (.bl false) := by rw [is_frz_int]; exact ex_some
theorem x_is_frz_bool {x : List D} {P : D → Prop} : (∃ z, dIsi [(.frz x), .ty "bool"] = some z ∧ P z) = P (.bl false) := by rw [is_frz_bool]; exact ex_some
theorem x_is_frz_tuple {x : List D} {P : D → Prop} : (∃ z, dIsi [(.frz x), .ty "tuple"] = some z ∧ P z) = P (.bl false) := by rw [is_frz_tuple]; exact ex_some
theorem x_is_frz_str {x : List D} {P : D → Prop} : (∃ z, dIsi [(.frz x), .ty "str"] = some z ∧ P z) = P (.bl false) := by rw [is_frz_str]; exact ex_some
theorem x_is_frz_list {x : List D} {P : D → Prop} : (∃ z, dIsi [(.frz x), .ty "list"] = some z ∧ P z) = P (.bl true) := by rw [is_frz_list]; exact ex_some
theorem x_is_frz_dict {x : List D} {P : D → Prop} : (∃ z, dIsi [(.frz x), .ty "dict"] = some z ∧ P z) = P (.bl false) := by rw [is_frz_dict]; exact ex_some
theorem x_is_dct_int {x : List (D × D)} {P : D → Prop} : (∃ z, dIsi [(.dct x), .ty "int"] = some z ∧ P z) = P (.bl false) := by rw [is_dct_int]; exact ex_some
theorem x_is_dct_bool {x : List (D × D)} {P : D → Prop} : (∃ z, dIsi [(.dct x), .ty "bool"] = some z ∧ P z) = P (.bl false) := by rw [is_dct_bool]; exact ex_some
theorem x_is_dct_tuple {x : List (D × D)} {P : D → Prop} : (∃ z, dIsi [(.dct x), .ty "tuple"] = some z ∧ P z) = P (.bl false) := by rw [is_dct_tuple]; exact ex_some
theorem x_is_dct_str {x : List (D × D)} {P : D → Prop} : (∃ z, dIsi [(.dct x), .ty "str"] = some z ∧ P z) = P (.bl false) := by rw [is_dct_str]; exact ex_some
theorem x_is_dct_list {x : List (D × D)} {P : D → Prop} : (∃ z, dIsi [(.dct x), .ty "list"] = some z ∧ P z) = P (.bl false) := by rw [is_dct_list]; exact ex_some
theorem x_is_dct_dict {x : List (D × D)} {P : D → Prop} : (∃ z, dIsi [(.dct x), .ty "dict"] = some z ∧ P z) = P (.bl true) := by rw [is_dct_dict]; exact ex_some
theorem x_is_ktp_int {x : List D} {P : D → Prop} : (∃ z, dIsi [(.ktp x), .ty "int"] = some z ∧ P z) = P (.bl false) := by rw [is_ktp_int]; exact ex_some
theorem x_is_ktp_bool {x : List D} {P : D → Prop} : (∃ z, dIsi [(.ktp x), .ty "bool"] = some z ∧ P z) = P (.bl false) := by rw [is_ktp_bool]; exact ex_some
theorem x_is_ktp_tuple {x : List D} {P : D → Prop} : (∃ z, dIsi [(.ktp x), .ty "tuple"] = some z ∧ P z) = P (.bl true) := by rw [is_ktp_tuple]; exact ex_some
theorem x_is_ktp_str {x : List D} {P : D → Prop} : (∃ z, dIsi [(.ktp x), .ty "str"] = some z ∧ P z) = P (.bl false) := by rw [is_ktp_str]; exact ex_some
theorem x_is_ktp_list {x : List D} {P : D → Prop} : (∃ z, dIsi [(.ktp x), .ty "list"] = some z ∧ P z) = P (.bl false) := by rw [is_ktp_list]; exact ex_some
theorem x_is_ktp_dict {x : List D} {P : D → Prop} : (∃ z, dIsi [(.ktp x), .ty "dict"] = some z ∧ P z) = P (.bl false) := by rw [is_ktp_dict]; exact ex_some
theorem x_eq_int {i j : Int} {P : D → Prop} : (∃ z, dEq (.int i) (.int j) = some z ∧ P z) = P (.bl (decide (i = j))) := by rw [eq_int]; exact ex_some
theorem x_ne_int {i j : Int} {P : D → Prop} : (∃ z, dNe (.int i) (.int j) = some z ∧ P z) = P (.bl (!decide (i = j))) := by rw [ne_int]; exact ex_some
theorem x_eq_bl {i j : Bool} {P : D → Prop} : (∃ z, dEq (.bl i) (.bl j) = some z ∧ P z) = P (.bl (decide (i = j))) := by rw [eq_bl]; exact ex_some
theorem x_ne_bl {i j : Bool} {P : D → Prop} : (∃ z, dNe (.bl i) (.bl j) = some z ∧ P z) = P (.bl (!decide (i = j))) := by rw [ne_bl]; exact ex_some
theorem x_eq_str {i j : Str} {P : D → Prop} : (∃ z, dEq (.str i) (.str j) = some z ∧ P z) = P (.bl (decide (i = j))) := by rw [eq_str]; exact ex_some
theorem x_ne_str {i j : Str} {P : D → Prop} : (∃ z, dNe (.str i) (.str j) = some z ∧ P z) = P (.bl (!decide (i = j))) := by rw [ne_str]; exact ex_some
theorem x_tr_bl {b : Bool} {P : Bool → Prop} : (∃ z, dTruth (.bl b) = some z ∧ P z) = P b := by rw [tr_bl]; exact ex_some
theorem x_tr_int {b : Int} {P : Bool → Prop} : (∃ z, dTruth (.int b) = some z ∧ P z) = P (b != 0) := by rw [tr_int]; exact ex_some
theorem x_ad_int {i j : Int} {P : D → Prop} : (∃ z, dAdd (.int i) (.int j) = some z ∧ P z) = P (.int (i + j)) := by rw [ad_int]; exact ex_some
theorem x_sb_int {i j : Int} {P : D → Prop} : (∃ z, dSub (.int i) (.int j) = some z ∧ P z) = P (.int (i - j)) := by rw [sb_int]; exact ex_some
theorem x_ng_int {i : Int} {P : D → Prop} : (∃ z, dNeg (.int i) = some z ∧ P z) = P (.int (-i)) := by rw [ng_int]; exact ex_some
theorem x_lt_int {i j : Int} {P : D → Prop} : (∃ z, dLt (.int i) (.int j) = some z ∧ P z) = P (.bl (decide (i < j))) := by rw [lt_int']; exact ex_some
theorem x_le_int {i j : Int} {P : D → Prop} : (∃ z, dLe (.int i) (.int j) = some z ∧ P z) = P (.bl (decide (i ≤ j))) := by rw [le_int']; exact ex_some
theorem x_gt_int {i j : Int} {P : D → Prop} : (∃ z, dGt (.int i) (.int j) = some z ∧ P z) = P (.bl (decide (j < i))) := by rw [gt_int']; exact ex_some
theorem x_ge_int {i j : Int} {P : D → Prop} : (∃ z, dGe (.int i) (.int j) = some z ∧ P z) = P (.bl (decide (j ≤ i))) := by rw [ge_int']; exact ex_some
theorem x_md_int {i j : Int} {P : D → Prop} : (∃ z, dMod (.int i) (.int j) = some z ∧ P z) = (j ≠ 0 ∧ P (.int (i.fmod j))) := by rw [md_int]; exact ex_ite
theorem x_fd_int {i j : Int} {P : D → Prop} : (∃ z, dFdiv (.int i) (.int j) = some z ∧ P z) = (CFd i j ∧ P (.int (i.fdiv j))) := by rw [fd_int]; exact ex_ite
theorem x_pw_int {i j : Int} {P : D → Prop} : (∃ z, dPow (.int i) (.int j) = some z ∧ P z) = (CPw i j ∧ P (.int (i ^ j.toNat))) := by rw [pw_int]; exact ex_ite
theorem x_ml_int {i j : Int} {P : D → Prop} : (∃ z, dMul (.int i) (.int j) = some z ∧ P z) = (CMulX i j ∧ P (.int (i * j))) := by rw [ml_int]; exact ex_ite
theorem x_ml_tup {a : List D} {k : Int} {P : D → Prop} : (∃ z, dMul (.tup a) (.int k) = some z ∧ P z) = ((a.length ≤ 1000 ∧ k ≤ 1000 ∧ -1000 ≤ k) ∧ P (.tup (List.replicate k.toNat a).flatten)) := by rw [ml_tup]; exact ex_ite
theorem x_ad_tup {a b : List D} {P : D → Prop} : (∃ z, dAdd (.tup a) (.tup b) = some z ∧ P z) = (a.length + b.length ≤ 16777216 ∧ P (.tup (a ++ b))) := by rw [ad_tup]; exact ex_ite
theorem x_ad_lst {a b : List D} {P : D → Prop} : (∃ z, dAdd (.lst a) (.lst b) = some z ∧ P z) = (a.length + b.length ≤ 16777216 ∧ P (.lst (a ++ b))) := by rw [ad_lst]; exact ex_ite
theorem x_ad_str {a b : Str} {P : D → Prop} : (∃ z, dAdd (.str a) (.str b) = some z ∧ P z) = (a.length + b.length ≤ 16777216 ∧ P (.str (a ++ b))) := by rw [ad_str]; exact ex_ite
theorem x_ab_int {i : Int} {P : D → Prop} : (∃ z, dAbs [.int i] = some z ∧ P z) = P (.int (if i < 0 then -i else i)) := by rw [ab_int]; exact ex_some
theorem x_ln_tup {xs : List D} {s : S} {P : D → Prop} : (∃ z, lenT s [.tup xs] = some z ∧ P z) = P (.int xs.length) := by rw [ln_tup]; exact ex_some
theorem x_ln_lst {xs : List D} {s : S} {P : D → Prop} : (∃ z, lenT s [.lst xs] = some z ∧ P z) = P (.int xs.length) := by rw [ln_lst]; exact ex_some
theorem x_ln_frz {xs : List D} {s : S} {P : D → Prop} : (∃ z, lenT s [.frz xs] = some z ∧ P z) = P (.int xs.length) := by rw [ln_frz]; exact ex_some
theorem x_ln_ktp {xs : List D} {s : S} {P : D → Prop} : (∃ z, lenT s [.ktp xs] = some z ∧ P z) = P (.int xs.length) := by rw [ln_ktp]; exact ex_some
theorem x_ln_dct {xs : List (D × D)} {s : S} {P : D → Prop} : (∃ z, lenT s [.dct xs] = some z ∧ P z) = P (.int xs.length) := by rw [ln_dct]; exact ex_some
theorem x_dI_tup {x : List D} {P : List D → Prop} : (∃ z, dIter (.tup x) = some z ∧ P z) = P x := by rw [dI_tup]; exact ex_some
theorem x_dI_lst {x : List D} {P : List D → Prop} : (∃ z, dIter (.lst x) = some z ∧ P z) = P x := by rw [dI_lst]; exact ex_some
theorem x_dI_frz {x : List D} {P : List D → Prop} : (∃ z, dIter (.frz x) = some z ∧ P z) = P x := by rw [dI_frz]; exact ex_some
theorem x_dI_ktp {x : List D} {P : List D → Prop} : (∃ z, dIter (.ktp x) = some z ∧ P z) = P x := by rw [dI_ktp]; exact ex_some
theorem x_dI_str {x : Str} {P : List D → Prop} : (∃ z, dIter (.str x) = some z ∧ P z) = P (strD x) := by rw [dI_str]; exact ex_some
theorem x_to_lst {x : List D} {P : D → Prop} : (∃ z, dTupOf [.lst x] = some z ∧ P z) = P (.tup x) := by rw [to_lst]; exact ex_some
theorem x_to_tup {x : List D} {P : D → Prop} : (∃ z, dTupOf [.tup x] = some z ∧ P z) = P (.tup x) := by rw [to_tup]; exact ex_some
theorem x_to_frz {x : List D} {P : D → Prop} : (∃ z, dTupOf [.frz x] = some z ∧ P z) = P (.tup x) := by rw [to_frz]; exact ex_some
theorem x_lo_lst {x : List D} {P : D → Prop} : (∃ z, dLstOf [.lst x] = some z ∧ P z) = P (.lst x) := by rw [lo_lst]; exact ex_some
theorem x_lo_tup {x : List D} {P : D → Prop} : (∃ z, dLstOf [.tup x] = some z ∧ P z) = P (.lst x) := by rw [lo_tup]; exact ex_some
theorem x_lo_frz {x : List D} {P : D → Prop} : (∃ z, dLstOf [.frz x] = some z ∧ P z) = P (.lst x) := by rw [lo_frz]; exact ex_some
theorem x_sl_tup {x : List D} {l h : Option Int} {P : D → Prop} : (∃ z, dSl (.tup x) l h = some z ∧ P z) = P (.tup (cutL x l h)) := by rw [sl_tup]; exact ex_some
theorem x_sl_lst {x : List D} {l h : Option Int} {P : D → Prop} : (∃ z, dSl (.lst x) l h = some z ∧ P z) = P (.lst (cutL x l h)) := by rw [sl_lst]; exact ex_some
theorem x_sl_frz {x : List D} {l h : Option Int} {P : D → Prop} : (∃ z, dSl (.frz x) l h = some z ∧ P z) = P (.lst (cutL x l h)) := by rw [sl_frz]; exact ex_some
theorem x_al_add {a b : List D} {P : D → Prop} : (∃ z, dAddL (.lst a) (.lst b) = some z ∧ P z) = (a.length + b.length ≤ 16777216 ∧ P (.lst (a ++ b))) := by rw [al_add]; exact ex_ite
theorem x_st_int {i : Int} {P : D → Prop} : (∃ z, dStr [.int i] = some z ∧ P z) = (i.natAbs.log2 < 1920 ∧ P (.str (toString i))) := by rw [st_int]; exact ex_ite
theorem x_st_str {i : Str} {P : D → Prop} : (∃ z, dStr [.str i] = some z ∧ P z) = P (.str i) := by rw [st_str]; exact ex_some
theorem x_nt_int {i : Int} {P : D → Prop} : (∃ z, dInt [.int i] = some z ∧ P z) = P (.int i) := by rw [nt_int]; exact ex_some
theorem x_nt_bl {k : Bool} {P : D → Prop} : (∃ z, dInt [.bl k] = some z ∧ P z) = P (.int (if k then 1 else 0)) := by rw [nt_bl]; exact ex_some
theorem x_mx_int {i j : Int} {P : D → Prop} : (∃ z, dMax [.int i, .int j] = some z ∧ P z) = P (.int (if j > i then j else i)) := by rw [mx_int]; exact ex_some
theorem x_mn_int {i j : Int} {P : D → Prop} : (∃ z, dMin [.int i, .int j] = some z ∧ P z) = P (.int (if j < i then j else i)) := by rw [mn_int]; exact ex_some
theorem x_is_bl {a b : Bool} {P : D → Prop} : (∃ z, dIs (.bl a) (.bl b) = some z ∧ P z) = P (.bl (decide (a = b))) := by rw [is_bl]; exact ex_some
theorem x_isnt_bl {a b : Bool} {P : D → Prop} : (∃ z, dIsnt (.bl a) (.bl b) = some z ∧ P z) = P (.bl (!decide (a = b))) := by rw [isnt_bl]; exact ex_some
theorem x_chain {o : Option D} {b : Bool} {P : Bool → Prop} (h : o = some (.bl b)) : (∃ c, o = some (.bl c) ∧ P c) = P b := by subst h; simp
theorem x_cle (i j : Int) {P : Bool → Prop} : (∃ c, dLe (.int i) (.int j) = some (.bl c) ∧ P c) = P (decide (i ≤ j)) := x_chain rfl
theorem x_clt (i j : Int) {P : Bool → Prop} : (∃ c, dLt (.int i) (.int j) = some (.bl c) ∧ P c) = P (decide (i < j)) := x_chain rfl
theorem x_lntok (n : Nat) {s : S} {P : D → Prop} : (∃ z, lenT s [.tok n] = some z ∧ P z) = ∃ l, tokL s n = some l ∧ P (.int (l.length : Int)) := by rw [ln_tok]; exact ex_map
theorem x_ixtok (n : Nat) (i : Int) {s : S} {P : D → Prop} : (∃ z, dIxT s (.tok n) (.int i) = some z ∧ P z) = ∃ l, tokL s n = some l ∧ ∃ z, atI l i = some z ∧ P z := by rw [ix_tok]; exact ex_bind
theorem x_ixtup (xs : List D) (i : Int) {s : S} {P : D → Prop} : (∃ z, dIxT s (.tup xs) (.int i) = some z ∧ P z) = ∃ z, atI xs i = some z ∧ P z := rfl
theorem x_ixlst (xs : List D) (i : Int) {s : S} {P : D → Prop} : (∃ z, dIxT s (.lst xs) (.int i) = some z ∧ P z) = ∃ z, atI xs i = some z ∧ P z := rfl
theorem x_ixfrz (xs : List D) (i : Int) {s : S} {P : D → Prop} : (∃ z, dIxT s (.frz xs) (.int i) = some z ∧ P z) = ∃ z, atI xs i = some z ∧ P z := rfl
theorem x_ixktp (xs : List D) (i : Int) {s : S} {P : D → Prop} : (∃ z, dIxT s (.ktp xs) (.int i) = some z ∧ P z) = ∃ z, atI xs i = some z ∧ P z := rfl
theorem x_all (x : List D) {P : D → Prop} : (∃ z, dAll [.lst x] = some z ∧ P z) = ∃ l, blsOf x = some l ∧ P (.bl (l.all id)) := by rw [al_lst]; exact ex_map
theorem x_any (x : List D) {P : D → Prop} : (∃ z, dAny [.lst x] = some z ∧ P z) = ∃ l, blsOf x = some l ∧ P (.bl (l.any id)) := by rw [an_lst]; exact ex_map
theorem x_sum (x : List D) {P : D → Prop} : (∃ z, dSum [.lst x] = some z ∧ P z) = ∃ l, intsOf x = some l ∧ P (.int l.sum) := by rw [sm_lst]; exact ex_map
theorem x_neT (n : Nat) {y : D} {s : S} {P : D → Prop} : (∃ z, dNeT s (.tok n) y = some z ∧ P z) = ∃ l, tokL s n = some l ∧ ∃ z, dNe (.lst l) y = some z ∧ P z := by rw [nT_tok]; exact ex_bind
theorem x_at0 {a : D} {l : List D} {P : D → Prop} : (∃ z, atI (a :: l) 0 = some z ∧ P z) = P a := by rw [at_0]; exact ex_some
theorem x_at1 {a b : D} {l : List D} {P : D → Prop} : (∃ z, atI (a :: b :: l) 1 = some z ∧ P z) = P b := by rw [at_1]; exact ex_some
theorem x_at2 {a b c : D} {l : List D} {P : D → Prop} : (∃ z, atI (a :: b :: c :: l) 2 = some z ∧ P z) = P c := by rw [at_2]; exact ex_some
theorem x_at3 {a b c d : D} {l : List D} {P : D → Prop} : (∃ z, atI (a :: b :: c :: d :: l) 3 = some z ∧ P z) = P d := by rw [at_3]; exact ex_some
theorem x_at4 {a b c d e : D} {l : List D} {P : D → Prop} : (∃ z, atI (a :: b :: c :: d :: e :: l) 4 = some z ∧ P z) = P e := by rw [at_4]; exact ex_some
theorem x_tk0 {ds : List D} {r : S} {P : List D → Prop} : (∃ l, tokL (.l ds :: r) 0 = some l ∧ P l) = P ds := by rw [tk_0]; exact ex_some
theorem x_tk1 {c : Cell} {ds : List D} {r : S} {P : List D → Prop} : (∃ l, tokL (c :: .l ds :: r) 1 = some l ∧ P l) = P ds := by rw [tk_1]; exact ex_some
theorem ixN_lit {n : Nat} {j : Nat} (h : j < n) : ixN n (j : Int) = some j := by
  have := atI_nat (xs := List.range n) (j := j) (v := j) (by simp [h])
  unfold atI at this
  rw [List.length_range] at this
  cases e : ixN n (j : Int) with
  | none => rw [e] at this; cases this
  | some k =>
    rw [e] at this
    have h2 : (List.range n)[k]? = some j := this
    obtain ⟨hk, e2⟩ := List.getElem?_eq_some_iff.mp h2
    rw [List.getElem_range] at e2
    rw [e2]
theorem x_ix30 {P : Nat → Prop} : (∃ j, ixN 3 0 = some j ∧ P j) = P 0 := by rw [show ixN 3 0 = some 0 from ixN_lit (j := 0) (by decide)]; exact ex_some
theorem x_ix31 {P : Nat → Prop} : (∃ j, ixN 3 1 = some j ∧ P j) = P 1 := by rw [show ixN 3 1 = some 1 from ixN_lit (j := 1) (by decide)]; exact ex_some
theorem x_ix32 {P : Nat → Prop} : (∃ j, ixN 3 2 = some j ∧ P j) = P 2 := by rw [show ixN 3 2 = some 2 from ixN_lit (j := 2) (by decide)]; exact ex_some
/-! ### sizes of numbers -/
def Bd (i : Int) (n : Nat) : Prop := i.natAbs < 2 ^ n
theorem bd_of {i : Int} {n : Nat} (h : i.natAbs < 2 ^ n) : Bd i n := h
theorem bd_mono {i : Int} {n m : Nat} (h : Bd i n) (k : n ≤ m) : Bd i m := Nat.lt_of_lt_of_le h (Nat.pow_le_pow_right (by decide) k)
theorem bd_add {i j : Int} {n m : Nat} (h : Bd i n) (k : Bd j m) : Bd (i + j) (n + m + 1) := by
  have a := bd_mono h (show n ≤ n + m by omega)
  have b := bd_mono k (show m ≤ n + m by omega)
  unfold Bd at a b ⊢
  rw [Nat.pow_succ]
  have := Int.natAbs_add_le i j
  omega
theorem bd_sub {i j : Int} {n m : Nat} (h : Bd i n) (k : Bd j m) : Bd (i - j) (n + m + 1) := by
  have a := bd_mono h (show n ≤ n + m by omega)
  have b := bd_mono k (show m ≤ n + m by omega)
  unfold Bd at a b ⊢
  rw [Nat.pow_succ]
  omega
theorem bd_mul {i j : Int} {n m : Nat} (h : Bd i n) (k : Bd j m) : Bd (i * j) (n + m) := by
  unfold Bd at h k ⊢
  rw [Int.natAbs_mul, Nat.pow_add]
  exact Nat.mul_lt_mul'' h k
theorem bd_pow {i : Int} {n : Nat} (h : Bd i n) : ∀ k : Nat, Bd (i ^ k) (n * k + 1)
  | 0 => by show (i ^ 0).natAbs < 2 ^ (n * 0 + 1); simp
  | k + 1 => by
    have := bd_mul (bd_pow h k) h
    rw [Int.pow_succ]
    exact bd_mono this (by rw [Nat.mul_succ]; omega)
theorem bd_fmod {i j : Int} {n : Nat} (h : 0 < j) (k : Bd j n) : Bd (i.fmod j) n := by
  have := fmod_rng (i := i) h
  unfold Bd at k ⊢
  omega
theorem bd_rng {i j : Int} {n : Nat} (h0 : 0 ≤ i) (h1 : i ≤ j) (k : j < 2 ^ n) : Bd i n := by
  unfold Bd
  have : ((i.natAbs : Nat) : Int) < ((2 ^ n : Nat) : Int) := by push_cast; omega
  exact Int.ofNat_lt.mp this
theorem c_mul {i j : Int} {n m : Nat} (h1 : Bd i n) (h2 : Bd j m) (h : n + m ≤ 134217728) : CMulX i j := cmul_of h1 h2 h
theorem c_pow3 {i : Int} {n : Nat} (h1 : Bd i n) (h : n * 3 ≤ 134217728) : CPw i 3 := cpw_of (k := 3) h1 h
theorem c_pow5 {i : Int} {n : Nat} (h1 : Bd i n) (h : n * 5 ≤ 134217728) : CPw i 5 := cpw_of (k := 5) h1 h
theorem c_pow2 {i : Int} {n : Nat} (h1 : Bd i n) (h : n * 2 ≤ 134217728) : CPw i 2 := cpw_of (k := 2) h1 h
theorem ne_nil {xs : List D} (h : ready (.lst xs) = true) : dNe (.lst xs) (.lst []) = some (.bl (!xs.isEmpty)) := by
  have : (if ready (.lst xs) && ready (.lst []) then some (D.bl (!eqB (.lst xs) (.lst []))) else none) = dNe (.lst xs) (.lst []) := rfl
  rw [← this, h, show ready (.lst []) = true from rfl]
  simp only [Bool.and_self, if_true]
  cases xs with
  | nil => simp [eqB, toPy, toPys, PyData.eqv, PyData.eqvAll]
  | cons x l => simp [eqB, toPy, toPys, PyData.eqv, PyData.eqvAll]
theorem at_map {ns : List Int} {i : Int} (h0 : 0 ≤ i) (h1 : i < (ns.map D.int).length) : ∃ c : Int, atI (ns.map D.int) i = some (.int c) := by
  obtain ⟨d, e, h⟩ := atI_of h0 h1
  rw [List.getElem?_map] at h
  obtain ⟨c, _, rfl⟩ := Option.map_eq_some_iff.mp h
  exact ⟨c, e⟩
/-! ### pure comprehensions -/
theorem comp_map {g : DG} {c : DT} {f : DE} {ρ : List Sl} {s : S} {ds : List D} (F : D → D) (h : ∀ d ∈ ds, ∃ ρ1, g d ρ = some ρ1 ∧ wp (c ρ1 s) (fun b s1 => b = true ∧ s1 = s) (fun _ _ => False) ∧ wp (f ρ1 s) (fun y s1 => y = F d ∧ s1 = s) fun _ _ => False) :
    wp (compN g c f ρ ds s) (fun ys s' => ys = ds.map F ∧ s' = s) fun _ _ => False := by
  refine comp_inv (fun i acc s' => acc = (ds.take i).map F ∧ s' = s) ⟨by simp, rfl⟩ (fun i d acc s' e ⟨e1, e2⟩ => ?_) (fun ys s' ⟨e1, e2⟩ => ⟨by rw [e1, List.take_length], e2⟩)
  subst e2
  obtain ⟨ρ1, h1, h2, h3⟩ := h d (List.mem_of_getElem? e)
  refine ⟨ρ1, h1, wp_mono h2 (fun b s1 ⟨eb, es⟩ => ?_) fun _ _ z => z⟩
  subst eb es
  simp only [if_true]
  refine wp_mono h3 (fun y s2 ⟨ey, es⟩ => ⟨?_, es⟩) fun _ _ z => z
  rw [ey, e1, List.take_add_one, e, List.map_append]
  with_unfolding_all rfl
theorem wpk_of {vs : List Nat} {g : DG} {c : DT} {f : DE} {ds : List D} {Q : D → S → Prop} {w : Wit Q X} {P : List D → S → Prop} (hl : ds.length ≤ 16777216) (h : wp (compN g c f (wipeD ρ vs) ds s) P fun _ _ => False) (i : ∀ ys s', P ys s' → Q (.lst ys) s') : wpk vs g c f ds ρ s Q X w :=
  ⟨hl, wp_mono h (fun ys s' q => i _ _ q) fun _ _ z => z⟩
theorem wpl_of {clr : List Nat} {g : DG} {b : DS} {ds : List D} {w : Wits N B C R X} (I : Nat → List Sl → S → Prop) (h0 : I 0 (wipeD ρ clr) s)
    (hs : ∀ i d ρ s, ds[i]? = some d → I i ρ s → ∃ ρ1, g d ρ = some ρ1 ∧ wps (b ρ1 s) (fun ρ2 s2 => I (i + 1) (wipeD ρ2 clr) s2) (fun ρ2 s2 => N (wipeD ρ2 clr) s2) (fun ρ2 s2 => I (i + 1) (wipeD ρ2 clr) s2) R X)
    (hn : ∀ ρ s, I ds.length ρ s → N ρ s) : wpl clr g b ds ρ s N B C R X w := loop_inv I h0 hs hn
theorem wpw_of {clr : List Nat} {c : DT} {b : DS} {w : Wits N B C R X} (I : List Sl → S → Prop) (m : List Sl → Nat) (h0 : I (wipeD ρ clr) s)
    (hs : ∀ ρ s, I ρ s → wp (c ρ s) (fun k s1 => if k = true then wps (b ρ s1) (fun ρ2 s2 => I (wipeD ρ2 clr) s2 ∧ m (wipeD ρ2 clr) < m ρ) N (fun ρ2 s2 => I (wipeD ρ2 clr) s2 ∧ m (wipeD ρ2 clr) < m ρ) R X else N ρ s1) X) : wpw clr c b ρ s N B C R X w := wps_while I m h0 hs
/-! ### what may be shown, and how long it is -/
mutual
def wt : D → Nat
  | .non => 4
  | .bl _ => 5
  | .int i => i.natAbs.log2 + 2
  | .str x => 10 * x.length + 2
  | .tup xs => wts xs + 3
  | .lst xs => wts xs + 3
  | .frz xs => wts xs + 3
  | .dct kvs => wtk kvs + 3
  | .tok _ => 4
  | .ty _ => 4
  | .glb _ => 4
  | .ktp xs => wts xs + 3
  | .exc _ => 4
  | .fd _ _ => 4
def wts : List D → Nat
  | [] => 0
  | x :: xs => wt x + 2 + wts xs
def wtk : List (D × D) → Nat
  | [] => 0
  | (k, v) :: r => wt k + wt v + 4 + wtk r
end
mutual
def sOk : D → Bool
  | .str x => x.cps.toList.all fun c => decide (c < 16 ^ 8)
  | .tup xs => sOks xs
  | .lst xs => sOks xs
  | .frz xs => sOks xs
  | .dct kvs => sOkk kvs
  | .ktp xs => sOks xs
  | _ => true
def sOks : List D → Bool
  | [] => true
  | x :: xs => sOk x && sOks xs
def sOkk : List (D × D) → Bool
  | [] => true
  | (k, v) :: r => sOk k && sOk v && sOkk r
end
theorem shownAll_len : ∀ xs : List PyData, (PyData.shownAll xs).length = xs.length
  | [] => by simp [PyData.shownAll]
  | x :: xs => by simp [PyData.shownAll, shownAll_len xs]
mutual
theorem shown_wt : ∀ d : D, sOk d = true → (toPy d).shown.length ≤ wt d
  | .non, _ => by simp only [toPy, wt]; exact Nat.le_refl _
  | .bl b, _ => by
    have e : (PyData.shown (.bool b)).length ≤ 5 := by cases b <;> decide
    simpa only [toPy, wt] using e
  | .int i, _ => by
    have e := int_text_length_le (a := i) (k := i.natAbs.log2 + 1) (by omega) (by omega)
    simp only [toPy, wt, PyData.shown]
    rw [PySem.ofString_length]
    exact e
  | .str x, h => by
    have e := StrLaws.reprText_len x (by simpa only [sOk, List.all_eq_true, decide_eq_true_eq] using h)
    simpa only [toPy, wt, PyData.shown] using e
  | .tup xs, h => by
    have h1 := shown_wts xs (by simpa only [sOk] using h)
    have h2 := tupleText_len_le (PyData.shownAll (toPys xs))
    simp only [toPy, wt, PyData.shown]
    rw [shownAll_len] at h2
    omega
  | .lst xs, h => by
    have h1 := shown_wts xs (by simpa only [sOk] using h)
    have h2 := listText_len_le (PyData.shownAll (toPys xs))
    simp only [toPy, wt, PyData.shown]
    rw [shownAll_len] at h2
    omega
  | .frz xs, h => by
    have h1 := shown_wts xs (by simpa only [sOk] using h)
    have h2 := listText_len_le (PyData.shownAll (toPys xs))
    simp only [toPy, wt, PyData.shown]
    rw [shownAll_len] at h2
    omega
  | .ktp xs, h => by
    have h1 := shown_wts xs (by simpa only [sOk] using h)
    have h2 := tupleText_len_le (PyData.shownAll (toPys xs))
    simp only [toPy, wt, PyData.shown]
    rw [shownAll_len] at h2
    omega
  | .dct kvs, h => by
    have h1 := shown_wtk kvs (by simpa only [sOk] using h)
    have h2 := dictText_len_le (PyData.shownKv (toPyKv kvs))
    rw [PyData.shownKv_length] at h2
    simp only [toPy, wt, PyData.shown]
    omega
  | .tok _, _ => by simp only [toPy, wt]; exact Nat.le_refl _
  | .ty _, _ => by simp only [toPy, wt]; exact Nat.le_refl _
  | .glb _, _ => by simp only [toPy, wt]; exact Nat.le_refl _
  | .exc _, _ => by simp only [toPy, wt]; exact Nat.le_refl _
  | .fd _ _, _ => by simp only [toPy, wt]; exact Nat.le_refl _
theorem shown_wts : ∀ xs : List D, sOks xs = true → ((PyData.shownAll (toPys xs)).map (·.length)).sum + 2 * (toPys xs).length ≤ wts xs
  | [], _ => by simp [toPys, PyData.shownAll, wts]
  | x :: xs, h => by
    simp only [sOks, Bool.and_eq_true] at h
    have h1 := shown_wt x h.1
    have h2 := shown_wts xs h.2
    simp only [toPys, PyData.shownAll, wts, List.map_cons, List.sum_cons, List.length_cons]
    omega
theorem shown_wtk : ∀ kvs : List (D × D), sOkk kvs = true → ((PyData.shownKv (toPyKv kvs)).map (·.length)).sum + 2 * (toPyKv kvs).length ≤ wtk kvs
  | [], _ => by simp [toPyKv, PyData.shownKv, wtk]
  | (k, v) :: r, h => by
    simp only [sOkk, Bool.and_eq_true] at h
    have h1 := shown_wt k h.1.1
    have h2 := shown_wt v h.1.2
    have h3 := shown_wtk r h.2
    have e2 : ((toPy k).shown ++ ": " ++ (toPy v).shown).length = (toPy k).shown.length + 2 + (toPy v).shown.length := by
      rw [strLen_append, strLen_append]; rfl
    simp only [toPyKv, PyData.shownKv, wtk, List.map_cons, List.sum_cons, List.length_cons]
    omega
end
/-- d may be shown: no deeper than n, no longer than w -/
structure ShyL (L : Nat) (d : D) (n w : Nat) : Prop where
  ok : okR L d = true
  so : sOk d = true
  dp : (toPy d).depth ≤ n
  wt : wt d ≤ w
structure ShysL (L : Nat) (d : List D) (n w : Nat) : Prop where
  ok : okRs L d = true
  so : sOks d = true
  dp : PyData.depthAll (toPys d) ≤ n
  wt : wts d ≤ w
theorem ShyL.mono {L : Nat} {d : D} {n w n' w' : Nat} (h : ShyL L d n w) (a : n ≤ n') (b : w ≤ w') : ShyL L d n' w' := ⟨h.ok, h.so, Nat.le_trans h.dp a, Nat.le_trans h.wt b⟩
theorem ShysL.mono {L : Nat} {d : List D} {n w n' w' : Nat} (h : ShysL L d n w) (a : n ≤ n') (b : w ≤ w') : ShysL L d n' w' := ⟨h.ok, h.so, Nat.le_trans h.dp a, Nat.le_trans h.wt b⟩
theorem shys_nil {L : Nat} : ShysL L [] 0 0 := ⟨by simp [okRs], by simp [sOks], by simp [toPys, PyData.depthAll], by simp [wts]⟩
theorem shys_cons {L : Nat} {d : D} {ds : List D} {n w n' w' : Nat} (h : ShyL L d n w) (k : ShysL L ds n' w') : ShysL L (d :: ds) (max n n') (w + w' + 2) := by
  refine ⟨by simp [okRs, h.ok, k.ok], by simp [sOks, h.so, k.so], ?_, ?_⟩
  · have := h.dp; have := k.dp
    simp only [toPys, PyData.depthAll]
    omega
  · have := h.wt; have := k.wt
    simp only [wts]
    omega
theorem shys_all {L : Nat} {n w : Nat} : ∀ {ds : List D}, (∀ d ∈ ds, ShyL L d n w) → ShysL L ds n (ds.length * (w + 2))
  | [], _ => shys_nil.mono (Nat.zero_le _) (Nat.zero_le _)
  | d :: ds, h => (shys_cons (h d List.mem_cons_self) (shys_all fun x hx => h x (List.mem_cons_of_mem _ hx))).mono (by omega) (by rw [List.length_cons, Nat.add_mul]; omega)
theorem shy_tup {L : Nat} {ds : List D} {n w : Nat} (h : ShysL L ds n w) : ShyL L (.tup ds) (n + 1) (w + 3) := ⟨by simpa [okR] using h.ok, by simpa [sOk] using h.so, by have := h.dp; simp only [toPy, PyData.depth]; omega, by have := h.wt; simp only [DL.wt]; omega⟩
theorem shy_lst {L : Nat} {ds : List D} {n w : Nat} (h : ShysL L ds n w) : ShyL L (.lst ds) (n + 1) (w + 3) := ⟨by simpa [okR] using h.ok, by simpa [sOk] using h.so, by have := h.dp; simp only [toPy, PyData.depth]; omega, by have := h.wt; simp only [DL.wt]; omega⟩
theorem shy_int {L : Nat} {i : Int} {n : Nat} (h : Bd i n) (hn : 0 < n ∧ n ≤ L) : ShyL L (.int i) 0 (n + 2) := by
  have : i.natAbs.log2 < n := by
    by_cases e : i.natAbs = 0
    · rw [e]; simpa using hn.1
    · exact (Nat.log2_lt e).mpr h
  refine ⟨?_, by simp [sOk], by simp [toPy, PyData.depth], by simp only [DL.wt]; omega⟩
  simp only [okR, decide_eq_true_eq]
  omega
theorem shy_bl {L : Nat} {b : Bool} : ShyL L (.bl b) 0 5 := ⟨by simp [okR], by simp [sOk], by simp [toPy, PyData.depth], by simp [DL.wt]⟩
theorem shy_non {L : Nat} : ShyL L .non 0 4 := ⟨by simp [okR], by simp [sOk], by simp [toPy, PyData.depth], by simp [DL.wt]⟩
theorem shy_str {L : Nat} {x : Str} {k : Nat} (h : (x.cps.toList.all fun c => decide (c < 16 ^ 8)) = true) (hl : x.length ≤ k) : ShyL L (.str x) 0 (10 * k + 2) := ⟨by simp [okR], by simpa [sOk] using h, by simp [toPy, PyData.depth], by simp only [DL.wt]; omega⟩
theorem shy_dct0 {L : Nat} : ShyL L (.dct []) 1 3 := ⟨by simp [okR, okRk], by simp [sOk, sOkk], by simp [toPy, toPyKv, PyData.depth, PyData.depthKv], by simp [DL.wt, wtk]⟩
theorem shy_dct1 {L : Nat} {k v : D} {n w n' w' : Nat} (h : ShyL L k n w) (h' : ShyL L v n' w') : ShyL L (.dct [(k, v)]) (n + n' + 1) (w + w' + 7) := by
  refine ⟨by simp [okR, okRk, h.ok, h'.ok], by simp [sOk, sOkk, h.so, h'.so], ?_, ?_⟩
  · have := h.dp; have := h'.dp
    simp only [toPy, toPyKv, PyData.depth, PyData.depthKv]
    omega
  · have := h.wt; have := h'.wt
    simp only [DL.wt, wtk]
    omega
theorem rep_of {L : Nat} {d : D} {n w : Nat} (h : ShyL L d n w) (hn : n ≤ 90) (hw : w ≤ 16777216) : repD L d = some (.str (toPy d).shown) := by
  unfold repD
  rw [if_pos]
  exact ⟨h.ok, Nat.le_trans h.dp hn, Nat.le_trans (shown_wt d h.so) (Nat.le_trans h.wt hw)⟩
theorem wp_tAll {Q : Bool → S → Prop} : wp (tAll ρ s) Q X = Q true s := by with_unfolding_all rfl
theorem wp_ms1 {g : Str → D → Option D} {f h : DE} {Q : D → S → Prop} : wp (eMs1 g f h ρ s) Q X = wp (f ρ s) (fun x s1 => ∃ a, x = .str a ∧ wp (h ρ s1) (fun y s2 => ∃ z, g a y = some z ∧ Q z s2) X) X := by
  unfold eMs1
  rw [wp_bind]
  congr 1
  funext x s1
  cases x with
  | str a =>
    simp only [D.str.injEq, exists_eq_left']
    rw [wp_bind]
    congr 1
    funext y s2
    rw [wp_ofO]
  | _ => simp [wp]
theorem wp_ms0 {g : Str → Option D} {f : DE} {Q : D → S → Prop} : wp (eMs0 g f ρ s) Q X = wp (f ρ s) (fun x s1 => ∃ a, x = .str a ∧ ∃ z, g a = some z ∧ Q z s1) X := by
  unfold eMs0
  rw [wp_bind]
  congr 1
  funext x s1
  cases x with
  | str a =>
    simp only [D.str.injEq, exists_eq_left']
    rw [wp_ofO]
  | _ => simp [wp]
theorem q_str {i : Str} {P : Str → Prop} : (∃ c, D.str i = .str c ∧ P c) = P i := by simp
theorem wp_ev0 {Q : List (Key × D) → S → Prop} : wp (evPairs [] ρ s) Q X = Q [] s := by with_unfolding_all rfl
theorem wp_ev1 {f g : DE} {r : List (DE × DE)} {Q : List (Key × D) → S → Prop} : wp (evPairs ((f, g) :: r) ρ s) Q X = wp (f ρ s) (fun k s1 => wp (g ρ s1) (fun d s2 => ∃ k', dk k = some k' ∧ wp (evPairs r ρ s2) (fun ps s3 => Q ((k', d) :: ps) s3) X) X) X := by
  rw [evPairs]
  rw [wp_bind]
  congr 1
  funext k s1
  rw [wp_bind]
  congr 1
  funext d s2
  cases dk k with
  | none => simp [wp]
  | some k' =>
    simp only [Option.some.injEq, exists_eq_left']
    rw [wp_bind]
    with_unfolding_all rfl
theorem wp_disp {ps : List (DE × DE)} {Q : D → S → Prop} : wp (eDisp ps ρ s) Q X = wp (evPairs ps ρ s) (fun l s1 => Q (.dct (mergeD l)) s1) X := by
  unfold eDisp
  rw [wp_bind]
  with_unfolding_all rfl
theorem x_dki {i : Int} {P : Key → Prop} : (∃ k, dk (.int i) = some k ∧ P k) = P (.inl i) := by simp [dk]
theorem x_dks {i : Str} {P : Key → Prop} : (∃ k, dk (.str i) = some k ∧ P k) = P (.inr i) := by simp [dk]
theorem merge1 {k : Key} {d : D} : mergeD [(k, d)] = [(kD k, d)] := rfl
theorem wp_pub {f : DE} {Q : D → S → Prop} : wp (ePub f ρ s) Q X = wp (f ρ s) (fun d s1 => ∃ ds, d = .lst ds ∧ flats ds = true ∧ Q (.tok s1.length) (s1 ++ [.l ds])) X := by
  unfold ePub
  rw [wp_bind]
  congr 1
  funext d s1
  cases d with
  | lst ds =>
    simp only [D.lst.injEq, exists_eq_left']
    by_cases h : flats ds = true <;> simp [h, wp]
  | _ => simp [wp]
theorem flats_ints : ∀ ns : List Int, flats (ns.map D.int) = true
  | [] => by simp [flats]
  | n :: ns => by simp [flats, flat, flats_ints ns]
theorem cutL_map {α β : Type} (f : α → β) (xs : List α) (lo hi : Option Int) : cutL (xs.map f) lo hi = (cutL xs lo hi).map f := by
  unfold cutL
  rw [List.length_map, List.map_take, List.map_drop]
end
end DL
namespace DL
open PySem PySem.Spec PyProof.Rows L2
/-! ### exceptions, plainly -/
section
variable {α : Type} {Q Q' : α → S → Prop} {X X' : Str → S → Prop} {ρ : List Sl} {s : S} {N B C : List Sl → S → Prop} {R : D → S → Prop}
theorem wps_raise {c : Str} : wps (sRaise c ρ s) N B C R X = X c s := by with_unfolding_all rfl
theorem q_tryE {tb : XTb} {c : Str} {i j : Nat} {f : DE} : wps (sTryE tb c i j f ρ s) N B C R X = wp (f ρ s) (fun _ s1 => N ρ s1) (fun x s1 => ∃ b, isX tb x c = some b ∧ if b = true then wpn ρ [(j, .dat (.exc x)), (i, .emp)] (fun ρ1 => N ρ1 s1) else X x s1) := by
  unfold sTryE
  cases f ρ s with
  | ok d s1 => with_unfolding_all rfl
  | bad => with_unfolding_all rfl
  | exc x s1 =>
    simp only [wp]
    cases isX tb x c with
    | none => simp [wps]
    | some b =>
      cases b with
      | true => simp [wps, wpn, set_at]
      | false => simp [wps]
theorem q_tryA {tb : XTb} {c : Str} {i j k : Nat} {f : DE} : wps (sTryA tb c i j k f ρ s) N B C R X = wp (f ρ s) (fun d s1 => wpn ρ [(k, .dat d)] fun ρ1 => N ρ1 s1) (fun x s1 => ∃ b, isX tb x c = some b ∧ if b = true then wpn ρ [(j, .dat (.exc x)), (i, .emp)] (fun ρ1 => N ρ1 s1) else X x s1) := by
  unfold sTryA
  cases f ρ s with
  | ok d s1 => simp [wps, wp, wpn, set_at]
  | bad => with_unfolding_all rfl
  | exc x s1 =>
    simp only [wp]
    cases isX tb x c with
    | none => simp [wps]
    | some b =>
      cases b with
      | true => simp [wps, wpn, set_at]
      | false => simp [wps]
theorem x_isX1 {tb : XTb} {x y : Str} {P : D → Prop} : (∃ z, dIsX tb [.exc x, .glb y] = some z ∧ P z) = ∃ b, isX tb x y = some b ∧ P (.bl b) := by
  show (∃ z, (isX tb x y).map D.bl = some z ∧ P z) = _
  exact ex_map
theorem x_isXv {tb : XTb} {x : Str} {P : D → Prop} : (∃ z, dIsX tb [.exc x, .ty "ValueError"] = some z ∧ P z) = ∃ b, isX tb x "ValueError" = some b ∧ P (.bl b) := by
  show (∃ z, (if "ValueError" = "ValueError" then (isX tb x "ValueError").map D.bl else none) = some z ∧ P z) = _
  rw [if_pos rfl]
  exact ex_map
theorem x_isXt {tb : XTb} {x y : Str} {cs : List D} {P : D → Prop} : (∃ z, dIsX tb [.exc x, .tup (.glb y :: cs)] = some z ∧ P z) = ∃ b, isXs tb x (.glb y :: cs) = some b ∧ P (.bl b) := by
  show (∃ z, (isXs tb x (.glb y :: cs)).map D.bl = some z ∧ P z) = _
  exact ex_map
end
/-! ### plain things -/
def isInt : D → Bool
  | .int _ => true
  | _ => false
def plain (d : D) : Bool := (tyD d).isSome
theorem ii_int {i : Int} : isInt (.int i) = true := rfl
theorem ii_bl {i : Bool} : isInt (.bl i) = false := rfl
theorem ii_non : isInt .non = false := rfl
theorem ii_str {i : Str} : isInt (.str i) = false := rfl
theorem ii_tup {i : List D} : isInt (.tup i) = false := rfl
theorem ii_ktp {i : List D} : isInt (.ktp i) = false := rfl
theorem ii_lst {i : List D} : isInt (.lst i) = false := rfl
theorem ii_frz {i : List D} : isInt (.frz i) = false := rfl
theorem ii_dct {i : List (D × D)} : isInt (.dct i) = false := rfl
/-! ### sizes -/
theorem cfd_bd {i j : Int} (h0 : j ≠ 0) (h : Bd j 9000) : CFd i j := by
  refine ⟨h0, ?_⟩
  unfold Builtin.divisionGoesByPylong
  have hne : j.natAbs ≠ 0 := by omega
  have : j.natAbs.log2 < 9000 := (Nat.log2_lt hne).mpr h
  have hb : (j == 0) = false := by simpa using h0
  simp only [hb]
  simp
  intro h1
  omega
theorem bd_int {i : Int} (n : Nat) (h0 : -(2 ^ n : Int) < i) (h1 : i < 2 ^ n) : Bd i n := by
  unfold Bd
  have : ((i.natAbs : Nat) : Int) < ((2 ^ n : Nat) : Int) := by push_cast; omega
  exact Int.ofNat_lt.mp this
theorem bd_le {i j : Int} {n : Nat} (h : Bd j n) (k : i.natAbs ≤ j.natAbs) : Bd i n := Nat.lt_of_le_of_lt k h
theorem bd_gcd {i j : Int} {n : Nat} (h : Bd j n) (hj : j ≠ 0) : Bd (Int.gcd i j : Int) n := by
  refine bd_le h ?_
  rw [Int.natAbs_natCast]
  exact Nat.le_of_dvd (by omega) (Nat.gcd_dvd_right _ _)
/-! ### ratios -/
def rat (q : Rat) : D := .tup [.int q.num, .int q.den]
structure RB (q : Rat) (n : Nat) : Prop where
  nu : Bd q.num n
  de : Bd (q.den : Int) n
theorem RB.mono {q : Rat} {n m : Nat} (h : RB q n) (k : n ≤ m) : RB q m := ⟨bd_mono h.nu k, bd_mono h.de k⟩
theorem fdiv_exact {a g : Int} (hg : 0 < g) (h : g ∣ a) : a.fdiv g = a / g := Int.fdiv_eq_ediv_of_nonneg _ (Int.le_of_lt hg)
theorem fdiv_neg_exact {a g : Int} (hg : 0 < g) (h : g ∣ a) : a.fdiv (-g) = -(a / g) := by
  obtain ⟨k, rfl⟩ := h
  rw [Int.mul_ediv_cancel_left _ (by omega), show g * k = (-g) * (-k) by rw [Int.neg_mul_neg], Int.mul_fdiv_cancel_left _ (by omega)]
theorem low_num {n d : Int} (hd : d ≠ 0) : n.fdiv (if d < 0 then 0 - (Int.gcd n d : Int) else Int.gcd n d) = (Rat.divInt n d).num ∧ d.fdiv (if d < 0 then 0 - (Int.gcd n d : Int) else Int.gcd n d) = ((Rat.divInt n d).den : Int) := by
  have hg : 0 < (Int.gcd n d : Int) := by
    have := Int.gcd_pos_of_ne_zero_right n hd
    omega
  have dn : (Int.gcd n d : Int) ∣ n := Int.gcd_dvd_left _ _
  have dd : (Int.gcd n d : Int) ∣ d := Int.gcd_dvd_right _ _
  rw [Rat.num_divInt, Rat.den_divInt, if_neg hd, Int.gcd_comm d n]
  by_cases h : d < 0
  · rw [if_pos h, Int.zero_sub, fdiv_neg_exact hg dn, fdiv_neg_exact hg dd, Int.sign_eq_neg_one_of_neg h]
    constructor
    · rw [show -1 * n = -n by omega, Int.neg_ediv_of_dvd dn]
    · have : d = -((d.natAbs : Nat) : Int) := by omega
      have e2 : -(d / (Int.gcd n d : Int)) = (-d) / (Int.gcd n d : Int) := (Int.neg_ediv_of_dvd dd).symm
      rw [e2, show -d = ((d.natAbs : Nat) : Int) by omega]
      rfl
  · rw [if_neg h, fdiv_exact hg dn, fdiv_exact hg dd, Int.sign_eq_one_of_pos (by omega)]
    constructor
    · rw [Int.one_mul]
    · rw [show d / (Int.gcd n d : Int) = ((d.natAbs : Nat) : Int) / (Int.gcd n d : Int) by congr 1; omega]
      rfl
theorem den_pos (q : Rat) : (0 : Int) < q.den := by
  have := q.den_pos
  omega
theorem rat_gcd (q : Rat) : Int.gcd q.num q.den = 1 := by
  have := q.reduced
  exact this
/-- gcd by Euclid's steps -/
theorem gcd_step {a b : Int} (h : 0 < b) : Int.gcd b (a.fmod b) = Int.gcd a b := by
  rw [Int.fmod_eq_emod_of_nonneg _ (Int.le_of_lt h)]
  have e : a = a % b + b * (a / b) := by have := Int.emod_add_mul_ediv a b; omega
  rw [Int.gcd_comm b]
  conv => rhs; rw [e]
  simp
theorem gcd_ite (a b : Int) : Int.gcd (if a < 0 then -a else a) (if b < 0 then -b else b) = Int.gcd a b := by
  split <;> split <;> simp
/-! ### draws -/
theorem cfd_64 {i m : Int} (h0 : 0 < m) (h : m < 2 ^ 64) : CFd i m := cfd_of (by omega) (by omega)
/-- one of some things, all of them so -/
theorem at_allD {P : D → Prop} {xs : List D} {i : Int} {Q : D → Prop} (h : ∀ x ∈ xs, P x) (h0 : 0 ≤ i) (h1 : i < xs.length) (k : ∀ x, P x → Q x) : ∃ z, atI xs i = some z ∧ Q z := by
  obtain ⟨d, e, hd⟩ := atI_of h0 h1
  exact ⟨d, e, k d (h d (List.mem_of_getElem? hd))⟩
/-- a thing of a kind, the pen behind it -/
def PenD (P : D → Prop) (k : Int) (r : S) (a : D) (s : S) : Prop := P a ∧ Pen k r s
theorem p200 : (2 : Int) ^ 200 = 1606938044258990275541962092341162602522202993782792835301376 := by decide
theorem nc_0 : (((0 : Nat)) : Int) = 0 := rfl
theorem nc_1 : (((1 : Nat)) : Int) = 1 := rfl
theorem nc_2 : (((2 : Nat)) : Int) = 2 := rfl
theorem nc_3 : (((3 : Nat)) : Int) = 3 := rfl
theorem nc_4 : (((4 : Nat)) : Int) = 4 := rfl
theorem nc_5 : (((5 : Nat)) : Int) = 5 := rfl
theorem nc_6 : (((6 : Nat)) : Int) = 6 := rfl
theorem nc_7 : (((7 : Nat)) : Int) = 7 := rfl
theorem nc_8 : (((8 : Nat)) : Int) = 8 := rfl
theorem nc_9 : (((9 : Nat)) : Int) = 9 := rfl
theorem nc_10 : (((10 : Nat)) : Int) = 10 := rfl
theorem nc_11 : (((11 : Nat)) : Int) = 11 := rfl
theorem nc_12 : (((12 : Nat)) : Int) = 12 := rfl
theorem nc_13 : (((13 : Nat)) : Int) = 13 := rfl
theorem nc_14 : (((14 : Nat)) : Int) = 14 := rfl
theorem nc_15 : (((15 : Nat)) : Int) = 15 := rfl
theorem nc_16 : (((16 : Nat)) : Int) = 16 := rfl
theorem nc_17 : (((17 : Nat)) : Int) = 17 := rfl
theorem nc_18 : (((18 : Nat)) : Int) = 18 := rfl
theorem nc_19 : (((19 : Nat)) : Int) = 19 := rfl
theorem nc_20 : (((20 : Nat)) : Int) = 20 := rfl
theorem nc_21 : (((21 : Nat)) : Int) = 21 := rfl
theorem nc_22 : (((22 : Nat)) : Int) = 22 := rfl
theorem nc_23 : (((23 : Nat)) : Int) = 23 := rfl
theorem nc_24 : (((24 : Nat)) : Int) = 24 := rfl
theorem nc_25 : (((25 : Nat)) : Int) = 25 := rfl
theorem nc_26 : (((26 : Nat)) : Int) = 26 := rfl
theorem nc_27 : (((27 : Nat)) : Int) = 27 := rfl
theorem nc_28 : (((28 : Nat)) : Int) = 28 := rfl
theorem nc_29 : (((29 : Nat)) : Int) = 29 := rfl
theorem nc_30 : (((30 : Nat)) : Int) = 30 := rfl
theorem nc_31 : (((31 : Nat)) : Int) = 31 := rfl
theorem nc_32 : (((32 : Nat)) : Int) = 32 := rfl
theorem x_nonnon {P : D → Prop} : (∃ z, dIs .non .non = some z ∧ P z) = P (.bl true) := by show (∃ z, some (D.bl true) = some z ∧ P z) = _; simp
theorem x_tupnon {x : List D} {P : D → Prop} : (∃ z, dIs (.tup x) .non = some z ∧ P z) = P (.bl false) := by show (∃ z, some (D.bl false) = some z ∧ P z) = _; simp
theorem x_excnon {x : Str} {P : D → Prop} : (∃ z, dIs (.exc x) .non = some z ∧ P z) = P (.bl false) := by show (∃ z, some (D.bl false) = some z ∧ P z) = _; simp
theorem x_intnon {x : Int} {P : D → Prop} : (∃ z, dIs (.int x) .non = some z ∧ P z) = P (.bl false) := by show (∃ z, some (D.bl false) = some z ∧ P z) = _; simp
theorem x_nnonnon {P : D → Prop} : (∃ z, dIsnt .non .non = some z ∧ P z) = P (.bl false) := by show (∃ z, some (D.bl false) = some z ∧ P z) = _; simp
theorem x_ntupnon {x : List D} {P : D → Prop} : (∃ z, dIsnt (.tup x) .non = some z ∧ P z) = P (.bl true) := by show (∃ z, some (D.bl true) = some z ∧ P z) = _; simp
theorem eq_tup2 {a b c d : Int} : dEq (.tup [.int a, .int b]) (.tup [.int c, .int d]) = some (.bl (decide (a = c) && decide (b = d))) := by
  simp [dEq, ready, okD, okDs, toPy, toPys, PyData.depth, PyData.depthAll, eqB, PyData.eqv, PyData.eqvAll, BEq.beq]
theorem ne_tup2 {a b c d : Int} : dNe (.tup [.int a, .int b]) (.tup [.int c, .int d]) = some (.bl (!(decide (a = c) && decide (b = d)))) := by
  simp [dNe, ready, okD, okDs, toPy, toPys, PyData.depth, PyData.depthAll, eqB, PyData.eqv, PyData.eqvAll, BEq.beq]
theorem x_eqt2 {a b c d : Int} {P : D → Prop} : (∃ z, dEq (.tup [.int a, .int b]) (.tup [.int c, .int d]) = some z ∧ P z) = P (.bl (decide (a = c) && decide (b = d))) := by rw [eq_tup2]; exact ex_some
theorem x_net2 {a b c d : Int} {P : D → Prop} : (∃ z, dNe (.tup [.int a, .int b]) (.tup [.int c, .int d]) = some z ∧ P z) = P (.bl (!(decide (a = c) && decide (b = d)))) := by rw [ne_tup2]; exact ex_some
/-! ### things through and through plain -/
mutual
def pd : D → Bool
  | .non => true
  | .bl _ => true
  | .int _ => true
  | .str _ => true
  | .tup xs => pds xs
  | .lst xs => pds xs
  | .frz xs => pds xs
  | .dct _ => true
  | .tok _ => false
  | .ty _ => false
  | .glb _ => false
  | .ktp _ => false
  | .exc _ => false
  | .fd _ _ => false
def pds : List D → Bool
  | [] => true
  | x :: xs => pd x && pds xs
end
theorem pd_plain {d : D} (h : pd d = true) : plain d = true := by
  cases d <;> first
    | rfl
    | (simp [pd] at h)
theorem pds_all {xs : List D} : pds xs = true ↔ ∀ x ∈ xs, pd x = true := by
  induction xs with
  | nil => simp [pds]
  | cons x xs ih => simp [pds, ih]
theorem pd_tup {xs : List D} (h : ∀ x ∈ xs, pd x = true) : pd (.tup xs) = true := by simpa [pd] using pds_all.mpr h
theorem pd_lst {xs : List D} (h : ∀ x ∈ xs, pd x = true) : pd (.lst xs) = true := by simpa [pd] using pds_all.mpr h
theorem pd_tup' {xs : List D} (h : pd (.tup xs) = true) : ∀ x ∈ xs, pd x = true := pds_all.mp (by simpa [pd] using h)
/-- is it a ratio -/
def ratB : D → Bool
  | .tup [.int n, .int m] => decide (0 < m) && decide (Int.gcd n m = 1)
  | _ => false
theorem isInt_yes {a : D} (h : isInt a = true) : ∃ i, a = .int i := by
  cases a with
  | int i => exact ⟨i, rfl⟩
  | _ => cases h
theorem ratB_no1 {a b : D} (h : isInt a = false) : ratB (.tup [a, b]) = false := by
  unfold ratB
  split
  · rename_i e
    cases e
    cases h
  · rfl
theorem ratB_no2 {a b : D} (h : isInt b = false) : ratB (.tup [a, b]) = false := by
  unfold ratB
  split
  · rename_i e
    cases e
    cases h
  · rfl
theorem ratB_len {xs : List D} (h : (xs.length : Int) ≠ 2) : ratB (.tup xs) = false := by
  unfold ratB
  split
  · rename_i e
    cases e
    exact absurd rfl h
  · rfl
theorem ratB_inv {d : D} (h : ratB d = true) : ∃ n m : Int, d = .tup [.int n, .int m] ∧ 0 < m ∧ Int.gcd n m = 1 := by
  unfold ratB at h
  split at h
  · rename_i n m
    simp only [Bool.and_eq_true, decide_eq_true_eq] at h
    exact ⟨n, m, rfl, h.1, h.2⟩
  · cases h
theorem two_of {xs : List D} (h : (xs.length : Int) = 2) : ∃ a b, xs = [a, b] := by
  match xs, h with
  | [a, b], _ => exact ⟨a, b, rfl⟩
  | [], h => exact absurd h (by decide)
  | [_], h => exact absurd h (by simp)
  | _ :: _ :: _ :: r, h => simp only [List.length_cons] at h; omega
/-- a plain thing that may be shown -/
structure Thing (L n w : Nat) (d : D) : Prop where
  pl : pd d = true
  sh : ShyL L d n w
section
variable {L n w m n' w' : Nat} {d : D}
theorem Thing.mono (h : Thing L n w d) (a : n ≤ n') (b : w ≤ w') : Thing L n' w' d := ⟨h.pl, h.sh.mono a b⟩
theorem th_int {i : Int} {k : Nat} (h : Bd i k) (hk : 0 < k ∧ k ≤ L) : Thing L 0 (k + 2) (.int i) := ⟨rfl, shy_int h hk⟩
theorem th_bl {b : Bool} : Thing L 0 5 (.bl b) := ⟨rfl, shy_bl⟩
theorem th_non : Thing L 0 4 .non := ⟨rfl, shy_non⟩
theorem th_str {x : Str} {k : Nat} (h : (x.cps.toList.all fun c => decide (c < 16 ^ 8)) = true) (hl : x.length ≤ k) : Thing L 0 (10 * k + 2) (.str x) := ⟨rfl, shy_str h hl⟩
theorem th_dct0 : Thing L 1 3 (.dct []) := ⟨rfl, shy_dct0⟩
theorem th_dct1 {k v : D} (h : Thing L n w k) (h' : Thing L n' w' v) : Thing L (n + n' + 1) (w + w' + 7) (.dct [(k, v)]) := ⟨rfl, shy_dct1 h.sh h'.sh⟩
theorem th_tup {xs : List D} (h : ∀ x ∈ xs, Thing L n w x) (hl : xs.length ≤ m) : Thing L (n + 1) (m * (w + 2) + 3) (.tup xs) :=
  ⟨pd_tup fun x hx => (h x hx).pl, (shy_tup (shys_all fun x hx => (h x hx).sh)).mono (Nat.le_refl _) (Nat.add_le_add_right (Nat.mul_le_mul_right _ hl) _)⟩
theorem th_lst {xs : List D} (h : ∀ x ∈ xs, Thing L n w x) (hl : xs.length ≤ m) : Thing L (n + 1) (m * (w + 2) + 3) (.lst xs) :=
  ⟨pd_lst fun x hx => (h x hx).pl, (shy_lst (shys_all fun x hx => (h x hx).sh)).mono (Nat.le_refl _) (Nat.add_le_add_right (Nat.mul_le_mul_right _ hl) _)⟩
theorem th_rep (h : Thing L n w d) (hn : n ≤ 90) (hw : w ≤ 16777216) : repD L d = some (.str (toPy d).shown) := rep_of h.sh hn hw
end
theorem ne_bls {a b c d : Bool} : dNe (.lst [.bl a, .bl b]) (.lst [.bl c, .bl d]) = some (.bl (!(decide (a = c) && decide (b = d)))) := by
  cases a <;> cases b <;> cases c <;> cases d <;> rfl
theorem x_nebls {a b c d : Bool} {P : D → Prop} : (∃ z, dNe (.lst [.bl a, .bl b]) (.lst [.bl c, .bl d]) = some z ∧ P z) = P (.bl (!(decide (a = c) && decide (b = d)))) := by rw [ne_bls]; exact ex_some
theorem x_bls1 {a : Bool} {P : List Bool → Prop} : (∃ l, blsOf [.bl a] = some l ∧ P l) = P [a] := by show (∃ l, some [a] = some l ∧ P l) = _; exact ex_some
theorem x_bls2 {a b : Bool} {P : List Bool → Prop} : (∃ l, blsOf [.bl a, .bl b] = some l ∧ P l) = P [a, b] := by show (∃ l, some [a, b] = some l ∧ P l) = _; exact ex_some
theorem x_bls3 {a b c : Bool} {P : List Bool → Prop} : (∃ l, blsOf [.bl a, .bl b, .bl c] = some l ∧ P l) = P [a, b, c] := by show (∃ l, some [a, b, c] = some l ∧ P l) = _; exact ex_some
theorem x_bls4 {a b c d : Bool} {P : List Bool → Prop} : (∃ l, blsOf [.bl a, .bl b, .bl c, .bl d] = some l ∧ P l) = P [a, b, c, d] := by show (∃ l, some [a, b, c, d] = some l ∧ P l) = _; exact ex_some
theorem id_def (b : Bool) : id b = b := rfl
theorem x_at_ite {a b : D} {c : Prop} [Decidable c] {P : D → Prop} : (∃ z, atI [a, b] (if c then 1 else 0) = some z ∧ P z) = if c then P b else P a := by
  by_cases h : c
  · rw [if_pos h, if_pos h]; exact x_at1
  · rw [if_neg h, if_neg h]; exact x_at0
structure Things (L n w : Nat) (xs : List D) : Prop where
  pl : pds xs = true
  sh : ShysL L xs n w
section
variable {L n w m n' w' : Nat} {d : D} {xs : List D}
theorem ths_nil : Things L 0 0 [] := ⟨rfl, shys_nil⟩
theorem ths_cons (h : Thing L n w d) (k : Things L n' w' xs) : Things L (max n n') (w + w' + 2) (d :: xs) := ⟨by simp [pds, h.pl, k.pl], shys_cons h.sh k.sh⟩
theorem th_tups (h : Things L n w xs) : Thing L (n + 1) (w + 3) (.tup xs) := ⟨by simpa [pd] using h.pl, shy_tup h.sh⟩
theorem th_lsts (h : Things L n w xs) : Thing L (n + 1) (w + 3) (.lst xs) := ⟨by simpa [pd] using h.pl, shy_lst h.sh⟩
theorem th_lit {i : Int} (h : i.natAbs < 2 ^ 64) (hL : 64 ≤ L) : Thing L 0 66 (.int i) := th_int (k := 64) (bd_of h) ⟨by decide, hL⟩
theorem th_mrg {k : Key} {v : D} (h : Thing L n w (kD k)) (h' : Thing L n' w' v) : Thing L (n + n' + 1) (w + w' + 7) (.dct (mergeD [(k, v)])) := by rw [merge1]; exact th_dct1 h h'
end
/-! ### own lists, plainly -/
def wpo (i : Nat) (ρ : List Sl) (P : List D → Prop) : Prop := match ρ[i]? with
  | some (.own ds) => P ds
  | _ => False
section
variable {α : Type} {X : Str → S → Prop} {ρ : List Sl} {s : S} {N B C : List Sl → S → Prop} {R : D → S → Prop}
theorem o_0 {r : List Sl} {ds : List D} {P : List D → Prop} : wpo 0 (.own ds :: r) P = P ds := by with_unfolding_all rfl
theorem f_0 {r : List Sl} {y : Sl} : frzAt 0 (y :: r) = frzSl y :: r := rfl
theorem o_1 {x0 : Sl} {r : List Sl} {ds : List D} {P : List D → Prop} : wpo 1 (x0 :: .own ds :: r) P = P ds := by with_unfolding_all rfl
theorem f_1 {x0 : Sl} {r : List Sl} {y : Sl} : frzAt 1 (x0 :: y :: r) = x0 :: frzSl y :: r := rfl
theorem o_2 {x0 x1 : Sl} {r : List Sl} {ds : List D} {P : List D → Prop} : wpo 2 (x0 :: x1 :: .own ds :: r) P = P ds := by with_unfolding_all rfl
theorem f_2 {x0 x1 : Sl} {r : List Sl} {y : Sl} : frzAt 2 (x0 :: x1 :: y :: r) = x0 :: x1 :: frzSl y :: r := rfl
theorem o_3 {x0 x1 x2 : Sl} {r : List Sl} {ds : List D} {P : List D → Prop} : wpo 3 (x0 :: x1 :: x2 :: .own ds :: r) P = P ds := by with_unfolding_all rfl
theorem f_3 {x0 x1 x2 : Sl} {r : List Sl} {y : Sl} : frzAt 3 (x0 :: x1 :: x2 :: y :: r) = x0 :: x1 :: x2 :: frzSl y :: r := rfl
theorem o_4 {x0 x1 x2 x3 : Sl} {r : List Sl} {ds : List D} {P : List D → Prop} : wpo 4 (x0 :: x1 :: x2 :: x3 :: .own ds :: r) P = P ds := by with_unfolding_all rfl
theorem f_4 {x0 x1 x2 x3 : Sl} {r : List Sl} {y : Sl} : frzAt 4 (x0 :: x1 :: x2 :: x3 :: y :: r) = x0 :: x1 :: x2 :: x3 :: frzSl y :: r := rfl
theorem o_5 {x0 x1 x2 x3 x4 : Sl} {r : List Sl} {ds : List D} {P : List D → Prop} : wpo 5 (x0 :: x1 :: x2 :: x3 :: x4 :: .own ds :: r) P = P ds := by with_unfolding_all rfl
theorem f_5 {x0 x1 x2 x3 x4 : Sl} {r : List Sl} {y : Sl} : frzAt 5 (x0 :: x1 :: x2 :: x3 :: x4 :: y :: r) = x0 :: x1 :: x2 :: x3 :: x4 :: frzSl y :: r := rfl
theorem o_6 {x0 x1 x2 x3 x4 x5 : Sl} {r : List Sl} {ds : List D} {P : List D → Prop} : wpo 6 (x0 :: x1 :: x2 :: x3 :: x4 :: x5 :: .own ds :: r) P = P ds := by with_unfolding_all rfl
theorem f_6 {x0 x1 x2 x3 x4 x5 : Sl} {r : List Sl} {y : Sl} : frzAt 6 (x0 :: x1 :: x2 :: x3 :: x4 :: x5 :: y :: r) = x0 :: x1 :: x2 :: x3 :: x4 :: x5 :: frzSl y :: r := rfl
theorem o_7 {x0 x1 x2 x3 x4 x5 x6 : Sl} {r : List Sl} {ds : List D} {P : List D → Prop} : wpo 7 (x0 :: x1 :: x2 :: x3 :: x4 :: x5 :: x6 :: .own ds :: r) P = P ds := by with_unfolding_all rfl
theorem f_7 {x0 x1 x2 x3 x4 x5 x6 : Sl} {r : List Sl} {y : Sl} : frzAt 7 (x0 :: x1 :: x2 :: x3 :: x4 :: x5 :: x6 :: y :: r) = x0 :: x1 :: x2 :: x3 :: x4 :: x5 :: x6 :: frzSl y :: r := rfl
theorem o_8 {x0 x1 x2 x3 x4 x5 x6 x7 : Sl} {r : List Sl} {ds : List D} {P : List D → Prop} : wpo 8 (x0 :: x1 :: x2 :: x3 :: x4 :: x5 :: x6 :: x7 :: .own ds :: r) P = P ds := by with_unfolding_all rfl
theorem f_8 {x0 x1 x2 x3 x4 x5 x6 x7 : Sl} {r : List Sl} {y : Sl} : frzAt 8 (x0 :: x1 :: x2 :: x3 :: x4 :: x5 :: x6 :: x7 :: y :: r) = x0 :: x1 :: x2 :: x3 :: x4 :: x5 :: x6 :: x7 :: frzSl y :: r := rfl
theorem o_9 {x0 x1 x2 x3 x4 x5 x6 x7 x8 : Sl} {r : List Sl} {ds : List D} {P : List D → Prop} : wpo 9 (x0 :: x1 :: x2 :: x3 :: x4 :: x5 :: x6 :: x7 :: x8 :: .own ds :: r) P = P ds := by with_unfolding_all rfl
theorem f_9 {x0 x1 x2 x3 x4 x5 x6 x7 x8 : Sl} {r : List Sl} {y : Sl} : frzAt 9 (x0 :: x1 :: x2 :: x3 :: x4 :: x5 :: x6 :: x7 :: x8 :: y :: r) = x0 :: x1 :: x2 :: x3 :: x4 :: x5 :: x6 :: x7 :: x8 :: frzSl y :: r := rfl
theorem o_10 {x0 x1 x2 x3 x4 x5 x6 x7 x8 x9 : Sl} {r : List Sl} {ds : List D} {P : List D → Prop} : wpo 10 (x0 :: x1 :: x2 :: x3 :: x4 :: x5 :: x6 :: x7 :: x8 :: x9 :: .own ds :: r) P = P ds := by with_unfolding_all rfl
theorem f_10 {x0 x1 x2 x3 x4 x5 x6 x7 x8 x9 : Sl} {r : List Sl} {y : Sl} : frzAt 10 (x0 :: x1 :: x2 :: x3 :: x4 :: x5 :: x6 :: x7 :: x8 :: x9 :: y :: r) = x0 :: x1 :: x2 :: x3 :: x4 :: x5 :: x6 :: x7 :: x8 :: x9 :: frzSl y :: r := rfl
theorem o_11 {x0 x1 x2 x3 x4 x5 x6 x7 x8 x9 x10 : Sl} {r : List Sl} {ds : List D} {P : List D → Prop} : wpo 11 (x0 :: x1 :: x2 :: x3 :: x4 :: x5 :: x6 :: x7 :: x8 :: x9 :: x10 :: .own ds :: r) P = P ds := by with_unfolding_all rfl
theorem f_11 {x0 x1 x2 x3 x4 x5 x6 x7 x8 x9 x10 : Sl} {r : List Sl} {y : Sl} : frzAt 11 (x0 :: x1 :: x2 :: x3 :: x4 :: x5 :: x6 :: x7 :: x8 :: x9 :: x10 :: y :: r) = x0 :: x1 :: x2 :: x3 :: x4 :: x5 :: x6 :: x7 :: x8 :: x9 :: x10 :: frzSl y :: r := rfl
theorem o_12 {x0 x1 x2 x3 x4 x5 x6 x7 x8 x9 x10 x11 : Sl} {r : List Sl} {ds : List D} {P : List D → Prop} : wpo 12 (x0 :: x1 :: x2 :: x3 :: x4 :: x5 :: x6 :: x7 :: x8 :: x9 :: x10 :: x11 :: .own ds :: r) P = P ds := by with_unfolding_all rfl
theorem f_12 {x0 x1 x2 x3 x4 x5 x6 x7 x8 x9 x10 x11 : Sl} {r : List Sl} {y : Sl} : frzAt 12 (x0 :: x1 :: x2 :: x3 :: x4 :: x5 :: x6 :: x7 :: x8 :: x9 :: x10 :: x11 :: y :: r) = x0 :: x1 :: x2 :: x3 :: x4 :: x5 :: x6 :: x7 :: x8 :: x9 :: x10 :: x11 :: frzSl y :: r := rfl
theorem o_13 {x0 x1 x2 x3 x4 x5 x6 x7 x8 x9 x10 x11 x12 : Sl} {r : List Sl} {ds : List D} {P : List D → Prop} : wpo 13 (x0 :: x1 :: x2 :: x3 :: x4 :: x5 :: x6 :: x7 :: x8 :: x9 :: x10 :: x11 :: x12 :: .own ds :: r) P = P ds := by with_unfolding_all rfl
theorem f_13 {x0 x1 x2 x3 x4 x5 x6 x7 x8 x9 x10 x11 x12 : Sl} {r : List Sl} {y : Sl} : frzAt 13 (x0 :: x1 :: x2 :: x3 :: x4 :: x5 :: x6 :: x7 :: x8 :: x9 :: x10 :: x11 :: x12 :: y :: r) = x0 :: x1 :: x2 :: x3 :: x4 :: x5 :: x6 :: x7 :: x8 :: x9 :: x10 :: x11 :: x12 :: frzSl y :: r := rfl
theorem o_14 {x0 x1 x2 x3 x4 x5 x6 x7 x8 x9 x10 x11 x12 x13 : Sl} {r : List Sl} {ds : List D} {P : List D → Prop} : wpo 14 (x0 :: x1 :: x2 :: x3 :: x4 :: x5 :: x6 :: x7 :: x8 :: x9 :: x10 :: x11 :: x12 :: x13 :: .own ds :: r) P = P ds := by with_unfolding_all rfl
theorem f_14 {x0 x1 x2 x3 x4 x5 x6 x7 x8 x9 x10 x11 x12 x13 : Sl} {r : List Sl} {y : Sl} : frzAt 14 (x0 :: x1 :: x2 :: x3 :: x4 :: x5 :: x6 :: x7 :: x8 :: x9 :: x10 :: x11 :: x12 :: x13 :: y :: r) = x0 :: x1 :: x2 :: x3 :: x4 :: x5 :: x6 :: x7 :: x8 :: x9 :: x10 :: x11 :: x12 :: x13 :: frzSl y :: r := rfl
theorem o_15 {x0 x1 x2 x3 x4 x5 x6 x7 x8 x9 x10 x11 x12 x13 x14 : Sl} {r : List Sl} {ds : List D} {P : List D → Prop} : wpo 15 (x0 :: x1 :: x2 :: x3 :: x4 :: x5 :: x6 :: x7 :: x8 :: x9 :: x10 :: x11 :: x12 :: x13 :: x14 :: .own ds :: r) P = P ds := by with_unfolding_all rfl
theorem f_15 {x0 x1 x2 x3 x4 x5 x6 x7 x8 x9 x10 x11 x12 x13 x14 : Sl} {r : List Sl} {y : Sl} : frzAt 15 (x0 :: x1 :: x2 :: x3 :: x4 :: x5 :: x6 :: x7 :: x8 :: x9 :: x10 :: x11 :: x12 :: x13 :: x14 :: y :: r) = x0 :: x1 :: x2 :: x3 :: x4 :: x5 :: x6 :: x7 :: x8 :: x9 :: x10 :: x11 :: x12 :: x13 :: x14 :: frzSl y :: r := rfl
theorem o_16 {x0 x1 x2 x3 x4 x5 x6 x7 x8 x9 x10 x11 x12 x13 x14 x15 : Sl} {r : List Sl} {ds : List D} {P : List D → Prop} : wpo 16 (x0 :: x1 :: x2 :: x3 :: x4 :: x5 :: x6 :: x7 :: x8 :: x9 :: x10 :: x11 :: x12 :: x13 :: x14 :: x15 :: .own ds :: r) P = P ds := by with_unfolding_all rfl
theorem f_16 {x0 x1 x2 x3 x4 x5 x6 x7 x8 x9 x10 x11 x12 x13 x14 x15 : Sl} {r : List Sl} {y : Sl} : frzAt 16 (x0 :: x1 :: x2 :: x3 :: x4 :: x5 :: x6 :: x7 :: x8 :: x9 :: x10 :: x11 :: x12 :: x13 :: x14 :: x15 :: y :: r) = x0 :: x1 :: x2 :: x3 :: x4 :: x5 :: x6 :: x7 :: x8 :: x9 :: x10 :: x11 :: x12 :: x13 :: x14 :: x15 :: frzSl y :: r := rfl
theorem o_17 {x0 x1 x2 x3 x4 x5 x6 x7 x8 x9 x10 x11 x12 x13 x14 x15 x16 : Sl} {r : List Sl} {ds : List D} {P : List D → Prop} : wpo 17 (x0 :: x1 :: x2 :: x3 :: x4 :: x5 :: x6 :: x7 :: x8 :: x9 :: x10 :: x11 :: x12 :: x13 :: x14 :: x15 :: x16 :: .own ds :: r) P = P ds := by with_unfolding_all rfl
theorem f_17 {x0 x1 x2 x3 x4 x5 x6 x7 x8 x9 x10 x11 x12 x13 x14 x15 x16 : Sl} {r : List Sl} {y : Sl} : frzAt 17 (x0 :: x1 :: x2 :: x3 :: x4 :: x5 :: x6 :: x7 :: x8 :: x9 :: x10 :: x11 :: x12 :: x13 :: x14 :: x15 :: x16 :: y :: r) = x0 :: x1 :: x2 :: x3 :: x4 :: x5 :: x6 :: x7 :: x8 :: x9 :: x10 :: x11 :: x12 :: x13 :: x14 :: x15 :: x16 :: frzSl y :: r := rfl
theorem o_18 {x0 x1 x2 x3 x4 x5 x6 x7 x8 x9 x10 x11 x12 x13 x14 x15 x16 x17 : Sl} {r : List Sl} {ds : List D} {P : List D → Prop} : wpo 18 (x0 :: x1 :: x2 :: x3 :: x4 :: x5 :: x6 :: x7 :: x8 :: x9 :: x10 :: x11 :: x12 :: x13 :: x14 :: x15 :: x16 :: x17 :: .own ds :: r) P = P ds := by with_unfolding_all rfl
theorem f_18 {x0 x1 x2 x3 x4 x5 x6 x7 x8 x9 x10 x11 x12 x13 x14 x15 x16 x17 : Sl} {r : List Sl} {y : Sl} : frzAt 18 (x0 :: x1 :: x2 :: x3 :: x4 :: x5 :: x6 :: x7 :: x8 :: x9 :: x10 :: x11 :: x12 :: x13 :: x14 :: x15 :: x16 :: x17 :: y :: r) = x0 :: x1 :: x2 :: x3 :: x4 :: x5 :: x6 :: x7 :: x8 :: x9 :: x10 :: x11 :: x12 :: x13 :: x14 :: x15 :: x16 :: x17 :: frzSl y :: r := rfl
theorem o_19 {x0 x1 x2 x3 x4 x5 x6 x7 x8 x9 x10 x11 x12 x13 x14 x15 x16 x17 x18 : Sl} {r : List Sl} {ds : List D} {P : List D → Prop} : wpo 19 (x0 :: x1 :: x2 :: x3 :: x4 :: x5 :: x6 :: x7 :: x8 :: x9 :: x10 :: x11 :: x12 :: x13 :: x14 :: x15 :: x16 :: x17 :: x18 :: .own ds :: r) P = P ds := by with_unfolding_all rfl
theorem f_19 {x0 x1 x2 x3 x4 x5 x6 x7 x8 x9 x10 x11 x12 x13 x14 x15 x16 x17 x18 : Sl} {r : List Sl} {y : Sl} : frzAt 19 (x0 :: x1 :: x2 :: x3 :: x4 :: x5 :: x6 :: x7 :: x8 :: x9 :: x10 :: x11 :: x12 :: x13 :: x14 :: x15 :: x16 :: x17 :: x18 :: y :: r) = x0 :: x1 :: x2 :: x3 :: x4 :: x5 :: x6 :: x7 :: x8 :: x9 :: x10 :: x11 :: x12 :: x13 :: x14 :: x15 :: x16 :: x17 :: x18 :: frzSl y :: r := rfl
theorem o_20 {x0 x1 x2 x3 x4 x5 x6 x7 x8 x9 x10 x11 x12 x13 x14 x15 x16 x17 x18 x19 : Sl} {r : List Sl} {ds : List D} {P : List D → Prop} : wpo 20 (x0 :: x1 :: x2 :: x3 :: x4 :: x5 :: x6 :: x7 :: x8 :: x9 :: x10 :: x11 :: x12 :: x13 :: x14 :: x15 :: x16 :: x17 :: x18 :: x19 :: .own ds :: r) P = P ds := by with_unfolding_all rfl
theorem f_20 {x0 x1 x2 x3 x4 x5 x6 x7 x8 x9 x10 x11 x12 x13 x14 x15 x16 x17 x18 x19 : Sl} {r : List Sl} {y : Sl} : frzAt 20 (x0 :: x1 :: x2 :: x3 :: x4 :: x5 :: x6 :: x7 :: x8 :: x9 :: x10 :: x11 :: x12 :: x13 :: x14 :: x15 :: x16 :: x17 :: x18 :: x19 :: y :: r) = x0 :: x1 :: x2 :: x3 :: x4 :: x5 :: x6 :: x7 :: x8 :: x9 :: x10 :: x11 :: x12 :: x13 :: x14 :: x15 :: x16 :: x17 :: x18 :: x19 :: frzSl y :: r := rfl
theorem o_21 {x0 x1 x2 x3 x4 x5 x6 x7 x8 x9 x10 x11 x12 x13 x14 x15 x16 x17 x18 x19 x20 : Sl} {r : List Sl} {ds : List D} {P : List D → Prop} : wpo 21 (x0 :: x1 :: x2 :: x3 :: x4 :: x5 :: x6 :: x7 :: x8 :: x9 :: x10 :: x11 :: x12 :: x13 :: x14 :: x15 :: x16 :: x17 :: x18 :: x19 :: x20 :: .own ds :: r) P = P ds := by with_unfolding_all rfl
theorem f_21 {x0 x1 x2 x3 x4 x5 x6 x7 x8 x9 x10 x11 x12 x13 x14 x15 x16 x17 x18 x19 x20 : Sl} {r : List Sl} {y : Sl} : frzAt 21 (x0 :: x1 :: x2 :: x3 :: x4 :: x5 :: x6 :: x7 :: x8 :: x9 :: x10 :: x11 :: x12 :: x13 :: x14 :: x15 :: x16 :: x17 :: x18 :: x19 :: x20 :: y :: r) = x0 :: x1 :: x2 :: x3 :: x4 :: x5 :: x6 :: x7 :: x8 :: x9 :: x10 :: x11 :: x12 :: x13 :: x14 :: x15 :: x16 :: x17 :: x18 :: x19 :: x20 :: frzSl y :: r := rfl
theorem o_22 {x0 x1 x2 x3 x4 x5 x6 x7 x8 x9 x10 x11 x12 x13 x14 x15 x16 x17 x18 x19 x20 x21 : Sl} {r : List Sl} {ds : List D} {P : List D → Prop} : wpo 22 (x0 :: x1 :: x2 :: x3 :: x4 :: x5 :: x6 :: x7 :: x8 :: x9 :: x10 :: x11 :: x12 :: x13 :: x14 :: x15 :: x16 :: x17 :: x18 :: x19 :: x20 :: x21 :: .own ds :: r) P = P ds := by with_unfolding_all rfl
theorem f_22 {x0 x1 x2 x3 x4 x5 x6 x7 x8 x9 x10 x11 x12 x13 x14 x15 x16 x17 x18 x19 x20 x21 : Sl} {r : List Sl} {y : Sl} : frzAt 22 (x0 :: x1 :: x2 :: x3 :: x4 :: x5 :: x6 :: x7 :: x8 :: x9 :: x10 :: x11 :: x12 :: x13 :: x14 :: x15 :: x16 :: x17 :: x18 :: x19 :: x20 :: x21 :: y :: r) = x0 :: x1 :: x2 :: x3 :: x4 :: x5 :: x6 :: x7 :: x8 :: x9 :: x10 :: x11 :: x12 :: x13 :: x14 :: x15 :: x16 :: x17 :: x18 :: x19 :: x20 :: x21 :: frzSl y :: r := rfl
theorem o_23 {x0 x1 x2 x3 x4 x5 x6 x7 x8 x9 x10 x11 x12 x13 x14 x15 x16 x17 x18 x19 x20 x21 x22 : Sl} {r : List Sl} {ds : List D} {P : List D → Prop} : wpo 23 (x0 :: x1 :: x2 :: x3 :: x4 :: x5 :: x6 :: x7 :: x8 :: x9 :: x10 :: x11 :: x12 :: x13 :: x14 :: x15 :: x16 :: x17 :: x18 :: x19 :: x20 :: x21 :: x22 :: .own ds :: r) P = P ds := by with_unfolding_all rfl
theorem f_23 {x0 x1 x2 x3 x4 x5 x6 x7 x8 x9 x10 x11 x12 x13 x14 x15 x16 x17 x18 x19 x20 x21 x22 : Sl} {r : List Sl} {y : Sl} : frzAt 23 (x0 :: x1 :: x2 :: x3 :: x4 :: x5 :: x6 :: x7 :: x8 :: x9 :: x10 :: x11 :: x12 :: x13 :: x14 :: x15 :: x16 :: x17 :: x18 :: x19 :: x20 :: x21 :: x22 :: y :: r) = x0 :: x1 :: x2 :: x3 :: x4 :: x5 :: x6 :: x7 :: x8 :: x9 :: x10 :: x11 :: x12 :: x13 :: x14 :: x15 :: x16 :: x17 :: x18 :: x19 :: x20 :: x21 :: x22 :: frzSl y :: r := rfl
theorem o_24 {x0 x1 x2 x3 x4 x5 x6 x7 x8 x9 x10 x11 x12 x13 x14 x15 x16 x17 x18 x19 x20 x21 x22 x23 : Sl} {r : List Sl} {ds : List D} {P : List D → Prop} : wpo 24 (x0 :: x1 :: x2 :: x3 :: x4 :: x5 :: x6 :: x7 :: x8 :: x9 :: x10 :: x11 :: x12 :: x13 :: x14 :: x15 :: x16 :: x17 :: x18 :: x19 :: x20 :: x21 :: x22 :: x23 :: .own ds :: r) P = P ds := by with_unfolding_all rfl
theorem f_24 {x0 x1 x2 x3 x4 x5 x6 x7 x8 x9 x10 x11 x12 x13 x14 x15 x16 x17 x18 x19 x20 x21 x22 x23 : Sl} {r : List Sl} {y : Sl} : frzAt 24 (x0 :: x1 :: x2 :: x3 :: x4 :: x5 :: x6 :: x7 :: x8 :: x9 :: x10 :: x11 :: x12 :: x13 :: x14 :: x15 :: x16 :: x17 :: x18 :: x19 :: x20 :: x21 :: x22 :: x23 :: y :: r) = x0 :: x1 :: x2 :: x3 :: x4 :: x5 :: x6 :: x7 :: x8 :: x9 :: x10 :: x11 :: x12 :: x13 :: x14 :: x15 :: x16 :: x17 :: x18 :: x19 :: x20 :: x21 :: x22 :: x23 :: frzSl y :: r := rfl
theorem o_25 {x0 x1 x2 x3 x4 x5 x6 x7 x8 x9 x10 x11 x12 x13 x14 x15 x16 x17 x18 x19 x20 x21 x22 x23 x24 : Sl} {r : List Sl} {ds : List D} {P : List D → Prop} : wpo 25 (x0 :: x1 :: x2 :: x3 :: x4 :: x5 :: x6 :: x7 :: x8 :: x9 :: x10 :: x11 :: x12 :: x13 :: x14 :: x15 :: x16 :: x17 :: x18 :: x19 :: x20 :: x21 :: x22 :: x23 :: x24 :: .own ds :: r) P = P ds := by with_unfolding_all rfl
theorem f_25 {x0 x1 x2 x3 x4 x5 x6 x7 x8 x9 x10 x11 x12 x13 x14 x15 x16 x17 x18 x19 x20 x21 x22 x23 x24 : Sl} {r : List Sl} {y : Sl} : frzAt 25 (x0 :: x1 :: x2 :: x3 :: x4 :: x5 :: x6 :: x7 :: x8 :: x9 :: x10 :: x11 :: x12 :: x13 :: x14 :: x15 :: x16 :: x17 :: x18 :: x19 :: x20 :: x21 :: x22 :: x23 :: x24 :: y :: r) = x0 :: x1 :: x2 :: x3 :: x4 :: x5 :: x6 :: x7 :: x8 :: x9 :: x10 :: x11 :: x12 :: x13 :: x14 :: x15 :: x16 :: x17 :: x18 :: x19 :: x20 :: x21 :: x22 :: x23 :: x24 :: frzSl y :: r := rfl
theorem fs_own {ds : List D} : frzSl (.own ds) = .dat (.lst ds) := rfl
theorem fs_dat {d : D} : frzSl (.dat d) = .dat d := rfl
theorem fs_emp : frzSl .emp = .emp := rfl
theorem wpo_of {i : Nat} {k : List D → Fl} : wps (ownAt i ρ k) N B C R X = wpo i ρ fun ds => wps (k ds) N B C R X := by
  unfold ownAt wpo
  cases ρ[i]? with
  | none => with_unfolding_all rfl
  | some y => cases y <;> (with_unfolding_all rfl)
theorem wps_ite {c : Prop} [Decidable c] {g h : Fl} : wps (if c then g else h) N B C R X = if c then wps g N B C R X else wps h N B C R X := by split <;> (with_unfolding_all rfl)
theorem ite_bad {c : Prop} [Decidable c] {g : Fl} : wps (if c then g else .bad) N B C R X = (c ∧ wps g N B C R X) := by
  by_cases h : c
  · rw [if_pos h]; simp [h]
  · rw [if_neg h]; simp [h, wps]
theorem q_app {i : Nat} {f : DE} : wps (sApp i f ρ s) N B C R X = wpo i ρ fun ds => wp (f ρ s) (fun d s1 => ds.length < 16777216 ∧ wpn ρ [(i, .own (ds ++ [d]))] fun ρ1 => N ρ1 s1) X := by
  unfold sApp
  rw [wpo_of]
  congr 1
  funext ds
  rw [wps_then]
  congr 1
  funext d s1
  rw [ite_bad, set_at]
  with_unfolding_all rfl
theorem q_ext {i : Nat} {f : DE} : wps (sExt i f ρ s) N B C R X = wpo i ρ fun ds => wp (f ρ s) (fun d s1 => ∃ es, d = .lst es ∧ ds.length + es.length ≤ 16777216 ∧ wpn ρ [(i, .own (ds ++ es))] fun ρ1 => N ρ1 s1) X := by
  unfold sExt
  rw [wpo_of]
  congr 1
  funext ds
  rw [wps_then]
  congr 1
  funext d s1
  cases d with
  | lst es =>
    simp only [D.lst.injEq, exists_eq_left']
    rw [ite_bad, set_at]
    with_unfolding_all rfl
  | _ => simp [wps]
theorem q_rev {i : Nat} : wps (sRev i ρ s) N B C R X = wpo i ρ fun ds => wpn ρ [(i, .own ds.reverse)] fun ρ1 => N ρ1 s := by
  unfold sRev
  rw [wpo_of]
  congr 1
  funext ds
  rw [set_at]
  with_unfolding_all rfl
theorem q_clr {i : Nat} : wps (sClr i ρ s) N B C R X = wpo i ρ fun ds => wpn ρ [(i, .own [])] fun ρ1 => N ρ1 s := by
  unfold sClr
  rw [wpo_of]
  congr 1
  funext ds
  rw [set_at]
  with_unfolding_all rfl
theorem q_retOwn {i : Nat} : wps (sRetOwn i ρ s) N B C R X = wpo i ρ fun ds => R (.lst ds) s := by
  unfold sRetOwn wpo
  cases ρ[i]? with
  | none => with_unfolding_all rfl
  | some y => cases y <;> (with_unfolding_all rfl)
theorem q_frz {i : Nat} {g : DS} : wps (sFrz i g ρ s) N B C R X = wps (g (frzAt i ρ) s) N B C R X := by with_unfolding_all rfl
theorem q_bor {good : α → Bool} {i : Nat} {f : List Sl → S → Res α} {Q : α → S → Prop} : wp (bor good i f ρ s) Q X = wp (f (frzAt i ρ) s) (fun d s1 => good d = true ∧ Q d s1) X := by
  unfold bor
  rw [wp_bind]
  congr 1
  funext d s1
  rw [wp_ite]
  by_cases h : good d = true
  · rw [if_pos h]; simp [h, wp]
  · rw [if_neg h]; simp [h, wp]
theorem flatB_true {b : Bool} : flatB b = true := rfl
theorem wp_revS {f : DE} {Q : D → S → Prop} : wp (eRevS f ρ s) Q X = wp (f ρ s) (fun d s1 => ∃ z, dRevS d = some z ∧ Q z s1) X := by
  unfold eRevS
  rw [wp_bind]
  congr 1
  funext d s1
  rw [wp_ofO]
theorem x_revt {xs : List D} {P : D → Prop} : (∃ z, dRevS (.tup xs) = some z ∧ P z) = P (.tup xs.reverse) := by show (∃ z, some (D.tup xs.reverse) = some z ∧ P z) = _; exact ex_some
theorem x_revl {xs : List D} {P : D → Prop} : (∃ z, dRevS (.lst xs) = some z ∧ P z) = P (.lst xs.reverse) := by show (∃ z, some (D.lst xs.reverse) = some z ∧ P z) = _; exact ex_some
theorem q_ins {i : Nat} {fk f : DE} : wps (sIns i fk f ρ s) N B C R X = wpo i ρ fun ds => wp (fk ρ s) (fun k s1 => wp (f ρ s1) (fun d s2 => ∃ z, k = .int z ∧ (ds.length < 16777216 ∧ 0 ≤ z ∧ z < 2 ^ 63) ∧ wpn ρ [(i, .own (ds.take z.toNat ++ [d] ++ ds.drop z.toNat))] fun ρ1 => N ρ1 s2) X) X := by
  unfold sIns
  rw [wpo_of]
  congr 1
  funext ds
  rw [wps_then, wp_aCons]
  congr 1
  funext k s1
  rw [wp_aCons]
  congr 1
  funext d s2
  rw [wp_aNil]
  cases k with
  | int z =>
    simp only [D.int.injEq, exists_eq_left']
    rw [ite_bad, set_at]
    with_unfolding_all rfl
  | _ => simp [wps]
end
/-! ### walks -/
def nuD : D → Int
  | .tup [.int n, .int _] => n
  | _ => 0
/-- a ratio in lowest terms, looked at -/
theorem low_facts {n d : Int} (hn : 0 ≤ n) (hd : 0 < d) : ∃ a b : Int, rat (Rat.divInt n d) = .tup [.int a, .int b] ∧ 0 ≤ a ∧ 0 < b ∧ b ≤ d ∧ Int.gcd a b = 1 ∧ a * d = n * b := by
  have h0 : d ≠ 0 := by omega
  refine ⟨_, _, rfl, ?_, den_pos _, ?_, rat_gcd _, ?_⟩
  · rw [Rat.num_nonneg]
    exact (Rat.divInt_nonneg_iff_of_pos_right hd).mpr hn
  · rw [Rat.den_divInt, if_neg h0]
    have := Nat.div_le_self d.natAbs (Int.gcd d n)
    omega
  · have h1 := Rat.num_divInt_den (Rat.divInt n d)
    rw [Rat.divInt_eq_divInt_iff (by have := den_pos (Rat.divInt n d); omega) h0] at h1
    exact h1
/-- a chance above nought -/
def ChD (x : D) : Prop := ∃ n m : Int, x = .tup [.int n, .int m] ∧ 0 < n ∧ n ≤ m ∧ m ≤ 60 ∧ Int.gcd n m = 1
theorem ChD.nu {x : D} (h : ChD x) : nuD x ≠ 0 := by
  obtain ⟨n, m, rfl, h0, _⟩ := h
  show n ≠ 0
  omega
theorem cut_take {α : Type} {xs : List α} {n : Int} (h : 0 ≤ n) : cutL xs none (some n) = xs.take n.toNat := by
  have e : n = ((n.toNat : Nat) : Int) := (Int.toNat_of_nonneg h).symm
  unfold cutL
  rw [e, HT.sIx_nat, HT.sIx_none, Int.toNat_natCast, List.drop_zero, Nat.sub_zero]
  rcases Nat.le_total n.toNat xs.length with q | q
  · rw [Nat.min_eq_left q]
  · rw [Nat.min_eq_right q, List.take_length, List.take_of_length_le q]
theorem cut_drop {α : Type} {xs : List α} {n : Int} (h : 0 ≤ n) : cutL xs (some n) none = xs.drop n.toNat := by
  have e : n = ((n.toNat : Nat) : Int) := (Int.toNat_of_nonneg h).symm
  unfold cutL
  rw [e, HT.sIx_nat, HT.sIx_none, Int.toNat_natCast]
  rcases Nat.le_total n.toNat xs.length with q | q
  · rw [Nat.min_eq_left q, List.take_of_length_le (by rw [List.length_drop]; exact Nat.le_refl _)]
  · rw [Nat.min_eq_right q, List.drop_eq_nil_of_le (Nat.le_refl _), List.drop_eq_nil_of_le q, List.take_nil]
end DL
namespace DL
open PySem PySem.Spec PyProof.Rows L2
section
variable {α β : Type} {X : Str → S → Prop} {ρ : List Sl} {s : S} {N B C : List Sl → S → Prop} {R : D → S → Prop}
def enOf (ds : List D) : Option (List D) := match ds with
  | [d] => (sqOf d).map enumD
  | _ => none
def zpOf (ds : List D) : Option (List D) := match ds with
  | [d, e] => if isTu d = isTu e then (match sqOf d, sqOf e with
    | some as, some bs => some (zipD as bs)
    | _, _ => none) else none
  | _ => none
theorem wp_iEnum {fs : DA} {Q : List D → S → Prop} : wp (iEnum fs ρ s) Q X = wp (fs ρ s) (fun ds s1 => ∃ z, enOf ds = some z ∧ Q z s1) X := by
  unfold iEnum
  rw [wp_bind]
  congr 1
  funext ds s1
  rw [← wp_ofO]
  match ds with
  | [d] => rfl
  | [] => rfl
  | _ :: _ :: _ => rfl
theorem wp_iZip {fs : DA} {Q : List D → S → Prop} : wp (iZip fs ρ s) Q X = wp (fs ρ s) (fun ds s1 => ∃ z, zpOf ds = some z ∧ Q z s1) X := by
  unfold iZip
  rw [wp_bind]
  congr 1
  funext ds s1
  rw [← wp_ofO]
  match ds with
  | [d, e] =>
    unfold zpOf
    dsimp only
    split
    · cases sqOf d <;> cases sqOf e <;> rfl
    · rfl
  | [] => rfl
  | [_] => rfl
  | _ :: _ :: _ :: _ => rfl
theorem wp_iRev {f : DE} {Q : List D → S → Prop} : wp (iRev f ρ s) Q X = wp (f ρ s) (fun d s1 => ∃ z, (sqOf d).map List.reverse = some z ∧ Q z s1) X := by
  unfold iRev
  rw [wp_bind]
  congr 1
  funext d s1
  rw [wp_ofO]
end
section
variable {P : List D → Prop} {xs ys : List D}
theorem en_lst : (∃ z, enOf [.lst xs] = some z ∧ P z) = P (enumD xs) := by show (∃ z, some (enumD xs) = some z ∧ P z) = _; exact ex_some
theorem en_tup : (∃ z, enOf [.tup xs] = some z ∧ P z) = P (enumD xs) := by show (∃ z, some (enumD xs) = some z ∧ P z) = _; exact ex_some
theorem zp_lst : (∃ z, zpOf [.lst xs, .lst ys] = some z ∧ P z) = P (zipD xs ys) := by show (∃ z, some (zipD xs ys) = some z ∧ P z) = _; exact ex_some
theorem zp_tup : (∃ z, zpOf [.tup xs, .tup ys] = some z ∧ P z) = P (zipD xs ys) := by show (∃ z, some (zipD xs ys) = some z ∧ P z) = _; exact ex_some
theorem rv_lst : (∃ z, (sqOf (.lst xs)).map List.reverse = some z ∧ P z) = P xs.reverse := by show (∃ z, some xs.reverse = some z ∧ P z) = _; exact ex_some
theorem rv_tup : (∃ z, (sqOf (.tup xs)).map List.reverse = some z ∧ P z) = P xs.reverse := by show (∃ z, some xs.reverse = some z ∧ P z) = _; exact ex_some
end
/-! ### loops: what changes from turn to turn -/
def updL (ρ : List Sl) : List (Nat × Sl) → List Sl
  | [] => ρ
  | (i, x) :: r => updL (ρ.set i x) r
/-- the same, all told by how many turns are done -/
theorem wpl_n {clr : List Nat} {g : DG} {b : DS} {ds : List D} {ρ : List Sl} {s : S} {N B C : List Sl → S → Prop} {R : D → S → Prop} {X : Str → S → Prop} {w : Wits N B C R X} (U : Nat → List (Nat × Sl)) (h0 : updL (wipeD ρ clr) (U 0) = wipeD ρ clr)
    (hs : ∀ i d, ds[i]? = some d → ∃ ρ1, g d (updL (wipeD ρ clr) (U i)) = some ρ1 ∧ wps (b ρ1 s) (fun ρ2 s2 => wipeD ρ2 clr = updL (wipeD ρ clr) (U (i + 1)) ∧ s2 = s) (fun ρ2 s2 => N (wipeD ρ2 clr) s2) (fun ρ2 s2 => wipeD ρ2 clr = updL (wipeD ρ clr) (U (i + 1)) ∧ s2 = s) R X)
    (hn : N (updL (wipeD ρ clr) (U ds.length)) s) : wpl clr g b ds ρ s N B C R X w := by
  refine wpl_of (fun i ρ' s' => ρ' = updL (wipeD ρ clr) (U i) ∧ s' = s) ⟨h0.symm, rfl⟩ ?_ ?_
  · rintro i d _ _ hd ⟨rfl, rfl⟩
    exact hs i d hd
  · rintro _ _ ⟨rfl, rfl⟩
    exact hn
/-! ### rows of numbers as lists -/
def rowI (N : Nat) (f : Nat → Int) : List D := (List.range N).map fun k => .int (f k)
theorem rowI_len {N : Nat} {f : Nat → Int} : (rowI N f).length = N := by simp [rowI]
theorem at_last {xs : List D} {d : D} : atI (xs ++ [d]) (-1) = some d := by
  unfold atI ixN
  rw [if_neg (by decide), List.length_append, List.length_singleton, if_pos (by omega)]
  have e : ((-1 : Int) + ((xs.length + 1 : Nat) : Int)).toNat = xs.length := by omega
  rw [Option.bind_some, e]
  simp
theorem rng0 {n i : Nat} {d : D} (h : (rngD 0 1 n)[i]? = some d) : i < n ∧ d = .int (i : Int) := by
  have hi := (List.getElem?_eq_some_iff.mp h).1
  rw [rngD_len] at hi
  rw [rngD_get hi] at h
  cases h
  exact ⟨hi, by congr 1; omega⟩
theorem bd_add' {i j : Int} {n : Nat} (h : Bd i n) (k : Bd j n) : Bd (i + j) (n + 1) := by
  unfold Bd at *
  rw [Nat.pow_succ]
  omega
theorem bd_sub' {i j : Int} {n : Nat} (h : Bd i n) (k : Bd j n) : Bd (i - j) (n + 1) := by
  unfold Bd at *
  rw [Nat.pow_succ]
  omega
theorem x_mulL {a : List D} {k : Int} {P : D → Prop} : (∃ z, dMulL (.lst a) (.int k) = some z ∧ P z) = ((a.length * k.toNat ≤ 16777216 ∧ k ≤ 1000000 ∧ -1000000 ≤ k) ∧ P (.lst (List.replicate k.toNat a).flatten)) := ex_ite
theorem x_addL {a b : List D} {P : D → Prop} : (∃ z, dAddL (.lst a) (.lst b) = some z ∧ P z) = (a.length + b.length ≤ 16777216 ∧ P (.lst (a ++ b))) := ex_ite
theorem repf {x : D} : ∀ n : Nat, (List.replicate n [x]).flatten = List.replicate n x
  | 0 => rfl
  | n + 1 => by simp [List.replicate_succ, repf n]
theorem x_nileq {P : D → Prop} : (∃ z, dEq (.lst []) (.lst []) = some z ∧ P z) = P (.bl true) := by
  have : (if ready (.lst []) && ready (.lst []) then some (D.bl (eqB (.lst []) (.lst []))) else none) = dEq (.lst []) (.lst []) := rfl
  rw [← this, show ready (.lst []) = true from rfl]
  simp only [Bool.and_self, if_true]
  rw [show eqB (.lst []) (.lst []) = true by simp [eqB, toPy, toPys, PyData.eqv, PyData.eqvAll]]
  exact ex_some
theorem x_nilne {P : D → Prop} : (∃ z, dNe (.lst []) (.lst []) = some z ∧ P z) = P (.bl false) := by
  rw [ne_nil (show ready (.lst []) = true from rfl)]
  exact ex_some
/-! ### special lists of a def's own -/
section
variable {X : Str → S → Prop} {ρ : List Sl} {s : S}
theorem wp_tupT {fs : DA} {Q : D → S → Prop} : wp (eTupT fs ρ s) Q X = wp (fs ρ s) (fun ds s1 => ∃ z, tupT s1 ds = some z ∧ Q z s1) X := by
  unfold eTupT
  rw [wp_bind]
  congr 1
  funext a s1
  rw [wp_ofO]
theorem x_tt_tok {n : Nat} {P : D → Prop} : (∃ z, tupT s [.tok n] = some z ∧ P z) = ∃ l, tokL s n = some l ∧ P (.tup l) := by
  show (∃ z, (tokL s n).map .tup = some z ∧ P z) = _
  cases tokL s n <;> simp
theorem x_tt_tup {xs : List D} {P : D → Prop} : (∃ z, tupT s [.tup xs] = some z ∧ P z) = P (.tup xs) := by show (∃ z, some (D.tup xs) = some z ∧ P z) = _; exact ex_some
theorem x_tt_lst {xs : List D} {P : D → Prop} : (∃ z, tupT s [.lst xs] = some z ∧ P z) = P (.tup xs) := by show (∃ z, some (D.tup xs) = some z ∧ P z) = _; exact ex_some
end
theorem ixN_lt {n j : Nat} {i : Int} (h : i = j) (hj : j < n) : ixN n i = some j := by rw [h]; exact ixN_lit hj
theorem wpl_s {clr : List Nat} {g : DG} {b : DS} {ds : List D} {ρ : List Sl} {s : S} {N B C : List Sl → S → Prop} {R : D → S → Prop} {X : Str → S → Prop} {w : Wits N B C R X} (U : Nat → List (Nat × Sl)) (P : Nat → S → Prop) (h0 : updL (wipeD ρ clr) (U 0) = wipeD ρ clr) (p0 : P 0 s)
    (hs : ∀ i d s', ds[i]? = some d → P i s' → ∃ ρ1, g d (updL (wipeD ρ clr) (U i)) = some ρ1 ∧ wps (b ρ1 s') (fun ρ2 s2 => wipeD ρ2 clr = updL (wipeD ρ clr) (U (i + 1)) ∧ P (i + 1) s2) (fun ρ2 s2 => N (wipeD ρ2 clr) s2) (fun ρ2 s2 => wipeD ρ2 clr = updL (wipeD ρ clr) (U (i + 1)) ∧ P (i + 1) s2) R X)
    (hn : ∀ s', P ds.length s' → N (updL (wipeD ρ clr) (U ds.length)) s') : wpl clr g b ds ρ s N B C R X w := by
  refine wpl_of (fun i ρ' s' => ρ' = updL (wipeD ρ clr) (U i) ∧ P i s') ⟨h0.symm, p0⟩ ?_ ?_
  · rintro i d _ s' hd ⟨rfl, hp⟩
    exact hs i d s' hd hp
  · rintro _ s' ⟨rfl, hp⟩
    exact hn s' hp
theorem wp_ixO {i : Nat} {h : DE} {ρ : List Sl} {s : S} {Q : D → S → Prop} {X : Str → S → Prop} : wp (eIxO i h ρ s) Q X = wpo i ρ fun ds => wp (h ρ s) (fun k s1 => ∃ z, k = .int z ∧ ∃ d, atI ds z = some d ∧ Q d s1) X := by
  unfold eIxO wpo
  cases ρ[i]? with
  | none => simp only [wp_bad]
  | some y =>
    cases y with
    | own ds =>
      dsimp only
      rw [wp_bind]
      congr 1
      funext k s1
      cases k with
      | int z =>
        dsimp only
        rw [wp_ofO]
        simp
      | _ => simp [wp_bad]
    | _ => simp only [wp_bad]
theorem q_sput {i : Nat} {fi fv : DE} {ρ : List Sl} {s : S} {N B C : List Sl → S → Prop} {R : D → S → Prop} {X : Str → S → Prop} : wps (sPut i fi fv ρ s) N B C R X = wpo i ρ fun ds => wp (fv ρ s) (fun d s1 => wp (fi ρ s1) (fun k s2 => ∃ z, k = .int z ∧ ∃ j, ixN ds.length z = some j ∧ wpn ρ [(i, .own (ds.set j d))] fun ρ1 => N ρ1 s2) X) X := by
  unfold sPut
  rw [wpo_of]
  congr 1
  funext ds
  rw [wps_then]
  congr 1
  funext d s1
  rw [wps_then]
  congr 1
  funext k s2
  cases k with
  | int z =>
    simp only [D.int.injEq, exists_eq_left']
    cases hx : ixN ds.length z with
    | none => simp [wps, hx]
    | some j =>
      simp only [Option.some.injEq, exists_eq_left', hx]
      rw [set_at]
      with_unfolding_all rfl
  | _ => simp [wps]
end DL
namespace DL
open PySem PySem.Spec PyProof.Rows L2
/-! ### loops over lists that are written out -/
section
variable {ρ : List Sl} {s : S} {N B C : List Sl → S → Prop} {R : D → S → Prop} {X : Str → S → Prop}
theorem q_popI {i : Nat} {f : DE} : wps (sPopI i f ρ s) N B C R X = wpo i ρ fun ds => wp (f ρ s) (fun d s1 => ∃ z, d = .int z ∧ (-(2 ^ 63) ≤ z ∧ z < 2 ^ 63) ∧ ∃ p, dropAt ds z = some p ∧ wpn ρ [(i, .own p.2)] fun ρ1 => N ρ1 s1) X := by
  unfold sPopI
  rw [wpo_of]
  congr 1
  funext ds
  rw [wps_then]
  congr 1
  funext d s1
  cases d with
  | int z =>
    simp only [D.int.injEq, exists_eq_left']
    rw [ite_bad]
    congr 1
    cases h : dropAt ds z with
    | none => simp [wps]
    | some p =>
      simp only [Option.some.injEq, exists_eq_left', set_at]
      with_unfolding_all rfl
  | _ => simp [wps]
theorem wp_lstR1 {f : DE} {Q : D → S → Prop} : wp (eLstR1 f ρ s) Q X = wp (f ρ s) (fun d s1 => ∃ j, d = .int j ∧ (-(2 ^ 62) ≤ j ∧ j ≤ 2 ^ 24) ∧ Q (.lst (rngD 0 1 j.toNat)) s1) X := by
  unfold eLstR1
  rw [wp_bind]
  congr 1
  funext d s1
  cases d with
  | int j =>
    simp only [D.int.injEq, exists_eq_left']
    rw [wp_ite, wp_ok, wp_bad]
    by_cases h : -(2 ^ 62) ≤ j ∧ j ≤ 2 ^ 24
    · rw [if_pos h]; exact propext ⟨fun q => ⟨h, q⟩, fun q => q.2⟩
    · rw [if_neg h]; exact propext ⟨fun q => q.elim, fun q => h q.1⟩
  | _ => simp [wp_bad]
theorem wp_lstR2 {f g : DE} {Q : D → S → Prop} : wp (eLstR2 f g ρ s) Q X = wp (f ρ s) (fun d s1 => wp (g ρ s1) (fun e s2 => ∃ i, d = .int i ∧ ∃ j, e = .int j ∧ (-(2 ^ 62) ≤ i ∧ i < 2 ^ 62 ∧ -(2 ^ 62) ≤ j ∧ j < 2 ^ 62 ∧ (j - i).toNat ≤ 2 ^ 24) ∧ Q (.lst (rngD i 1 (j - i).toNat)) s2) X) X := by
  unfold eLstR2
  rw [wp_bind]
  congr 1
  funext d s1
  rw [wp_bind]
  congr 1
  funext e s2
  cases d with
  | int i =>
    cases e with
    | int j =>
      simp only [D.int.injEq, exists_eq_left']
      rw [wp_ite, wp_ok, wp_bad]
      split
      · rename_i h; exact propext ⟨fun q => ⟨h, q⟩, fun q => q.2⟩
      · rename_i h; exact propext ⟨fun q => q.elim, fun q => h q.1⟩
    | _ => simp [wp_bad]
  | _ => simp [wp_bad]
theorem wp_revR1 {f : DE} {Q : List D → S → Prop} : wp (iRevR1 f ρ s) Q X = wp (f ρ s) (fun d s1 => ∃ j, d = .int j ∧ (-(2 ^ 62) ≤ j ∧ j < 2 ^ 62) ∧ Q (rngD ((j.toNat : Int) - 1) (-1) j.toNat) s1) X := by
  unfold iRevR1
  rw [wp_bind]
  congr 1
  funext d s1
  cases d with
  | int j =>
    simp only [D.int.injEq, exists_eq_left']
    rw [wp_ite, wp_ok, wp_bad]
    split
    · rename_i h; exact propext ⟨fun q => ⟨h, q⟩, fun q => q.2⟩
    · rename_i h; exact propext ⟨fun q => q.elim, fun q => h q.1⟩
  | _ => simp [wp_bad]
theorem wp_revR2 {f g : DE} {Q : List D → S → Prop} : wp (iRevR2 f g ρ s) Q X = wp (f ρ s) (fun d s1 => wp (g ρ s1) (fun e s2 => ∃ i, d = .int i ∧ ∃ j, e = .int j ∧ (-(2 ^ 62) ≤ i ∧ i < 2 ^ 62 ∧ -(2 ^ 62) ≤ j ∧ j < 2 ^ 62) ∧ Q (rngD (i + ((j - i).toNat : Int) - 1) (-1) (j - i).toNat) s2) X) X := by
  unfold iRevR2
  rw [wp_bind]
  congr 1
  funext d s1
  rw [wp_bind]
  congr 1
  funext e s2
  cases d with
  | int i =>
    cases e with
    | int j =>
      simp only [D.int.injEq, exists_eq_left']
      rw [wp_ite, wp_ok, wp_bad]
      split
      · rename_i h; exact propext ⟨fun q => ⟨h, q⟩, fun q => q.2⟩
      · rename_i h; exact propext ⟨fun q => q.elim, fun q => h q.1⟩
    | _ => simp [wp_bad]
  | _ => simp [wp_bad]
end
end DL
namespace DL
open PySem PySem.Spec PyProof.Rows L2
/-! ### the order of data, and what sorted gives -/
/-! whole numbers -/
/-! tuples of whole numbers -/
def tupI (xs : List Int) : D := .tup (xs.map .int)
/-! rows of noughts and ones -/
def lets (ls : List Nat) : List D := ls.map fun c => .int (c : Nat)
theorem lets_at {ls : List Nat} {i : Nat} (h : i < ls.length) : atI (lets ls) (i : Int) = some (.int ((ls[i]?.getD 0 : Nat) : Int)) := by
  obtain ⟨d, e, hd⟩ := atI_of (xs := lets ls) (i := (i : Int)) (by omega) (by simp [lets]; omega)
  rw [Int.toNat_natCast, lets, List.getElem?_map, List.getElem?_eq_getElem h] at hd
  rw [List.getElem?_eq_getElem h]
  cases hd
  exact e
theorem lets_len {ls : List Nat} : (lets ls).length = ls.length := by simp [lets]
theorem lets_get {ls : List Nat} {i : Nat} {d : D} (h : (lets ls)[i]? = some d) : i < ls.length ∧ d = .int ((ls[i]?.getD 0 : Nat) : Int) := by
  rw [lets, List.getElem?_map] at h
  obtain ⟨x, hx, rfl⟩ := Option.map_eq_some_iff.mp h
  exact ⟨(List.getElem?_eq_some_iff.mp hx).1, by rw [hx]; rfl⟩
theorem flats_lets (ls : List Nat) : flats (lets ls) = true := by
  rw [show lets ls = (ls.map (fun n : Nat => (n : Int))).map D.int by simp [lets]]
  exact flats_ints _
/-! equality of tuples of whole numbers -/
/-! tuples of texts, told by numbers -/
/-! parts of things -/
end DL
namespace DL
open PySem PySem.Spec PyProof.Rows L2
/-! ### dicts, plain -/
section
variable {ρ : List Sl} {s : S} {N B C : List Sl → S → Prop} {R : D → S → Prop} {X : Str → S → Prop}
theorem wp_newK {Q : D → S → Prop} : wp (eNewK ρ s) Q X = Q (.tok s.length) (s ++ [.d []]) := by unfold eNewK; rw [wp_ok]
theorem wp_newT {Q : D → S → Prop} : wp (eNewT ρ s) Q X = Q (.tok s.length) (s ++ [.t []]) := by unfold eNewT; rw [wp_ok]
theorem wp_evp {ps : List (DE × DE)} {Q : List (Key × D) → S → Prop} {f g : DE} : wp (evPairs ((f, g) :: ps) ρ s) Q X = wp (f ρ s) (fun k s1 => wp (g ρ s1) (fun d s2 => ∃ kk, dk k = some kk ∧ wp (evPairs ps ρ s2) (fun l s3 => Q ((kk, d) :: l) s3) X) X) X := by
  conv => lhs; unfold evPairs
  rw [wp_bind]
  congr 1
  funext k s1
  rw [wp_bind]
  congr 1
  funext d s2
  cases dk k with
  | none => simp [wp]
  | some kk =>
    simp only [Option.some.injEq, exists_eq_left']
    rw [wp_bind]
    congr 1
    funext l s3
    rw [wp_ok]
theorem wp_evp0 {Q : List (Key × D) → S → Prop} : wp (evPairs [] ρ s) Q X = Q [] s := by unfold evPairs; rw [wp_ok]
theorem wp_dispK {ps : List (DE × DE)} {Q : D → S → Prop} : wp (eDispK ps ρ s) Q X = wp (evPairs ps ρ s) (fun l s1 => flats ((mergeC l).map (·.2)) = true ∧ Q (.tok s1.length) (s1 ++ [.d (mergeC l)])) X := by
  unfold eDispK
  rw [wp_bind]
  congr 1
  funext l s1
  rw [wp_ite, wp_ok, wp_bad]
  by_cases h : flats ((mergeC l).map (·.2)) = true
  · rw [if_pos h]; exact propext ⟨fun q => ⟨h, q⟩, fun q => q.2⟩
  · rw [if_neg h]; exact propext ⟨fun q => q.elim, fun q => h q.1⟩
theorem wp_dispT {f g : DE} {Q : D → S → Prop} : wp (eDispT f g ρ s) Q X = wp (f ρ s) (fun k s1 => wp (g ρ s1) (fun d s2 => ∃ kk, dkT k = some kk ∧ flat d = true ∧ Q (.tok s2.length) (s2 ++ [.t [(kk, d)]])) X) X := by
  unfold eDispT
  rw [wp_bind]
  congr 1
  funext k s1
  rw [wp_bind]
  congr 1
  funext d s2
  cases dkT k with
  | none => simp [wp]
  | some kk =>
    simp only [Option.some.injEq, exists_eq_left']
    rw [wp_ite, wp_ok, wp_bad]
    by_cases h : flat d = true
    · rw [if_pos h]; exact propext ⟨fun q => ⟨h, q⟩, fun q => q.2⟩
    · rw [if_neg h]; exact propext ⟨fun q => q.elim, fun q => h q.1⟩
theorem wp_get2 {f h g : DE} {Q : D → S → Prop} : wp (eGet2 f h g ρ s) Q X = wp (f ρ s) (fun a s1 => isDct s1 a = true ∧ wp (h ρ s1) (fun y s2 => wp (g ρ s2) (fun z s3 => ∃ o, getC s3 a y = some o ∧ Q (o.getD z) s3) X) X) X := by
  unfold eGet2
  rw [wp_bind]
  congr 1
  funext a s1
  rw [wp_ite, wp_bad]
  by_cases hd : isDct s1 a = true
  · rw [if_pos hd, wp_bind]
    refine propext ⟨fun q => ⟨hd, ?_⟩, fun q => ?_⟩
    · refine wp_mono q (fun y s2 q => ?_) fun _ _ z => z
      rw [wp_bind] at q
      refine wp_mono q (fun z s3 q => ?_) fun _ _ z => z
      rw [wp_ofO] at q
      obtain ⟨u, hu, q⟩ := q
      obtain ⟨o, ho, rfl⟩ := Option.map_eq_some_iff.mp hu
      exact ⟨o, ho, q⟩
    · refine wp_mono q.2 (fun y s2 q => ?_) fun _ _ z => z
      rw [wp_bind]
      refine wp_mono q (fun z s3 q => ?_) fun _ _ z => z
      rw [wp_ofO]
      obtain ⟨o, ho, q⟩ := q
      exact ⟨_, by rw [ho]; rfl, q⟩
  · rw [if_neg hd]
    exact propext ⟨fun q => q.elim, fun q => hd q.1⟩
theorem wp_iRange3 {fs : DA} {Q : List D → S → Prop} : wp (iRange3 fs ρ s) Q X = wp (fs ρ s) (fun ds s1 => ∃ i j c, ds = [.int i, .int j, .int c] ∧ (c = -1 ∧ -(2 ^ 60) ≤ i ∧ i < 2 ^ 60 ∧ -(2 ^ 60) ≤ j ∧ j < 2 ^ 60) ∧ Q (rngD i c (i - j).toNat) s1) X := by
  unfold iRange3
  rw [wp_bind]
  congr 1
  funext ds s1
  split
  · rename_i i j c
    rw [wp_ite, wp_ok, wp_bad]
    by_cases h : c = -1 ∧ -(2 ^ 60) ≤ i ∧ i < 2 ^ 60 ∧ -(2 ^ 60) ≤ j ∧ j < 2 ^ 60
    · rw [if_pos h]
      exact propext ⟨fun q => ⟨i, j, c, rfl, h, q⟩, fun ⟨i', j', c', e, h', q⟩ => by cases e; exact q⟩
    · rw [if_neg h]
      exact propext ⟨fun q => q.elim, fun ⟨i', j', c', e, h', q⟩ => by cases e; exact h h'⟩
  · rename_i h
    rw [wp_bad]
    exact propext ⟨fun z => z.elim, fun ⟨i, j, c, e, _⟩ => h i j c e⟩
def zpMOf (ds : List D) : Option (List D) := match ds with
  | [d, e] => if isTu d = false ∧ isTu e = true then (match sqOf d, sqOf e with
    | some as, some bs => some (zipD as bs)
    | _, _ => none) else none
  | _ => none
theorem wp_iZipM {fs : DA} {Q : List D → S → Prop} : wp (iZipM fs ρ s) Q X = wp (fs ρ s) (fun ds s1 => ∃ z, zpMOf ds = some z ∧ Q z s1) X := by
  unfold iZipM
  rw [wp_bind]
  congr 1
  funext ds s1
  unfold zpMOf
  split
  · rename_i d e
    rw [wp_ite, wp_bad]
    try dsimp only
    by_cases h : isTu d = false ∧ isTu e = true
    · rw [if_pos h, if_pos h]
      cases sqOf d <;> cases sqOf e <;> simp [wp]
    · rw [if_neg h, if_neg h]; simp
  · simp [wp]
theorem zp_m {xs ys : List D} {P : List D → Prop} : (∃ z, zpMOf [.lst xs, .tup ys] = some z ∧ P z) = P (zipD xs ys) := by show (∃ z, some (zipD xs ys) = some z ∧ P z) = _; exact ex_some
theorem q_r3 {i j c : Int} {P : Int → Int → Int → Prop} : (∃ a b d, [D.int i, D.int j, D.int c] = [D.int a, D.int b, D.int d] ∧ P a b d) = P i j c := by
  refine propext ⟨fun ⟨a, b, d, e, p⟩ => by cases e; exact p, fun p => ⟨i, j, c, rfl, p⟩⟩
/-- what a store makes of the special objects -/
def putS (s : S) (t k d : D) : Option S := match t with
  | .tok n => match tokK s n, tokT s n, dk k, dkT k with
    | some l, _, some k, _ => if flat d = true ∧ l.length < 16777216 then some (s.set n (.d (putC l k d))) else none
    | _, some l, _, some k => if flat d = true ∧ l.length < 16777216 then some (s.set n (.t (putC l k d))) else none
    | _, _, _, _ => none
  | _ => none
theorem wps_putC {f fi fv : DE} : wps (sPutC f fi fv ρ s) N B C R X = wp (fv ρ s) (fun d s1 => wp (f ρ s1) (fun t s2 => wp (fi ρ s2) (fun k s3 => ∃ s4, putS s3 t k d = some s4 ∧ N ρ s4) X) X) X := by
  unfold sPutC
  rw [wps_then]
  congr 1
  funext d s1
  rw [wps_then]
  congr 1
  funext t s2
  rw [wps_then]
  congr 1
  funext k s3
  unfold putS
  cases t with
  | tok n =>
    try dsimp only
    cases tokK s3 n <;> cases tokT s3 n <;> cases dk k <;> cases dkT k <;> first
      | (simp [wps]; done)
      | (dsimp only; rw [wps_ite, wz_next, wz_bad]; split <;> simp_all)
  | _ => simp [wps]
end
/-! the pen that is a dict -/
def penC (p left : D) : Cell := .d [(.inr "cells", .tok 0), (.inr "at", p), (.inr "left", left)]
section
variable {c0 : Cell} {p l d : D} {r : S} {P : D → Prop} {Q : S → Prop}
theorem x_pcells : (∃ z, dIxC (c0 :: penC p l :: r) (.tok 1) (.str "cells") = some z ∧ P z) = P (.tok 0) := by
  have e : dIxC (c0 :: penC p l :: r) (.tok 1) (.str "cells") = some (.tok 0) := rfl
  rw [e]; exact ex_some
theorem x_pat : (∃ z, dIxC (c0 :: penC p l :: r) (.tok 1) (.str "at") = some z ∧ P z) = P p := by
  have e : dIxC (c0 :: penC p l :: r) (.tok 1) (.str "at") = some p := rfl
  rw [e]; exact ex_some
theorem x_pleft : (∃ z, dIxC (c0 :: penC p l :: r) (.tok 1) (.str "left") = some z ∧ P z) = P l := by
  have e : dIxC (c0 :: penC p l :: r) (.tok 1) (.str "left") = some l := rfl
  rw [e]; exact ex_some
theorem x_wat : (∃ z, putS (c0 :: penC p l :: r) (.tok 1) (.str "at") d = some z ∧ Q z) = (flat d = true ∧ Q (c0 :: penC d l :: r)) := by
  have e : putS (c0 :: penC p l :: r) (.tok 1) (.str "at") d = if flat d = true ∧ 3 < 16777216 then some (c0 :: penC d l :: r) else none := rfl
  rw [e]
  by_cases h : flat d = true <;> simp [h]
theorem x_wleft : (∃ z, putS (c0 :: penC p l :: r) (.tok 1) (.str "left") d = some z ∧ Q z) = (flat d = true ∧ Q (c0 :: penC p d :: r)) := by
  have e : putS (c0 :: penC p l :: r) (.tok 1) (.str "left") d = if flat d = true ∧ 3 < 16777216 then some (c0 :: penC p d :: r) else none := rfl
  rw [e]
  by_cases h : flat d = true <;> simp [h]
end
end DL
namespace DL
open PySem PySem.Spec PyProof.Rows L2
section
variable {ρ : List Sl} {s : S} {N B C : List Sl → S → Prop} {R : D → S → Prop} {X : Str → S → Prop}
theorem q_move {i j : Nat} : wps (sMove i j ρ s) N B C R X = wpo j ρ fun ds => wpn ρ [(j, .emp), (i, .own ds)] fun ρ1 => N ρ1 s := by
  unfold sMove
  rw [wpo_of]
  congr 1
  funext ds
  simp only [set_at]
  with_unfolding_all rfl
theorem wps_appT {f fv : DE} : wps (sAppT f fv ρ s) N B C R X = wp (f ρ s) (fun t s1 => isTokL s1 t = true ∧ wp (fv ρ s1) (fun d s2 => ∃ s3, appS s2 t d = some s3 ∧ N ρ s3) X) X := by
  unfold sAppT
  rw [wps_then]
  congr 1
  funext t s1
  by_cases h : isTokL s1 t = true
  · rw [if_pos h, wps_then]
    refine propext ⟨fun q => ⟨h, ?_⟩, fun q => ?_⟩
    · refine wp_mono q (fun d s2 q => ?_) fun _ _ z => z
      cases ha : appS s2 t d with
      | none => rw [ha] at q; simp [wps] at q
      | some s3 => rw [ha] at q; exact ⟨s3, rfl, by simpa [wps] using q⟩
    · refine wp_mono q.2 (fun d s2 q => ?_) fun _ _ z => z
      obtain ⟨s3, e, q⟩ := q
      rw [e]
      simpa [wps] using q
  · rw [if_neg h]
    exact propext ⟨fun q => by simp [wps] at q, fun q => absurd q.1 h⟩
/-- the expressions that change an own list -/
theorem wpy_pop {i : Nat} {Q : D × List Sl → S → Prop} : wp (yPop i ρ s) Q X = wpo i ρ fun ds => ∃ d, ds.getLast? = some d ∧ Q (d, ρ.set i (.own ds.dropLast)) s := by
  unfold yPop wpo
  cases ρ[i]? with
  | none => exact propext ⟨fun q => by simp [wp] at q, fun q => q.elim⟩
  | some y =>
    cases y with
    | own ds =>
      dsimp only
      cases ds.getLast? with
      | none => exact propext ⟨fun q => by simp [wp] at q, fun ⟨_, e, _⟩ => by cases e⟩
      | some d => exact propext ⟨fun q => ⟨d, rfl, by rwa [wp_ok] at q⟩, fun ⟨_, e, q⟩ => by cases e; rwa [wp_ok]⟩
    | _ => exact propext ⟨fun q => by simp [wp] at q, fun q => q.elim⟩
theorem wpy_popI {i : Nat} {f : DE} {Q : D × List Sl → S → Prop} : wp (yPopI i f ρ s) Q X = wpo i ρ fun ds => wp (f ρ s) (fun d s1 => ∃ z, d = .int z ∧ (-(2 ^ 63) ≤ z ∧ z < 2 ^ 63) ∧ ∃ p, dropAt ds z = some p ∧ Q (p.1, ρ.set i (.own p.2)) s1) X := by
  unfold yPopI wpo
  cases ρ[i]? with
  | none => exact propext ⟨fun q => by simp [wp] at q, fun q => q.elim⟩
  | some y =>
    cases y with
    | own ds =>
      dsimp only
      rw [wp_bind]
      congr 1
      funext d s1
      cases d with
      | int z =>
        simp only [D.int.injEq, exists_eq_left']
        rw [wp_ite, wp_bad]
        by_cases h : -(2 ^ 63) ≤ z ∧ z < 2 ^ 63
        · rw [if_pos h]
          cases dropAt ds z with
          | none => exact propext ⟨fun q => by simp [wp] at q, fun ⟨_, _, e, _⟩ => by cases e⟩
          | some p => exact propext ⟨fun q => ⟨h, p, rfl, by rwa [wp_ok] at q⟩, fun ⟨_, _, e, q⟩ => by cases e; rwa [wp_ok]⟩
        · rw [if_neg h]
          exact propext ⟨fun q => q.elim, fun q => h q.1⟩
      | _ => exact propext ⟨fun q => by simp [wp] at q, fun ⟨_, e, _⟩ => by cases e⟩
    | _ => exact propext ⟨fun q => by simp [wp] at q, fun q => q.elim⟩
theorem wpy_op2 {g : F2} {f : DY} {h : DE} {Q : D × List Sl → S → Prop} : wp (yOp2 g f h ρ s) Q X = wp (f ρ s) (fun p s1 => wp (h p.2 s1) (fun b s2 => ∃ d, g p.1 b = some d ∧ Q (d, p.2) s2) X) X := by
  unfold yOp2
  rw [wp_bind]
  congr 1
  funext p s1
  rw [wp_bind]
  congr 1
  funext b s2
  cases g p.1 b <;> simp [wp]
theorem q_appY {i : Nat} {f : DY} : wps (sAppY i f ρ s) N B C R X = wpo i ρ fun _ => wp (f ρ s) (fun p s1 => wpo i p.2 fun ds => ds.length < 16777216 ∧ wpn p.2 [(i, .own (ds ++ [p.1]))] fun ρ1 => N ρ1 s1) X := by
  unfold sAppY
  rw [wpo_of]
  congr 1
  funext _
  rw [wps_then]
  congr 1
  funext p s1
  rw [wpo_of]
  congr 1
  funext ds
  rw [ite_bad]
  simp only [set_at]
  with_unfolding_all rfl
theorem wp_fmt {f : DE} {Q : D → S → Prop} : wp (eFmt f ρ s) Q X = wp (f ρ s) (fun d s1 => match d with
    | .int i => i.natAbs.log2 < 1920 ∧ Q (.str (toString i)) s1
    | .str y => y.length ≤ 16777216 ∧ Q (.str y) s1
    | _ => False) X := by
  unfold eFmt
  rw [wp_bind]
  congr 1
  funext d s1
  cases d with
  | int i =>
    dsimp only
    rw [wp_ite, wp_ok, wp_bad]
    by_cases h : i.natAbs.log2 < 1920 <;> simp [h]
  | str y =>
    dsimp only
    rw [wp_ite, wp_ok, wp_bad]
    by_cases h : y.length ≤ 16777216 <;> simp [h]
  | _ => simp [wp]
theorem wp_js {fs : List DE} {Q : D → S → Prop} : wp (eJs fs ρ s) Q X = wp (jsD fs Str.empty ρ s) Q X := rfl
theorem wp_js0 {acc : Str} {Q : D → S → Prop} : wp (jsD [] acc ρ s) Q X = Q (.str acc) s := by unfold jsD; rw [wp_ok]
theorem wp_js1 {acc : Str} {f : DE} {fs : List DE} {Q : D → S → Prop} : wp (jsD (f :: fs) acc ρ s) Q X = wp (f ρ s) (fun d s1 => ∃ y, d = .str y ∧ (acc ++ y).length ≤ 16777216 ∧ wp (jsD fs (acc ++ y) ρ s1) Q X) X := by
  conv => lhs; unfold jsD
  rw [wp_bind]
  congr 1
  funext d s1
  cases d with
  | str y =>
    simp only [D.str.injEq, exists_eq_left']
    rw [wp_ite, wp_bad]
    by_cases h : (acc ++ y).length ≤ 16777216 <;> simp [h]
  | _ => simp [wp]
theorem x_dm {i j : Int} {P : D → Prop} : (∃ z, dDivmod [.int i, .int j] = some z ∧ P z) = ((0 < j ∧ j < 1073741824) ∧ P (.tup [.int (i / j), .int (i % j)])) := by
  unfold dDivmod
  by_cases h : 0 < j ∧ j < 1073741824 <;> simp [h]
theorem wp_chain3 {g g' g'' : F2} {f h k l : DE} {Q : D → S → Prop} : wp (eChain3 g g' g'' f h k l ρ s) Q X = wp (f ρ s) (fun x s1 => wp (h ρ s1) (fun y s2 => ∃ d, g x y = some d ∧ ∃ b, d = .bl b ∧ (if b = true then wp (k ρ s2) (fun z s3 => ∃ d, g' y z = some d ∧ ∃ c, d = .bl c ∧ (if c = true then wp (l ρ s3) (fun u s4 => ∃ d, g'' z u = some d ∧ Q d s4) X else Q (.bl false) s3)) X else Q (.bl false) s2)) X) X := by
  unfold eChain3
  rw [wp_bind]
  congr 1
  funext x s1
  rw [wp_bind]
  congr 1
  funext y s2
  cases g x y with
  | none => simp [wp]
  | some d =>
    cases d with
    | bl b =>
      cases b with
      | false => simp [wp]
      | true =>
        simp only [Option.some.injEq, exists_eq_left', D.bl.injEq, if_true]
        rw [wp_bind]
        congr 1
        funext z s3
        cases g' y z with
        | none => simp [wp]
        | some d =>
          cases d with
          | bl c =>
            cases c with
            | false => simp [wp]
            | true =>
              simp only [Option.some.injEq, exists_eq_left', D.bl.injEq, if_true]
              rw [wp_bind]
              congr 1
              funext u s4
              rw [wp_ofO]
          | _ => simp [wp]
    | _ => simp [wp]
end
theorem x_rat0 {q : Rat} {s : S} {P : D → Prop} : (∃ z, dIxT s (rat q) (.int 0) = some z ∧ P z) = P (.int q.num) := by
  have e : dIxT s (rat q) (.int 0) = some (.int q.num) := rfl
  rw [e]; exact ex_some
theorem x_rat1 {q : Rat} {s : S} {P : D → Prop} : (∃ z, dIxT s (rat q) (.int 1) = some z ∧ P z) = P (.int q.den) := by
  have e : dIxT s (rat q) (.int 1) = some (.int q.den) := rfl
  rw [e]; exact ex_some
end DL
namespace DL
open PySem PySem.Spec PyProof.Rows L2
section
variable {ρ : List Sl} {s : S} {N B C : List Sl → S → Prop} {R : D → S → Prop} {X : Str → S → Prop}
theorem q_swap {i : Nat} {fe gi gj : DE} : wps (sSwap i fe gi gj ρ s) N B C R X = wp (fe ρ s) (fun v s1 => ∃ d e, v = .tup [d, e] ∧ wpo i ρ fun ds => wp (gi ρ s1) (fun k s2 => ∃ z, k = .int z ∧ ∃ j, ixN ds.length z = some j ∧ wpn ρ [(i, .own (ds.set j d))] fun ρ1 => wp (gj ρ1 s2) (fun k' s3 => ∃ z', k' = .int z' ∧ ∃ j', ixN ds.length z' = some j' ∧ wpn ρ [(i, .own ((ds.set j d).set j' e))] fun ρ2 => N ρ2 s3) X) X) X := by
  unfold sSwap
  rw [wps_then]
  congr 1
  funext v s1
  match v with
  | .tup [d, e] =>
    refine Eq.trans (b := wpo i ρ fun ds => wp (gi ρ s1) (fun k s2 => ∃ z, k = .int z ∧ ∃ j, ixN ds.length z = some j ∧ wpn ρ [(i, .own (ds.set j d))] fun ρ1 => wp (gj ρ1 s2) (fun k' s3 => ∃ z', k' = .int z' ∧ ∃ j', ixN ds.length z' = some j' ∧ wpn ρ [(i, .own ((ds.set j d).set j' e))] fun ρ2 => N ρ2 s3) X) X) ?_ (propext ⟨fun q => ⟨d, e, rfl, q⟩, fun ⟨_, _, h, q⟩ => by cases h; exact q⟩)
    rw [wpo_of]
    congr 1
    funext ds
    rw [wps_then]
    congr 1
    funext k s2
    cases k with
    | int z =>
      simp only [D.int.injEq, exists_eq_left']
      cases hx : ixN ds.length z with
      | none => simp [wps]
      | some j =>
        simp only [Option.some.injEq, exists_eq_left', wpn]
        rw [wps_then, set_at]
        congr 1
        funext k' s3
        cases k' with
        | int z' =>
          simp only [D.int.injEq, exists_eq_left']
          cases hy : ixN ds.length z' with
          | none => simp [wps]
          | some j' =>
            simp only [Option.some.injEq, exists_eq_left', wz_next]
            rw [set_at]
        | _ => simp [wps]
    | _ => simp [wps]
  | .non => simp [wps]
  | .bl _ => simp [wps]
  | .int _ => simp [wps]
  | .str _ => simp [wps]
  | .lst _ => simp [wps]
  | .frz _ => simp [wps]
  | .dct _ => simp [wps]
  | .tok _ => simp [wps]
  | .ty _ => simp [wps]
  | .glb _ => simp [wps]
  | .ktp _ => simp [wps]
  | .exc _ => simp [wps]
  | .fd _ _ => simp [wps]
  | .tup [] => simp [wps]
  | .tup [_] => simp [wps]
  | .tup (_ :: _ :: _ :: _) => simp [wps]
theorem wp_idx {f h : DE} {Q : D → S → Prop} : wp (eIdx f h ρ s) Q X = wp (f ρ s) (fun x s1 => ∃ ds, x = .lst ds ∧ wp (h ρ s1) (fun y s2 => ∃ z, dIdx ds y = some z ∧ Q z s2) X) X := by
  unfold eIdx
  rw [wp_bind]
  congr 1
  funext x s1
  cases x with
  | lst ds =>
    simp only [D.lst.injEq, exists_eq_left']
    rw [wp_bind]
    congr 1
    funext y s2
    rw [wp_ofO]
  | _ => simp [wp]
theorem q_tup2 {d e : D} {P : D → D → Prop} : (∃ d' e', D.tup [d, e] = .tup [d', e'] ∧ P d' e') = P d e := propext ⟨fun ⟨_, _, h, q⟩ => by cases h; exact q, fun q => ⟨d, e, rfl, q⟩⟩
theorem wp_iZip3 {fs : DA} {Q : List D → S → Prop} : wp (iZip3 fs ρ s) Q X = wp (fs ρ s) (fun ds s1 => ∃ z, zp3Of ds = some z ∧ Q z s1) X := by
  unfold iZip3
  rw [wp_bind]
  congr 1
  funext ds s1
  rw [wp_ofO]
theorem zp_3 {xs ys zs : List D} {P : List D → Prop} : (∃ z, zp3Of [.lst xs, .lst ys, .lst zs] = some z ∧ P z) = P (zip3D xs ys zs) := by show (∃ z, some (zip3D xs ys zs) = some z ∧ P z) = _; exact ex_some
theorem wp_lenC {fs : DA} {Q : D → S → Prop} : wp (eLenC fs ρ s) Q X = wp (fs ρ s) (fun ds s1 => ∃ z, lenC s1 ds = some z ∧ Q z s1) X := by
  unfold eLenC
  rw [wp_bind]
  congr 1
  funext ds s1
  rw [wp_ofO]
theorem wp_iZip3X {fs : DA} {Q : List D → S → Prop} : wp (iZip3X fs ρ s) Q X = wp (fs ρ s) (fun ds s1 => ∃ z, zp3OfX ds = some z ∧ Q z s1) X := by
  unfold iZip3X
  rw [wp_bind]
  congr 1
  funext ds s1
  rw [wp_ofO]
theorem zp_3X {xs ys zs : List D} {P : List D → Prop} : (∃ z, zp3OfX [.tup xs, .lst ys, .tup zs] = some z ∧ P z) = P (zip3D xs ys zs) := by show (∃ z, some (zip3D xs ys zs) = some z ∧ P z) = _; exact ex_some
end
end DL
namespace DL
open PySem PySem.Spec PyProof.Rows L2
section
variable {ρ : List Sl} {s : S} {N B C : List Sl → S → Prop} {R : D → S → Prop} {X : Str → S → Prop}
theorem wp_cnt {f h : DE} {Q : D → S → Prop} : wp (eCnt f h ρ s) Q X = wp (f ρ s) (fun x s1 => ∃ ds, x = .lst ds ∧ wp (h ρ s1) (fun y s2 => ∃ z, dCnt ds y = some z ∧ Q z s2) X) X := by
  unfold eCnt
  rw [wp_bind]
  congr 1
  funext x s1
  cases x with
  | lst ds =>
    simp only [D.lst.injEq, exists_eq_left']
    rw [wp_bind]
    congr 1
    funext y s2
    rw [wp_ofO]
  | _ => simp [wp]
theorem wp_fin {x : Fl} {Q : D → S → Prop} : wp (finD x) Q X = wps x (fun _ s => Q .non s) (fun _ _ => False) (fun _ _ => False) Q X := by
  cases x <;> simp [finD, wp, wps]
theorem exc_of {α : Type} {r : Res α} {x : Str} {s : S} (h : wp r (fun _ _ => False) (fun c s' => c = x ∧ s' = s)) : r = .exc x s := by
  unfold wp at h
  cases r with
  | ok a s1 => exact h.elim
  | exc c s1 => obtain ⟨rfl, rfl⟩ := h; rfl
  | bad => exact h.elim
theorem wp_lamX {F : Res D → Res D} {f : DE} {Q : D → S → Prop} {x : Str} {s1 : S} (h : wp (f ρ s) (fun _ _ => False) (fun c s' => c = x ∧ s' = s1)) (k : wp (F (.exc x s1)) Q X) : wp (eLam F f ρ s) Q X := by
  unfold eLam
  rw [exc_of h]
  exact k
theorem wp_actX {n : Nat} {tb : XTb} {c x : Str} {i j : Nat} {g : DS} {Q : D → S → Prop} (h : isX tb x c = some true)
    (k : wps (g ((((List.replicate n .emp).set j (.dat .non)).set j (.dat (.exc x))).set i .emp) s) (fun _ s => Q .non s) (fun _ _ => False) (fun _ _ => False) Q X) : wp (actD n tb c i j g (.exc x s)) Q X := by
  unfold actD
  simp only [h]
  rw [wp_fin]
  exact k
theorem wp_popT {f fv : DE} {Q : D → S → Prop} : wp (ePopT f fv ρ s) Q X = wp (f ρ s) (fun t s1 => isTokL s1 t = true ∧ wp (fv ρ s1) (fun d s2 => ∃ p, popS s2 t d = some p ∧ Q p.1 p.2) X) X := by
  unfold ePopT
  rw [wp_bind]
  congr 1
  funext t s1
  by_cases h : isTokL s1 t = true
  · rw [if_pos h, wp_bind]
    refine propext ⟨fun q => ⟨h, ?_⟩, fun q => ?_⟩
    · refine wp_mono q (fun d s2 q => ?_) fun _ _ z => z
      cases ha : popS s2 t d with
      | none => rw [ha] at q; simp [wp] at q
      | some p => rw [ha] at q; exact ⟨p, rfl, by simpa [wp] using q⟩
    · refine wp_mono q.2 (fun d s2 q => ?_) fun _ _ z => z
      obtain ⟨p, e, q⟩ := q
      rw [e]
      simpa [wp] using q
  · rw [if_neg h]
    exact propext ⟨fun q => by simp [wp] at q, fun q => absurd q.1 h⟩
end
end DL
namespace DL
open PySem PySem.Spec PyProof.Rows L2
/-! ### dicts of a def's own, locked dicts: plain rules -/
def wpd (i : Nat) (ρ : List Sl) (P : Bool → List (D × D) → Prop) : Prop := match ρ[i]? with
  | some (.ownD t l) => P t l
  | _ => False
section
variable {ρ : List Sl} {s : S} {N B C : List Sl → S → Prop} {R : D → S → Prop} {X : Str → S → Prop}
theorem fs_ownD {t : Bool} {l : List (D × D)} : frzSl (.ownD t l) = .dat (.dct l) := rfl
theorem q_newD {i : Nat} {t : Bool} : wps (sNewD i t ρ s) N B C R X = wpn ρ [(i, .ownD t [])] fun ρ1 => N ρ1 s := by
  unfold sNewD
  rw [wz_next, set_at]; rfl
theorem q_dispO {i : Nat} {f g : DE} : wps (sDispO i f g ρ s) N B C R X = wp (f ρ s) (fun k s1 => wp (g ρ s1) (fun d s2 => ∃ kk, dkT k = some kk ∧ wpn ρ [(i, .ownD true [(kT kk, d)])] fun ρ1 => N ρ1 s2) X) X := by
  unfold sDispO
  rw [wps_then]
  congr 1
  funext k s1
  rw [wps_then]
  congr 1
  funext d s2
  cases dkT k with
  | none => simp [wps]
  | some kk =>
    simp only [Option.some.injEq, exists_eq_left']
    rw [wz_next, set_at]; rfl
theorem q_putO {i : Nat} {fi fv : DE} : wps (sPutO i fi fv ρ s) N B C R X = wpd i ρ fun t l => wp (fv ρ s) (fun d s1 => wp (fi ρ s1) (fun k s2 => ∃ l', putO t l k d = some l' ∧ l.length < 16777216 ∧ wpn ρ [(i, .ownD t l')] fun ρ1 => N ρ1 s2) X) X := by
  unfold sPutO wpd
  cases ρ[i]? with
  | none => simp [wps]
  | some y =>
    cases y with
    | ownD t l =>
      simp only []
      rw [wps_then]
      congr 1
      funext d s1
      rw [wps_then]
      congr 1
      funext k s2
      cases putO t l k d with
      | none => simp [wps]
      | some l' =>
        simp only [Option.some.injEq, exists_eq_left']
        rw [ite_bad, wz_next, set_at]; rfl
    | _ => simp [wps]
theorem wp_getO {i : Nat} {fk fe : DE} {Q : D → S → Prop} : wp (eGetO i fk fe ρ s) Q X = wpd i ρ fun t l => wp (fk ρ s) (fun y s1 => wp (fe ρ s1) (fun z s2 => ∃ o, getO t l y = some o ∧ Q (o.getD z) s2) X) X := by
  unfold eGetO wpd
  cases ρ[i]? with
  | none => simp [wp]
  | some y =>
    cases y with
    | ownD t l =>
      simp only []
      rw [wp_bind]
      congr 1
      funext y s1
      rw [wp_bind]
      congr 1
      funext z s2
      rw [wp_ofO]
      cases getO t l y with
      | none => simp
      | some o => simp
    | _ => simp [wp]
theorem wp_ixD {i : Nat} {fk : DE} {Q : D → S → Prop} : wp (eIxD i fk ρ s) Q X = wpd i ρ fun t l => wp (fk ρ s) (fun y s1 => ∃ d, getO t l y = some (some d) ∧ Q d s1) X := by
  unfold eIxD wpd
  cases ρ[i]? with
  | none => simp [wp]
  | some y =>
    cases y with
    | ownD t l =>
      simp only []
      rw [wp_bind]
      congr 1
      funext y s1
      rw [wp_ofO]
      cases getO t l y with
      | none => simp
      | some o => cases o <;> simp
    | _ => simp [wp]
theorem wp_keysF {f : DE} {Q : List D → S → Prop} : wp (iKeysF f ρ s) Q X = wp (f ρ s) (fun d s1 => ∃ t l, d = .fd t l ∧ Q (l.map (·.1)) s1) X := by
  unfold iKeysF
  rw [wp_bind]
  congr 1
  funext d s1
  cases d with
  | fd t l => exact propext ⟨fun q => ⟨t, l, rfl, by simpa [wp] using q⟩, fun ⟨t', l', e, q⟩ => by cases e; simpa [wp] using q⟩
  | _ => simp [wp]
theorem wp_valsF {f : DE} {Q : List D → S → Prop} : wp (iValsF f ρ s) Q X = wp (f ρ s) (fun d s1 => ∃ l, d = .fd true l ∧ Q (l.map (·.2)) s1) X := by
  unfold iValsF
  rw [wp_bind]
  congr 1
  funext d s1
  cases d with
  | fd t l =>
    cases t with
    | true => exact propext ⟨fun q => ⟨l, rfl, by simpa [wp] using q⟩, fun ⟨l', e, q⟩ => by cases e; simpa [wp] using q⟩
    | false => exact propext ⟨fun q => by simp [wp] at q, fun ⟨l', e, q⟩ => by cases e⟩
  | _ => simp [wp]
theorem wp_itmsF {f : DE} {Q : List D → S → Prop} : wp (iItmsF f ρ s) Q X = wp (f ρ s) (fun d s1 => ∃ l, d = .fd true l ∧ Q (l.map fun p => .tup [p.1, p.2]) s1) X := by
  unfold iItmsF
  rw [wp_bind]
  congr 1
  funext d s1
  cases d with
  | fd t l =>
    cases t with
    | true => exact propext ⟨fun q => ⟨l, rfl, by simpa [wp] using q⟩, fun ⟨l', e, q⟩ => by cases e; simpa [wp] using q⟩
    | false => exact propext ⟨fun q => by simp [wp] at q, fun ⟨l', e, q⟩ => by cases e⟩
  | _ => simp [wp]
theorem wp_dispF {f g : DE} {Q : D → S → Prop} : wp (eDispF f g ρ s) Q X = wp (f ρ s) (fun k s1 => wp (g ρ s1) (fun d s2 => ∃ kk, dkT k = some kk ∧ Q (.fd true [(kT kk, d)]) s2) X) X := by
  unfold eDispF
  rw [wp_bind]
  congr 1
  funext k s1
  rw [wp_bind]
  congr 1
  funext d s2
  cases dkT k with
  | none => simp [wp]
  | some kk => simp [wp]
theorem wp_inO {b : Bool} {i : Nat} {fk : DE} {Q : D → S → Prop} : wp (eInO b i fk ρ s) Q X = wp (fk ρ s) (fun y s1 => wpd i ρ fun t l => ∃ o, getO t l y = some o ∧ Q (.bl (o.isSome == b)) s1) X := by
  unfold eInO
  rw [wp_bind]
  congr 1
  funext y s1
  unfold wpd
  cases ρ[i]? with
  | none => simp [wp]
  | some w =>
    cases w with
    | ownD t l =>
      simp only []
      rw [wp_ofO]
      cases getO t l y with
      | none => simp
      | some o => simp
    | _ => simp [wp]
theorem x_fdT {l : List (D × D)} {P : List (D × D) → Prop} : (∃ l', D.fd true l = .fd true l' ∧ P l') = P l := propext ⟨fun ⟨l', e, p⟩ => by cases e; exact p, fun p => ⟨l, rfl, p⟩⟩
theorem x_lstF {l : List (D × D)} {P : D → Prop} : (∃ z, dLstF [.fd true l] = some z ∧ P z) = P (.lst (l.map (·.1))) := by show (∃ z, some (D.lst (l.map (·.1))) = some z ∧ P z) = _; exact ex_some
theorem q_fd {t : Bool} {l : List (D × D)} {P : List (D × D) → Prop} : (∃ t' l', D.fd t l = .fd t' l' ∧ P l') = P l := by
  refine propext ⟨fun ⟨t', l', e, p⟩ => by cases e; exact p, fun p => ⟨t, l, rfl, p⟩⟩
end
section
variable {t : Bool} {l : List (D × D)} {d : D} {r : List Sl} {P : Bool → List (D × D) → Prop} {s : S} {g : DS}
theorem d_0 : wpd 0 (.ownD t l :: r) P = P t l := by with_unfolding_all rfl
theorem lk_0 : sLk 0 g (.ownD t l :: r) s = g (.dat (.fd t l) :: r) s := by with_unfolding_all rfl
theorem ld_0 : sLk 0 g (.dat d :: r) s = g (.dat d :: r) s := by with_unfolding_all rfl
theorem d_1 {x0 : Sl} : wpd 1 (x0 :: .ownD t l :: r) P = P t l := by with_unfolding_all rfl
theorem lk_1 {x0 : Sl} : sLk 1 g (x0 :: .ownD t l :: r) s = g (x0 :: .dat (.fd t l) :: r) s := by with_unfolding_all rfl
theorem ld_1 {x0 : Sl} : sLk 1 g (x0 :: .dat d :: r) s = g (x0 :: .dat d :: r) s := by with_unfolding_all rfl
theorem d_2 {x0 x1 : Sl} : wpd 2 (x0 :: x1 :: .ownD t l :: r) P = P t l := by with_unfolding_all rfl
theorem lk_2 {x0 x1 : Sl} : sLk 2 g (x0 :: x1 :: .ownD t l :: r) s = g (x0 :: x1 :: .dat (.fd t l) :: r) s := by with_unfolding_all rfl
theorem ld_2 {x0 x1 : Sl} : sLk 2 g (x0 :: x1 :: .dat d :: r) s = g (x0 :: x1 :: .dat d :: r) s := by with_unfolding_all rfl
theorem d_3 {x0 x1 x2 : Sl} : wpd 3 (x0 :: x1 :: x2 :: .ownD t l :: r) P = P t l := by with_unfolding_all rfl
theorem lk_3 {x0 x1 x2 : Sl} : sLk 3 g (x0 :: x1 :: x2 :: .ownD t l :: r) s = g (x0 :: x1 :: x2 :: .dat (.fd t l) :: r) s := by with_unfolding_all rfl
theorem ld_3 {x0 x1 x2 : Sl} : sLk 3 g (x0 :: x1 :: x2 :: .dat d :: r) s = g (x0 :: x1 :: x2 :: .dat d :: r) s := by with_unfolding_all rfl
theorem d_4 {x0 x1 x2 x3 : Sl} : wpd 4 (x0 :: x1 :: x2 :: x3 :: .ownD t l :: r) P = P t l := by with_unfolding_all rfl
theorem lk_4 {x0 x1 x2 x3 : Sl} : sLk 4 g (x0 :: x1 :: x2 :: x3 :: .ownD t l :: r) s = g (x0 :: x1 :: x2 :: x3 :: .dat (.fd t l) :: r) s := by with_unfolding_all rfl
theorem ld_4 {x0 x1 x2 x3 : Sl} : sLk 4 g (x0 :: x1 :: x2 :: x3 :: .dat d :: r) s = g (x0 :: x1 :: x2 :: x3 :: .dat d :: r) s := by with_unfolding_all rfl
theorem d_5 {x0 x1 x2 x3 x4 : Sl} : wpd 5 (x0 :: x1 :: x2 :: x3 :: x4 :: .ownD t l :: r) P = P t l := by with_unfolding_all rfl
theorem lk_5 {x0 x1 x2 x3 x4 : Sl} : sLk 5 g (x0 :: x1 :: x2 :: x3 :: x4 :: .ownD t l :: r) s = g (x0 :: x1 :: x2 :: x3 :: x4 :: .dat (.fd t l) :: r) s := by with_unfolding_all rfl
theorem ld_5 {x0 x1 x2 x3 x4 : Sl} : sLk 5 g (x0 :: x1 :: x2 :: x3 :: x4 :: .dat d :: r) s = g (x0 :: x1 :: x2 :: x3 :: x4 :: .dat d :: r) s := by with_unfolding_all rfl
theorem d_6 {x0 x1 x2 x3 x4 x5 : Sl} : wpd 6 (x0 :: x1 :: x2 :: x3 :: x4 :: x5 :: .ownD t l :: r) P = P t l := by with_unfolding_all rfl
theorem lk_6 {x0 x1 x2 x3 x4 x5 : Sl} : sLk 6 g (x0 :: x1 :: x2 :: x3 :: x4 :: x5 :: .ownD t l :: r) s = g (x0 :: x1 :: x2 :: x3 :: x4 :: x5 :: .dat (.fd t l) :: r) s := by with_unfolding_all rfl
theorem ld_6 {x0 x1 x2 x3 x4 x5 : Sl} : sLk 6 g (x0 :: x1 :: x2 :: x3 :: x4 :: x5 :: .dat d :: r) s = g (x0 :: x1 :: x2 :: x3 :: x4 :: x5 :: .dat d :: r) s := by with_unfolding_all rfl
theorem d_7 {x0 x1 x2 x3 x4 x5 x6 : Sl} : wpd 7 (x0 :: x1 :: x2 :: x3 :: x4 :: x5 :: x6 :: .ownD t l :: r) P = P t l := by with_unfolding_all rfl
theorem lk_7 {x0 x1 x2 x3 x4 x5 x6 : Sl} : sLk 7 g (x0 :: x1 :: x2 :: x3 :: x4 :: x5 :: x6 :: .ownD t l :: r) s = g (x0 :: x1 :: x2 :: x3 :: x4 :: x5 :: x6 :: .dat (.fd t l) :: r) s := by with_unfolding_all rfl
theorem ld_7 {x0 x1 x2 x3 x4 x5 x6 : Sl} : sLk 7 g (x0 :: x1 :: x2 :: x3 :: x4 :: x5 :: x6 :: .dat d :: r) s = g (x0 :: x1 :: x2 :: x3 :: x4 :: x5 :: x6 :: .dat d :: r) s := by with_unfolding_all rfl
theorem d_8 {x0 x1 x2 x3 x4 x5 x6 x7 : Sl} : wpd 8 (x0 :: x1 :: x2 :: x3 :: x4 :: x5 :: x6 :: x7 :: .ownD t l :: r) P = P t l := by with_unfolding_all rfl
theorem lk_8 {x0 x1 x2 x3 x4 x5 x6 x7 : Sl} : sLk 8 g (x0 :: x1 :: x2 :: x3 :: x4 :: x5 :: x6 :: x7 :: .ownD t l :: r) s = g (x0 :: x1 :: x2 :: x3 :: x4 :: x5 :: x6 :: x7 :: .dat (.fd t l) :: r) s := by with_unfolding_all rfl
theorem ld_8 {x0 x1 x2 x3 x4 x5 x6 x7 : Sl} : sLk 8 g (x0 :: x1 :: x2 :: x3 :: x4 :: x5 :: x6 :: x7 :: .dat d :: r) s = g (x0 :: x1 :: x2 :: x3 :: x4 :: x5 :: x6 :: x7 :: .dat d :: r) s := by with_unfolding_all rfl
theorem d_9 {x0 x1 x2 x3 x4 x5 x6 x7 x8 : Sl} : wpd 9 (x0 :: x1 :: x2 :: x3 :: x4 :: x5 :: x6 :: x7 :: x8 :: .ownD t l :: r) P = P t l := by with_unfolding_all rfl
theorem lk_9 {x0 x1 x2 x3 x4 x5 x6 x7 x8 : Sl} : sLk 9 g (x0 :: x1 :: x2 :: x3 :: x4 :: x5 :: x6 :: x7 :: x8 :: .ownD t l :: r) s = g (x0 :: x1 :: x2 :: x3 :: x4 :: x5 :: x6 :: x7 :: x8 :: .dat (.fd t l) :: r) s := by with_unfolding_all rfl
theorem ld_9 {x0 x1 x2 x3 x4 x5 x6 x7 x8 : Sl} : sLk 9 g (x0 :: x1 :: x2 :: x3 :: x4 :: x5 :: x6 :: x7 :: x8 :: .dat d :: r) s = g (x0 :: x1 :: x2 :: x3 :: x4 :: x5 :: x6 :: x7 :: x8 :: .dat d :: r) s := by with_unfolding_all rfl
theorem d_10 {x0 x1 x2 x3 x4 x5 x6 x7 x8 x9 : Sl} : wpd 10 (x0 :: x1 :: x2 :: x3 :: x4 :: x5 :: x6 :: x7 :: x8 :: x9 :: .ownD t l :: r) P = P t l := by with_unfolding_all rfl
theorem lk_10 {x0 x1 x2 x3 x4 x5 x6 x7 x8 x9 : Sl} : sLk 10 g (x0 :: x1 :: x2 :: x3 :: x4 :: x5 :: x6 :: x7 :: x8 :: x9 :: .ownD t l :: r) s = g (x0 :: x1 :: x2 :: x3 :: x4 :: x5 :: x6 :: x7 :: x8 :: x9 :: .dat (.fd t l) :: r) s := by with_unfolding_all rfl
theorem ld_10 {x0 x1 x2 x3 x4 x5 x6 x7 x8 x9 : Sl} : sLk 10 g (x0 :: x1 :: x2 :: x3 :: x4 :: x5 :: x6 :: x7 :: x8 :: x9 :: .dat d :: r) s = g (x0 :: x1 :: x2 :: x3 :: x4 :: x5 :: x6 :: x7 :: x8 :: x9 :: .dat d :: r) s := by with_unfolding_all rfl
theorem d_11 {x0 x1 x2 x3 x4 x5 x6 x7 x8 x9 x10 : Sl} : wpd 11 (x0 :: x1 :: x2 :: x3 :: x4 :: x5 :: x6 :: x7 :: x8 :: x9 :: x10 :: .ownD t l :: r) P = P t l := by with_unfolding_all rfl
theorem lk_11 {x0 x1 x2 x3 x4 x5 x6 x7 x8 x9 x10 : Sl} : sLk 11 g (x0 :: x1 :: x2 :: x3 :: x4 :: x5 :: x6 :: x7 :: x8 :: x9 :: x10 :: .ownD t l :: r) s = g (x0 :: x1 :: x2 :: x3 :: x4 :: x5 :: x6 :: x7 :: x8 :: x9 :: x10 :: .dat (.fd t l) :: r) s := by with_unfolding_all rfl
theorem ld_11 {x0 x1 x2 x3 x4 x5 x6 x7 x8 x9 x10 : Sl} : sLk 11 g (x0 :: x1 :: x2 :: x3 :: x4 :: x5 :: x6 :: x7 :: x8 :: x9 :: x10 :: .dat d :: r) s = g (x0 :: x1 :: x2 :: x3 :: x4 :: x5 :: x6 :: x7 :: x8 :: x9 :: x10 :: .dat d :: r) s := by with_unfolding_all rfl
theorem d_12 {x0 x1 x2 x3 x4 x5 x6 x7 x8 x9 x10 x11 : Sl} : wpd 12 (x0 :: x1 :: x2 :: x3 :: x4 :: x5 :: x6 :: x7 :: x8 :: x9 :: x10 :: x11 :: .ownD t l :: r) P = P t l := by with_unfolding_all rfl
theorem lk_12 {x0 x1 x2 x3 x4 x5 x6 x7 x8 x9 x10 x11 : Sl} : sLk 12 g (x0 :: x1 :: x2 :: x3 :: x4 :: x5 :: x6 :: x7 :: x8 :: x9 :: x10 :: x11 :: .ownD t l :: r) s = g (x0 :: x1 :: x2 :: x3 :: x4 :: x5 :: x6 :: x7 :: x8 :: x9 :: x10 :: x11 :: .dat (.fd t l) :: r) s := by with_unfolding_all rfl
theorem ld_12 {x0 x1 x2 x3 x4 x5 x6 x7 x8 x9 x10 x11 : Sl} : sLk 12 g (x0 :: x1 :: x2 :: x3 :: x4 :: x5 :: x6 :: x7 :: x8 :: x9 :: x10 :: x11 :: .dat d :: r) s = g (x0 :: x1 :: x2 :: x3 :: x4 :: x5 :: x6 :: x7 :: x8 :: x9 :: x10 :: x11 :: .dat d :: r) s := by with_unfolding_all rfl
theorem d_13 {x0 x1 x2 x3 x4 x5 x6 x7 x8 x9 x10 x11 x12 : Sl} : wpd 13 (x0 :: x1 :: x2 :: x3 :: x4 :: x5 :: x6 :: x7 :: x8 :: x9 :: x10 :: x11 :: x12 :: .ownD t l :: r) P = P t l := by with_unfolding_all rfl
theorem lk_13 {x0 x1 x2 x3 x4 x5 x6 x7 x8 x9 x10 x11 x12 : Sl} : sLk 13 g (x0 :: x1 :: x2 :: x3 :: x4 :: x5 :: x6 :: x7 :: x8 :: x9 :: x10 :: x11 :: x12 :: .ownD t l :: r) s = g (x0 :: x1 :: x2 :: x3 :: x4 :: x5 :: x6 :: x7 :: x8 :: x9 :: x10 :: x11 :: x12 :: .dat (.fd t l) :: r) s := by with_unfolding_all rfl
theorem ld_13 {x0 x1 x2 x3 x4 x5 x6 x7 x8 x9 x10 x11 x12 : Sl} : sLk 13 g (x0 :: x1 :: x2 :: x3 :: x4 :: x5 :: x6 :: x7 :: x8 :: x9 :: x10 :: x11 :: x12 :: .dat d :: r) s = g (x0 :: x1 :: x2 :: x3 :: x4 :: x5 :: x6 :: x7 :: x8 :: x9 :: x10 :: x11 :: x12 :: .dat d :: r) s := by with_unfolding_all rfl
theorem d_14 {x0 x1 x2 x3 x4 x5 x6 x7 x8 x9 x10 x11 x12 x13 : Sl} : wpd 14 (x0 :: x1 :: x2 :: x3 :: x4 :: x5 :: x6 :: x7 :: x8 :: x9 :: x10 :: x11 :: x12 :: x13 :: .ownD t l :: r) P = P t l := by with_unfolding_all rfl
theorem lk_14 {x0 x1 x2 x3 x4 x5 x6 x7 x8 x9 x10 x11 x12 x13 : Sl} : sLk 14 g (x0 :: x1 :: x2 :: x3 :: x4 :: x5 :: x6 :: x7 :: x8 :: x9 :: x10 :: x11 :: x12 :: x13 :: .ownD t l :: r) s = g (x0 :: x1 :: x2 :: x3 :: x4 :: x5 :: x6 :: x7 :: x8 :: x9 :: x10 :: x11 :: x12 :: x13 :: .dat (.fd t l) :: r) s := by with_unfolding_all rfl
theorem ld_14 {x0 x1 x2 x3 x4 x5 x6 x7 x8 x9 x10 x11 x12 x13 : Sl} : sLk 14 g (x0 :: x1 :: x2 :: x3 :: x4 :: x5 :: x6 :: x7 :: x8 :: x9 :: x10 :: x11 :: x12 :: x13 :: .dat d :: r) s = g (x0 :: x1 :: x2 :: x3 :: x4 :: x5 :: x6 :: x7 :: x8 :: x9 :: x10 :: x11 :: x12 :: x13 :: .dat d :: r) s := by with_unfolding_all rfl
theorem d_15 {x0 x1 x2 x3 x4 x5 x6 x7 x8 x9 x10 x11 x12 x13 x14 : Sl} : wpd 15 (x0 :: x1 :: x2 :: x3 :: x4 :: x5 :: x6 :: x7 :: x8 :: x9 :: x10 :: x11 :: x12 :: x13 :: x14 :: .ownD t l :: r) P = P t l := by with_unfolding_all rfl
theorem lk_15 {x0 x1 x2 x3 x4 x5 x6 x7 x8 x9 x10 x11 x12 x13 x14 : Sl} : sLk 15 g (x0 :: x1 :: x2 :: x3 :: x4 :: x5 :: x6 :: x7 :: x8 :: x9 :: x10 :: x11 :: x12 :: x13 :: x14 :: .ownD t l :: r) s = g (x0 :: x1 :: x2 :: x3 :: x4 :: x5 :: x6 :: x7 :: x8 :: x9 :: x10 :: x11 :: x12 :: x13 :: x14 :: .dat (.fd t l) :: r) s := by with_unfolding_all rfl
theorem ld_15 {x0 x1 x2 x3 x4 x5 x6 x7 x8 x9 x10 x11 x12 x13 x14 : Sl} : sLk 15 g (x0 :: x1 :: x2 :: x3 :: x4 :: x5 :: x6 :: x7 :: x8 :: x9 :: x10 :: x11 :: x12 :: x13 :: x14 :: .dat d :: r) s = g (x0 :: x1 :: x2 :: x3 :: x4 :: x5 :: x6 :: x7 :: x8 :: x9 :: x10 :: x11 :: x12 :: x13 :: x14 :: .dat d :: r) s := by with_unfolding_all rfl
theorem d_16 {x0 x1 x2 x3 x4 x5 x6 x7 x8 x9 x10 x11 x12 x13 x14 x15 : Sl} : wpd 16 (x0 :: x1 :: x2 :: x3 :: x4 :: x5 :: x6 :: x7 :: x8 :: x9 :: x10 :: x11 :: x12 :: x13 :: x14 :: x15 :: .ownD t l :: r) P = P t l := by with_unfolding_all rfl
theorem lk_16 {x0 x1 x2 x3 x4 x5 x6 x7 x8 x9 x10 x11 x12 x13 x14 x15 : Sl} : sLk 16 g (x0 :: x1 :: x2 :: x3 :: x4 :: x5 :: x6 :: x7 :: x8 :: x9 :: x10 :: x11 :: x12 :: x13 :: x14 :: x15 :: .ownD t l :: r) s = g (x0 :: x1 :: x2 :: x3 :: x4 :: x5 :: x6 :: x7 :: x8 :: x9 :: x10 :: x11 :: x12 :: x13 :: x14 :: x15 :: .dat (.fd t l) :: r) s := by with_unfolding_all rfl
theorem ld_16 {x0 x1 x2 x3 x4 x5 x6 x7 x8 x9 x10 x11 x12 x13 x14 x15 : Sl} : sLk 16 g (x0 :: x1 :: x2 :: x3 :: x4 :: x5 :: x6 :: x7 :: x8 :: x9 :: x10 :: x11 :: x12 :: x13 :: x14 :: x15 :: .dat d :: r) s = g (x0 :: x1 :: x2 :: x3 :: x4 :: x5 :: x6 :: x7 :: x8 :: x9 :: x10 :: x11 :: x12 :: x13 :: x14 :: x15 :: .dat d :: r) s := by with_unfolding_all rfl
theorem d_17 {x0 x1 x2 x3 x4 x5 x6 x7 x8 x9 x10 x11 x12 x13 x14 x15 x16 : Sl} : wpd 17 (x0 :: x1 :: x2 :: x3 :: x4 :: x5 :: x6 :: x7 :: x8 :: x9 :: x10 :: x11 :: x12 :: x13 :: x14 :: x15 :: x16 :: .ownD t l :: r) P = P t l := by with_unfolding_all rfl
theorem lk_17 {x0 x1 x2 x3 x4 x5 x6 x7 x8 x9 x10 x11 x12 x13 x14 x15 x16 : Sl} : sLk 17 g (x0 :: x1 :: x2 :: x3 :: x4 :: x5 :: x6 :: x7 :: x8 :: x9 :: x10 :: x11 :: x12 :: x13 :: x14 :: x15 :: x16 :: .ownD t l :: r) s = g (x0 :: x1 :: x2 :: x3 :: x4 :: x5 :: x6 :: x7 :: x8 :: x9 :: x10 :: x11 :: x12 :: x13 :: x14 :: x15 :: x16 :: .dat (.fd t l) :: r) s := by with_unfolding_all rfl
theorem ld_17 {x0 x1 x2 x3 x4 x5 x6 x7 x8 x9 x10 x11 x12 x13 x14 x15 x16 : Sl} : sLk 17 g (x0 :: x1 :: x2 :: x3 :: x4 :: x5 :: x6 :: x7 :: x8 :: x9 :: x10 :: x11 :: x12 :: x13 :: x14 :: x15 :: x16 :: .dat d :: r) s = g (x0 :: x1 :: x2 :: x3 :: x4 :: x5 :: x6 :: x7 :: x8 :: x9 :: x10 :: x11 :: x12 :: x13 :: x14 :: x15 :: x16 :: .dat d :: r) s := by with_unfolding_all rfl
theorem d_18 {x0 x1 x2 x3 x4 x5 x6 x7 x8 x9 x10 x11 x12 x13 x14 x15 x16 x17 : Sl} : wpd 18 (x0 :: x1 :: x2 :: x3 :: x4 :: x5 :: x6 :: x7 :: x8 :: x9 :: x10 :: x11 :: x12 :: x13 :: x14 :: x15 :: x16 :: x17 :: .ownD t l :: r) P = P t l := by with_unfolding_all rfl
theorem lk_18 {x0 x1 x2 x3 x4 x5 x6 x7 x8 x9 x10 x11 x12 x13 x14 x15 x16 x17 : Sl} : sLk 18 g (x0 :: x1 :: x2 :: x3 :: x4 :: x5 :: x6 :: x7 :: x8 :: x9 :: x10 :: x11 :: x12 :: x13 :: x14 :: x15 :: x16 :: x17 :: .ownD t l :: r) s = g (x0 :: x1 :: x2 :: x3 :: x4 :: x5 :: x6 :: x7 :: x8 :: x9 :: x10 :: x11 :: x12 :: x13 :: x14 :: x15 :: x16 :: x17 :: .dat (.fd t l) :: r) s := by with_unfolding_all rfl
theorem ld_18 {x0 x1 x2 x3 x4 x5 x6 x7 x8 x9 x10 x11 x12 x13 x14 x15 x16 x17 : Sl} : sLk 18 g (x0 :: x1 :: x2 :: x3 :: x4 :: x5 :: x6 :: x7 :: x8 :: x9 :: x10 :: x11 :: x12 :: x13 :: x14 :: x15 :: x16 :: x17 :: .dat d :: r) s = g (x0 :: x1 :: x2 :: x3 :: x4 :: x5 :: x6 :: x7 :: x8 :: x9 :: x10 :: x11 :: x12 :: x13 :: x14 :: x15 :: x16 :: x17 :: .dat d :: r) s := by with_unfolding_all rfl
theorem d_19 {x0 x1 x2 x3 x4 x5 x6 x7 x8 x9 x10 x11 x12 x13 x14 x15 x16 x17 x18 : Sl} : wpd 19 (x0 :: x1 :: x2 :: x3 :: x4 :: x5 :: x6 :: x7 :: x8 :: x9 :: x10 :: x11 :: x12 :: x13 :: x14 :: x15 :: x16 :: x17 :: x18 :: .ownD t l :: r) P = P t l := by with_unfolding_all rfl
theorem lk_19 {x0 x1 x2 x3 x4 x5 x6 x7 x8 x9 x10 x11 x12 x13 x14 x15 x16 x17 x18 : Sl} : sLk 19 g (x0 :: x1 :: x2 :: x3 :: x4 :: x5 :: x6 :: x7 :: x8 :: x9 :: x10 :: x11 :: x12 :: x13 :: x14 :: x15 :: x16 :: x17 :: x18 :: .ownD t l :: r) s = g (x0 :: x1 :: x2 :: x3 :: x4 :: x5 :: x6 :: x7 :: x8 :: x9 :: x10 :: x11 :: x12 :: x13 :: x14 :: x15 :: x16 :: x17 :: x18 :: .dat (.fd t l) :: r) s := by with_unfolding_all rfl
theorem ld_19 {x0 x1 x2 x3 x4 x5 x6 x7 x8 x9 x10 x11 x12 x13 x14 x15 x16 x17 x18 : Sl} : sLk 19 g (x0 :: x1 :: x2 :: x3 :: x4 :: x5 :: x6 :: x7 :: x8 :: x9 :: x10 :: x11 :: x12 :: x13 :: x14 :: x15 :: x16 :: x17 :: x18 :: .dat d :: r) s = g (x0 :: x1 :: x2 :: x3 :: x4 :: x5 :: x6 :: x7 :: x8 :: x9 :: x10 :: x11 :: x12 :: x13 :: x14 :: x15 :: x16 :: x17 :: x18 :: .dat d :: r) s := by with_unfolding_all rfl
theorem d_20 {x0 x1 x2 x3 x4 x5 x6 x7 x8 x9 x10 x11 x12 x13 x14 x15 x16 x17 x18 x19 : Sl} : wpd 20 (x0 :: x1 :: x2 :: x3 :: x4 :: x5 :: x6 :: x7 :: x8 :: x9 :: x10 :: x11 :: x12 :: x13 :: x14 :: x15 :: x16 :: x17 :: x18 :: x19 :: .ownD t l :: r) P = P t l := by with_unfolding_all rfl
theorem lk_20 {x0 x1 x2 x3 x4 x5 x6 x7 x8 x9 x10 x11 x12 x13 x14 x15 x16 x17 x18 x19 : Sl} : sLk 20 g (x0 :: x1 :: x2 :: x3 :: x4 :: x5 :: x6 :: x7 :: x8 :: x9 :: x10 :: x11 :: x12 :: x13 :: x14 :: x15 :: x16 :: x17 :: x18 :: x19 :: .ownD t l :: r) s = g (x0 :: x1 :: x2 :: x3 :: x4 :: x5 :: x6 :: x7 :: x8 :: x9 :: x10 :: x11 :: x12 :: x13 :: x14 :: x15 :: x16 :: x17 :: x18 :: x19 :: .dat (.fd t l) :: r) s := by with_unfolding_all rfl
theorem ld_20 {x0 x1 x2 x3 x4 x5 x6 x7 x8 x9 x10 x11 x12 x13 x14 x15 x16 x17 x18 x19 : Sl} : sLk 20 g (x0 :: x1 :: x2 :: x3 :: x4 :: x5 :: x6 :: x7 :: x8 :: x9 :: x10 :: x11 :: x12 :: x13 :: x14 :: x15 :: x16 :: x17 :: x18 :: x19 :: .dat d :: r) s = g (x0 :: x1 :: x2 :: x3 :: x4 :: x5 :: x6 :: x7 :: x8 :: x9 :: x10 :: x11 :: x12 :: x13 :: x14 :: x15 :: x16 :: x17 :: x18 :: x19 :: .dat d :: r) s := by with_unfolding_all rfl
theorem d_21 {x0 x1 x2 x3 x4 x5 x6 x7 x8 x9 x10 x11 x12 x13 x14 x15 x16 x17 x18 x19 x20 : Sl} : wpd 21 (x0 :: x1 :: x2 :: x3 :: x4 :: x5 :: x6 :: x7 :: x8 :: x9 :: x10 :: x11 :: x12 :: x13 :: x14 :: x15 :: x16 :: x17 :: x18 :: x19 :: x20 :: .ownD t l :: r) P = P t l := by with_unfolding_all rfl
theorem lk_21 {x0 x1 x2 x3 x4 x5 x6 x7 x8 x9 x10 x11 x12 x13 x14 x15 x16 x17 x18 x19 x20 : Sl} : sLk 21 g (x0 :: x1 :: x2 :: x3 :: x4 :: x5 :: x6 :: x7 :: x8 :: x9 :: x10 :: x11 :: x12 :: x13 :: x14 :: x15 :: x16 :: x17 :: x18 :: x19 :: x20 :: .ownD t l :: r) s = g (x0 :: x1 :: x2 :: x3 :: x4 :: x5 :: x6 :: x7 :: x8 :: x9 :: x10 :: x11 :: x12 :: x13 :: x14 :: x15 :: x16 :: x17 :: x18 :: x19 :: x20 :: .dat (.fd t l) :: r) s := by with_unfolding_all rfl
theorem ld_21 {x0 x1 x2 x3 x4 x5 x6 x7 x8 x9 x10 x11 x12 x13 x14 x15 x16 x17 x18 x19 x20 : Sl} : sLk 21 g (x0 :: x1 :: x2 :: x3 :: x4 :: x5 :: x6 :: x7 :: x8 :: x9 :: x10 :: x11 :: x12 :: x13 :: x14 :: x15 :: x16 :: x17 :: x18 :: x19 :: x20 :: .dat d :: r) s = g (x0 :: x1 :: x2 :: x3 :: x4 :: x5 :: x6 :: x7 :: x8 :: x9 :: x10 :: x11 :: x12 :: x13 :: x14 :: x15 :: x16 :: x17 :: x18 :: x19 :: x20 :: .dat d :: r) s := by with_unfolding_all rfl
theorem d_22 {x0 x1 x2 x3 x4 x5 x6 x7 x8 x9 x10 x11 x12 x13 x14 x15 x16 x17 x18 x19 x20 x21 : Sl} : wpd 22 (x0 :: x1 :: x2 :: x3 :: x4 :: x5 :: x6 :: x7 :: x8 :: x9 :: x10 :: x11 :: x12 :: x13 :: x14 :: x15 :: x16 :: x17 :: x18 :: x19 :: x20 :: x21 :: .ownD t l :: r) P = P t l := by with_unfolding_all rfl
theorem lk_22 {x0 x1 x2 x3 x4 x5 x6 x7 x8 x9 x10 x11 x12 x13 x14 x15 x16 x17 x18 x19 x20 x21 : Sl} : sLk 22 g (x0 :: x1 :: x2 :: x3 :: x4 :: x5 :: x6 :: x7 :: x8 :: x9 :: x10 :: x11 :: x12 :: x13 :: x14 :: x15 :: x16 :: x17 :: x18 :: x19 :: x20 :: x21 :: .ownD t l :: r) s = g (x0 :: x1 :: x2 :: x3 :: x4 :: x5 :: x6 :: x7 :: x8 :: x9 :: x10 :: x11 :: x12 :: x13 :: x14 :: x15 :: x16 :: x17 :: x18 :: x19 :: x20 :: x21 :: .dat (.fd t l) :: r) s := by with_unfolding_all rfl
theorem ld_22 {x0 x1 x2 x3 x4 x5 x6 x7 x8 x9 x10 x11 x12 x13 x14 x15 x16 x17 x18 x19 x20 x21 : Sl} : sLk 22 g (x0 :: x1 :: x2 :: x3 :: x4 :: x5 :: x6 :: x7 :: x8 :: x9 :: x10 :: x11 :: x12 :: x13 :: x14 :: x15 :: x16 :: x17 :: x18 :: x19 :: x20 :: x21 :: .dat d :: r) s = g (x0 :: x1 :: x2 :: x3 :: x4 :: x5 :: x6 :: x7 :: x8 :: x9 :: x10 :: x11 :: x12 :: x13 :: x14 :: x15 :: x16 :: x17 :: x18 :: x19 :: x20 :: x21 :: .dat d :: r) s := by with_unfolding_all rfl
theorem d_23 {x0 x1 x2 x3 x4 x5 x6 x7 x8 x9 x10 x11 x12 x13 x14 x15 x16 x17 x18 x19 x20 x21 x22 : Sl} : wpd 23 (x0 :: x1 :: x2 :: x3 :: x4 :: x5 :: x6 :: x7 :: x8 :: x9 :: x10 :: x11 :: x12 :: x13 :: x14 :: x15 :: x16 :: x17 :: x18 :: x19 :: x20 :: x21 :: x22 :: .ownD t l :: r) P = P t l := by with_unfolding_all rfl
theorem lk_23 {x0 x1 x2 x3 x4 x5 x6 x7 x8 x9 x10 x11 x12 x13 x14 x15 x16 x17 x18 x19 x20 x21 x22 : Sl} : sLk 23 g (x0 :: x1 :: x2 :: x3 :: x4 :: x5 :: x6 :: x7 :: x8 :: x9 :: x10 :: x11 :: x12 :: x13 :: x14 :: x15 :: x16 :: x17 :: x18 :: x19 :: x20 :: x21 :: x22 :: .ownD t l :: r) s = g (x0 :: x1 :: x2 :: x3 :: x4 :: x5 :: x6 :: x7 :: x8 :: x9 :: x10 :: x11 :: x12 :: x13 :: x14 :: x15 :: x16 :: x17 :: x18 :: x19 :: x20 :: x21 :: x22 :: .dat (.fd t l) :: r) s := by with_unfolding_all rfl
theorem ld_23 {x0 x1 x2 x3 x4 x5 x6 x7 x8 x9 x10 x11 x12 x13 x14 x15 x16 x17 x18 x19 x20 x21 x22 : Sl} : sLk 23 g (x0 :: x1 :: x2 :: x3 :: x4 :: x5 :: x6 :: x7 :: x8 :: x9 :: x10 :: x11 :: x12 :: x13 :: x14 :: x15 :: x16 :: x17 :: x18 :: x19 :: x20 :: x21 :: x22 :: .dat d :: r) s = g (x0 :: x1 :: x2 :: x3 :: x4 :: x5 :: x6 :: x7 :: x8 :: x9 :: x10 :: x11 :: x12 :: x13 :: x14 :: x15 :: x16 :: x17 :: x18 :: x19 :: x20 :: x21 :: x22 :: .dat d :: r) s := by with_unfolding_all rfl
theorem d_24 {x0 x1 x2 x3 x4 x5 x6 x7 x8 x9 x10 x11 x12 x13 x14 x15 x16 x17 x18 x19 x20 x21 x22 x23 : Sl} : wpd 24 (x0 :: x1 :: x2 :: x3 :: x4 :: x5 :: x6 :: x7 :: x8 :: x9 :: x10 :: x11 :: x12 :: x13 :: x14 :: x15 :: x16 :: x17 :: x18 :: x19 :: x20 :: x21 :: x22 :: x23 :: .ownD t l :: r) P = P t l := by with_unfolding_all rfl
theorem lk_24 {x0 x1 x2 x3 x4 x5 x6 x7 x8 x9 x10 x11 x12 x13 x14 x15 x16 x17 x18 x19 x20 x21 x22 x23 : Sl} : sLk 24 g (x0 :: x1 :: x2 :: x3 :: x4 :: x5 :: x6 :: x7 :: x8 :: x9 :: x10 :: x11 :: x12 :: x13 :: x14 :: x15 :: x16 :: x17 :: x18 :: x19 :: x20 :: x21 :: x22 :: x23 :: .ownD t l :: r) s = g (x0 :: x1 :: x2 :: x3 :: x4 :: x5 :: x6 :: x7 :: x8 :: x9 :: x10 :: x11 :: x12 :: x13 :: x14 :: x15 :: x16 :: x17 :: x18 :: x19 :: x20 :: x21 :: x22 :: x23 :: .dat (.fd t l) :: r) s := by with_unfolding_all rfl
theorem ld_24 {x0 x1 x2 x3 x4 x5 x6 x7 x8 x9 x10 x11 x12 x13 x14 x15 x16 x17 x18 x19 x20 x21 x22 x23 : Sl} : sLk 24 g (x0 :: x1 :: x2 :: x3 :: x4 :: x5 :: x6 :: x7 :: x8 :: x9 :: x10 :: x11 :: x12 :: x13 :: x14 :: x15 :: x16 :: x17 :: x18 :: x19 :: x20 :: x21 :: x22 :: x23 :: .dat d :: r) s = g (x0 :: x1 :: x2 :: x3 :: x4 :: x5 :: x6 :: x7 :: x8 :: x9 :: x10 :: x11 :: x12 :: x13 :: x14 :: x15 :: x16 :: x17 :: x18 :: x19 :: x20 :: x21 :: x22 :: x23 :: .dat d :: r) s := by with_unfolding_all rfl
theorem d_25 {x0 x1 x2 x3 x4 x5 x6 x7 x8 x9 x10 x11 x12 x13 x14 x15 x16 x17 x18 x19 x20 x21 x22 x23 x24 : Sl} : wpd 25 (x0 :: x1 :: x2 :: x3 :: x4 :: x5 :: x6 :: x7 :: x8 :: x9 :: x10 :: x11 :: x12 :: x13 :: x14 :: x15 :: x16 :: x17 :: x18 :: x19 :: x20 :: x21 :: x22 :: x23 :: x24 :: .ownD t l :: r) P = P t l := by with_unfolding_all rfl
theorem lk_25 {x0 x1 x2 x3 x4 x5 x6 x7 x8 x9 x10 x11 x12 x13 x14 x15 x16 x17 x18 x19 x20 x21 x22 x23 x24 : Sl} : sLk 25 g (x0 :: x1 :: x2 :: x3 :: x4 :: x5 :: x6 :: x7 :: x8 :: x9 :: x10 :: x11 :: x12 :: x13 :: x14 :: x15 :: x16 :: x17 :: x18 :: x19 :: x20 :: x21 :: x22 :: x23 :: x24 :: .ownD t l :: r) s = g (x0 :: x1 :: x2 :: x3 :: x4 :: x5 :: x6 :: x7 :: x8 :: x9 :: x10 :: x11 :: x12 :: x13 :: x14 :: x15 :: x16 :: x17 :: x18 :: x19 :: x20 :: x21 :: x22 :: x23 :: x24 :: .dat (.fd t l) :: r) s := by with_unfolding_all rfl
theorem ld_25 {x0 x1 x2 x3 x4 x5 x6 x7 x8 x9 x10 x11 x12 x13 x14 x15 x16 x17 x18 x19 x20 x21 x22 x23 x24 : Sl} : sLk 25 g (x0 :: x1 :: x2 :: x3 :: x4 :: x5 :: x6 :: x7 :: x8 :: x9 :: x10 :: x11 :: x12 :: x13 :: x14 :: x15 :: x16 :: x17 :: x18 :: x19 :: x20 :: x21 :: x22 :: x23 :: x24 :: .dat d :: r) s = g (x0 :: x1 :: x2 :: x3 :: x4 :: x5 :: x6 :: x7 :: x8 :: x9 :: x10 :: x11 :: x12 :: x13 :: x14 :: x15 :: x16 :: x17 :: x18 :: x19 :: x20 :: x21 :: x22 :: x23 :: x24 :: .dat d :: r) s := by with_unfolding_all rfl
end
end DL
namespace DL
open PySem PySem.Spec PyProof.Rows L2
/-! ### functions in slots, sums of values: plain rules -/
def wpf (i : Nat) (ρ : List Sl) (P : Nat → TL → Prop) : Prop := match ρ[i]? with
  | some (.fn n tl) => P n tl
  | _ => False
section
variable {ρ : List Sl} {s : S} {N B C : List Sl → S → Prop} {R : D → S → Prop} {X : Str → S → Prop}
theorem wp_tell {i : Nat} {fs : DA} {Q : D → S → Prop} : wp (eTell i fs ρ s) Q X = wpf i ρ fun n tl => wp (fs ρ s) (fun ds s1 => ds.length = n ∧ wpc (tl ds s1) Q X ⟨⟩) X := by
  unfold eTell wpf
  cases ρ[i]? with
  | none => simp [wp]
  | some y =>
    cases y with
    | fn n tl =>
      simp only []
      rw [wp_bind]
      congr 1
      funext ds s1
      by_cases h : ds.length = n
      · rw [if_pos h]; exact propext ⟨fun q => ⟨h, q⟩, fun q => q.2⟩
      · rw [if_neg h]; exact propext ⟨fun q => by simp [wp] at q, fun q => absurd q.1 h⟩
    | _ => simp [wp]
theorem wp_callP {F : PFun} {fa : List Sl → S → Res (List D × TL × List D)} {Q : D → S → Prop} : wp (eCallP F fa ρ s) Q X = wp (fa ρ s) (fun q s1 => wpc (F q.1 q.2.1 q.2.2 s1) Q X ⟨⟩) X := wp_bind
theorem wp_aFn {f : DE} {F : List Sl → S → Res (List D × TL × List D)} {Q : List D × TL × List D → S → Prop} : wp (aFn f F ρ s) Q X = wp (f ρ s) (fun d s1 => wp (F ρ s1) (fun q s2 => Q (d :: q.1, q.2) s2) X) X := by
  unfold aFn
  rw [wp_bind]
  congr 1
  funext d s1
  rw [wp_bind]
  congr 1
  funext q s2
  rw [wp_ok]
theorem wp_aLam {fb : DE} {fs : DA} {Q : List D × TL × List D → S → Prop} : wp (aLam fb fs ρ s) Q X = wp (fs ρ s) (fun d2 s2 => Q ([], (fun ds s1 => fb (ρ.map datOnly ++ ds.map .dat) s1), d2) s2) X := by
  unfold aLam
  rw [wp_bind]
  congr 1
  funext q s2
  rw [wp_ok]
theorem wp_aSl {n i : Nat} {fs : DA} {Q : List D × TL × List D → S → Prop} : wp (aSl n i fs ρ s) Q X = wpf i ρ fun m tl => m = n ∧ wp (fs ρ s) (fun d2 s2 => Q ([], tl, d2) s2) X := by
  unfold aSl wpf
  cases ρ[i]? with
  | none => simp [wp]
  | some y =>
    cases y with
    | fn m tl =>
      simp only []
      by_cases h : m = n
      · rw [if_pos h, wp_bind]
        refine propext ⟨fun q => ⟨h, ?_⟩, fun q => ?_⟩
        · exact wp_mono q (fun d s2 q => by rwa [wp_ok] at q) fun _ _ z => z
        · exact wp_mono q.2 (fun d s2 q => by rwa [wp_ok]) fun _ _ z => z
      · rw [if_neg h]; exact propext ⟨fun q => by simp [wp] at q, fun q => absurd q.1 h⟩
    | _ => simp [wp]
theorem wp_sumV {f : DE} {Q : D → S → Prop} : wp (eSumV f ρ s) Q X = wp (f ρ s) (fun d s1 => ∃ l, d = .fd true l ∧ ∃ ns, intsOf (l.map (·.2)) = some ns ∧ Q (.int ns.sum) s1) X := by
  unfold eSumV
  rw [wp_bind]
  congr 1
  funext d s1
  cases d with
  | fd t l =>
    cases t with
    | true =>
      simp only []
      rw [wp_ofO]
      refine propext ⟨fun ⟨z, e, q⟩ => ?_, fun ⟨l', e, ns, h, q⟩ => ?_⟩
      · obtain ⟨ns, h, rfl⟩ := Option.map_eq_some_iff.mp e
        exact ⟨l, rfl, ns, h, q⟩
      · cases e
        exact ⟨_, by rw [h]; rfl, q⟩
    | false => exact propext ⟨fun q => by simp [wp] at q, fun ⟨l', e, q⟩ => by cases e⟩
  | _ => simp [wp]
theorem q_dictO {i : Nat} {f : DE} : wps (sDictO i f ρ s) N B C R X = wp (f ρ s) (fun d s1 => ∃ ps, d = .lst ps ∧ ∃ l, pairsD ps = some l ∧ wpn ρ [(i, .ownD true (mergeT l))] fun ρ1 => N ρ1 s1) X := by
  unfold sDictO
  rw [wps_then]
  congr 1
  funext d s1
  cases d with
  | lst ps =>
    simp only [D.lst.injEq, exists_eq_left']
    cases pairsD ps with
    | none => simp [wps]
    | some l =>
      simp only [Option.some.injEq, exists_eq_left']
      rw [wz_next, set_at]; rfl
  | _ => simp [wps]
theorem q_exprY {f : DY} : wps (sExprY f ρ s) N B C R X = wp (f ρ s) (fun p s1 => N p.2 s1) X := by
  unfold sExprY
  rw [wps_then]
  congr 1
  funext p s1
  rw [wz_next]
theorem wpy_slN {f : DY} {k : Int} {Q : D × List Sl → S → Prop} : wp (ySlN f k ρ s) Q X = wp (f ρ s) (fun p s1 => ∃ ds, p.1 = .tup ds ∧ Q (.tup (cutL ds none (some k)), p.2) s1) X := by
  unfold ySlN
  rw [wp_bind]
  congr 1
  funext p s1
  obtain ⟨d, ρ1⟩ := p
  cases d with
  | tup ds => simp [wp]
  | _ => simp [wp]
variable {tl : TL} {n : Nat} {r : List Sl} {P : Nat → TL → Prop}
theorem fnx_0 : wpf 0 (.fn n tl :: r) P = P n tl := by with_unfolding_all rfl
theorem fnx_1 {x0 : Sl} : wpf 1 (x0 :: .fn n tl :: r) P = P n tl := by with_unfolding_all rfl
theorem fnx_2 {x0 x1 : Sl} : wpf 2 (x0 :: x1 :: .fn n tl :: r) P = P n tl := by with_unfolding_all rfl
theorem fnx_3 {x0 x1 x2 : Sl} : wpf 3 (x0 :: x1 :: x2 :: .fn n tl :: r) P = P n tl := by with_unfolding_all rfl
theorem fnx_4 {x0 x1 x2 x3 : Sl} : wpf 4 (x0 :: x1 :: x2 :: x3 :: .fn n tl :: r) P = P n tl := by with_unfolding_all rfl
theorem fnx_5 {x0 x1 x2 x3 x4 : Sl} : wpf 5 (x0 :: x1 :: x2 :: x3 :: x4 :: .fn n tl :: r) P = P n tl := by with_unfolding_all rfl
theorem fnx_6 {x0 x1 x2 x3 x4 x5 : Sl} : wpf 6 (x0 :: x1 :: x2 :: x3 :: x4 :: x5 :: .fn n tl :: r) P = P n tl := by with_unfolding_all rfl
theorem fnx_7 {x0 x1 x2 x3 x4 x5 x6 : Sl} : wpf 7 (x0 :: x1 :: x2 :: x3 :: x4 :: x5 :: x6 :: .fn n tl :: r) P = P n tl := by with_unfolding_all rfl
theorem fnx_8 {x0 x1 x2 x3 x4 x5 x6 x7 : Sl} : wpf 8 (x0 :: x1 :: x2 :: x3 :: x4 :: x5 :: x6 :: x7 :: .fn n tl :: r) P = P n tl := by with_unfolding_all rfl
theorem fnx_9 {x0 x1 x2 x3 x4 x5 x6 x7 x8 : Sl} : wpf 9 (x0 :: x1 :: x2 :: x3 :: x4 :: x5 :: x6 :: x7 :: x8 :: .fn n tl :: r) P = P n tl := by with_unfolding_all rfl
theorem fnx_10 {x0 x1 x2 x3 x4 x5 x6 x7 x8 x9 : Sl} : wpf 10 (x0 :: x1 :: x2 :: x3 :: x4 :: x5 :: x6 :: x7 :: x8 :: x9 :: .fn n tl :: r) P = P n tl := by with_unfolding_all rfl
theorem fnx_11 {x0 x1 x2 x3 x4 x5 x6 x7 x8 x9 x10 : Sl} : wpf 11 (x0 :: x1 :: x2 :: x3 :: x4 :: x5 :: x6 :: x7 :: x8 :: x9 :: x10 :: .fn n tl :: r) P = P n tl := by with_unfolding_all rfl
end
theorem x_dictEn {a b c d : D} {P : D → Prop} : (∃ z, dDictEn (.tup [a, b, c, d]) = some z ∧ P z) = P (.dct [(.int 0, a), (.int 1, b), (.int 2, c), (.int 3, d)]) := ex_some
theorem x_fdivP {i j : Int} {P : D → Prop} : (∃ z, dFdivP (.int i) (.int j) = some z ∧ P z) = (j ≠ 0 ∧ P (.int (i.fdiv j))) := by
  unfold dFdivP
  by_cases h : j = 0 <;> simp [h]
theorem wp_row {fs : DA} {ρ : List Sl} {s : S} {Q : D → S → Prop} {X : Str → S → Prop} : wp (eRow fs ρ s) Q X = wp (fs ρ s) (fun ds s1 => ∃ xs, ds = [.lst xs] ∧ ∃ ns, intsOf xs = some ns ∧ Q (.tok s1.length) (s1 ++ [.b ns])) X := by
  unfold eRow
  rw [wp_bind]
  congr 1
  funext ds s1
  match ds with
  | [.lst xs] =>
    simp only [List.cons.injEq, D.lst.injEq, and_true, exists_eq_left']
    cases intsOf xs with
    | none => simp [wp]
    | some ns => simp [wp]
  | [] => simp [wp]
  | [.non] => simp [wp]
  | [.bl _] => simp [wp]
  | [.int _] => simp [wp]
  | [.str _] => simp [wp]
  | [.tup _] => simp [wp]
  | [.frz _] => simp [wp]
  | [.dct _] => simp [wp]
  | [.tok _] => simp [wp]
  | [.ty _] => simp [wp]
  | [.glb _] => simp [wp]
  | [.ktp _] => simp [wp]
  | [.exc _] => simp [wp]
  | [.fd _ _] => simp [wp]
  | a :: b :: r => cases a <;> simp [wp]
theorem wp_sortS {f : DE} {ρ : List Sl} {s : S} {Q : D → S → Prop} {X : Str → S → Prop} : wp (eSortS f ρ s) Q X = wp (f ρ s) (fun x s1 => ∃ xs es ys, x = .lst xs ∧ tupsOf xs = some es ∧ SetOk es ∧ IsSorted es ys ∧ Q (.lst (ys.map tupI)) s1) X := by
  unfold eSortS
  rw [wp_bind]
  congr 1
  funext x s1
  have bad : ∀ x : D, (∀ xs, x ≠ .lst xs) → (∃ xs es ys, x = .lst xs ∧ tupsOf xs = some es ∧ SetOk es ∧ IsSorted es ys ∧ Q (.lst (ys.map tupI)) s1) = False := fun x h => propext ⟨fun ⟨xs, _, _, e, _⟩ => h xs e, fun z => z.elim⟩
  cases x with
  | lst xs =>
    simp only
    cases hx : tupsOf xs with
    | none =>
      simp only [wp_bad]
      refine propext ⟨fun z => z.elim, fun ⟨xs', es, ys, e, h, _⟩ => ?_⟩
      cases e
      rw [hx] at h
      cases h
    | some es =>
      simp only
      by_cases h : SetOk es ∧ ∃ ys, IsSorted es ys
      · rw [dif_pos h, wp_ok]
        refine propext ⟨fun q => ⟨xs, es, _, rfl, hx, h.1, Classical.choose_spec h.2, q⟩, fun ⟨xs', es', ys, e, h1, h2, h3, q⟩ => ?_⟩
        cases e
        rw [hx] at h1
        cases h1
        rw [sorted_one (Classical.choose_spec h.2) h3]
        exact q
      · rw [dif_neg h, wp_bad]
        refine propext ⟨fun z => z.elim, fun ⟨xs', es', ys, e, h1, h2, h3, q⟩ => h ?_⟩
        cases e
        rw [hx] at h1
        cases h1
        exact ⟨h2, ys, h3⟩
  | _ => rw [wp_bad, bad]; exact fun _ z => nomatch z
theorem x_mn3 {a b c : Int} {P : D → Prop} : (∃ z, dMin3 [.int a, .int b, .int c] = some z ∧ P z) = P (.int (min a (min b c))) := by show (∃ z, some (D.int (min a (min b c))) = some z ∧ P z) = _; exact ex_some
end DL
namespace DL
open PySem PySem.Spec PyProof.Rows L2
/-! ### pairs of data and a new dict: plain rules -/
section
variable {ρ : List Sl} {s : S} {N B C : List Sl → S → Prop} {R : D → S → Prop} {X : Str → S → Prop}
theorem q_unpPd {i j : Nat} {F : DFun} {fs : DA} : wps (sUnpPd i j F fs ρ s) N B C R X = wp (eCall F fs ρ s) (fun d s1 => ∃ x l, d = .tup [x, .fd true l] ∧ wpn ρ [(i, .dat x), (j, .ownD true l)] fun ρ1 => N ρ1 s1) X := by
  unfold sUnpPd
  rw [wps_then]
  congr 1
  funext d s1
  refine propext ⟨fun h => ?_, fun ⟨x, l, e, h⟩ => ?_⟩
  · split at h
    · refine ⟨_, _, rfl, ?_⟩
      simp only [wps, wpn, set_at] at h ⊢
      exact h
    · exact absurd h (by simp [wps])
  · subst e
    show wps (.next ((ρ.set i (.dat x)).set j (.ownD true l)) s1) N B C R X
    simp only [wps, wpn, set_at] at h ⊢
    exact h
theorem q_retPd {f g : DE} : wps (sRetPd f g ρ s) N B C R X = wp (f ρ s) (fun x s1 => wp (g ρ s1) (fun d s2 => ∃ ps, d = .lst ps ∧ ∃ l, pairsD ps = some l ∧ R (.tup [x, .fd true (mergeT l)]) s2) X) X := by
  unfold sRetPd
  rw [wps_then]
  congr 1
  funext x s1
  rw [wps_then]
  congr 1
  funext d s2
  refine propext ⟨fun h => ?_, fun ⟨ps, e, l, e2, h⟩ => ?_⟩
  · split at h
    · rename_i ps
      cases hp : pairsD ps with
      | none => rw [hp] at h; exact absurd h (by simp [wps])
      | some l =>
        rw [hp] at h
        simp only [wps] at h
        exact ⟨_, rfl, l, hp, h⟩
    · exact absurd h (by simp [wps])
  · subst e
    simp only [e2, wps]
    exact h
theorem q_swapD {i : Nat} {fe gi gj : DE} : wps (sSwapD i fe gi gj ρ s) N B C R X = wp (fe ρ s) (fun v s1 => ∃ d e, v = .tup [d, e] ∧ wpd i ρ fun t l => wp (gi ρ s1) (fun k s2 => ∃ l1, putO t l k d = some l1 ∧ l.length < 16777216 ∧ wpn ρ [(i, .ownD t l1)] fun ρ1 => wp (gj ρ1 s2) (fun k' s3 => ∃ l2, putO t l1 k' e = some l2 ∧ l1.length < 16777216 ∧ wpn ρ1 [(i, .ownD t l2)] fun ρ2 => N ρ2 s3) X) X) X := by
  unfold sSwapD
  rw [wps_then]
  congr 1
  funext v s1
  refine Eq.trans ?_ (propext ⟨fun (h : match v with | .tup [d, e] => wpd i ρ fun t l => wp (gi ρ s1) (fun k s2 => ∃ l1, putO t l k d = some l1 ∧ l.length < 16777216 ∧ wpn ρ [(i, .ownD t l1)] fun ρ1 => wp (gj ρ1 s2) (fun k' s3 => ∃ l2, putO t l1 k' e = some l2 ∧ l1.length < 16777216 ∧ wpn ρ1 [(i, .ownD t l2)] fun ρ2 => N ρ2 s3) X) X | _ => False) => by
    split at h
    · exact ⟨_, _, rfl, h⟩
    · exact h.elim, fun ⟨d, e, ev, h⟩ => by subst ev; exact h⟩)
  split
  · rename_i d e
    unfold wpd
    cases ρ[i]? with
    | none => simp [wps]
    | some y =>
      cases y with
      | ownD t l =>
        simp only []
        rw [wps_then]
        congr 1
        funext k s2
        cases putO t l k d with
        | none => simp [wps]
        | some l1 =>
          simp only [Option.some.injEq, exists_eq_left']
          split
          · rename_i hl
            rw [wps_then]
            simp only [hl, true_and]
            simp only [wpn, set_at]
            congr 1
            funext k' s3
            cases putO t l1 k' e with
            | none => simp [wps]
            | some l2 =>
              simp only [Option.some.injEq, exists_eq_left']
              split
              · rename_i hl2
                simp only [hl2, true_and, wps, wpn, set_at]
              · rename_i hl2
                simp [wps, hl2]
          · rename_i hl
            simp [wps, hl]
      | _ => simp [wps]
  · simp [wps]
theorem q_plUse {i : Nat} {F : DFun} {fs : DA} {c : DT} {h : DS} : wps (sPlUse i F fs c h ρ s) N B C R X = wp (eCall F fs ρ s) (fun d s1 => ∃ x ds, d = .tup [x, .lst ds] ∧ flats ds = true ∧ i < ρ.length ∧ wpn ρ [(i, .dat (.tup [x, .lst ds]))] fun ρ1 => wp (c ρ1 s1) (fun b s2 => if b = true then R (.bl false) s2 else wpn ρ [(i, .emp)] fun ρ2 => wps (h ρ2 s2) N B C R X) X) X := by
  unfold sPlUse
  rw [wps_then]
  congr 1
  funext d s1
  refine propext ⟨fun k => ?_, fun ⟨x, ds, e, f1, f2, k⟩ => ?_⟩
  · split at k
    · split at k
      · rename_i hh
        refine ⟨_, _, rfl, hh.1, hh.2, ?_⟩
        rw [wps_then] at k
        simp only [wpn, set_at] at k ⊢
        refine wp_mono k (fun b s2 q => ?_) fun _ _ q => q
        cases b with
        | true => rw [if_pos rfl]; simp only [wps] at q; exact q
        | false => rw [if_neg (by decide)]; exact q
      · exact absurd k (by simp [wps])
    · exact absurd k (by simp [wps])
  · subst e
    simp only [f1, f2, and_self, if_true]
    rw [wps_then]
    simp only [wpn, set_at] at k ⊢
    refine wp_mono k (fun b s2 q => ?_) fun _ _ q => q
    cases b with
    | true => rw [if_pos rfl] at q; simp only [wps]; exact q
    | false => rw [if_neg (by decide)] at q; exact q
theorem q_retPl {i : Nat} {f : DE} : wps (sRetPl i f ρ s) N B C R X = wp (f ρ s) (fun x s1 => wpo i ρ fun ds => R (.tup [x, .lst ds]) s1) X := by
  unfold sRetPl
  rw [wps_then]
  congr 1
  funext x s1
  unfold wpo
  cases ρ[i]? with
  | none => simp [wps]
  | some y => cases y <;> simp [wps]
end
end DL
namespace DL
open PySem PySem.Spec PyProof.Rows L2
/-! ### a def handed over, long numbers in f-strings: plain rules -/
section
variable {ρ : List Sl} {s : S} {X : Str → S → Prop}
theorem wp_aGl {F : DFun} {fs : DA} {Q : List D × TL × List D → S → Prop} : wp (aGl F fs ρ s) Q X = wp (fs ρ s) (fun d2 s2 => Q ([], F, d2) s2) X := by
  unfold aGl
  rw [wp_bind]
  congr 1
  funext d s1
  rw [wp_ok]
theorem wp_fmtL {f : DE} {Q : D → S → Prop} : wp (eFmtL f ρ s) Q X = wp (f ρ s) (fun d s1 => match d with
    | .int i => i.natAbs.log2 < 12900 ∧ Q (.str (toString i)) s1
    | .str y => y.length ≤ 16777216 ∧ Q (.str y) s1
    | _ => False) X := by
  unfold eFmtL
  rw [wp_bind]
  congr 1
  funext d s1
  cases d with
  | int i =>
    dsimp only
    rw [wp_ite, wp_ok, wp_bad]
    by_cases h : i.natAbs.log2 < 12900 <;> simp [h]
  | str y =>
    dsimp only
    rw [wp_ite, wp_ok, wp_bad]
    by_cases h : y.length ≤ 16777216 <;> simp [h]
  | _ => simp [wp]
end
end DL
namespace DL
open PySem PySem.Spec PyProof.Rows L2
/-! ### instances: plain rules -/
section
variable {ρ : List Sl} {s : S} {X : Str → S → Prop}
theorem wp_fld {c x : Str} {f : DE} {Q : D → S → Prop} : wp (eFld c x f ρ s) Q X = wp (f ρ s) (fun d s1 => ∃ p, insOf s1 c d = some p ∧ ∃ v, p.2.lookup x = some v ∧ Q v s1) X := by
  unfold eFld
  rw [wp_bind]
  congr 1
  funext d s1
  cases h : insOf s1 c d with
  | none => simp [wp]
  | some p =>
    obtain ⟨n, l⟩ := p
    simp only []
    rw [wp_ofO]
    exact propext ⟨fun q => ⟨_, rfl, q⟩, fun ⟨_, e, q⟩ => by cases e; exact q⟩
theorem wps_fld {c x : Str} {f fv : DE} {N B C : List Sl → S → Prop} {R : D → S → Prop} : wps (sFld c x f fv ρ s) N B C R X =
    wp (fv ρ s) (fun d s1 => wp (f ρ s1) (fun t s2 => ∃ p, insOf s2 c t = some p ∧ (flat d = true ∧ p.2.length < 1000) ∧ N ρ (s2.set p.1 (.o c (putG x d p.2)))) X) X := by
  unfold sFld
  rw [wps_then]
  congr 1
  funext d s1
  rw [wps_then]
  congr 1
  funext t s2
  cases h : insOf s2 c t with
  | none => simp [wps]
  | some p =>
    obtain ⟨n, l⟩ := p
    simp only []
    by_cases h2 : flat d = true ∧ l.length < 1000
    · rw [if_pos h2, wz_next]
      exact propext ⟨fun q => ⟨_, rfl, h2, q⟩, fun ⟨_, e, _, q⟩ => by cases e; exact q⟩
    · rw [if_neg h2]
      exact propext ⟨fun q => by unfold wps at q; exact q.elim, fun ⟨_, e, h3, _⟩ => by cases e; exact absurd h3 h2⟩
theorem wp_meth {c m : Str} {F : DFun} {f : DE} {fs : DA} {Q : D → S → Prop} : wp (eMeth c m F f fs ρ s) Q X =
    wp (f ρ s) (fun t s1 => ∃ p, insOf s1 c t = some p ∧ p.2.lookup m = none ∧ wp (fs ρ s1) (fun ds s2 => wpc (F (.tok p.1 :: ds) s2) Q X ⟨⟩) X) X := by
  unfold eMeth
  rw [wp_bind]
  congr 1
  funext d s1
  cases h : insOf s1 c d with
  | none => simp [wp]
  | some p =>
    obtain ⟨n, l⟩ := p
    simp only []
    by_cases h2 : l.lookup m = none
    · rw [if_pos h2, wp_bind]
      exact propext ⟨fun q => ⟨_, rfl, h2, q⟩, fun ⟨_, e, _, q⟩ => by cases e; exact q⟩
    · rw [if_neg h2]
      exact propext ⟨fun q => by simp [wp] at q, fun ⟨_, e, h3, _⟩ => by cases e; exact absurd h3 h2⟩
theorem wp_make {c : Str} {F : DFun} {fs : DA} {Q : D → S → Prop} : wp (eMake c F fs ρ s) Q X =
    wp (fs ρ s) (fun ds s1 => wpc (F (.tok s1.length :: ds) (s1 ++ [.o c []])) (fun d s2 => d = .non ∧ Q (.tok s1.length) s2) X ⟨⟩) X := by
  unfold eMake
  rw [wp_bind]
  congr 1
  funext ds s1
  unfold wpc
  cases h : F (.tok s1.length :: ds) (s1 ++ [.o c []]) with
  | ok d s2 => cases d <;> simp [wp]
  | exc e s2 => simp [wp]
  | bad => simp [wp]
theorem wp_pop0T {f : DE} {Q : D → S → Prop} : wp (ePop0T f ρ s) Q X = wp (f ρ s) (fun t s1 => ∃ p, popL s1 t = some p ∧ Q p.1 p.2) X := by
  unfold ePop0T
  rw [wp_bind]
  congr 1
  funext t s1
  cases h : popL s1 t with
  | none => simp [wp]
  | some p =>
    simp only []
    rw [wp_ok]
    exact propext ⟨fun q => ⟨_, rfl, q⟩, fun ⟨_, e, q⟩ => by cases e; exact q⟩
theorem wp_lstR3 {fs : DA} {Q : D → S → Prop} : wp (eLstR3 fs ρ s) Q X = wp (fs ρ s) (fun ds s1 => ∃ i j, ds = [.int i, .int j, .int (-1)] ∧ (-(2 ^ 60) ≤ i ∧ i < 2 ^ 60 ∧ -(2 ^ 60) ≤ j ∧ j < 2 ^ 60 ∧ (i - j).toNat ≤ 2 ^ 24) ∧ Q (.lst (rngD i (-1) (i - j).toNat)) s1) X := by
  unfold eLstR3
  rw [wp_bind]
  congr 1
  funext ds s1
  split
  · rename_i i j c
    by_cases h : c = -1 ∧ -(2 ^ 60) ≤ i ∧ i < 2 ^ 60 ∧ -(2 ^ 60) ≤ j ∧ j < 2 ^ 60 ∧ (i - j).toNat ≤ 2 ^ 24
    · rw [if_pos h, wp_ok]
      obtain ⟨rfl, h'⟩ := h
      exact propext ⟨fun q => ⟨_, _, rfl, h', q⟩, fun ⟨_, _, e, _, q⟩ => by cases e; exact q⟩
    · rw [if_neg h]
      exact propext ⟨fun q => by unfold wp at q; exact q.elim, fun ⟨_, _, e, h2, _⟩ => by cases e; exact absurd ⟨rfl, h2⟩ h⟩
  · rename_i h
    exact propext ⟨fun q => by unfold wp at q; exact q.elim, fun ⟨_, _, e, _⟩ => absurd e (h _ _ _)⟩
theorem wp_getK {kvs : List (Str × Int)} {fs : DA} {Q : D → S → Prop} : wp (eGetK kvs fs ρ s) Q X = wp (fs ρ s) (fun ds s1 => ∃ z, ds = [.str z] ∧ Q (match kvs.lookup z with | some i => .int i | none => .non) s1) X := by
  unfold eGetK
  rw [wp_bind]
  congr 1
  funext ds s1
  split
  · rw [wp_ok]
    exact propext ⟨fun q => ⟨_, rfl, q⟩, fun ⟨_, e, q⟩ => by cases e; exact q⟩
  · rename_i h
    exact propext ⟨fun q => by unfold wp at q; exact q.elim, fun ⟨_, e, _⟩ => absurd e (h _)⟩
theorem wp_callE {x1 x2 : Str} {F1 F2 : DFun} {ff : DE} {fs : DA} {Q : D → S → Prop} : wp (eCallE x1 F1 x2 F2 ff fs ρ s) Q X =
    wp (ff ρ s) (fun d s1 => ∃ y, d = .glb y ∧ ((y = x1 ∧ wp (fs ρ s1) (fun ds s2 => wpc (F1 ds s2) Q X ⟨⟩) X) ∨ (y ≠ x1 ∧ y = x2 ∧ wp (fs ρ s1) (fun ds s2 => wpc (F2 ds s2) Q X ⟨⟩) X))) X := by
  unfold eCallE
  rw [wp_bind]
  congr 1
  funext d s1
  cases d with
  | glb y =>
    simp only []
    by_cases h1 : y = x1
    · rw [if_pos h1, wp_bind]
      exact propext ⟨fun q => ⟨y, rfl, .inl ⟨h1, q⟩⟩, fun ⟨_, e, q⟩ => by
        cases e
        rcases q with q | q
        · exact q.2
        · exact absurd h1 q.1⟩
    · rw [if_neg h1]
      by_cases h2 : y = x2
      · rw [if_pos h2, wp_bind]
        exact propext ⟨fun q => ⟨y, rfl, .inr ⟨h1, h2, q⟩⟩, fun ⟨_, e, q⟩ => by
          cases e
          rcases q with q | q
          · exact absurd q.1 h1
          · exact q.2.2⟩
      · rw [if_neg h2]
        exact propext ⟨fun q => by unfold wp at q; exact q.elim, fun ⟨_, e, q⟩ => by
          cases e
          rcases q with q | q
          · exact absurd q.1 h1
          · exact absurd q.2.1 h2⟩
  | _ => simp [wp]
theorem x_stL {i : Int} {P : D → Prop} : (∃ z, dStrL [.int i] = some z ∧ P z) = (i.natAbs.log2 < 12900 ∧ P (.str (toString i))) := ex_ite
theorem x_stLs {a : Str} {P : D → Prop} : (∃ z, dStrL [.str a] = some z ∧ P z) = P (.str a) := ex_some
end
end DL
namespace DL
open PySem PySem.Spec PyProof.Rows L2
/-! ### two clauses without a name -/
section
variable {ρ : List Sl} {s : S} {N B C : List Sl → S → Prop} {R : D → S → Prop} {X : Str → S → Prop}
theorem q_tryS2 {tb : XTb} {k : Nat} {c1 z1 c2 z2 : Str} {f : DE} : wps (sTryS tb k [(c1, z1), (c2, z2)] f ρ s) N B C R X = wp (f ρ s) (fun _ s1 => N ρ s1) (fun x s1 => ∃ b, isX tb x c1 = some b ∧ if b = true then wpn ρ [(k, .dat (.str z1))] (fun ρ1 => N ρ1 s1) else
    ∃ b2, isX tb x c2 = some b2 ∧ if b2 = true then wpn ρ [(k, .dat (.str z2))] (fun ρ1 => N ρ1 s1) else X x s1) := by
  unfold sTryS
  cases f ρ s with
  | ok d s1 => with_unfolding_all rfl
  | bad => with_unfolding_all rfl
  | exc x s1 =>
    simp only [wp, pickS]
    cases isX tb x c1 with
    | none => simp [wps]
    | some b =>
      cases b with
      | true => simp [wps, wpn, set_at]
      | false =>
        cases isX tb x c2 with
        | none => simp [wps]
        | some b2 =>
          cases b2 with
          | true => simp [wps, wpn, set_at]
          | false => simp [wps]
theorem q_gTL {n : Nat} {h : List D → List Sl → Option (List Sl)} {ds : List D} {P : List Sl → Prop} : (∃ ρ1, gTL n h (.lst ds) ρ = some ρ1 ∧ P ρ1) = (ds.length = n ∧ ∃ ρ1, h ds ρ = some ρ1 ∧ P ρ1) := by
  unfold gTL
  by_cases e : ds.length = n <;> simp [e]
end
end DL
namespace DL
open PySem PySem.Spec PyProof.Rows L2
/-! ### own dicts: get with one argument, update -/
section
variable {ρ : List Sl} {s : S} {N B C : List Sl → S → Prop} {R : D → S → Prop} {X : Str → S → Prop}
theorem wp_getO1 {i : Nat} {fk : DE} {Q : D → S → Prop} : wp (eGetO1 i fk ρ s) Q X = wpd i ρ fun t l => wp (fk ρ s) (fun y s1 => ∃ o, getO t l y = some o ∧ Q (o.getD .non) s1) X := by
  unfold eGetO1 wpd
  cases ρ[i]? with
  | none => simp [wp]
  | some y =>
    cases y with
    | ownD t l =>
      simp only []
      rw [wp_bind]
      congr 1
      funext y s1
      rw [wp_ofO]
      cases getO t l y with
      | none => simp
      | some o => simp
    | _ => simp [wp]
theorem q_updO {i : Nat} {f : DE} : wps (sUpdO i f ρ s) N B C R X = wpd i ρ fun t l => t = false ∧ wp (f ρ s) (fun d s1 => ∃ p r l', d = .dct (p :: r) ∧ mergeO l (p :: r) = some l' ∧ l.length + (p :: r).length ≤ 16777216 ∧ wpn ρ [(i, .ownD false l')] fun ρ1 => N ρ1 s1) X := by
  unfold sUpdO wpd
  cases ρ[i]? with
  | none => simp [wps]
  | some y =>
    cases y with
    | ownD t l =>
      cases t with
      | true => simp [wps]
      | false =>
        simp only [true_and]
        rw [wps_then]
        congr 1
        funext d s1
        cases d with
        | dct m =>
          cases m with
          | nil => simp [wps]
          | cons p r =>
            simp only []
            cases hm : mergeO l (p :: r) with
            | none =>
              refine propext ⟨fun q => by unfold wps at q; exact q.elim, fun ⟨p', r', l2, e, e2, _⟩ => ?_⟩
              cases e
              rw [hm] at e2
              cases e2
            | some l' =>
              simp only []
              by_cases h : l.length + (p :: r).length ≤ 16777216
              · rw [if_pos h, wz_next]
                refine propext ⟨fun q => ⟨p, r, l', rfl, hm, h, by simpa [wpn, set_at] using q⟩, fun ⟨p', r', l2, e, e2, _, q⟩ => ?_⟩
                cases e
                rw [hm] at e2
                cases e2
                simpa [wpn, set_at] using q
              · rw [if_neg h]
                refine propext ⟨fun q => by unfold wps at q; exact q.elim, fun ⟨p', r', l2, e, _, h3, _⟩ => ?_⟩
                cases e
                exact absurd h3 h
        | _ => simp [wps]
    | _ => simp [wps]
theorem q_dispC {i : Nat} {kvs : List (Str × Int)} : wps (sDispC i kvs ρ s) N B C R X = wpn ρ [(i, .ownD false (dispD kvs))] fun ρ1 => N ρ1 s := by
  unfold sDispC
  rw [wz_next]
  simp [wpn, set_at]
end
end DL
namespace DL
open PySem PySem.Spec PyProof.Rows L2
/-! ### walking a special list; setdefault and list of a special dict -/
def contV (clr : List Nat) (g : DG) (b : DS) (ρ : List Sl) (d : D) (s1 : S) : Fl := match d with
  | .tok n => match tokL s1 n with
    | none => .bad
    | some ds => loopT clr g b n ds.length ds.length (wipeD ρ clr) s1
  | d => match dIter d with
    | none => .bad
    | some ds => loopN clr g b ds (wipeD ρ clr) s1
def wpv (clr : List Nat) (g : DG) (b : DS) (d : D) (ρ : List Sl) (s : S) (N B C : List Sl → S → Prop) (R : D → S → Prop) (X : Str → S → Prop) (_ : Wits N B C R X) : Prop := wps (contV clr g b ρ d s) N B C R X
section
variable {ρ : List Sl} {s : S} {N B C : List Sl → S → Prop} {R : D → S → Prop} {X : Str → S → Prop}
theorem q_forV {clr : List Nat} {f : DE} {g : DG} {b : DS} : wps (sForV clr f g b ρ s) N B C R X = wp (f ρ s) (fun d s1 => wpv clr g b d ρ s1 N B C R X ⟨⟩) X := by
  have e : sForV clr f g b ρ s = (f ρ s).thenS (contV clr g b ρ) := rfl
  rw [e, wps_then]
  rfl
theorem wp_lstKT {fs : DA} {Q : D → S → Prop} : wp (eLstKT fs ρ s) Q X = wp (fs ρ s) (fun ds s1 => ∃ n l, ds = [.tok n] ∧ tokT s1 n = some l ∧ Q (.lst (l.map fun p => kT p.1)) s1) X := by
  unfold eLstKT
  rw [wp_bind]
  congr 1
  funext ds s1
  refine propext ⟨fun q => ?_, ?_⟩
  · split at q
    · rename_i n
      split at q
      · unfold wp at q; exact q.elim
      · rename_i l hl
        rw [wp_ok] at q
        exact ⟨n, l, rfl, hl, q⟩
    · unfold wp at q; exact q.elim
  · rintro ⟨n, l, rfl, hl, q⟩
    simp only [hl]
    rw [wp_ok]
    exact q
theorem wp_setdT {f fk fe : DE} {Q : D → S → Prop} : wp (eSetdT f fk fe ρ s) Q X = wp (f ρ s) (fun t s1 => ∃ n, t = .tok n ∧ (tokT s1 n).isSome = true ∧ wp (fk ρ s1) (fun y s2 => wp (fe ρ s2) (fun z s3 => ∃ l k, tokT s3 n = some l ∧ dkT y = some k ∧ l.length < 16777216 ∧
    ((∃ d, look l k = some d ∧ Q d s3) ∨ (look l k = none ∧ flat z = true ∧ Q z (s3.set n (.t (putC l k z)))))) X) X) X := by
  unfold eSetdT
  rw [wp_bind]
  congr 1
  funext t s1
  cases t with
  | tok n =>
    simp only []
    by_cases h : (tokT s1 n).isSome = true
    · rw [if_pos h, wp_bind]
      refine propext ⟨fun q => ⟨n, rfl, h, ?_⟩, fun ⟨m, e, _, q⟩ => ?_⟩
      · refine wp_mono q (fun y s2 q => ?_) fun _ _ q => q
        rw [wp_bind] at q
        refine wp_mono q (fun z s3 q => ?_) fun _ _ q => q
        split at q
        · rename_i l k hl hk
          split at q
          · rename_i hc
            refine ⟨l, k, hl, hk, hc, ?_⟩
            split at q
            · rename_i d hd
              rw [wp_ok] at q
              exact .inl ⟨d, hd, q⟩
            · rename_i hd
              split at q
              · rename_i hf
                rw [wp_ok] at q
                exact .inr ⟨hd, hf, q⟩
              · unfold wp at q; exact q.elim
          · unfold wp at q; exact q.elim
        · unfold wp at q; exact q.elim
      · cases e
        refine wp_mono q (fun y s2 q => ?_) fun _ _ q => q
        rw [wp_bind]
        refine wp_mono q (fun z s3 q => ?_) fun _ _ q => q
        obtain ⟨l, k, hl, hk, hc, q⟩ := q
        simp only [hl, hk]
        rw [if_pos hc]
        rcases q with ⟨d, hd, q⟩ | ⟨hd, hf, q⟩
        · simp only [hd]
          rw [wp_ok]
          exact q
        · simp only [hd]
          rw [if_pos hf, wp_ok]
          exact q
    · rw [if_neg h]
      refine propext ⟨fun q => by unfold wp at q; exact q.elim, fun ⟨m, e, q, _⟩ => ?_⟩
      cases e
      exact absurd q h
  | _ => simp [wp]
end
end DL
namespace DL
open PySem PySem.Spec PyProof.Rows L2
section
variable {ρ : List Sl} {s : S} {X : Str → S → Prop}
theorem wp_lstV {f : DE} {Q : D → S → Prop} : wp (eLstV f ρ s) Q X = wp (f ρ s) (fun d s1 => ∃ l, d = .fd true l ∧ Q (.lst (l.map (·.2))) s1) X := by
  unfold eLstV
  rw [wp_bind]
  congr 1
  funext d s1
  refine propext ⟨fun q => ?_, ?_⟩
  · split at q
    · rename_i l
      rw [wp_ok] at q
      exact ⟨l, rfl, q⟩
    · unfold wp at q; exact q.elim
  · rintro ⟨l, rfl, q⟩
    simp only []
    rw [wp_ok]
    exact q
end
end DL
namespace DL
open PySem PySem.Spec PyProof.Rows L2
section
variable {ρ : List Sl} {s : S} {N B C : List Sl → S → Prop} {R : D → S → Prop} {X : Str → S → Prop}
theorem q_cpyO {i k : Nat} : wps (sCpyO i k ρ s) N B C R X = wpd k ρ fun t l => t = true ∧ apartB l = true ∧ wpn ρ [(i, .ownD true l)] fun ρ1 => N ρ1 s := by
  unfold sCpyO wpd
  cases ρ[k]? with
  | none => simp [wps]
  | some y =>
    cases y with
    | ownD t l =>
      cases t with
      | false => simp [wps]
      | true =>
        simp only
        by_cases h : apartB l = true
        · rw [if_pos h, wz_next, set_at]
          simp [h]
          rfl
        · rw [if_neg h]
          simp [wps, h]
    | _ => simp [wps]
end
end DL
namespace DL
open PySem PySem.Spec PyProof.Rows L2
section
variable {ρ : List Sl} {s : S} {X : Str → S → Prop}
theorem wp_repT {L : Nat} {fs : DA} {Q : D → S → Prop} : wp (eRepT L fs ρ s) Q X = wp (fs ρ s) (fun ds s1 => ∃ z, dRepT L s1 ds = some z ∧ Q z s1) X := by
  unfold eRepT
  rw [wp_bind]
  simp only [wp_ofO]
end
end DL
noncomputable section
namespace DL
open PySem PySem.Spec PyProof.Rows L2
/-! ### the text of the law -/
def topS (i : Nat) : Stmt := PySem.Challenge.pw_nopassing_k15_streets.main.body.getD i (.Pass ⟨0, 0, 0, 0⟩)
def xtb : XTb := [("NoBack", "NoBack", true), ("NoBack", "NoDice", false), ("NoBack", "NoRatio", false), ("NoBack", "NoRow", false), ("NoBack", "NoText", false), ("NoBack", "NoWalk", false), ("NoBack", "StepsBack", false), ("NoBack", "TooMany", false), ("NoBack", "ValueError", true), ("NoBack", "WalkError", true), ("NoDice", "NoBack", false), ("NoDice", "NoDice", true), ("NoDice", "NoRatio", false), ("NoDice", "NoRow", false), ("NoDice", "NoText", false), ("NoDice", "NoWalk", false), ("NoDice", "StepsBack", false), ("NoDice", "TooMany", false), ("NoDice", "ValueError", true), ("NoDice", "WalkError", true)]
structure Facts0 (K : PySem.W.Frag) (mg : Str → Option Value) : Prop where
  f_is_whole : FnAt K mg "is_whole" (topS 11)
  f_common_divisor : FnAt K mg "common_divisor" (topS 12)
  f_is_ratio : FnAt K mg "is_ratio" (topS 13)
  f_is_less : FnAt K mg "is_less" (topS 14)
  f_is_border : FnAt K mg "is_border" (topS 16)
  f_is_die : FnAt K mg "is_die" (topS 17)
  f_deed_at : FnAt K mg "deed_at" (topS 18)
  f_happens : FnAt K mg "happens" (topS 19)
  f_changed : FnAt K mg "changed" (topS 20)
  f_numbered : FnAt K mg "numbered" (topS 22)
  f_who_does : FnAt K mg "who_does" (topS 23)
  i_Street : MakAt K mg "Street" "Street.__init__" (inClass (topS 24) 0)
  m_Street_turn : MetAt K mg "Street" "turn" "Street.turn" (inClass (topS 24) 1)
  m_Street_row : MetAt K mg "Street" "row" "Street.row" (inClass (topS 24) 2)
  m_Street_gone : MetAt K mg "Street" "gone" "Street.gone" (inClass (topS 24) 3)
  m_Street_back : MetAt K mg "Street" "back" "Street.back" (inClass (topS 24) 4)
  f__law_pen : FnAt K mg "_law_pen" (topS 26)
  f__law_draw : FnAt K mg "_law_draw" (topS 27)
  f__law_lowest : FnAt K mg "_law_lowest" (topS 28)
  f__law_chance : FnAt K mg "_law_chance" (topS 29)
  f__law_walk : FnAt K mg "_law_walk" (topS 30)
  f__law_stand : FnAt K mg "_law_stand" (topS 31)
  f__law_next : FnAt K mg "_law_next" (topS 32)
  f__law_great : FnAt K mg "_law_great" (topS 33)
  f__law_share : FnAt K mg "_law_share" (topS 34)
  f__law_word : FnAt K mg "_law_word" (topS 35)
  f__law_begun : FnAt K mg "_law_begun" (topS 36)
  f__law_done : FnAt K mg "_law_done" (topS 37)
  f__law_stands : FnAt K mg "_law_stands" (topS 38)
  a_Street_now : FldAt K mg "Street" "now"
  a_Street_own_walk : FldAt K mg "Street" "own_walk"
  a_Street_past : FldAt K mg "Street" "past"
  b_ValueError : mg "ValueError" = none
  b_abs : mg "abs" = none
  b_all : mg "all" = none
  b_bool : mg "bool" = none
  b_int : mg "int" = none
  b_isinstance : mg "isinstance" = none
  b_len : mg "len" = none
  b_list : mg "list" = none
  b_max : mg "max" = none
  b_min : mg "min" = none
  b_range : mg "range" = none
  b_repr : mg "repr" = none
  b_reversed : mg "reversed" = none
  b_sum : mg "sum" = none
  b_tuple : mg "tuple" = none
  k_NoBack : KVal K mg "NoBack" (.glb "NoBack")
  k_NoDice : KVal K mg "NoDice" (.glb "NoDice")
  k_NoRatio : KVal K mg "NoRatio" (.glb "NoRatio")
  k_NoRow : KVal K mg "NoRow" (.glb "NoRow")
  k_NoText : KVal K mg "NoText" (.glb "NoText")
  k_NoWalk : KVal K mg "NoWalk" (.glb "NoWalk")
  k_StepsBack : KVal K mg "StepsBack" (.glb "StepsBack")
  k_TooMany : KVal K mg "TooMany" (.glb "TooMany")
  k_WalkError : KVal K mg "WalkError" (.glb "WalkError")
  x_NoBack : XCls K mg "NoBack"
  x_NoDice : XCls K mg "NoDice"
  dg : PySem.W.nsIn K cStatics "sys.int_max_str_digits" = some none
  xt : XTab K mg xtb
section LTS
variable [LT : LawT]
structure Facts (K : PySem.W.Frag) (mg : Str → Option Value) (base : Heap) : Prop extends Facts0 K mg where
  f__law_taken_back : LamOf K mg base "_law_taken_back" (topS 39)
  f__law_deed : LamOf K mg base "_law_deed" (topS 40)
section
variable {P : Program} {w : World} {K : PySem.W.Frag} {mg : Str → Option Value} {base : Heap}
abbrev s_is_whole : Stmt := topS 11
theorem sc_is_whole : FnScope ["thing"] ["thing"] (defScope s_is_whole) := ⟨rfl, rfl, rfl, by decide +kernel, rfl, by decide +kernel, by decide +kernel⟩
def D_is_whole : DFun := defD 1 1 (sRet (eAnd (eB dIsi (aCons (eV 0) (aCons (eC (.ty "int")) (aNil)))) (eNot (eB dIsi (aCons (eV 0) (aCons (eC (.ty "bool")) (aNil)))))))
theorem ok_is_whole (Z : Facts K mg base) : DFn P w K mg base 1 "is_whole" 1 D_is_whole false := by
  obtain ⟨f, fd, F, gx⟩ := Z.f_is_whole
  refine DFn.mk' F sc_is_whole gx (F.binds (ps := ["thing"]) fun _ _ _ _ _ _ us hl => match us, hl with | [_], _ => rfl) rfl (fun X E hK hM hX hr hg => ?_) (fun z => Bool.noConfusion z)
  obtain ⟨cdv, A, outer, s, H, rfl⟩ := hX
  exact s_one (s_ret (e_and (e_callB call_isi v_isi Z.b_isinstance (a_cons (e_var 0) (a_cons (e_ty Z.b_int) (a_nil)))) (e_one (e_not (e_callB call_isi v_isi Z.b_isinstance (a_cons (e_var 0) (a_cons (e_ty Z.b_bool) (a_nil))))))))
abbrev s_common_divisor : Stmt := topS 12
theorem sc_common_divisor : FnScope ["one", "other"] ["one", "other"] (defScope s_common_divisor) := ⟨rfl, rfl, rfl, by decide +kernel, rfl, by decide +kernel, by decide +kernel⟩
def D_common_divisor : DFun := defD 2 2 (sSeq (sSet 0 (eB dAbs (aCons (eV 0) (aNil))))
    (sSeq (sSet 1 (eB dAbs (aCons (eV 1) (aNil))))
    (sSeq (sWhile [] (tBl (eOp2 dGt (eV 1) (eC (.int 0))))
    (sPar 0 1 (aCons (eV 1) (aCons (eOp2 dMod (eV 0) (eV 1)) (aNil)))))
    (sRet (eV 0)))))
theorem ok_common_divisor (Z : Facts K mg base) : DFn P w K mg base 1 "common_divisor" 2 D_common_divisor false := by
  obtain ⟨f, fd, F, gx⟩ := Z.f_common_divisor
  refine DFn.mk' F sc_common_divisor gx (F.binds (ps := ["one", "other"]) fun _ _ _ _ _ _ us hl => match us, hl with | [_, _], _ => rfl) rfl (fun X E hK hM hX hr hg => ?_) (fun z => Bool.noConfusion z)
  obtain ⟨cdv, A, outer, s, H, rfl⟩ := hX
  exact s_cons (s_set (i := 0) (e_callB c_abs v_abs Z.b_abs (a_cons (e_var 0) (a_nil))) sc_common_divisor.nd)
    (s_cons (s_set (i := 1) (e_callB c_abs v_abs Z.b_abs (a_cons (e_var 1) (a_nil))) sc_common_divisor.nd)
    (s_cons (s_while [] (passes_of rfl) (t_cmp op_gt v_gt (e_var 1) (e_int) rfl)
    (s_one (s_par (i := 0) (j := 1) rfl sc_common_divisor.nd (a_cons (e_var 1) (a_cons (e_op2 op_modN v_mod (e_var 0) (e_var 1)) (a_nil))))))
    (s_one (s_ret (e_var 0)))))
abbrev s_is_ratio : Stmt := topS 13
theorem sc_is_ratio : FnScope ["thing"] ["thing"] (defScope s_is_ratio) := ⟨rfl, rfl, rfl, by decide +kernel, rfl, by decide +kernel, by decide +kernel⟩
def D_is_ratio : DFun := defD 1 1 (sSeq (sIf (tOrD (tNotD (tTru (eB dIsi (aCons (eV 0) (aCons (eC (.ty "tuple")) (aNil)))))) (tOrD (tBl (eOp2 dNe (eLenT (aCons (eV 0) (aNil))) (eC (.int 2)))) (tOrD (tNotD (tTru (eCall D_is_whole (aCons (eOp2S dIxT (eV 0) (eC (.int 0))) (aNil))))) (tNotD (tTru (eCall D_is_whole (aCons (eOp2S dIxT (eV 0) (eC (.int 1))) (aNil))))))))
    (sRet (eC (.bl false)))
    (sSkip))
    (sRet (eAnd (eOp2 dGt (eOp2S dIxT (eV 0) (eC (.int 1))) (eC (.int 0))) (eOp2 dEq (eCall D_common_divisor (aCons (eOp2S dIxT (eV 0) (eC (.int 0))) (aCons (eOp2S dIxT (eV 0) (eC (.int 1))) (aNil)))) (eC (.int 1))))))
theorem ok_is_ratio (Z : Facts K mg base) : DFn P w K mg base 2 "is_ratio" 1 D_is_ratio false := by
  obtain ⟨f, fd, F, gx⟩ := Z.f_is_ratio
  refine DFn.mk' F sc_is_ratio gx (F.binds (ps := ["thing"]) fun _ _ _ _ _ _ us hl => match us, hl with | [_], _ => rfl) rfl (fun X E hK hM hX hr hg => ?_) (fun z => Bool.noConfusion z)
  obtain ⟨cdv, A, outer, s, H, rfl⟩ := hX
  exact s_cons (s_if (PW.pt (w_or (t_not (t_truth (e_callB call_isi v_isi Z.b_isinstance (a_cons (e_var 0) (a_cons (e_ty Z.b_tuple) (a_nil)))))) (w_or (t_cmp (op_neA (hu64 hr)) v_ne (e_lenT Z.b_len (a_cons (e_var 0) (a_nil))) (e_int) rfl) (w_or (t_not (t_truth (e_call (ok_is_whole Z) (hr.mono (by decide)) hg (takes_of rfl rfl rfl rfl) (a_cons (e_ixT (e_var 0) (e_int)) (a_nil))))) (w_or1 (t_not (t_truth (e_call (ok_is_whole Z) (hr.mono (by decide)) hg (takes_of rfl rfl rfl rfl) (a_cons (e_ixT (e_var 0) (e_int)) (a_nil))))))))))
    (s_one (s_ret (e_bl)))
    (s_nil))
    (s_one (s_ret (e_and (e_cmp op_gt v_gt (e_ixT (e_var 0) (e_int)) (e_int) rfl) (e_one (e_cmp (op_eqA (hu64 hr)) v_eq (e_call (ok_common_divisor Z) (hr.mono (by decide)) hg (takes_of rfl rfl rfl rfl) (a_cons (e_ixT (e_var 0) (e_int)) (a_cons (e_ixT (e_var 0) (e_int)) (a_nil)))) (e_int) rfl)))))
abbrev s_is_less : Stmt := topS 14
theorem sc_is_less : FnScope ["one", "other"] ["one", "other"] (defScope s_is_less) := ⟨rfl, rfl, rfl, by decide +kernel, rfl, by decide +kernel, by decide +kernel⟩
def D_is_less : DFun := defD 2 2 (sRet (eOp2 dLt (eOp2 dMul (eOp2S dIxT (eV 0) (eC (.int 0))) (eOp2S dIxT (eV 1) (eC (.int 1)))) (eOp2 dMul (eOp2S dIxT (eV 1) (eC (.int 0))) (eOp2S dIxT (eV 0) (eC (.int 1))))))
theorem ok_is_less (Z : Facts K mg base) : DFn P w K mg base 1 "is_less" 2 D_is_less false := by
  obtain ⟨f, fd, F, gx⟩ := Z.f_is_less
  refine DFn.mk' F sc_is_less gx (F.binds (ps := ["one", "other"]) fun _ _ _ _ _ _ us hl => match us, hl with | [_, _], _ => rfl) rfl (fun X E hK hM hX hr hg => ?_) (fun z => Bool.noConfusion z)
  obtain ⟨cdv, A, outer, s, H, rfl⟩ := hX
  exact s_one (s_ret (e_cmp op_lt v_lt (e_op2 op_mulA v_mul (e_ixT (e_var 0) (e_int)) (e_ixT (e_var 1) (e_int))) (e_op2 op_mulA v_mul (e_ixT (e_var 1) (e_int)) (e_ixT (e_var 0) (e_int))) rfl))
abbrev s_is_border : Stmt := topS 16
theorem sc_is_border : FnScope ["walk", "thing"] ["walk", "thing"] (defScope s_is_border) := ⟨rfl, rfl, rfl, by decide +kernel, rfl, by decide +kernel, by decide +kernel⟩
def D_is_border : DFun := defD 2 2 (sRet (eAnd (eB dIsi (aCons (eV 1) (aCons (eC (.ty "int")) (aNil)))) (eAnd (eNot (eB dIsi (aCons (eV 1) (aCons (eC (.ty "bool")) (aNil))))) (eChain dLe dLe (eC (.int 0)) (eV 1) (eOp2S dIxT (eV 0) (eC (.int 0)))))))
theorem ok_is_border (Z : Facts K mg base) : DFn P w K mg base 1 "is_border" 2 D_is_border false := by
  obtain ⟨f, fd, F, gx⟩ := Z.f_is_border
  refine DFn.mk' F sc_is_border gx (F.binds (ps := ["walk", "thing"]) fun _ _ _ _ _ _ us hl => match us, hl with | [_, _], _ => rfl) rfl (fun X E hK hM hX hr hg => ?_) (fun z => Bool.noConfusion z)
  obtain ⟨cdv, A, outer, s, H, rfl⟩ := hX
  exact s_one (s_ret (e_and (e_callB call_isi v_isi Z.b_isinstance (a_cons (e_var 1) (a_cons (e_ty Z.b_int) (a_nil)))) (e_and (e_not (e_callB call_isi v_isi Z.b_isinstance (a_cons (e_var 1) (a_cons (e_ty Z.b_bool) (a_nil))))) (e_one (e_chain op_le v_le op_le v_le (e_int) (e_var 1) (e_ixT (e_var 0) (e_int)))))))
abbrev s_is_die : Stmt := topS 17
theorem sc_is_die : FnScope ["walk", "thing", "border", "share"] ["walk", "thing"] (defScope s_is_die) := ⟨rfl, rfl, rfl, by decide +kernel, rfl, by decide +kernel, by decide +kernel⟩
def D_is_die : DFun := defD 4 2 (sSeq (sIf (tOrD (tNotD (tTru (eB dIsi (aCons (eV 1) (aCons (eC (.ty "tuple")) (aNil)))))) (tBl (eOp2 dNe (eLenT (aCons (eV 1) (aNil))) (eC (.int 2)))))
    (sRet (eC (.bl false)))
    (sSkip))
    (sSeq (sUnp (gT 2 (gsCons (gN 2) (gsCons (gN 3) (gsNil)))) (eV 1))
    (sSeq (sIf (tOrD (tNotD (tTru (eCall D_is_border (aCons (eV 0) (aCons (eV 2) (aNil)))))) (tNotD (tTru (eCall D_is_ratio (aCons (eV 3) (aNil))))))
    (sRet (eC (.bl false)))
    (sSkip))
    (sRet (eChain dLe dLt (eC (.int 0)) (eOp2S dIxT (eV 3) (eC (.int 0))) (eOp2S dIxT (eV 3) (eC (.int 1))))))))
theorem ok_is_die (Z : Facts K mg base) : DFn P w K mg base 3 "is_die" 2 D_is_die false := by
  obtain ⟨f, fd, F, gx⟩ := Z.f_is_die
  refine DFn.mk' F sc_is_die gx (F.binds (ps := ["walk", "thing"]) fun _ _ _ _ _ _ us hl => match us, hl with | [_, _], _ => rfl) rfl (fun X E hK hM hX hr hg => ?_) (fun z => Bool.noConfusion z)
  obtain ⟨cdv, A, outer, s, H, rfl⟩ := hX
  exact s_cons (s_if (PW.pt (w_or (t_not (t_truth (e_callB call_isi v_isi Z.b_isinstance (a_cons (e_var 1) (a_cons (e_ty Z.b_tuple) (a_nil)))))) (w_or1 (t_cmp (op_neA (hu64 hr)) v_ne (e_lenT Z.b_len (a_cons (e_var 1) (a_nil))) (e_int) rfl))))
    (s_one (s_ret (e_bl)))
    (s_nil))
    (s_cons (s_unp [2, 3] (e_var 1) (g_tup (n := 2) rfl (gs_cons (g_name 2 sc_is_die.nd) (gs_cons (g_name 3 sc_is_die.nd) (gs_nil)))))
    (s_cons (s_if (PW.pt (w_or (t_not (t_truth (e_call (ok_is_border Z) (hr.mono (by decide)) hg (takes_of rfl rfl rfl rfl) (a_cons (e_var 0) (a_cons (e_var 2) (a_nil)))))) (w_or1 (t_not (t_truth (e_call (ok_is_ratio Z) (hr.mono (by decide)) hg (takes_of rfl rfl rfl rfl) (a_cons (e_var 3) (a_nil))))))))
    (s_one (s_ret (e_bl)))
    (s_nil))
    (s_one (s_ret (e_chain op_le v_le op_lt v_lt (e_int) (e_ixT (e_var 3) (e_int)) (e_ixT (e_var 3) (e_int)))))))
abbrev s_deed_at : Stmt := topS 18
theorem sc_deed_at : FnScope ["walk", "stand", "border", "cells", "on", "back", "come", "go"] ["walk", "stand", "border"] (defScope s_deed_at) := ⟨rfl, rfl, rfl, by decide +kernel, rfl, by decide +kernel, by decide +kernel⟩
def D_deed_at : DFun := defD 8 3 (sSeq (sUnp (gT 5 (gsCons (gN 3) (gsCons (gN 4) (gsCons (gN 5) (gsCons (gN 6) (gsCons (gN 7) (gsNil))))))) (eV 0))
    (sSeq (sIf (tAndD (tBl (eOp2 dEq (eV 2) (eC (.int 0)))) (tBl (eOp2 dEq (eOp2S dIxT (eV 1) (eC (.int 0))) (eC (.int 0)))))
    (sRet (eTup (aCons (eC (.str "come")) (aCons (eV 6) (aNil)))))
    (sSkip))
    (sSeq (sIf (tAndD (tBl (eOp2 dEq (eV 2) (eV 3))) (tBl (eOp2 dEq (eOp2S dIxT (eV 1) (eOp1 dNeg (eC (.int 1)))) (eC (.int 1)))))
    (sRet (eTup (aCons (eC (.str "go")) (aCons (eV 7) (aNil)))))
    (sSkip))
    (sSeq (sIf (tAndD (tBl (eChain dLt dLt (eC (.int 0)) (eV 2) (eV 3))) (tBl (eOp2 dGt (eOp2S dIxT (eV 1) (eOp2 dSub (eV 2) (eC (.int 1)))) (eOp2S dIxT (eV 1) (eV 2)))))
    (sRet (eTup (aCons (eC (.str "on")) (aCons (eV 4) (aNil)))))
    (sSkip))
    (sSeq (sIf (tAndD (tBl (eChain dLt dLt (eC (.int 0)) (eV 2) (eV 3))) (tBl (eOp2 dLt (eOp2S dIxT (eV 1) (eOp2 dSub (eV 2) (eC (.int 1)))) (eOp2S dIxT (eV 1) (eV 2)))))
    (sRet (eTup (aCons (eC (.str "back")) (aCons (eV 5) (aNil)))))
    (sSkip))
    (sRet (eTup (aCons (eC (.str "stay")) (aCons (eTup (aCons (eC (.int 0)) (aCons (eC (.int 1)) (aNil)))) (aNil))))))))))
theorem ok_deed_at (Z : Facts K mg base) : DFn P w K mg base 1 "deed_at" 3 D_deed_at false := by
  obtain ⟨f, fd, F, gx⟩ := Z.f_deed_at
  refine DFn.mk' F sc_deed_at gx (F.binds (ps := ["walk", "stand", "border"]) fun _ _ _ _ _ _ us hl => match us, hl with | [_, _, _], _ => rfl) rfl (fun X E hK hM hX hr hg => ?_) (fun z => Bool.noConfusion z)
  obtain ⟨cdv, A, outer, s, H, rfl⟩ := hX
  exact s_cons (s_unp [3, 4, 5, 6, 7] (e_var 0) (g_tup (n := 5) rfl (gs_cons (g_name 3 sc_deed_at.nd) (gs_cons (g_name 4 sc_deed_at.nd) (gs_cons (g_name 5 sc_deed_at.nd) (gs_cons (g_name 6 sc_deed_at.nd) (gs_cons (g_name 7 sc_deed_at.nd) (gs_nil))))))))
    (s_cons (s_if (PW.pt (w_and (t_cmp (op_eqA (hu64 hr)) v_eq (e_var 2) (e_int) rfl) (w_and1 (t_cmp (op_eqA (hu64 hr)) v_eq (e_ixT (e_var 1) (e_int)) (e_int) rfl))))
    (s_one (s_ret (e_tup (a_cons (e_str) (a_cons (e_var 6) (a_nil))))))
    (s_nil))
    (s_cons (s_if (PW.pt (w_and (t_cmp (op_eqA (hu64 hr)) v_eq (e_var 2) (e_var 3) rfl) (w_and1 (t_cmp (op_eqA (hu64 hr)) v_eq (e_ixT (e_var 1) (e_neg (e_int))) (e_int) rfl))))
    (s_one (s_ret (e_tup (a_cons (e_str) (a_cons (e_var 7) (a_nil))))))
    (s_nil))
    (s_cons (s_if (PW.pt (w_and (t_chain op_lt v_lt op_lt v_lt (e_int) (e_var 2) (e_var 3)) (w_and1 (t_cmp op_gt v_gt (e_ixT (e_var 1) (e_op2 op_sub v_sub (e_var 2) (e_int))) (e_ixT (e_var 1) (e_var 2)) rfl))))
    (s_one (s_ret (e_tup (a_cons (e_str) (a_cons (e_var 4) (a_nil))))))
    (s_nil))
    (s_cons (s_if (PW.pt (w_and (t_chain op_lt v_lt op_lt v_lt (e_int) (e_var 2) (e_var 3)) (w_and1 (t_cmp op_lt v_lt (e_ixT (e_var 1) (e_op2 op_sub v_sub (e_var 2) (e_int))) (e_ixT (e_var 1) (e_var 2)) rfl))))
    (s_one (s_ret (e_tup (a_cons (e_str) (a_cons (e_var 5) (a_nil))))))
    (s_nil))
    (s_one (s_ret (e_tup (a_cons (e_str) (a_cons (e_tup (a_cons (e_int) (a_cons (e_int) (a_nil)))) (a_nil))))))))))
abbrev s_happens : Stmt := topS 19
theorem sc_happens : FnScope ["walk", "stand", "die", "word", "chance"] ["walk", "stand", "die"] (defScope s_happens) := ⟨rfl, rfl, rfl, by decide +kernel, rfl, by decide +kernel, by decide +kernel⟩
def D_happens : DFun := defD 5 3 (sSeq (sUnp (gT 2 (gsCons (gN 3) (gsCons (gN 4) (gsNil)))) (eCall D_deed_at (aCons (eV 0) (aCons (eV 1) (aCons (eOp2S dIxT (eV 2) (eC (.int 0))) (aNil))))))
    (sSeq (sIf (tTru (eCall D_is_less (aCons (eOp2S dIxT (eV 2) (eC (.int 1))) (aCons (eV 4) (aNil)))))
    (sRet (eV 3))
    (sSkip))
    (sRet (eC (.str "stay")))))
theorem ok_happens (Z : Facts K mg base) : DFn P w K mg base 2 "happens" 3 D_happens false := by
  obtain ⟨f, fd, F, gx⟩ := Z.f_happens
  refine DFn.mk' F sc_happens gx (F.binds (ps := ["walk", "stand", "die"]) fun _ _ _ _ _ _ us hl => match us, hl with | [_, _, _], _ => rfl) rfl (fun X E hK hM hX hr hg => ?_) (fun z => Bool.noConfusion z)
  obtain ⟨cdv, A, outer, s, H, rfl⟩ := hX
  exact s_cons (s_unp [3, 4] (e_call (ok_deed_at Z) (hr.mono (by decide)) hg (takes_of rfl rfl rfl rfl) (a_cons (e_var 0) (a_cons (e_var 1) (a_cons (e_ixT (e_var 2) (e_int)) (a_nil))))) (g_tup (n := 2) rfl (gs_cons (g_name 3 sc_happens.nd) (gs_cons (g_name 4 sc_happens.nd) (gs_nil)))))
    (s_cons (s_if (t_truth (e_call (ok_is_less Z) (hr.mono (by decide)) hg (takes_of rfl rfl rfl rfl) (a_cons (e_ixT (e_var 2) (e_int)) (a_cons (e_var 4) (a_nil)))))
    (s_one (s_ret (e_var 3)))
    (s_nil))
    (s_one (s_ret (e_str))))
abbrev s_changed : Stmt := topS 20
theorem sc_changed : FnScope ["stand", "border", "word", "found"] ["stand", "border", "word"] (defScope s_changed) := ⟨rfl, rfl, rfl, by decide +kernel, rfl, by decide +kernel, by decide +kernel⟩
def D_changed : DFun := defD 4 3 (sSeq (sOwn 3 (eB dLstOf (aCons (eV 0) (aNil))))
    (sSeq (sIf (tBl (eOp2 dEq (eV 2) (eC (.str "come"))))
    (sPut 3 (eC (.int 0)) (eC (.int 1)))
    (sSkip))
    (sSeq (sIf (tBl (eOp2 dEq (eV 2) (eC (.str "go"))))
    (sPut 3 (eOp1 dNeg (eC (.int 1))) (eC (.int 0)))
    (sSkip))
    (sSeq (sIf (tBl (eOp2 dIn (eV 2) (eTup (aCons (eC (.str "on")) (aCons (eC (.str "back")) (aNil))))))
    (sSeq (sPut 3 (eOp2 dSub (eV 1) (eC (.int 1))) (eOp2S dIxT (eV 0) (eV 1)))
    (sPut 3 (eV 1) (eOp2S dIxT (eV 0) (eOp2 dSub (eV 1) (eC (.int 1))))))
    (sSkip))
    (sFrz 3 (sRet (eB dTupOf (aCons (eV 3) (aNil)))))))))
theorem ok_changed (Z : Facts K mg base) : DFn P w K mg base 1 "changed" 3 D_changed false := by
  obtain ⟨f, fd, F, gx⟩ := Z.f_changed
  refine DFn.mk' F sc_changed gx (F.binds (ps := ["stand", "border", "word"]) fun _ _ _ _ _ _ us hl => match us, hl with | [_, _, _], _ => rfl) rfl (fun X E hK hM hX hr hg => ?_) (fun z => Bool.noConfusion z)
  obtain ⟨cdv, A, outer, s, H, rfl⟩ := hX
  exact s_cons (s_own (i := 3) (f_callTy c_lst vF_lst Z.b_list (a_cons (e_var 0) (a_nil))) sc_changed.nd)
    (s_cons (s_if (t_cmp (op_eqA (hu64 hr)) v_eq (e_var 2) (e_str) rfl)
    (s_one (s_put 3 (e_int) (e_int)))
    (s_nil))
    (s_cons (s_if (t_cmp (op_eqA (hu64 hr)) v_eq (e_var 2) (e_str) rfl)
    (s_one (s_put 3 (e_int) (e_neg (e_int))))
    (s_nil))
    (s_cons (s_if (t_cmp (op_inA (hu65 hr)) v_in (e_var 2) (e_tup (a_cons (e_str) (a_cons (e_str) (a_nil)))) rfl)
    (s_cons (s_put 3 (e_ixT (e_var 0) (e_var 1)) (e_op2 op_sub v_sub (e_var 1) (e_int)))
    (s_one (s_put 3 (e_ixT (e_var 0) (e_op2 op_sub v_sub (e_var 1) (e_int))) (e_var 1))))
    (s_nil))
    (s_one (s_frz 3 (s_ret (e_callTy c_tup v_tup Z.b_tuple (a_cons (e_var 3) (a_nil)))))))))
abbrev s_numbered : Stmt := topS 22
theorem sc_numbered : FnScope ["stand", "found", "number", "one"] ["stand"] (defScope s_numbered) := ⟨rfl, rfl, rfl, by decide +kernel, rfl, by decide +kernel, by decide +kernel⟩
def D_numbered : DFun := defD 4 1 (sSeq (sOwn 1 (eLst (aNil)))
    (sSeq (sSet 2 (eC (.int 0)))
    (sSeq (sFor [3] (iRev (eV 0)) (gN 3)
    (sSeq (sSet 2 (eOp2 dAdd (eV 2) (eV 3)))
    (sApp 1 (eOp2 dMul (eV 2) (eV 3)))))
    (sFrz 1 (sRet (eB dTupOf (aCons (eRevS (eV 1)) (aNil))))))))
theorem ok_numbered (Z : Facts K mg base) : DFn P w K mg base 1 "numbered" 1 D_numbered false := by
  obtain ⟨f, fd, F, gx⟩ := Z.f_numbered
  refine DFn.mk' F sc_numbered gx (F.binds (ps := ["stand"]) fun _ _ _ _ _ _ us hl => match us, hl with | [_], _ => rfl) rfl (fun X E hK hM hX hr hg => ?_) (fun z => Bool.noConfusion z)
  obtain ⟨cdv, A, outer, s, H, rfl⟩ := hX
  exact s_cons (s_own (i := 1) (f_lst (a_nil)) sc_numbered.nd)
    (s_cons (s_set (i := 2) (e_int) sc_numbered.nd)
    (s_cons (s_for (vs := [3]) [3] (passes_of rfl) rfl (i_reversed Z.b_reversed (e_var 0)) (g_name 3 sc_numbered.nd)
    (s_cons (s_set (i := 2) (e_op2 op_addA v_add (e_var 2) (e_var 3)) sc_numbered.nd)
    (s_one (s_app 1 (e_op2 op_mulA v_mul (e_var 2) (e_var 3))))))
    (s_one (s_frz 1 (s_ret (e_callTy c_tup v_tup Z.b_tuple (a_cons (e_revS (e_var 1)) (a_nil))))))))
abbrev s_who_does : Stmt := topS 23
theorem sc_who_does : FnScope ["row", "border", "word", "coming"] ["row", "border", "word", "coming"] (defScope s_who_does) := ⟨rfl, rfl, rfl, by decide +kernel, rfl, by decide +kernel, by decide +kernel⟩
def D_who_does : DFun := defD 4 4 (sSeq (sIf (tBl (eOp2 dEq (eV 2) (eC (.str "come"))))
    (sRet (eV 3))
    (sSkip))
    (sSeq (sIf (tBl (eOp2 dIn (eV 2) (eTup (aCons (eC (.str "on")) (aCons (eC (.str "go")) (aNil))))))
    (sRet (eOp2S dIxT (eV 0) (eOp2 dSub (eV 1) (eC (.int 1)))))
    (sSkip))
    (sSeq (sIf (tBl (eOp2 dEq (eV 2) (eC (.str "back"))))
    (sRet (eOp2S dIxT (eV 0) (eV 1)))
    (sSkip))
    (sRet (eC (.int 0))))))
theorem ok_who_does (Z : Facts K mg base) : DFn P w K mg base 1 "who_does" 4 D_who_does false := by
  obtain ⟨f, fd, F, gx⟩ := Z.f_who_does
  refine DFn.mk' F sc_who_does gx (F.binds (ps := ["row", "border", "word", "coming"]) fun _ _ _ _ _ _ us hl => match us, hl with | [_, _, _, _], _ => rfl) rfl (fun X E hK hM hX hr hg => ?_) (fun z => Bool.noConfusion z)
  obtain ⟨cdv, A, outer, s, H, rfl⟩ := hX
  exact s_cons (s_if (t_cmp (op_eqA (hu64 hr)) v_eq (e_var 2) (e_str) rfl)
    (s_one (s_ret (e_var 3)))
    (s_nil))
    (s_cons (s_if (t_cmp (op_inA (hu65 hr)) v_in (e_var 2) (e_tup (a_cons (e_str) (a_cons (e_str) (a_nil)))) rfl)
    (s_one (s_ret (e_ixT (e_var 0) (e_op2 op_sub v_sub (e_var 1) (e_int)))))
    (s_nil))
    (s_cons (s_if (t_cmp (op_eqA (hu64 hr)) v_eq (e_var 2) (e_str) rfl)
    (s_one (s_ret (e_ixT (e_var 0) (e_var 1))))
    (s_nil))
    (s_one (s_ret (e_int)))))
abbrev s_Street___init__ : Stmt := inClass (topS 24) 0
theorem sc_Street___init__ : FnScope ["self", "walk", "stand"] ["self", "walk", "stand"] (defScope s_Street___init__) := ⟨rfl, rfl, rfl, by decide +kernel, rfl, by decide +kernel, by decide +kernel⟩
def D_Street___init__ : DFun := defD 3 3 (sSeq (sFld "Street" "own_walk" (eV 0) (eV 1))
    (sSeq (sFld "Street" "now" (eV 0) (eTup (aCons (eCall D_numbered (aCons (eV 2) (aNil))) (aCons (eTup (aNil)) (aCons (eOp2 dAdd (eB dSumT (aCons (eV 2) (aNil))) (eC (.int 1))) (aNil))))))
    (sFld "Street" "past" (eV 0) (ePub (eLst (aNil))))))
theorem ok_Street___init__ (Z : Facts K mg base) : KFn P w K mg base 2 "Street" 3 D_Street___init__ := by
  obtain ⟨C, f, fd, hC, mk, F⟩ := Z.i_Street
  refine KFn.mk' F sc_Street___init__ hC mk (F.binds (ps := ["self", "walk", "stand"]) fun _ _ _ _ _ _ us hl => match us, hl with | [_, _, _], _ => rfl) rfl (fun X E hK hM hX hr hg => ?_)
  obtain ⟨cdv, A, outer, s, H, rfl⟩ := hX
  exact s_cons (s_fld Z.a_Street_own_walk (e_var 0) (e_var 1))
    (s_cons (s_fld Z.a_Street_now (e_var 0) (e_tup (a_cons (e_call (ok_numbered Z) (hr.mono (by decide)) hg (takes_of rfl rfl rfl rfl) (a_cons (e_var 2) (a_nil))) (a_cons (e_tup (a_nil)) (a_cons (e_op2 op_addA v_add (e_callB (cr_sumTp rfl) v_sumTp Z.b_sum (a_cons (e_var 2) (a_nil))) (e_int)) (a_nil))))))
    (s_one (s_fld Z.a_Street_past (e_var 0) (e_pub (f_lst (a_nil))))))
abbrev s_Street_turn : Stmt := inClass (topS 24) 1
theorem sc_Street_turn : FnScope ["self", "die", "row", "gone_ones", "coming", "word", "number", "later", "one"] ["self", "die"] (defScope s_Street_turn) := ⟨rfl, rfl, rfl, by decide +kernel, rfl, by decide +kernel, by decide +kernel⟩
def D_Street_turn : DFun := defD 9 2 (sSeq (sIf (tNotD (tTru (eCall D_is_die (aCons (eFld "Street" "own_walk" (eV 0)) (aCons (eV 1) (aNil))))))
    (sRaise "NoDice")
    (sSkip))
    (sSeq (sUnp (gT 3 (gsCons (gN 2) (gsCons (gN 3) (gsCons (gN 4) (gsNil))))) (eFld "Street" "now" (eV 0)))
    (sSeq (sSet 5 (eCall D_happens (aCons (eFld "Street" "own_walk" (eV 0)) (aCons (eB dTupOf (aCons (eComp [8] (iVal (eV 2)) (gN 8) (tAll) (eB dMin (aCons (eV 8) (aCons (eC (.int 1)) (aNil))))) (aNil))) (aCons (eV 1) (aNil))))))
    (sSeq (sSet 6 (eCall D_who_does (aCons (eV 2) (aCons (eOp2S dIxT (eV 1) (eC (.int 0))) (aCons (eV 5) (aCons (eV 4) (aNil)))))))
    (sSeq (sAppT (eFld "Street" "past" (eV 0)) (eFld "Street" "now" (eV 0)))
    (sSeq (sSet 7 (eCall D_changed (aCons (eV 2) (aCons (eOp2S dIxT (eV 1) (eC (.int 0))) (aCons (eV 5) (aNil))))))
    (sSeq (sIf (tBl (eOp2 dEq (eV 5) (eC (.str "come"))))
    (sSet 7 (eOp2 dAdd (eTup (aCons (eV 4) (aNil))) (eSl (eV 2) (oSome (eC (.int 1))) (oNone))))
    (sSkip))
    (sSeq (sFld "Street" "now" (eV 0) (eTup (aCons (eV 7) (aCons (eOp2 dAdd (eV 3) (eOp2 dMul (eTup (aCons (eV 6) (aNil))) (eB dInt (aCons (eOp2 dEq (eV 5) (eC (.str "go"))) (aNil))))) (aCons (eOp2 dAdd (eV 4) (eB dInt (aCons (eOp2 dEq (eV 5) (eC (.str "come"))) (aNil)))) (aNil))))))
    (sRet (eTup (aCons (eV 5) (aCons (eV 6) (aNil)))))))))))))
theorem ok_Street_turn (Z : Facts K mg base) : MFn P w K mg base 4 "Street" "turn" 2 D_Street_turn false := by
  obtain ⟨C, f, fd, hC, cls, me, F⟩ := Z.m_Street_turn
  refine MFn.mk' F sc_Street_turn hC cls me (F.binds (ps := ["self", "die"]) fun _ _ _ _ _ _ us hl => match us, hl with | [_, _], _ => rfl) rfl (fun X E hK hM hX hr hg => ?_) (fun z => Bool.noConfusion z)
  obtain ⟨cdv, A, outer, s, H, rfl⟩ := hX
  exact s_cons (s_if (t_not (t_truth (e_call (ok_is_die Z) (hr.mono (by decide)) hg (takes_of rfl rfl rfl rfl) (a_cons (e_fld Z.a_Street_own_walk (e_var 0)) (a_cons (e_var 1) (a_nil))))))
    (s_one (s_raise Z.x_NoDice rfl (takes_of rfl rfl rfl rfl)))
    (s_nil))
    (s_cons (s_unp [2, 3, 4] (e_fld Z.a_Street_now (e_var 0)) (g_tup (n := 3) rfl (gs_cons (g_name 2 sc_Street_turn.nd) (gs_cons (g_name 3 sc_Street_turn.nd) (gs_cons (g_name 4 sc_Street_turn.nd) (gs_nil))))))
    (s_cons (s_set (i := 5) (e_call (ok_happens Z) (hr.mono (by decide)) hg (takes_of rfl rfl rfl rfl) (a_cons (e_fld Z.a_Street_own_walk (e_var 0)) (a_cons (e_callTy c_tup v_tup Z.b_tuple (a_cons (e_ofF (f_comp [("one", 8)] rfl sc_Street_turn.nd (i_val (e_var 2)) (blkOk_by (by change blkC ["self", "die", "row", "gone_ones", "coming", "word", "number", "later", "one"] (defScope s_Street_turn) _ _ = true; decide +kernel)) (fun _ _ _ _ _ => g_name 8 sc_Street_turn.nd) (fun _ _ _ _ _ => ts_nil) (fun _ _ _ _ _ => e_callB (c_min rfl) v_min Z.b_min (a_cons (e_var 8) (a_cons (e_int) (a_nil)))))) (a_nil))) (a_cons (e_var 1) (a_nil))))) sc_Street_turn.nd)
    (s_cons (s_set (i := 6) (e_call (ok_who_does Z) (hr.mono (by decide)) hg (takes_of rfl rfl rfl rfl) (a_cons (e_var 2) (a_cons (e_ixT (e_var 1) (e_int)) (a_cons (e_var 5) (a_cons (e_var 4) (a_nil)))))) sc_Street_turn.nd)
    (s_cons (s_appT (e_fld Z.a_Street_past (e_var 0)) (e_fld Z.a_Street_now (e_var 0)))
    (s_cons (s_set (i := 7) (e_call (ok_changed Z) (hr.mono (by decide)) hg (takes_of rfl rfl rfl rfl) (a_cons (e_var 2) (a_cons (e_ixT (e_var 1) (e_int)) (a_cons (e_var 5) (a_nil))))) sc_Street_turn.nd)
    (s_cons (s_if (t_cmp (op_eqA (hu64 hr)) v_eq (e_var 5) (e_str) rfl)
    (s_one (s_set (i := 7) (e_op2 op_addA v_add (e_tup (a_cons (e_var 4) (a_nil))) (e_slice (e_var 2) (o_some (e_int)) (o_none))) sc_Street_turn.nd))
    (s_nil))
    (s_cons (s_fld Z.a_Street_now (e_var 0) (e_tup (a_cons (e_var 7) (a_cons (e_op2 op_addA v_add (e_var 3) (e_op2 op_mulA v_mul (e_tup (a_cons (e_var 6) (a_nil))) (e_callTy c_int v_int Z.b_int (a_cons (e_cmp (op_eqA (hu64 hr)) v_eq (e_var 5) (e_str) rfl) (a_nil))))) (a_cons (e_op2 op_addA v_add (e_var 4) (e_callTy c_int v_int Z.b_int (a_cons (e_cmp (op_eqA (hu64 hr)) v_eq (e_var 5) (e_str) rfl) (a_nil)))) (a_nil))))))
    (s_one (s_ret (e_tup (a_cons (e_var 5) (a_cons (e_var 6) (a_nil)))))))))))))
abbrev s_Street_row : Stmt := inClass (topS 24) 2
theorem sc_Street_row : FnScope ["self"] ["self"] (defScope s_Street_row) := ⟨rfl, rfl, rfl, by decide +kernel, rfl, by decide +kernel, by decide +kernel⟩
def D_Street_row : DFun := defD 1 1 (sRet (eOp2S dIxT (eFld "Street" "now" (eV 0)) (eC (.int 0))))
theorem ok_Street_row (Z : Facts K mg base) : MFn P w K mg base 1 "Street" "row" 1 D_Street_row false := by
  obtain ⟨C, f, fd, hC, cls, me, F⟩ := Z.m_Street_row
  refine MFn.mk' F sc_Street_row hC cls me (F.binds (ps := ["self"]) fun _ _ _ _ _ _ us hl => match us, hl with | [_], _ => rfl) rfl (fun X E hK hM hX hr hg => ?_) (fun z => Bool.noConfusion z)
  obtain ⟨cdv, A, outer, s, H, rfl⟩ := hX
  exact s_one (s_ret (e_ixT (e_fld Z.a_Street_now (e_var 0)) (e_int)))
abbrev s_Street_gone : Stmt := inClass (topS 24) 3
theorem sc_Street_gone : FnScope ["self"] ["self"] (defScope s_Street_gone) := ⟨rfl, rfl, rfl, by decide +kernel, rfl, by decide +kernel, by decide +kernel⟩
def D_Street_gone : DFun := defD 1 1 (sRet (eB dLstOf (aCons (eOp2S dIxT (eFld "Street" "now" (eV 0)) (eC (.int 1))) (aNil))))
theorem ok_Street_gone (Z : Facts K mg base) : MFn P w K mg base 1 "Street" "gone" 1 D_Street_gone true := by
  obtain ⟨C, f, fd, hC, cls, me, F⟩ := Z.m_Street_gone
  refine MFn.mk' F sc_Street_gone hC cls me (F.binds (ps := ["self"]) fun _ _ _ _ _ _ us hl => match us, hl with | [_], _ => rfl) rfl (fun X E hK hM hX hr hg => ?_) (fun _ => by repeat first | exact nn_ret | exact nn_retOwn | exact nn_retPd | exact nn_retPl | refine nn_frz ?_ | refine nn_lk ?_)
  obtain ⟨cdv, A, outer, s, H, rfl⟩ := hX
  exact s_one (s_retF (f_callTy c_lst vF_lst Z.b_list (a_cons (e_ixT (e_fld Z.a_Street_now (e_var 0)) (e_int)) (a_nil))))
abbrev s_Street_back : Stmt := inClass (topS 24) 4
theorem sc_Street_back : FnScope ["self"] ["self"] (defScope s_Street_back) := ⟨rfl, rfl, rfl, by decide +kernel, rfl, by decide +kernel, by decide +kernel⟩
def D_Street_back : DFun := defD 1 1 (sSeq (sIf (tBl (eOp2 dEq (eLenT (aCons (eFld "Street" "past" (eV 0)) (aNil))) (eC (.int 0))))
    (sRaise "NoBack")
    (sSkip))
    (sSeq (sFld "Street" "now" (eV 0) (ePop0T (eFld "Street" "past" (eV 0))))
    (sRet (eOp2S dIxT (eFld "Street" "now" (eV 0)) (eC (.int 0))))))
theorem ok_Street_back (Z : Facts K mg base) : MFn P w K mg base 1 "Street" "back" 1 D_Street_back false := by
  obtain ⟨C, f, fd, hC, cls, me, F⟩ := Z.m_Street_back
  refine MFn.mk' F sc_Street_back hC cls me (F.binds (ps := ["self"]) fun _ _ _ _ _ _ us hl => match us, hl with | [_], _ => rfl) rfl (fun X E hK hM hX hr hg => ?_) (fun z => Bool.noConfusion z)
  obtain ⟨cdv, A, outer, s, H, rfl⟩ := hX
  exact s_cons (s_if (t_cmp (op_eqA (hu64 hr)) v_eq (e_lenT Z.b_len (a_cons (e_fld Z.a_Street_past (e_var 0)) (a_nil))) (e_int) rfl)
    (s_one (s_raise Z.x_NoBack rfl (takes_of rfl rfl rfl rfl)))
    (s_nil))
    (s_cons (s_fld Z.a_Street_now (e_var 0) (e_pop0T (e_fld Z.a_Street_past (e_var 0))))
    (s_one (s_ret (e_ixT (e_fld Z.a_Street_now (e_var 0)) (e_int)))))
abbrev s__law_pen : Stmt := topS 26
theorem sc__law_pen : FnScope ["_law_script"] ["_law_script"] (defScope s__law_pen) := ⟨rfl, rfl, rfl, by decide +kernel, rfl, by decide +kernel, by decide +kernel⟩
def D__law_pen : DFun := defD 1 1 (sRet (ePub (eLst (aCons (ePub (eB dLstOf (aCons (eSl (eV 0) (oNone) (oSome (eC (.int 63)))) (aNil)))) (aCons (eC (.int 0)) (aCons (eC (.int 0)) (aNil)))))))
theorem ok__law_pen (Z : Facts K mg base) : DFn P w K mg base 1 "_law_pen" 1 D__law_pen false := by
  obtain ⟨f, fd, F, gx⟩ := Z.f__law_pen
  refine DFn.mk' F sc__law_pen gx (F.binds (ps := ["_law_script"]) fun _ _ _ _ _ _ us hl => match us, hl with | [_], _ => rfl) rfl (fun X E hK hM hX hr hg => ?_) (fun z => Bool.noConfusion z)
  obtain ⟨cdv, A, outer, s, H, rfl⟩ := hX
  exact s_one (s_ret (e_pub (f_lst (a_cons (e_pub (f_callTy c_lst vF_lst Z.b_list (a_cons (e_slice (e_var 0) (o_none) (o_some (e_int))) (a_nil)))) (a_cons (e_int) (a_cons (e_int) (a_nil)))))))
abbrev s__law_draw : Stmt := topS 27
theorem sc__law_draw : FnScope ["_law_pen_here", "_law_many", "_law_digit", "_law_at", "_law_cell", "_law_number"] ["_law_pen_here", "_law_many"] (defScope s__law_draw) := ⟨rfl, rfl, rfl, by decide +kernel, rfl, by decide +kernel, by decide +kernel⟩
def D__law_draw : DFun := defD 6 2 (sSeq (sIf (tBl (eOp2 dGt (eOp2S dIxT (eV 0) (eC (.int 2))) (eC (.int 0))))
    (sSeq (sSet 2 (eOp2 dMod (eOp2S dIxT (eV 0) (eC (.int 2))) (eV 1)))
    (sSeq (sPutT (eV 0) (eC (.int 2)) (eOp2 dFdiv (eOp2S dIxT (eV 0) (eC (.int 2))) (eV 1)))
    (sRet (eV 2))))
    (sSkip))
    (sSeq (sSet 3 (eOp2S dIxT (eV 0) (eC (.int 1))))
    (sSeq (sPutT (eV 0) (eC (.int 1)) (eOp2 dAdd (eV 3) (eC (.int 1))))
    (sSeq (sSet 4 (eOp2 dAdd (eOp2 dAdd (eOp2 dMul (eOp2 dMul (eC (.int 60013)) (eV 3)) (eV 3)) (eOp2 dMul (eC (.int 419)) (eV 3))) (eC (.int 31))))
    (sSeq (sIf (tBl (eOp2 dGt (eLenT (aCons (eOp2S dIxT (eV 0) (eC (.int 0))) (aNil))) (eC (.int 0))))
    (sSeq (sSet 4 (eOp2S dIxT (eOp2S dIxT (eV 0) (eC (.int 0))) (eOp2 dMod (eV 3) (eLenT (aCons (eOp2S dIxT (eV 0) (eC (.int 0))) (aNil))))))
    (sIf (tAndD (tBl (eOp2 dLt (eV 3) (eLenT (aCons (eOp2S dIxT (eV 0) (eC (.int 0))) (aNil))))) (tBl (eOp2 dGe (eB dAbs (aCons (eV 4) (aNil))) (eOp2 dPow (eC (.int 10)) (eC (.int 18))))))
    (sSeq (sPutT (eV 0) (eC (.int 2)) (eOp2 dFdiv (eB dAbs (aCons (eV 4) (aNil))) (eV 1)))
    (sRet (eOp2 dMod (eB dAbs (aCons (eV 4) (aNil))) (eV 1))))
    (sSkip)))
    (sSkip))
    (sSeq (sSet 5 (eOp2 dMod (eOp2 dAdd (eOp2 dPow (eOp2 dAdd (eOp2 dAdd (eOp2 dMod (eV 4) (eC (.int 2147483629))) (eOp2 dMul (eC (.int 50021)) (eV 3))) (eC (.int 13))) (eC (.int 3))) (eOp2 dMul (eC (.int 7)) (eV 3))) (eC (.int 2147483587))))
    (sSeq (sSet 5 (eOp2 dMod (eOp2 dPow (eOp2 dAdd (eOp2 dMul (eV 5) (eOp2 dAdd (eOp2 dAdd (eOp2 dMod (eV 5) (eC (.int 65521))) (eOp2 dMul (eC (.int 2)) (eV 3))) (eC (.int 3)))) (eC (.int 104729))) (eC (.int 2))) (eC (.int 2147483563))))
    (sRet (eOp2 dMod (eOp2 dFdiv (eV 5) (eC (.int 32))) (eV 1))))))))))
theorem ok__law_draw (Z : Facts K mg base) : DFn P w K mg base 1 "_law_draw" 2 D__law_draw false := by
  obtain ⟨f, fd, F, gx⟩ := Z.f__law_draw
  refine DFn.mk' F sc__law_draw gx (F.binds (ps := ["_law_pen_here", "_law_many"]) fun _ _ _ _ _ _ us hl => match us, hl with | [_, _], _ => rfl) rfl (fun X E hK hM hX hr hg => ?_) (fun z => Bool.noConfusion z)
  obtain ⟨cdv, A, outer, s, H, rfl⟩ := hX
  exact s_cons (s_if (t_cmp op_gt v_gt (e_ixT (e_var 0) (e_int)) (e_int) rfl)
    (s_cons (s_set (i := 2) (e_op2 op_modN v_mod (e_ixT (e_var 0) (e_int)) (e_var 1)) sc__law_draw.nd)
    (s_cons (s_putT (e_op2 op_fdivX v_fdiv (e_ixT (e_var 0) (e_int)) (e_var 1)) (e_var 0) (e_int))
    (s_one (s_ret (e_var 2)))))
    (s_nil))
    (s_cons (s_set (i := 3) (e_ixT (e_var 0) (e_int)) sc__law_draw.nd)
    (s_cons (s_putT (e_op2 op_addA v_add (e_var 3) (e_int)) (e_var 0) (e_int))
    (s_cons (s_set (i := 4) (e_op2 op_addA v_add (e_op2 op_addA v_add (e_op2 op_mulA v_mul (e_op2 op_mulA v_mul (e_int) (e_var 3)) (e_var 3)) (e_op2 op_mulA v_mul (e_int) (e_var 3))) (e_int)) sc__law_draw.nd)
    (s_cons (s_if (t_cmp op_gt v_gt (e_lenT Z.b_len (a_cons (e_ixT (e_var 0) (e_int)) (a_nil))) (e_int) rfl)
    (s_cons (s_set (i := 4) (e_ixT (e_ixT (e_var 0) (e_int)) (e_op2 op_modN v_mod (e_var 3) (e_lenT Z.b_len (a_cons (e_ixT (e_var 0) (e_int)) (a_nil))))) sc__law_draw.nd)
    (s_one (s_if (PW.pt (w_and (t_cmp op_lt v_lt (e_var 3) (e_lenT Z.b_len (a_cons (e_ixT (e_var 0) (e_int)) (a_nil))) rfl) (w_and1 (t_cmp op_ge v_ge (e_callB c_abs v_abs Z.b_abs (a_cons (e_var 4) (a_nil))) (e_op2 op_powX v_pow (e_int) (e_int)) rfl))))
    (s_cons (s_putT (e_op2 op_fdivX v_fdiv (e_callB c_abs v_abs Z.b_abs (a_cons (e_var 4) (a_nil))) (e_var 1)) (e_var 0) (e_int))
    (s_one (s_ret (e_op2 op_modN v_mod (e_callB c_abs v_abs Z.b_abs (a_cons (e_var 4) (a_nil))) (e_var 1)))))
    (s_nil))))
    (s_nil))
    (s_cons (s_set (i := 5) (e_op2 op_modN v_mod (e_op2 op_addA v_add (e_op2 op_powX v_pow (e_op2 op_addA v_add (e_op2 op_addA v_add (e_op2 op_modN v_mod (e_var 4) (e_int)) (e_op2 op_mulA v_mul (e_int) (e_var 3))) (e_int)) (e_int)) (e_op2 op_mulA v_mul (e_int) (e_var 3))) (e_int)) sc__law_draw.nd)
    (s_cons (s_set (i := 5) (e_op2 op_modN v_mod (e_op2 op_powX v_pow (e_op2 op_addA v_add (e_op2 op_mulA v_mul (e_var 5) (e_op2 op_addA v_add (e_op2 op_addA v_add (e_op2 op_modN v_mod (e_var 5) (e_int)) (e_op2 op_mulA v_mul (e_int) (e_var 3))) (e_int))) (e_int)) (e_int)) (e_int)) sc__law_draw.nd)
    (s_one (s_ret (e_op2 op_modN v_mod (e_op2 op_fdivX v_fdiv (e_var 5) (e_int)) (e_var 1))))))))))
abbrev s__law_lowest : Stmt := topS 28
theorem sc__law_lowest : FnScope ["_law_top", "_law_bottom", "_law_one", "_law_other"] ["_law_top", "_law_bottom"] (defScope s__law_lowest) := ⟨rfl, rfl, rfl, by decide +kernel, rfl, by decide +kernel, by decide +kernel⟩
def D__law_lowest : DFun := defD 4 2 (sSeq (sSet 2 (eB dAbs (aCons (eV 0) (aNil))))
    (sSeq (sSet 3 (eV 1))
    (sSeq (sWhile [] (tBl (eOp2 dGt (eV 3) (eC (.int 0))))
    (sPar 2 3 (aCons (eV 3) (aCons (eOp2 dMod (eV 2) (eV 3)) (aNil)))))
    (sRet (eTup (aCons (eOp2 dFdiv (eV 0) (eV 2)) (aCons (eOp2 dFdiv (eV 1) (eV 2)) (aNil))))))))
theorem ok__law_lowest (Z : Facts K mg base) : DFn P w K mg base 1 "_law_lowest" 2 D__law_lowest false := by
  obtain ⟨f, fd, F, gx⟩ := Z.f__law_lowest
  refine DFn.mk' F sc__law_lowest gx (F.binds (ps := ["_law_top", "_law_bottom"]) fun _ _ _ _ _ _ us hl => match us, hl with | [_, _], _ => rfl) rfl (fun X E hK hM hX hr hg => ?_) (fun z => Bool.noConfusion z)
  obtain ⟨cdv, A, outer, s, H, rfl⟩ := hX
  exact s_cons (s_set (i := 2) (e_callB c_abs v_abs Z.b_abs (a_cons (e_var 0) (a_nil))) sc__law_lowest.nd)
    (s_cons (s_set (i := 3) (e_var 1) sc__law_lowest.nd)
    (s_cons (s_while [] (passes_of rfl) (t_cmp op_gt v_gt (e_var 3) (e_int) rfl)
    (s_one (s_par (i := 2) (j := 3) rfl sc__law_lowest.nd (a_cons (e_var 3) (a_cons (e_op2 op_modN v_mod (e_var 2) (e_var 3)) (a_nil))))))
    (s_one (s_ret (e_tup (a_cons (e_op2 op_fdivX v_fdiv (e_var 0) (e_var 2)) (a_cons (e_op2 op_fdivX v_fdiv (e_var 1) (e_var 2)) (a_nil))))))))
abbrev s__law_chance : Stmt := topS 29
theorem sc__law_chance : FnScope ["_law_pen_here", "_law_least", "_law_way", "_law_bottom", "_law_top"] ["_law_pen_here", "_law_least"] (defScope s__law_chance) := ⟨rfl, rfl, rfl, by decide +kernel, rfl, by decide +kernel, by decide +kernel⟩
def D__law_chance : DFun := defD 5 2 (sSeq (sSet 2 (eCall D__law_draw (aCons (eV 0) (aCons (eC (.int 6)) (aNil)))))
    (sSeq (sSet 3 (eOp2 dAdd (eC (.int 1)) (eCall D__law_draw (aCons (eV 0) (aCons (eC (.int 60)) (aNil))))))
    (sSeq (sSet 4 (eOp2 dAdd (eV 1) (eCall D__law_draw (aCons (eV 0) (aCons (eOp2 dSub (eOp2 dAdd (eV 3) (eC (.int 1))) (eV 1)) (aNil))))))
    (sSeq (sIf (tBl (eOp2 dLt (eV 2) (eC (.int 3))))
    (sRet (eOp2S dIxT (eLst (aCons (eTup (aCons (eC (.int 1)) (aCons (eC (.int 1)) (aNil)))) (aCons (eTup (aCons (eC (.int 1)) (aCons (eC (.int 60)) (aNil)))) (aCons (eTup (aCons (eC (.int 59)) (aCons (eC (.int 60)) (aNil)))) (aNil))))) (eV 2)))
    (sSkip))
    (sRet (eCall D__law_lowest (aCons (eV 4) (aCons (eV 3) (aNil)))))))))
theorem ok__law_chance (Z : Facts K mg base) : DFn P w K mg base 2 "_law_chance" 2 D__law_chance false := by
  obtain ⟨f, fd, F, gx⟩ := Z.f__law_chance
  refine DFn.mk' F sc__law_chance gx (F.binds (ps := ["_law_pen_here", "_law_least"]) fun _ _ _ _ _ _ us hl => match us, hl with | [_, _], _ => rfl) rfl (fun X E hK hM hX hr hg => ?_) (fun z => Bool.noConfusion z)
  obtain ⟨cdv, A, outer, s, H, rfl⟩ := hX
  exact s_cons (s_set (i := 2) (e_call (ok__law_draw Z) (hr.mono (by decide)) hg (takes_of rfl rfl rfl rfl) (a_cons (e_var 0) (a_cons (e_int) (a_nil)))) sc__law_chance.nd)
    (s_cons (s_set (i := 3) (e_op2 op_addA v_add (e_int) (e_call (ok__law_draw Z) (hr.mono (by decide)) hg (takes_of rfl rfl rfl rfl) (a_cons (e_var 0) (a_cons (e_int) (a_nil))))) sc__law_chance.nd)
    (s_cons (s_set (i := 4) (e_op2 op_addA v_add (e_var 1) (e_call (ok__law_draw Z) (hr.mono (by decide)) hg (takes_of rfl rfl rfl rfl) (a_cons (e_var 0) (a_cons (e_op2 op_sub v_sub (e_op2 op_addA v_add (e_var 3) (e_int)) (e_var 1)) (a_nil))))) sc__law_chance.nd)
    (s_cons (s_if (t_cmp op_lt v_lt (e_var 2) (e_int) rfl)
    (s_one (s_ret (e_ixT (e_ofF (f_lst (a_cons (e_tup (a_cons (e_int) (a_cons (e_int) (a_nil)))) (a_cons (e_tup (a_cons (e_int) (a_cons (e_int) (a_nil)))) (a_cons (e_tup (a_cons (e_int) (a_cons (e_int) (a_nil)))) (a_nil)))))) (e_var 2))))
    (s_nil))
    (s_one (s_ret (e_call (ok__law_lowest Z) (hr.mono (by decide)) hg (takes_of rfl rfl rfl rfl) (a_cons (e_var 4) (a_cons (e_var 3) (a_nil)))))))))
abbrev s__law_walk : Stmt := topS 30
theorem sc__law_walk : FnScope ["_law_pen_here", "_law_least", "_law_most", "_law_way", "_law_kind", "_law_many", "_law_on", "_law_other", "_law_come", "_law_go", "_law_back"] ["_law_pen_here", "_law_least", "_law_most"] (defScope s__law_walk) := ⟨rfl, rfl, rfl, by decide +kernel, rfl, by decide +kernel, by decide +kernel⟩
def D__law_walk : DFun := defD 11 3 (sSeq (sSet 3 (eCall D__law_draw (aCons (eV 0) (aCons (eC (.int 4)) (aNil)))))
    (sSeq (sSet 4 (eCall D__law_draw (aCons (eV 0) (aCons (eC (.int 3)) (aNil)))))
    (sSeq (sSet 5 (eOp2 dAdd (eV 1) (eCall D__law_draw (aCons (eV 0) (aCons (eOp2 dSub (eOp2 dAdd (eV 2) (eC (.int 1))) (eV 1)) (aNil))))))
    (sSeq (sSet 6 (eCall D__law_chance (aCons (eV 0) (aCons (eC (.int 1)) (aNil)))))
    (sSeq (sSet 7 (eCall D__law_chance (aCons (eV 0) (aCons (eC (.int 0)) (aNil)))))
    (sSeq (sSet 8 (eCall D__law_chance (aCons (eV 0) (aCons (eC (.int 1)) (aNil)))))
    (sSeq (sSet 9 (eCall D__law_chance (aCons (eV 0) (aCons (eC (.int 1)) (aNil)))))
    (sSeq (sSet 10 (eTup (aCons (eC (.int 0)) (aCons (eC (.int 1)) (aNil)))))
    (sSeq (sIf (tBl (eOp2 dEq (eV 4) (eC (.int 1))))
    (sSet 10 (eCall D__law_lowest (aCons (eOp2 dSub (eOp2S dIxT (eV 6) (eC (.int 0))) (eC (.int 1))) (aCons (eOp2S dIxT (eV 6) (eC (.int 1))) (aNil)))))
    (sSkip))
    (sSeq (sIf (tAndD (tBl (eOp2 dEq (eV 4) (eC (.int 2)))) (tBl (eOp2 dNe (eV 6) (eV 7))))
    (sSeq (sIf (tBl (eOp2 dLt (eOp2 dMul (eOp2S dIxT (eV 6) (eC (.int 0))) (eOp2S dIxT (eV 7) (eC (.int 1)))) (eOp2 dMul (eOp2S dIxT (eV 7) (eC (.int 0))) (eOp2S dIxT (eV 6) (eC (.int 1))))))
    (sPar 6 7 (aCons (eV 7) (aCons (eV 6) (aNil))))
    (sSkip))
    (sSet 10 (eV 7)))
    (sSkip))
    (sRet (eTup (aCons (eOp2S dIxT (eLst (aCons (eV 1) (aCons (eV 2) (aCons (eV 5) (aCons (eV 5) (aNil)))))) (eV 3)) (aCons (eV 6) (aCons (eV 10) (aCons (eV 8) (aCons (eV 9) (aNil))))))))))))))))))
theorem ok__law_walk (Z : Facts K mg base) : DFn P w K mg base 3 "_law_walk" 3 D__law_walk false := by
  obtain ⟨f, fd, F, gx⟩ := Z.f__law_walk
  refine DFn.mk' F sc__law_walk gx (F.binds (ps := ["_law_pen_here", "_law_least", "_law_most"]) fun _ _ _ _ _ _ us hl => match us, hl with | [_, _, _], _ => rfl) rfl (fun X E hK hM hX hr hg => ?_) (fun z => Bool.noConfusion z)
  obtain ⟨cdv, A, outer, s, H, rfl⟩ := hX
  exact s_cons (s_set (i := 3) (e_call (ok__law_draw Z) (hr.mono (by decide)) hg (takes_of rfl rfl rfl rfl) (a_cons (e_var 0) (a_cons (e_int) (a_nil)))) sc__law_walk.nd)
    (s_cons (s_set (i := 4) (e_call (ok__law_draw Z) (hr.mono (by decide)) hg (takes_of rfl rfl rfl rfl) (a_cons (e_var 0) (a_cons (e_int) (a_nil)))) sc__law_walk.nd)
    (s_cons (s_set (i := 5) (e_op2 op_addA v_add (e_var 1) (e_call (ok__law_draw Z) (hr.mono (by decide)) hg (takes_of rfl rfl rfl rfl) (a_cons (e_var 0) (a_cons (e_op2 op_sub v_sub (e_op2 op_addA v_add (e_var 2) (e_int)) (e_var 1)) (a_nil))))) sc__law_walk.nd)
    (s_cons (s_set (i := 6) (e_call (ok__law_chance Z) (hr.mono (by decide)) hg (takes_of rfl rfl rfl rfl) (a_cons (e_var 0) (a_cons (e_int) (a_nil)))) sc__law_walk.nd)
    (s_cons (s_set (i := 7) (e_call (ok__law_chance Z) (hr.mono (by decide)) hg (takes_of rfl rfl rfl rfl) (a_cons (e_var 0) (a_cons (e_int) (a_nil)))) sc__law_walk.nd)
    (s_cons (s_set (i := 8) (e_call (ok__law_chance Z) (hr.mono (by decide)) hg (takes_of rfl rfl rfl rfl) (a_cons (e_var 0) (a_cons (e_int) (a_nil)))) sc__law_walk.nd)
    (s_cons (s_set (i := 9) (e_call (ok__law_chance Z) (hr.mono (by decide)) hg (takes_of rfl rfl rfl rfl) (a_cons (e_var 0) (a_cons (e_int) (a_nil)))) sc__law_walk.nd)
    (s_cons (s_set (i := 10) (e_tup (a_cons (e_int) (a_cons (e_int) (a_nil)))) sc__law_walk.nd)
    (s_cons (s_if (t_cmp (op_eqA (hu64 hr)) v_eq (e_var 4) (e_int) rfl)
    (s_one (s_set (i := 10) (e_call (ok__law_lowest Z) (hr.mono (by decide)) hg (takes_of rfl rfl rfl rfl) (a_cons (e_op2 op_sub v_sub (e_ixT (e_var 6) (e_int)) (e_int)) (a_cons (e_ixT (e_var 6) (e_int)) (a_nil)))) sc__law_walk.nd))
    (s_nil))
    (s_cons (s_if (PW.pt (w_and (t_cmp (op_eqA (hu64 hr)) v_eq (e_var 4) (e_int) rfl) (w_and1 (t_cmp (op_neA (hu64 hr)) v_ne (e_var 6) (e_var 7) rfl))))
    (s_cons (s_if (t_cmp op_lt v_lt (e_op2 op_mulA v_mul (e_ixT (e_var 6) (e_int)) (e_ixT (e_var 7) (e_int))) (e_op2 op_mulA v_mul (e_ixT (e_var 7) (e_int)) (e_ixT (e_var 6) (e_int))) rfl)
    (s_one (s_par (i := 6) (j := 7) rfl sc__law_walk.nd (a_cons (e_var 7) (a_cons (e_var 6) (a_nil)))))
    (s_nil))
    (s_one (s_set (i := 10) (e_var 7) sc__law_walk.nd)))
    (s_nil))
    (s_one (s_ret (e_tup (a_cons (e_ixT (e_ofF (f_lst (a_cons (e_var 1) (a_cons (e_var 2) (a_cons (e_var 5) (a_cons (e_var 5) (a_nil))))))) (e_var 3)) (a_cons (e_var 6) (a_cons (e_var 10) (a_cons (e_var 8) (a_cons (e_var 9) (a_nil))))))))))))))))))
abbrev s__law_stand : Stmt := topS 31
theorem sc__law_stand : FnScope ["_law_pen_here", "_law_cells", "_law_way", "_law_some", "_law_cell"] ["_law_pen_here", "_law_cells"] (defScope s__law_stand) := ⟨rfl, rfl, rfl, by decide +kernel, rfl, by decide +kernel, by decide +kernel⟩
def D__law_stand : DFun := defD 5 2 (sSeq (sSet 2 (eCall D__law_draw (aCons (eV 0) (aCons (eC (.int 4)) (aNil)))))
    (sSeq (sSet 3 (eB dTupOf (aCons (eComp [4] (iRange1 (aCons (eV 1) (aNil))) (gN 4) (tAll) (eCall D__law_draw (aCons (eV 0) (aCons (eC (.int 2)) (aNil))))) (aNil))))
    (sRet (eOp2S dIxT (eLst (aCons (eOp2 dMul (eTup (aCons (eC (.int 0)) (aNil))) (eV 1)) (aCons (eOp2 dMul (eTup (aCons (eC (.int 1)) (aNil))) (eV 1)) (aCons (eV 3) (aCons (eV 3) (aNil)))))) (eV 2)))))
theorem ok__law_stand (Z : Facts K mg base) : DFn P w K mg base 2 "_law_stand" 2 D__law_stand false := by
  obtain ⟨f, fd, F, gx⟩ := Z.f__law_stand
  refine DFn.mk' F sc__law_stand gx (F.binds (ps := ["_law_pen_here", "_law_cells"]) fun _ _ _ _ _ _ us hl => match us, hl with | [_, _], _ => rfl) rfl (fun X E hK hM hX hr hg => ?_) (fun z => Bool.noConfusion z)
  obtain ⟨cdv, A, outer, s, H, rfl⟩ := hX
  exact s_cons (s_set (i := 2) (e_call (ok__law_draw Z) (hr.mono (by decide)) hg (takes_of rfl rfl rfl rfl) (a_cons (e_var 0) (a_cons (e_int) (a_nil)))) sc__law_stand.nd)
    (s_cons (s_set (i := 3) (e_callTy c_tup v_tup Z.b_tuple (a_cons (e_ofF (f_comp [("_law_cell", 4)] rfl sc__law_stand.nd (i_range1 Z.b_range (a_cons (e_var 1) (a_nil))) (blkOk_by (by change blkC ["_law_pen_here", "_law_cells", "_law_way", "_law_some", "_law_cell"] (defScope s__law_stand) _ _ = true; decide +kernel)) (fun _ _ _ _ _ => g_name 4 sc__law_stand.nd) (fun _ _ _ _ _ => ts_nil) (fun _ _ _ _ _ => e_call (ok__law_draw Z) (hr.mono (by decide)) hg takes0 (a_cons (e_var 0) (a_cons (e_int) (a_nil)))))) (a_nil))) sc__law_stand.nd)
    (s_one (s_ret (e_ixT (e_ofF (f_lst (a_cons (e_op2 op_mulA v_mul (e_tup (a_cons (e_int) (a_nil))) (e_var 1)) (a_cons (e_op2 op_mulA v_mul (e_tup (a_cons (e_int) (a_nil))) (e_var 1)) (a_cons (e_var 3) (a_cons (e_var 3) (a_nil))))))) (e_var 2)))))
abbrev s__law_next : Stmt := topS 32
theorem sc__law_next : FnScope ["_law_walk_here", "_law_stand_here", "_law_chances", "_law_line", "_law_found", "_law_border", "_law_chance_here", "_law_there"] ["_law_walk_here", "_law_stand_here"] (defScope s__law_next) := ⟨rfl, rfl, rfl, by decide +kernel, rfl, by decide +kernel, by decide +kernel⟩
def D__law_next : DFun := defD 8 2 (sSeq (sSet 2 (eOp2 dAddL (eOp2 dAddL (eLst (aCons (eOp2S dIxT (eV 0) (eC (.int 3))) (aNil))) (eOp2 dMulL (eLst (aCons (eOp2S dIxT (eV 0) (eC (.int 1))) (aNil))) (eOp2 dSub (eOp2S dIxT (eV 0) (eC (.int 0))) (eC (.int 1))))) (eLst (aCons (eOp2S dIxT (eV 0) (eC (.int 4))) (aNil)))))
    (sSeq (sSet 3 (eOp2 dAdd (eOp2 dAdd (eTup (aCons (eC (.int 1)) (aNil))) (eV 1)) (eTup (aCons (eC (.int 0)) (aNil)))))
    (sSeq (sOwn 4 (eLst (aNil)))
    (sSeq (sFor [5, 6, 7] (iRange1 (aCons (eOp2 dAdd (eOp2S dIxT (eV 0) (eC (.int 0))) (eC (.int 1))) (aNil))) (gN 5)
    (sSeq (sSet 6 (eOp2S dIxT (eLst (aCons (eOp2S dIxT (eV 2) (eV 5)) (aCons (eOp2S dIxT (eV 0) (eC (.int 2))) (aNil)))) (eB dInt (aCons (eOp2 dLt (eOp2S dIxT (eV 3) (eV 5)) (eOp2S dIxT (eV 3) (eOp2 dAdd (eV 5) (eC (.int 1))))) (aNil)))))
    (sSeq (sSet 7 (eSl (eOp2 dAdd (eOp2 dAdd (eSl (eV 3) (oNone) (oSome (eV 5))) (eTup (aCons (eOp2S dIxT (eV 3) (eOp2 dAdd (eV 5) (eC (.int 1)))) (aCons (eOp2S dIxT (eV 3) (eV 5)) (aNil))))) (eSl (eV 3) (oSome (eOp2 dAdd (eV 5) (eC (.int 2)))) (oNone))) (oSome (eC (.int 1))) (oSome (eOp1 dNeg (eC (.int 1))))))
    (sApp 4 (eOp2S dIxT (eLst (aCons (eTup (aCons (eV 7) (aCons (eV 6) (aNil)))) (aCons (eTup (aCons (eV 1) (aCons (eTup (aCons (eC (.int 0)) (aCons (eC (.int 1)) (aNil)))) (aNil)))) (aNil)))) (eB dInt (aCons (eOp2 dEq (eOp2S dIxT (eV 3) (eV 5)) (eOp2S dIxT (eV 3) (eOp2 dAdd (eV 5) (eC (.int 1))))) (aNil))))))))
    (sRetOwn 4)))))
theorem ok__law_next (Z : Facts K mg base) : DFn P w K mg base 1 "_law_next" 2 D__law_next true := by
  obtain ⟨f, fd, F, gx⟩ := Z.f__law_next
  refine DFn.mk' F sc__law_next gx (F.binds (ps := ["_law_walk_here", "_law_stand_here"]) fun _ _ _ _ _ _ us hl => match us, hl with | [_, _], _ => rfl) rfl (fun X E hK hM hX hr hg => ?_) (fun _ => nn_seq (nn_seq (nn_seq (nn_seq (by repeat first | exact nn_ret | exact nn_retOwn | exact nn_retPd | exact nn_retPl | refine nn_frz ?_ | refine nn_lk ?_)))))
  obtain ⟨cdv, A, outer, s, H, rfl⟩ := hX
  exact s_cons (s_set (i := 2) (e_ofF (f_op2 op_cat vF_add (e_ofF (f_op2 op_cat vF_add (e_ofF (f_lst (a_cons (e_ixT (e_var 0) (e_int)) (a_nil)))) (e_ofF (f_op2 op_rep vF_mul (e_ofF (f_lst (a_cons (e_ixT (e_var 0) (e_int)) (a_nil)))) (e_op2 op_sub v_sub (e_ixT (e_var 0) (e_int)) (e_int)))))) (e_ofF (f_lst (a_cons (e_ixT (e_var 0) (e_int)) (a_nil)))))) sc__law_next.nd)
    (s_cons (s_set (i := 3) (e_op2 op_addA v_add (e_op2 op_addA v_add (e_tup (a_cons (e_int) (a_nil))) (e_var 1)) (e_tup (a_cons (e_int) (a_nil)))) sc__law_next.nd)
    (s_cons (s_own (i := 4) (f_lst (a_nil)) sc__law_next.nd)
    (s_cons (s_for (vs := [5]) [5, 6, 7] (passes_of rfl) rfl (i_range1 Z.b_range (a_cons (e_op2 op_addA v_add (e_ixT (e_var 0) (e_int)) (e_int)) (a_nil))) (g_name 5 sc__law_next.nd)
    (s_cons (s_set (i := 6) (e_ixT (e_ofF (f_lst (a_cons (e_ixT (e_var 2) (e_var 5)) (a_cons (e_ixT (e_var 0) (e_int)) (a_nil))))) (e_callTy c_int v_int Z.b_int (a_cons (e_cmp op_lt v_lt (e_ixT (e_var 3) (e_var 5)) (e_ixT (e_var 3) (e_op2 op_addA v_add (e_var 5) (e_int))) rfl) (a_nil)))) sc__law_next.nd)
    (s_cons (s_set (i := 7) (e_slice (e_op2 op_addA v_add (e_op2 op_addA v_add (e_slice (e_var 3) (o_none) (o_some (e_var 5))) (e_tup (a_cons (e_ixT (e_var 3) (e_op2 op_addA v_add (e_var 5) (e_int))) (a_cons (e_ixT (e_var 3) (e_var 5)) (a_nil))))) (e_slice (e_var 3) (o_some (e_op2 op_addA v_add (e_var 5) (e_int))) (o_none))) (o_some (e_int)) (o_some (e_neg (e_int)))) sc__law_next.nd)
    (s_one (s_app 4 (e_ixT (e_ofF (f_lst (a_cons (e_tup (a_cons (e_var 7) (a_cons (e_var 6) (a_nil)))) (a_cons (e_tup (a_cons (e_var 1) (a_cons (e_tup (a_cons (e_int) (a_cons (e_int) (a_nil)))) (a_nil)))) (a_nil))))) (e_callTy c_int v_int Z.b_int (a_cons (e_cmp (op_eqA (hu64 hr)) v_eq (e_ixT (e_var 3) (e_var 5)) (e_ixT (e_var 3) (e_op2 op_addA v_add (e_var 5) (e_int))) rfl) (a_nil)))))))))
    (s_one (s_retOwn 4)))))
abbrev s__law_great : Stmt := topS 33
theorem sc__law_great : FnScope ["_law_often", "_law_found", "_law_turn"] ["_law_often"] (defScope s__law_great) := ⟨rfl, rfl, rfl, by decide +kernel, rfl, by decide +kernel, by decide +kernel⟩
def D__law_great : DFun := defD 3 1 (sSeq (sSet 1 (eC (.int 1)))
    (sSeq (sFor [2] (iRange1 (aCons (eV 0) (aNil))) (gN 2)
    (sSet 1 (eOp2 dMul (eV 1) (eOp2 dPow (eC (.int 10)) (eC (.int 60))))))
    (sRet (eV 1))))
theorem ok__law_great (Z : Facts K mg base) : DFn P w K mg base 1 "_law_great" 1 D__law_great false := by
  obtain ⟨f, fd, F, gx⟩ := Z.f__law_great
  refine DFn.mk' F sc__law_great gx (F.binds (ps := ["_law_often"]) fun _ _ _ _ _ _ us hl => match us, hl with | [_], _ => rfl) rfl (fun X E hK hM hX hr hg => ?_) (fun z => Bool.noConfusion z)
  obtain ⟨cdv, A, outer, s, H, rfl⟩ := hX
  exact s_cons (s_set (i := 1) (e_int) sc__law_great.nd)
    (s_cons (s_for (vs := [2]) [2] (passes_of rfl) rfl (i_range1 Z.b_range (a_cons (e_var 0) (a_nil))) (g_name 2 sc__law_great.nd)
    (s_one (s_set (i := 1) (e_op2 op_mulA v_mul (e_var 1) (e_op2 op_powX v_pow (e_int) (e_int))) sc__law_great.nd)))
    (s_one (s_ret (e_var 1))))
abbrev s__law_share : Stmt := topS 34
theorem sc__law_share : FnScope ["_law_pen_here", "_law_chance_here", "_law_way", "_law_great_here", "_law_fine", "_law_bottom", "_law_any_one", "_law_small"] ["_law_pen_here", "_law_chance_here"] (defScope s__law_share) := ⟨rfl, rfl, rfl, by decide +kernel, rfl, by decide +kernel, by decide +kernel⟩
def D__law_share : DFun := defD 8 2 (sSeq (sSet 2 (eCall D__law_draw (aCons (eV 0) (aCons (eC (.int 8)) (aNil)))))
    (sSeq (sSet 3 (eCall D__law_great (aCons (eOp2S dIxT (eLst (aCons (eC (.int 1)) (aCons (eC (.int 33)) (aNil)))) (eB dInt (aCons (eOp2 dEq (eCall D__law_draw (aCons (eV 0) (aCons (eC (.int 6)) (aNil)))) (eC (.int 0))) (aNil)))) (aNil))))
    (sSeq (sSet 4 (eOp2S dIxT (eLst (aCons (eC (.int 1)) (aCons (eC (.int 7)) (aCons (eOp2 dPow (eC (.int 10)) (eC (.int 9))) (aCons (eV 3) (aNil)))))) (eCall D__law_draw (aCons (eV 0) (aCons (eC (.int 4)) (aNil))))))
    (sSeq (sSet 5 (eOp2 dAdd (eC (.int 1)) (eOp2 dMul (eCall D__law_draw (aCons (eV 0) (aCons (eOp2 dPow (eC (.int 10)) (eC (.int 6))) (aNil)))) (eOp2S dIxT (eLst (aCons (eC (.int 1)) (aCons (eOp2 dPow (eC (.int 10)) (eC (.int 6))) (aCons (eOp2 dPow (eC (.int 10)) (eC (.int 30))) (aCons (eV 3) (aNil)))))) (eCall D__law_draw (aCons (eV 0) (aCons (eC (.int 4)) (aNil))))))))
    (sSeq (sSet 6 (eOp2 dMod (eOp2 dFdiv (eOp2 dMul (eCall D__law_draw (aCons (eV 0) (aCons (eOp2 dPow (eC (.int 10)) (eC (.int 6))) (aNil)))) (eV 3)) (eOp2 dPow (eC (.int 10)) (eC (.int 6)))) (eV 5)))
    (sSeq (sSet 7 (eCall D__law_draw (aCons (eV 0) (aCons (eC (.int 60)) (aNil)))))
    (sSeq (sIf (tAndD (tBl (eOp2 dLt (eV 2) (eC (.int 2)))) (tBl (eOp2 dLt (eOp2S dIxT (eV 1) (eC (.int 0))) (eOp2S dIxT (eV 1) (eC (.int 1))))))
    (sRet (eV 1))
    (sSkip))
    (sSeq (sIf (tAndD (tBl (eOp2 dLt (eV 2) (eC (.int 4)))) (tBl (eOp2 dGt (eOp2S dIxT (eV 1) (eC (.int 0))) (eC (.int 0)))))
    (sRet (eCall D__law_lowest (aCons (eOp2 dSub (eOp2 dMul (eOp2S dIxT (eV 1) (eC (.int 0))) (eV 4)) (eC (.int 1))) (aCons (eOp2 dMul (eOp2S dIxT (eV 1) (eC (.int 1))) (eV 4)) (aNil)))))
    (sSkip))
    (sSeq (sIf (tBl (eOp2 dLt (eV 2) (eC (.int 6))))
    (sRet (eOp2S dIxT (eLst (aCons (eTup (aCons (eC (.int 0)) (aCons (eC (.int 1)) (aNil)))) (aCons (eTup (aCons (eOp2 dSub (eV 3) (eC (.int 2))) (aCons (eOp2 dSub (eV 3) (eC (.int 1))) (aNil)))) (aNil)))) (eOp2 dSub (eV 2) (eC (.int 4)))))
    (sSkip))
    (sRet (eOp2S dIxT (eLst (aCons (eCall D__law_lowest (aCons (eV 6) (aCons (eV 5) (aNil)))) (aCons (eCall D__law_lowest (aCons (eV 7) (aCons (eC (.int 60)) (aNil)))) (aNil)))) (eOp2 dSub (eV 2) (eC (.int 6))))))))))))))
theorem ok__law_share (Z : Facts K mg base) : DFn P w K mg base 2 "_law_share" 2 D__law_share false := by
  obtain ⟨f, fd, F, gx⟩ := Z.f__law_share
  refine DFn.mk' F sc__law_share gx (F.binds (ps := ["_law_pen_here", "_law_chance_here"]) fun _ _ _ _ _ _ us hl => match us, hl with | [_, _], _ => rfl) rfl (fun X E hK hM hX hr hg => ?_) (fun z => Bool.noConfusion z)
  obtain ⟨cdv, A, outer, s, H, rfl⟩ := hX
  exact s_cons (s_set (i := 2) (e_call (ok__law_draw Z) (hr.mono (by decide)) hg (takes_of rfl rfl rfl rfl) (a_cons (e_var 0) (a_cons (e_int) (a_nil)))) sc__law_share.nd)
    (s_cons (s_set (i := 3) (e_call (ok__law_great Z) (hr.mono (by decide)) hg (takes_of rfl rfl rfl rfl) (a_cons (e_ixT (e_ofF (f_lst (a_cons (e_int) (a_cons (e_int) (a_nil))))) (e_callTy c_int v_int Z.b_int (a_cons (e_cmp (op_eqA (hu64 hr)) v_eq (e_call (ok__law_draw Z) (hr.mono (by decide)) hg (takes_of rfl rfl rfl rfl) (a_cons (e_var 0) (a_cons (e_int) (a_nil)))) (e_int) rfl) (a_nil)))) (a_nil))) sc__law_share.nd)
    (s_cons (s_set (i := 4) (e_ixT (e_ofF (f_lst (a_cons (e_int) (a_cons (e_int) (a_cons (e_op2 op_powX v_pow (e_int) (e_int)) (a_cons (e_var 3) (a_nil))))))) (e_call (ok__law_draw Z) (hr.mono (by decide)) hg (takes_of rfl rfl rfl rfl) (a_cons (e_var 0) (a_cons (e_int) (a_nil))))) sc__law_share.nd)
    (s_cons (s_set (i := 5) (e_op2 op_addA v_add (e_int) (e_op2 op_mulA v_mul (e_call (ok__law_draw Z) (hr.mono (by decide)) hg (takes_of rfl rfl rfl rfl) (a_cons (e_var 0) (a_cons (e_op2 op_powX v_pow (e_int) (e_int)) (a_nil)))) (e_ixT (e_ofF (f_lst (a_cons (e_int) (a_cons (e_op2 op_powX v_pow (e_int) (e_int)) (a_cons (e_op2 op_powX v_pow (e_int) (e_int)) (a_cons (e_var 3) (a_nil))))))) (e_call (ok__law_draw Z) (hr.mono (by decide)) hg (takes_of rfl rfl rfl rfl) (a_cons (e_var 0) (a_cons (e_int) (a_nil))))))) sc__law_share.nd)
    (s_cons (s_set (i := 6) (e_op2 op_modN v_mod (e_op2 op_fdivX v_fdiv (e_op2 op_mulA v_mul (e_call (ok__law_draw Z) (hr.mono (by decide)) hg (takes_of rfl rfl rfl rfl) (a_cons (e_var 0) (a_cons (e_op2 op_powX v_pow (e_int) (e_int)) (a_nil)))) (e_var 3)) (e_op2 op_powX v_pow (e_int) (e_int))) (e_var 5)) sc__law_share.nd)
    (s_cons (s_set (i := 7) (e_call (ok__law_draw Z) (hr.mono (by decide)) hg (takes_of rfl rfl rfl rfl) (a_cons (e_var 0) (a_cons (e_int) (a_nil)))) sc__law_share.nd)
    (s_cons (s_if (PW.pt (w_and (t_cmp op_lt v_lt (e_var 2) (e_int) rfl) (w_and1 (t_cmp op_lt v_lt (e_ixT (e_var 1) (e_int)) (e_ixT (e_var 1) (e_int)) rfl))))
    (s_one (s_ret (e_var 1)))
    (s_nil))
    (s_cons (s_if (PW.pt (w_and (t_cmp op_lt v_lt (e_var 2) (e_int) rfl) (w_and1 (t_cmp op_gt v_gt (e_ixT (e_var 1) (e_int)) (e_int) rfl))))
    (s_one (s_ret (e_call (ok__law_lowest Z) (hr.mono (by decide)) hg (takes_of rfl rfl rfl rfl) (a_cons (e_op2 op_sub v_sub (e_op2 op_mulA v_mul (e_ixT (e_var 1) (e_int)) (e_var 4)) (e_int)) (a_cons (e_op2 op_mulA v_mul (e_ixT (e_var 1) (e_int)) (e_var 4)) (a_nil))))))
    (s_nil))
    (s_cons (s_if (t_cmp op_lt v_lt (e_var 2) (e_int) rfl)
    (s_one (s_ret (e_ixT (e_ofF (f_lst (a_cons (e_tup (a_cons (e_int) (a_cons (e_int) (a_nil)))) (a_cons (e_tup (a_cons (e_op2 op_sub v_sub (e_var 3) (e_int)) (a_cons (e_op2 op_sub v_sub (e_var 3) (e_int)) (a_nil)))) (a_nil))))) (e_op2 op_sub v_sub (e_var 2) (e_int)))))
    (s_nil))
    (s_one (s_ret (e_ixT (e_ofF (f_lst (a_cons (e_call (ok__law_lowest Z) (hr.mono (by decide)) hg (takes_of rfl rfl rfl rfl) (a_cons (e_var 6) (a_cons (e_var 5) (a_nil)))) (a_cons (e_call (ok__law_lowest Z) (hr.mono (by decide)) hg (takes_of rfl rfl rfl rfl) (a_cons (e_var 7) (a_cons (e_int) (a_nil)))) (a_nil))))) (e_op2 op_sub v_sub (e_var 2) (e_int)))))))))))))
abbrev s__law_word : Stmt := topS 35
theorem sc__law_word : FnScope ["_law_ask", "_law_caught", "e", "_law_marks", "_law_others"] ["_law_ask"] (defScope s__law_word) := ⟨rfl, rfl, rfl, by decide +kernel, rfl, by decide +kernel, by decide +kernel⟩
def D__law_word : Res D → Res D := actD 5 xtb "WalkError" 2 1 (sSeq (sIf (tBl (eOp2 dIs (eV 1) (eC .non)))
    (sRet (eC (.str "answer")))
    (sSkip))
    (sSeq (sSet 3 (eLst (aCons (eB (dIsX xtb) (aCons (eV 1) (aCons (eC (.glb "NoDice")) (aNil)))) (aCons (eB (dIsX xtb) (aCons (eV 1) (aCons (eC (.glb "TooMany")) (aNil)))) (aCons (eB (dIsX xtb) (aCons (eV 1) (aCons (eC (.glb "NoBack")) (aNil)))) (aNil))))))
    (sSeq (sSet 4 (eB (dIsX xtb) (aCons (eV 1) (aCons (eTup (aCons (eC (.glb "NoRatio")) (aCons (eC (.glb "NoRow")) (aCons (eC (.glb "NoText")) (aCons (eC (.glb "NoWalk")) (aCons (eC (.glb "StepsBack")) (aNil))))))) (aNil)))))
    (sSeq (sIf (tOrD (tTru (eV 4)) (tOrD (tBl (eOp2 dNe (eCnt (eV 3) (eC (.bl true))) (eC (.int 1)))) (tNotD (tTru (eB (dIsX xtb) (aCons (eV 1) (aCons (eC (.ty "ValueError")) (aNil))))))))
    (sRet (eC (.str "odd")))
    (sSkip))
    (sRet (eOp2S dIxT (eLst (aCons (eC (.str "dice")) (aCons (eC (.str "many")) (aCons (eC (.str "back")) (aNil))))) (eIdx (eV 3) (eC (.bl true)))))))))
theorem ok__law_word (Z : Facts K mg base) : DAct P w K mg base 1 "_law_word" D__law_word := by
  obtain ⟨f, fd, F, gx⟩ := Z.f__law_word
  refine ⟨f, fd, "_law_ask", gx, F.kp, F.binds (ps := ["_law_ask"]) fun _ _ _ _ _ _ us hl => match us, hl with | [_], _ => rfl, by decide, by decide, ?_⟩
  refine act_mk (i := 2) (j := 1) F sc__law_word Z.xt (kv_some Z.k_WalkError) rfl rfl rfl rfl (by decide) (by decide) (by first | exact Or.inl rfl | exact Or.inr (Or.inl rfl) | exact Or.inr (Or.inr rfl)) rfl rfl (fun _ _ _ => rfl) rfl (by decide) (by decide) (by decide) (fun _ => rfl) (fun _ => rfl) (fun _ => rfl) (fun X E hK hM hX hr hg => ?_)
  obtain ⟨cdv, A, outer, s, H, rfl⟩ := hX
  exact s_cons (s_if (t_cmp op_isA v_is (e_var 1) (e_non) rfl)
    (s_one (s_ret (e_str)))
    (s_nil))
    (s_cons (s_set (i := 3) (e_ofF (f_lst (a_cons (e_callB c_isX (v_isX Z.xt Z.b_ValueError) Z.b_isinstance (a_cons (e_var 1) (a_cons (e_kst Z.k_NoDice) (a_nil)))) (a_cons (e_callB c_isX (v_isX Z.xt Z.b_ValueError) Z.b_isinstance (a_cons (e_var 1) (a_cons (e_kst Z.k_TooMany) (a_nil)))) (a_cons (e_callB c_isX (v_isX Z.xt Z.b_ValueError) Z.b_isinstance (a_cons (e_var 1) (a_cons (e_kst Z.k_NoBack) (a_nil)))) (a_nil)))))) sc__law_word.nd)
    (s_cons (s_set (i := 4) (e_callB c_isX (v_isX Z.xt Z.b_ValueError) Z.b_isinstance (a_cons (e_var 1) (a_cons (e_tup (a_cons (e_kst Z.k_NoRatio) (a_cons (e_kst Z.k_NoRow) (a_cons (e_kst Z.k_NoText) (a_cons (e_kst Z.k_NoWalk) (a_cons (e_kst Z.k_StepsBack) (a_nil))))))) (a_nil)))) sc__law_word.nd)
    (s_cons (s_if (PW.pt (w_or (t_truth (e_var 4)) (w_or (t_cmp (op_neA (hu64 hr)) v_ne (e_cnt (hu65 hr) (e_var 3) (e_bl)) (e_int) rfl) (w_or1 (t_not (t_truth (e_callB c_isX (v_isX Z.xt Z.b_ValueError) Z.b_isinstance (a_cons (e_var 1) (a_cons (e_ty Z.b_ValueError) (a_nil))))))))))
    (s_one (s_ret (e_str)))
    (s_nil))
    (s_one (s_ret (e_ixT (e_ofF (f_lst (a_cons (e_str) (a_cons (e_str) (a_cons (e_str) (a_nil)))))) (e_idx (hu65 hr) (e_var 3) (e_bl))))))))
abbrev s__law_begun : Stmt := topS 36
theorem sc__law_begun : FnScope ["_law_stand_here", "_law_row", "_law_cell"] ["_law_stand_here"] (defScope s__law_begun) := ⟨rfl, rfl, rfl, by decide +kernel, rfl, by decide +kernel, by decide +kernel⟩
def D__law_begun : DFun := defD 3 1 (sSeq (sOwn 1 (eLst (aNil)))
    (sSeq (sFor [2] (iRange1 (aCons (eLenT (aCons (eV 0) (aNil))) (aNil))) (gN 2)
    (sApp 1 (eOp2 dMul (eB dSumT (aCons (eSl (eV 0) (oSome (eV 2)) (oNone)) (aNil))) (eOp2S dIxT (eV 0) (eV 2)))))
    (sRet (eTup (aCons (bor flat 1 (eB dTupOf (aCons (eV 1) (aNil)))) (aCons (ePub (eLst (aNil))) (aCons (eOp2 dAdd (eB dSumT (aCons (eV 0) (aNil))) (eC (.int 1))) (aNil))))))))
theorem ok__law_begun (Z : Facts K mg base) : DFn P w K mg base 1 "_law_begun" 1 D__law_begun false := by
  obtain ⟨f, fd, F, gx⟩ := Z.f__law_begun
  refine DFn.mk' F sc__law_begun gx (F.binds (ps := ["_law_stand_here"]) fun _ _ _ _ _ _ us hl => match us, hl with | [_], _ => rfl) rfl (fun X E hK hM hX hr hg => ?_) (fun z => Bool.noConfusion z)
  obtain ⟨cdv, A, outer, s, H, rfl⟩ := hX
  exact s_cons (s_own (i := 1) (f_lst (a_nil)) sc__law_begun.nd)
    (s_cons (s_for (vs := [2]) [2] (passes_of rfl) rfl (i_range1 Z.b_range (a_cons (e_lenT Z.b_len (a_cons (e_var 0) (a_nil))) (a_nil))) (g_name 2 sc__law_begun.nd)
    (s_one (s_app 1 (e_op2 op_mulA v_mul (e_callB (cr_sumTp rfl) v_sumTp Z.b_sum (a_cons (e_slice (e_var 0) (o_some (e_var 2)) (o_none)) (a_nil))) (e_ixT (e_var 0) (e_var 2))))))
    (s_one (s_ret (e_tup (a_cons (e_bor 1 (e_callTy c_tup v_tup Z.b_tuple (a_cons (e_var 1) (a_nil)))) (a_cons (e_pub (f_lst (a_nil))) (a_cons (e_op2 op_addA v_add (e_callB (cr_sumTp rfl) v_sumTp Z.b_sum (a_cons (e_var 0) (a_nil))) (e_int)) (a_nil))))))))
abbrev s__law_done : Stmt := topS 37
theorem sc__law_done : FnScope ["_law_walk_here", "_law_state", "_law_die", "_law_row", "_law_out", "_law_coming", "_law_border", "_law_share_here", "_law_there", "_law_chance_here", "_law_word_here", "_law_later", "_law_one"] ["_law_walk_here", "_law_state", "_law_die"] (defScope s__law_done) := ⟨rfl, rfl, rfl, by decide +kernel, rfl, by decide +kernel, by decide +kernel⟩
def D__law_done : DFun := defD 13 3 (sSeq (sUnp (gT 3 (gsCons (gN 3) (gsCons (gN 4) (gsCons (gN 5) (gsNil))))) (eV 1))
    (sSeq (sUnp (gT 2 (gsCons (gN 6) (gsCons (gN 7) (gsNil)))) (eV 2))
    (sSeq (sUnp (gT 2 (gsCons (gN 8) (gsCons (gN 9) (gsNil)))) (eOp2S dIxT (eCall D__law_next (aCons (eV 0) (aCons (eB dTupOf (aCons (eComp [12] (iVal (eV 3)) (gN 12) (tAll) (eB dInt (aCons (eOp2 dGt (eV 12) (eC (.int 0))) (aNil)))) (aNil))) (aNil)))) (eV 6)))
    (sSeq (sIf (tBl (eOp2 dGe (eOp2 dMul (eOp2S dIxT (eV 7) (eC (.int 0))) (eOp2S dIxT (eV 9) (eC (.int 1)))) (eOp2 dMul (eOp2S dIxT (eV 9) (eC (.int 0))) (eOp2S dIxT (eV 7) (eC (.int 1))))))
    (sRet (eTup (aCons (eTup (aCons (eC (.str "stay")) (aCons (eC (.int 0)) (aNil)))) (aCons (eV 1) (aNil)))))
    (sSkip))
    (sSeq (sIf (tBl (eOp2 dEq (eV 6) (eC (.int 0))))
    (sRet (eTup (aCons (eTup (aCons (eC (.str "come")) (aCons (eV 5) (aNil)))) (aCons (eTup (aCons (eOp2 dAdd (eTup (aCons (eV 5) (aNil))) (eSl (eV 3) (oSome (eC (.int 1))) (oNone))) (aCons (eV 4) (aCons (eOp2 dAdd (eV 5) (eC (.int 1))) (aNil))))) (aNil)))))
    (sSkip))
    (sSeq (sIf (tBl (eOp2 dEq (eV 6) (eOp2S dIxT (eV 0) (eC (.int 0)))))
    (sRet (eTup (aCons (eTup (aCons (eC (.str "go")) (aCons (eOp2S dIxT (eV 3) (eOp1 dNeg (eC (.int 1)))) (aNil)))) (aCons (eTup (aCons (eOp2 dAdd (eSl (eV 3) (oNone) (oSome (eOp1 dNeg (eC (.int 1))))) (eTup (aCons (eC (.int 0)) (aNil)))) (aCons (ePub (eOp2S dAddT (eV 4) (eLst (aCons (eOp2S dIxT (eV 3) (eOp1 dNeg (eC (.int 1)))) (aNil))))) (aCons (eV 5) (aNil))))) (aNil)))))
    (sSkip))
    (sSeq (sSet 10 (eOp2S dIxT (eLst (aCons (eC (.str "back")) (aCons (eC (.str "on")) (aNil)))) (eB dInt (aCons (eOp2 dGt (eOp2S dIxT (eV 3) (eOp2 dSub (eV 6) (eC (.int 1)))) (eC (.int 0))) (aNil)))))
    (sSeq (sSet 11 (eOp2 dAdd (eOp2 dAdd (eSl (eV 3) (oNone) (oSome (eOp2 dSub (eV 6) (eC (.int 1))))) (eTup (aCons (eOp2S dIxT (eV 3) (eV 6)) (aCons (eOp2S dIxT (eV 3) (eOp2 dSub (eV 6) (eC (.int 1)))) (aNil))))) (eSl (eV 3) (oSome (eOp2 dAdd (eV 6) (eC (.int 1)))) (oNone))))
    (sRet (eTup (aCons (eTup (aCons (eV 10) (aCons (eB dMax (aCons (eOp2S dIxT (eV 3) (eOp2 dSub (eV 6) (eC (.int 1)))) (aCons (eOp2S dIxT (eV 3) (eV 6)) (aNil)))) (aNil)))) (aCons (eTup (aCons (eV 11) (aCons (eV 4) (aCons (eV 5) (aNil))))) (aNil)))))))))))))
theorem ok__law_done (Z : Facts K mg base) : DFn P w K mg base 2 "_law_done" 3 D__law_done false := by
  obtain ⟨f, fd, F, gx⟩ := Z.f__law_done
  refine DFn.mk' F sc__law_done gx (F.binds (ps := ["_law_walk_here", "_law_state", "_law_die"]) fun _ _ _ _ _ _ us hl => match us, hl with | [_, _, _], _ => rfl) rfl (fun X E hK hM hX hr hg => ?_) (fun z => Bool.noConfusion z)
  obtain ⟨cdv, A, outer, s, H, rfl⟩ := hX
  exact s_cons (s_unp [3, 4, 5] (e_var 1) (g_tup (n := 3) rfl (gs_cons (g_name 3 sc__law_done.nd) (gs_cons (g_name 4 sc__law_done.nd) (gs_cons (g_name 5 sc__law_done.nd) (gs_nil))))))
    (s_cons (s_unp [6, 7] (e_var 2) (g_tup (n := 2) rfl (gs_cons (g_name 6 sc__law_done.nd) (gs_cons (g_name 7 sc__law_done.nd) (gs_nil)))))
    (s_cons (s_unp [8, 9] (e_ixT (e_ofF (f_call (ok__law_next Z) (hr.mono (by decide)) hg (takes_of rfl rfl rfl rfl) (a_cons (e_var 0) (a_cons (e_callTy c_tup v_tup Z.b_tuple (a_cons (e_ofF (f_comp [("_law_one", 12)] rfl sc__law_done.nd (i_val (e_var 3)) (blkOk_by (by change blkC ["_law_walk_here", "_law_state", "_law_die", "_law_row", "_law_out", "_law_coming", "_law_border", "_law_share_here", "_law_there", "_law_chance_here", "_law_word_here", "_law_later", "_law_one"] (defScope s__law_done) _ _ = true; decide +kernel)) (fun _ _ _ _ _ => g_name 12 sc__law_done.nd) (fun _ _ _ _ _ => ts_nil) (fun _ _ _ _ _ => e_callTy c_int v_int Z.b_int (a_cons (e_cmp op_gt v_gt (e_var 12) (e_int) rfl) (a_nil))))) (a_nil))) (a_nil))))) (e_var 6)) (g_tup (n := 2) rfl (gs_cons (g_name 8 sc__law_done.nd) (gs_cons (g_name 9 sc__law_done.nd) (gs_nil)))))
    (s_cons (s_if (t_cmp op_ge v_ge (e_op2 op_mulA v_mul (e_ixT (e_var 7) (e_int)) (e_ixT (e_var 9) (e_int))) (e_op2 op_mulA v_mul (e_ixT (e_var 9) (e_int)) (e_ixT (e_var 7) (e_int))) rfl)
    (s_one (s_ret (e_tup (a_cons (e_tup (a_cons (e_str) (a_cons (e_int) (a_nil)))) (a_cons (e_var 1) (a_nil))))))
    (s_nil))
    (s_cons (s_if (t_cmp (op_eqA (hu64 hr)) v_eq (e_var 6) (e_int) rfl)
    (s_one (s_ret (e_tup (a_cons (e_tup (a_cons (e_str) (a_cons (e_var 5) (a_nil)))) (a_cons (e_tup (a_cons (e_op2 op_addA v_add (e_tup (a_cons (e_var 5) (a_nil))) (e_slice (e_var 3) (o_some (e_int)) (o_none))) (a_cons (e_var 4) (a_cons (e_op2 op_addA v_add (e_var 5) (e_int)) (a_nil))))) (a_nil))))))
    (s_nil))
    (s_cons (s_if (t_cmp (op_eqA (hu64 hr)) v_eq (e_var 6) (e_ixT (e_var 0) (e_int)) rfl)
    (s_one (s_ret (e_tup (a_cons (e_tup (a_cons (e_str) (a_cons (e_ixT (e_var 3) (e_neg (e_int))) (a_nil)))) (a_cons (e_tup (a_cons (e_op2 op_addA v_add (e_slice (e_var 3) (o_none) (o_some (e_neg (e_int)))) (e_tup (a_cons (e_int) (a_nil)))) (a_cons (e_pub (f_addT op_cat (e_var 4) (e_ofF (f_lst (a_cons (e_ixT (e_var 3) (e_neg (e_int))) (a_nil)))))) (a_cons (e_var 5) (a_nil))))) (a_nil))))))
    (s_nil))
    (s_cons (s_set (i := 10) (e_ixT (e_ofF (f_lst (a_cons (e_str) (a_cons (e_str) (a_nil))))) (e_callTy c_int v_int Z.b_int (a_cons (e_cmp op_gt v_gt (e_ixT (e_var 3) (e_op2 op_sub v_sub (e_var 6) (e_int))) (e_int) rfl) (a_nil)))) sc__law_done.nd)
    (s_cons (s_set (i := 11) (e_op2 op_addA v_add (e_op2 op_addA v_add (e_slice (e_var 3) (o_none) (o_some (e_op2 op_sub v_sub (e_var 6) (e_int)))) (e_tup (a_cons (e_ixT (e_var 3) (e_var 6)) (a_cons (e_ixT (e_var 3) (e_op2 op_sub v_sub (e_var 6) (e_int))) (a_nil))))) (e_slice (e_var 3) (o_some (e_op2 op_addA v_add (e_var 6) (e_int))) (o_none))) sc__law_done.nd)
    (s_one (s_ret (e_tup (a_cons (e_tup (a_cons (e_var 10) (a_cons (e_callB (c_max rfl) v_max Z.b_max (a_cons (e_ixT (e_var 3) (e_op2 op_sub v_sub (e_var 6) (e_int))) (a_cons (e_ixT (e_var 3) (e_var 6)) (a_nil)))) (a_nil)))) (a_cons (e_tup (a_cons (e_var 11) (a_cons (e_var 4) (a_cons (e_var 5) (a_nil))))) (a_nil)))))))))))))
abbrev s__law_stands : Stmt := topS 38
theorem sc__law_stands : FnScope ["_law_street", "_law_state", "_law_answer"] ["_law_street", "_law_state"] (defScope s__law_stands) := ⟨rfl, rfl, rfl, by decide +kernel, rfl, by decide +kernel, by decide +kernel⟩
def D__law_stands : DFun := defD 3 2 (sSeq (sOwn 2 (eMeth "Street" "gone" D_Street_gone (eV 0) aNil))
    (sSeq (sIf (tOrD (tBl (eOp2 dNe (eB (dRepr 12900) (aCons (eMeth "Street" "row" D_Street_row (eV 0) aNil) (aNil))) (eB (dRepr 12900) (aCons (eOp2S dIxT (eV 1) (eC (.int 0))) (aNil))))) (tOrD (tNotD (tTru (bor flat 2 (eB dIsi (aCons (eV 2) (aCons (eC (.ty "list")) (aNil))))))) (tBl (eOp2 dNe (bor flat 2 (eB (dRepr 12900) (aCons (eV 2) (aNil)))) (eRepT 1920 (aCons (eOp2S dIxT (eV 1) (eC (.int 1))) (aNil)))))))
    (sRet (eC (.bl false)))
    (sSkip))
    (sSeq (sApp 2 (eC (.int 0)))
    (sRet (eOp2S dEqR (eMeth "Street" "gone" D_Street_gone (eV 0) aNil) (eOp2S dIxT (eV 1) (eC (.int 1))))))))
theorem ok__law_stands (Z : Facts K mg base) : DFn P w K mg base 2 "_law_stands" 2 D__law_stands false := by
  obtain ⟨f, fd, F, gx⟩ := Z.f__law_stands
  refine DFn.mk' F sc__law_stands gx (F.binds (ps := ["_law_street", "_law_state"]) fun _ _ _ _ _ _ us hl => match us, hl with | [_, _], _ => rfl) rfl (fun X E hK hM hX hr hg => ?_) (fun z => Bool.noConfusion z)
  obtain ⟨cdv, A, outer, s, H, rfl⟩ := hX
  exact s_cons (s_own (i := 2) (f_meth0 (ok_Street_gone Z) (hr.mono (by decide)) hg (takes_of rfl rfl rfl rfl) (e_var 0)) sc__law_stands.nd)
    (s_cons (s_if (PW.pt (w_or (t_cmp (op_neA (hu64 hr)) v_ne (e_callB (c_reprG Z.dg hg (hu94 hr)) v_repr Z.b_repr (a_cons (e_meth0 (ok_Street_row Z) (hr.mono (by decide)) hg (takes_of rfl rfl rfl rfl) (e_var 0)) (a_nil))) (e_callB (c_reprG Z.dg hg (hu94 hr)) v_repr Z.b_repr (a_cons (e_ixT (e_var 1) (e_int)) (a_nil))) rfl) (w_or (t_not (t_truth (e_bor 2 (e_callB call_isi v_isi Z.b_isinstance (a_cons (e_var 2) (a_cons (e_ty Z.b_list) (a_nil))))))) (w_or1 (t_cmp (op_neA (hu64 hr)) v_ne (e_bor 2 (e_callB (c_reprG Z.dg hg (hu94 hr)) v_repr Z.b_repr (a_cons (e_var 2) (a_nil)))) (e_repT (c_reprL (.inl (Nat.le_refl _)) hg (hu94 hr)) Z.b_repr (a_cons (e_ixT (e_var 1) (e_int)) (a_nil))) rfl)))))
    (s_one (s_ret (e_bl)))
    (s_nil))
    (s_cons (s_app 2 (e_int))
    (s_one (s_ret (e_cmpS (op_eqA (hu64 hr)) v_eqR (e_ofF (f_meth0 (ok_Street_gone Z) (hr.mono (by decide)) hg (takes_of rfl rfl rfl rfl) (e_var 0))) (e_ixT (e_var 1) (e_int)) rfl)))))
abbrev s__law_taken_back : Stmt := topS 39
theorem sc__law_taken_back : FnScope ["_law_street", "_law_states"] ["_law_street", "_law_states"] (defScope s__law_taken_back) := ⟨rfl, rfl, rfl, by decide +kernel, rfl, by decide +kernel, by decide +kernel⟩
def D__law_taken_back : DFun := defD 2 2 (sSeq (sIf (tBl (eOp2 dEq (eLenT (aCons (eV 1) (aNil))) (eC (.int 1))))
    (sRet (eOp2 dEq (eLam D__law_word (eMeth "Street" "back" D_Street_back (eV 0) aNil)) (eC (.str "back"))))
    (sSkip))
    (sSeq (sExpr (ePop0T (eV 1)))
    (sRet (eOp2 dEq (eB (dRepr 12900) (aCons (eMeth "Street" "back" D_Street_back (eV 0) aNil) (aNil))) (eB (dRepr 12900) (aCons (eOp2S dIxT (eOp2S dIxT (eV 1) (eOp1 dNeg (eC (.int 1)))) (eC (.int 0))) (aNil)))))))
theorem ok__law_taken_back (Z : Facts K mg base) : DFn P w K mg base 4 "_law_taken_back" 2 D__law_taken_back false := by
  obtain ⟨f, fd, cc, PP, LA⟩ := Z.f__law_taken_back
  refine DFn.mkC LA.fn sc__law_taken_back LA.gx (LA.fn.binds (ps := ["_law_street", "_law_states"]) fun _ _ _ _ _ _ us hl => match us, hl with | [_, _], _ => rfl) rfl (fun X E hK hM hX hc hr hg => ?_) (fun z => Bool.noConfusion z)
  obtain ⟨cdv, A, outer, s, H, rfl⟩ := hX
  exact s_cons (s_if (t_cmp (op_eqA (hu64 hr)) v_eq (e_lenT Z.b_len (a_cons (e_var 1) (a_nil))) (e_int) rfl)
    (s_one (s_ret (e_cmp (op_eqA (hu64 hr)) v_eq (e_lam (ok__law_word Z) (hr.mono (by decide)) (j := 1) (hr.mono (by decide)) hg (takes_of rfl rfl rfl rfl) LA.tb (hc.trans LA.code) LA.mem LA.uni (LamX.lamS_by (by change LamX.lamSB (defScope s__law_taken_back) _ = true; decide +kernel)) (fun Y h1 h2 h3 hr hg E tk => by obtain ⟨f, c', A, outer, s, H, E0, rfl⟩ := h3; exact e_meth0 (ok_Street_back Z) (hr.mono (by decide)) hg tk (e_var 0))) (e_str) rfl)))
    (s_nil))
    (s_cons (s_expr (e_pop0T (e_var 1)))
    (s_one (s_ret (e_cmp (op_eqA (hu64 hr)) v_eq (e_callB (c_reprG Z.dg hg (hu94 hr)) v_repr Z.b_repr (a_cons (e_meth0 (ok_Street_back Z) (hr.mono (by decide)) hg (takes_of rfl rfl rfl rfl) (e_var 0)) (a_nil))) (e_callB (c_reprG Z.dg hg (hu94 hr)) v_repr Z.b_repr (a_cons (e_ixT (e_ixT (e_var 1) (e_neg (e_int))) (e_int)) (a_nil))) rfl))))
abbrev s__law_deed : Stmt := topS 40
theorem sc__law_deed : FnScope ["_law_pen_here", "_law_walk_here", "_law_street", "_law_states", "_law_way", "_law_bad", "_law_border_way", "_law_some", "_law_border", "_law_there", "_law_chance_here", "_law_die", "_law_odd", "_law_due", "_law_state", "_law_one"] ["_law_pen_here", "_law_walk_here", "_law_street", "_law_states"] (defScope s__law_deed) := ⟨rfl, rfl, rfl, by decide +kernel, rfl, by decide +kernel, by decide +kernel⟩
def D__law_deed : DFun := defD 16 4 (sSeq (sSet 4 (eCall D__law_draw (aCons (eV 0) (aCons (eC (.int 8)) (aNil)))))
    (sSeq (sSet 5 (eCall D__law_draw (aCons (eV 0) (aCons (eC (.int 8)) (aNil)))))
    (sSeq (sSet 6 (eCall D__law_draw (aCons (eV 0) (aCons (eC (.int 4)) (aNil)))))
    (sSeq (sSet 7 (eCall D__law_draw (aCons (eV 0) (aCons (eOp2 dAdd (eOp2S dIxT (eV 1) (eC (.int 0))) (eC (.int 1))) (aNil)))))
    (sSeq (sSet 8 (eOp2S dIxT (eLst (aCons (eC (.int 0)) (aCons (eOp2S dIxT (eV 1) (eC (.int 0))) (aCons (eV 7) (aCons (eV 7) (aNil)))))) (eV 6)))
    (sSeq (sUnp (gT 2 (gsCons (gN 9) (gsCons (gN 10) (gsNil)))) (eOp2S dIxT (eCall D__law_next (aCons (eV 1) (aCons (eB dTupOf (aCons (eComp [15] (iVal (eOp2S dIxT (eOp2S dIxT (eV 3) (eOp1 dNeg (eC (.int 1)))) (eC (.int 0)))) (gN 15) (tAll) (eB dInt (aCons (eOp2 dGt (eV 15) (eC (.int 0))) (aNil)))) (aNil))) (aNil)))) (eV 8)))
    (sSeq (sSet 11 (eTup (aCons (eV 8) (aCons (eCall D__law_share (aCons (eV 0) (aCons (eV 10) (aNil)))) (aNil)))))
    (sSeq (sSet 12 (eLst (aCons (eC .non) (aCons (eLst (aCons (eV 8) (aCons (eTup (aCons (eC (.int 0)) (aCons (eC (.int 1)) (aNil)))) (aNil)))) (aCons (eTup (aCons (eOp2 dAdd (eOp2S dIxT (eV 1) (eC (.int 0))) (eC (.int 1))) (aCons (eTup (aCons (eC (.int 0)) (aCons (eC (.int 1)) (aNil)))) (aNil)))) (aCons (eTup (aCons (eV 8) (aCons (eTup (aCons (eC (.int 1)) (aCons (eC (.int 1)) (aNil)))) (aNil)))) (aCons (eTup (aCons (eC (.bl true)) (aCons (eTup (aCons (eC (.int 0)) (aCons (eC (.int 1)) (aNil)))) (aNil)))) (aCons (eTup (aCons (eV 8) (aNil))) (aCons (eC (.str "0:0/1")) (aCons (eTup (aNil)) (aNil)))))))))))
    (sSeq (sIf (tBl (eOp2 dEq (eV 4) (eC (.int 0))))
    (sRet (eOp2 dEq (eLam D__law_word (eMeth "Street" "turn" D_Street_turn (eV 2) (aCons (eOp2S dIxT (eV 12) (eV 5)) (aNil)))) (eC (.str "dice"))))
    (sSkip))
    (sSeq (sIf (tBl (eOp2 dEq (eV 4) (eC (.int 1))))
    (sRet (eCall D__law_taken_back (aCons (eV 2) (aCons (eV 3) (aNil)))))
    (sSkip))
    (sSeq (sUnp (gT 2 (gsCons (gN 13) (gsCons (gN 14) (gsNil)))) (eCall D__law_done (aCons (eV 1) (aCons (eOp2S dIxT (eV 3) (eOp1 dNeg (eC (.int 1)))) (aCons (eV 11) (aNil))))))
    (sSeq (sAppT (eV 3) (eV 14))
    (sRet (eOp2 dEq (eB (dRepr 12900) (aCons (eMeth "Street" "turn" D_Street_turn (eV 2) (aCons (eV 11) (aNil))) (aNil))) (eB (dRepr 12900) (aCons (eV 13) (aNil)))))))))))))))))
theorem ok__law_deed (Z : Facts K mg base) : DFn P w K mg base 7 "_law_deed" 4 D__law_deed false := by
  obtain ⟨f, fd, cc, PP, LA⟩ := Z.f__law_deed
  refine DFn.mkC LA.fn sc__law_deed LA.gx (LA.fn.binds (ps := ["_law_pen_here", "_law_walk_here", "_law_street", "_law_states"]) fun _ _ _ _ _ _ us hl => match us, hl with | [_, _, _, _], _ => rfl) rfl (fun X E hK hM hX hc hr hg => ?_) (fun z => Bool.noConfusion z)
  obtain ⟨cdv, A, outer, s, H, rfl⟩ := hX
  exact s_cons (s_set (i := 4) (e_call (ok__law_draw Z) (hr.mono (by decide)) hg (takes_of rfl rfl rfl rfl) (a_cons (e_var 0) (a_cons (e_int) (a_nil)))) sc__law_deed.nd)
    (s_cons (s_set (i := 5) (e_call (ok__law_draw Z) (hr.mono (by decide)) hg (takes_of rfl rfl rfl rfl) (a_cons (e_var 0) (a_cons (e_int) (a_nil)))) sc__law_deed.nd)
    (s_cons (s_set (i := 6) (e_call (ok__law_draw Z) (hr.mono (by decide)) hg (takes_of rfl rfl rfl rfl) (a_cons (e_var 0) (a_cons (e_int) (a_nil)))) sc__law_deed.nd)
    (s_cons (s_set (i := 7) (e_call (ok__law_draw Z) (hr.mono (by decide)) hg (takes_of rfl rfl rfl rfl) (a_cons (e_var 0) (a_cons (e_op2 op_addA v_add (e_ixT (e_var 1) (e_int)) (e_int)) (a_nil)))) sc__law_deed.nd)
    (s_cons (s_set (i := 8) (e_ixT (e_ofF (f_lst (a_cons (e_int) (a_cons (e_ixT (e_var 1) (e_int)) (a_cons (e_var 7) (a_cons (e_var 7) (a_nil))))))) (e_var 6)) sc__law_deed.nd)
    (s_cons (s_unp [9, 10] (e_ixT (e_ofF (f_call (ok__law_next Z) (hr.mono (by decide)) hg (takes_of rfl rfl rfl rfl) (a_cons (e_var 1) (a_cons (e_callTy c_tup v_tup Z.b_tuple (a_cons (e_ofF (f_comp [("_law_one", 15)] rfl sc__law_deed.nd (i_val (e_ixT (e_ixT (e_var 3) (e_neg (e_int))) (e_int))) (blkOk_by (by change blkC ["_law_pen_here", "_law_walk_here", "_law_street", "_law_states", "_law_way", "_law_bad", "_law_border_way", "_law_some", "_law_border", "_law_there", "_law_chance_here", "_law_die", "_law_odd", "_law_due", "_law_state", "_law_one"] (defScope s__law_deed) _ _ = true; decide +kernel)) (fun _ _ _ _ _ => g_name 15 sc__law_deed.nd) (fun _ _ _ _ _ => ts_nil) (fun _ _ _ _ _ => e_callTy c_int v_int Z.b_int (a_cons (e_cmp op_gt v_gt (e_var 15) (e_int) rfl) (a_nil))))) (a_nil))) (a_nil))))) (e_var 8)) (g_tup (n := 2) rfl (gs_cons (g_name 9 sc__law_deed.nd) (gs_cons (g_name 10 sc__law_deed.nd) (gs_nil)))))
    (s_cons (s_set (i := 11) (e_tup (a_cons (e_var 8) (a_cons (e_call (ok__law_share Z) (hr.mono (by decide)) hg (takes_of rfl rfl rfl rfl) (a_cons (e_var 0) (a_cons (e_var 10) (a_nil)))) (a_nil)))) sc__law_deed.nd)
    (s_cons (s_set (i := 12) (e_ofF (f_lst (a_cons (e_non) (a_cons (e_ofF (f_lst (a_cons (e_var 8) (a_cons (e_tup (a_cons (e_int) (a_cons (e_int) (a_nil)))) (a_nil))))) (a_cons (e_tup (a_cons (e_op2 op_addA v_add (e_ixT (e_var 1) (e_int)) (e_int)) (a_cons (e_tup (a_cons (e_int) (a_cons (e_int) (a_nil)))) (a_nil)))) (a_cons (e_tup (a_cons (e_var 8) (a_cons (e_tup (a_cons (e_int) (a_cons (e_int) (a_nil)))) (a_nil)))) (a_cons (e_tup (a_cons (e_bl) (a_cons (e_tup (a_cons (e_int) (a_cons (e_int) (a_nil)))) (a_nil)))) (a_cons (e_tup (a_cons (e_var 8) (a_nil))) (a_cons (e_str) (a_cons (e_tup (a_nil)) (a_nil))))))))))) sc__law_deed.nd)
    (s_cons (s_if (t_cmp (op_eqA (hu64 hr)) v_eq (e_var 4) (e_int) rfl)
    (s_one (s_ret (e_cmp (op_eqA (hu64 hr)) v_eq (e_lam (ok__law_word Z) (hr.mono (by decide)) (j := 4) (hr.mono (by decide)) hg (takes_of rfl rfl rfl rfl) LA.tb (hc.trans LA.code) LA.mem LA.uni (LamX.lamS_by (by change LamX.lamSB (defScope s__law_deed) _ = true; decide +kernel)) (fun Y h1 h2 h3 hr hg E tk => by obtain ⟨f, c', A, outer, s, H, E0, rfl⟩ := h3; exact e_meth (ok_Street_turn Z) (hr.mono (by decide)) hg tk (e_var 2) (a_cons (e_ixT (e_var 12) (e_var 5)) (a_nil)))) (e_str) rfl)))
    (s_nil))
    (s_cons (s_if (t_cmp (op_eqA (hu64 hr)) v_eq (e_var 4) (e_int) rfl)
    (s_one (s_ret (e_call (ok__law_taken_back Z) (hr.mono (by decide)) hg (takes_of rfl rfl rfl rfl) (a_cons (e_var 2) (a_cons (e_var 3) (a_nil))))))
    (s_nil))
    (s_cons (s_unp [13, 14] (e_call (ok__law_done Z) (hr.mono (by decide)) hg (takes_of rfl rfl rfl rfl) (a_cons (e_var 1) (a_cons (e_ixT (e_var 3) (e_neg (e_int))) (a_cons (e_var 11) (a_nil))))) (g_tup (n := 2) rfl (gs_cons (g_name 13 sc__law_deed.nd) (gs_cons (g_name 14 sc__law_deed.nd) (gs_nil)))))
    (s_cons (s_appT (e_var 3) (e_var 14))
    (s_one (s_ret (e_cmp (op_eqA (hu64 hr)) v_eq (e_callB (c_reprG Z.dg hg (hu94 hr)) v_repr Z.b_repr (a_cons (e_meth (ok_Street_turn Z) (hr.mono (by decide)) hg (takes_of rfl rfl rfl rfl) (e_var 2) (a_cons (e_var 11) (a_nil))) (a_nil))) (e_callB (c_reprG Z.dg hg (hu94 hr)) v_repr Z.b_repr (a_cons (e_var 13) (a_nil))) rfl))))))))))))))
abbrev s_law : Stmt := topS 41
theorem sc_law : FnScope ["_law_script", "_law_pen_here", "_law_walks", "_law_firsts", "_law_streets", "_law_states", "_law_turn", "_law_at", "_law_k", "_law_walk_here", "_law_stand_here"] ["_law_script"] (defScope s_law) := ⟨rfl, rfl, rfl, by decide +kernel, rfl, by decide +kernel, by decide +kernel⟩
def D_law : DFun := defD 11 1 (sSeq (sSet 1 (eCall D__law_pen (aCons (eV 0) (aNil))))
    (sSeq (sSet 2 (eLst (aCons (eCall D__law_walk (aCons (eV 1) (aCons (eC (.int 1)) (aCons (eC (.int 12)) (aNil))))) (aCons (eCall D__law_walk (aCons (eV 1) (aCons (eC (.int 1)) (aCons (eC (.int 3)) (aNil))))) (aNil)))))
    (sSeq (sSet 3 (eComp [9] (iVal (eV 2)) (gN 9) (tAll) (eCall D__law_stand (aCons (eV 1) (aCons (eOp2S dIxT (eV 9) (eC (.int 0))) (aNil))))))
    (sSeq (sSet 4 (eComp [8] (iRange1 (aCons (eC (.int 2)) (aNil))) (gN 8) (tAll) (eMake "Street" D_Street___init__ (aCons (eOp2S dIxT (eV 2) (eV 8)) (aCons (eOp2S dIxT (eV 3) (eV 8)) (aNil))))))
    (sSeq (sSet 5 (eComp [10] (iVal (eV 3)) (gN 10) (tAll) (ePub (eLst (aCons (eCall D__law_begun (aCons (eV 10) (aNil))) (aNil))))))
    (sSeq (sFor [6, 7, 8] (iRange1 (aCons (eC (.int 40)) (aNil))) (gN 6)
    (sSeq (sSet 7 (eCall D__law_draw (aCons (eV 1) (aCons (eC (.int 2)) (aNil)))))
    (sSeq (sIf (tNotD (tTru (eCall D__law_deed (aCons (eV 1) (aCons (eOp2S dIxT (eV 2) (eV 7)) (aCons (eOp2S dIxT (eV 4) (eV 7)) (aCons (eOp2S dIxT (eV 5) (eV 7)) (aNil))))))))
    (sRet (eC (.bl false)))
    (sSkip))
    (sIf (tNotD (tTru (eB dAll (aCons (eComp [8] (iRange1 (aCons (eC (.int 2)) (aNil))) (gN 8) (tAll) (eCall D__law_stands (aCons (eOp2S dIxT (eV 4) (eV 8)) (aCons (eOp2S dIxT (eOp2S dIxT (eV 5) (eV 8)) (eOp1 dNeg (eC (.int 1)))) (aNil))))) (aNil)))))
    (sRet (eC (.bl false)))
    (sSkip)))))
    (sSeq (sFor [7, 8] (iRange1 (aCons (eC (.int 2)) (aNil))) (gN 7)
    (sFor [8] (iRange1 (aCons (eLenT (aCons (eOp2S dIxT (eV 5) (eV 7)) (aNil))) (aNil))) (gN 8)
    (sIf (tOrD (tNotD (tTru (eCall D__law_taken_back (aCons (eOp2S dIxT (eV 4) (eV 7)) (aCons (eOp2S dIxT (eV 5) (eV 7)) (aNil)))))) (tNotD (tTru (eCall D__law_stands (aCons (eOp2S dIxT (eV 4) (eV 7)) (aCons (eOp2S dIxT (eOp2S dIxT (eV 5) (eV 7)) (eOp1 dNeg (eC (.int 1)))) (aNil)))))))
    (sRet (eC (.bl false)))
    (sSkip))))
    (sRet (eAnd (eOp2 dEq (eMeth "Street" "row" D_Street_row (eOp2S dIxT (eV 4) (eC (.int 0))) aNil) (eOp2S dIxT (eCall D__law_begun (aCons (eOp2S dIxT (eV 3) (eC (.int 0))) (aNil))) (eC (.int 0)))) (eOp2 dEq (eMeth "Street" "gone" D_Street_gone (eOp2S dIxT (eV 4) (eC (.int 1))) aNil) (eLst (aNil))))))))))))
theorem ok_law (Z : Facts K mg base) {f : Addr} {fd : FuncData} (F : Fun K "law" "law" s_law f fd) : FnG P w K mg base 8 f fd ["_law_script"] (spD K mg D_law false 1) := by
  refine fnG_mk F sc_law rfl (fun X E hK hM hX hr hg => ?_) (fun z => Bool.noConfusion z)
  obtain ⟨cdv, A, outer, s, H, rfl⟩ := hX
  exact s_cons (s_set (i := 1) (e_call (ok__law_pen Z) (hr.mono (by decide)) hg (takes_of rfl rfl rfl rfl) (a_cons (e_var 0) (a_nil))) sc_law.nd)
    (s_cons (s_set (i := 2) (e_ofF (f_lst (a_cons (e_call (ok__law_walk Z) (hr.mono (by decide)) hg (takes_of rfl rfl rfl rfl) (a_cons (e_var 1) (a_cons (e_int) (a_cons (e_int) (a_nil))))) (a_cons (e_call (ok__law_walk Z) (hr.mono (by decide)) hg (takes_of rfl rfl rfl rfl) (a_cons (e_var 1) (a_cons (e_int) (a_cons (e_int) (a_nil))))) (a_nil))))) sc_law.nd)
    (s_cons (s_set (i := 3) (e_ofF (f_comp [("_law_walk_here", 9)] rfl sc_law.nd (i_val (e_var 2)) (blkOk_by (by change blkC ["_law_script", "_law_pen_here", "_law_walks", "_law_firsts", "_law_streets", "_law_states", "_law_turn", "_law_at", "_law_k", "_law_walk_here", "_law_stand_here"] (defScope s_law) _ _ = true; decide +kernel)) (fun _ _ _ _ _ => g_name 9 sc_law.nd) (fun _ _ _ _ _ => ts_nil) (fun _ _ _ _ _ => e_call (ok__law_stand Z) (hr.mono (by decide)) hg takes0 (a_cons (e_var 1) (a_cons (e_ixT (e_var 9) (e_int)) (a_nil)))))) sc_law.nd)
    (s_cons (s_set (i := 4) (e_ofF (f_comp [("_law_k", 8)] rfl sc_law.nd (i_range1 Z.b_range (a_cons (e_int) (a_nil))) (blkOk_by (by change blkC ["_law_script", "_law_pen_here", "_law_walks", "_law_firsts", "_law_streets", "_law_states", "_law_turn", "_law_at", "_law_k", "_law_walk_here", "_law_stand_here"] (defScope s_law) _ _ = true; decide +kernel)) (fun _ _ _ _ _ => g_name 8 sc_law.nd) (fun _ _ _ _ _ => ts_nil) (fun _ _ _ _ _ => e_make (ok_Street___init__ Z) (hr.mono (by decide)) hg takes0 (a_cons (e_ixT (e_var 2) (e_var 8)) (a_cons (e_ixT (e_var 3) (e_var 8)) (a_nil)))))) sc_law.nd)
    (s_cons (s_set (i := 5) (e_ofF (f_comp [("_law_stand_here", 10)] rfl sc_law.nd (i_val (e_var 3)) (blkOk_by (by change blkC ["_law_script", "_law_pen_here", "_law_walks", "_law_firsts", "_law_streets", "_law_states", "_law_turn", "_law_at", "_law_k", "_law_walk_here", "_law_stand_here"] (defScope s_law) _ _ = true; decide +kernel)) (fun _ _ _ _ _ => g_name 10 sc_law.nd) (fun _ _ _ _ _ => ts_nil) (fun _ _ _ _ _ => e_pub (f_lst (a_cons (e_call (ok__law_begun Z) (hr.mono (by decide)) hg takes0 (a_cons (e_var 10) (a_nil))) (a_nil)))))) sc_law.nd)
    (s_cons (s_for (vs := [6]) [6, 7, 8] (passes_of rfl) rfl (i_range1 Z.b_range (a_cons (e_int) (a_nil))) (g_name 6 sc_law.nd)
    (s_cons (s_set (i := 7) (e_call (ok__law_draw Z) (hr.mono (by decide)) hg (takes_of rfl rfl rfl rfl) (a_cons (e_var 1) (a_cons (e_int) (a_nil)))) sc_law.nd)
    (s_cons (s_if (t_not (t_truth (e_call (ok__law_deed Z) (hr.mono (by decide)) hg (takes_of rfl rfl rfl rfl) (a_cons (e_var 1) (a_cons (e_ixT (e_var 2) (e_var 7)) (a_cons (e_ixT (e_var 4) (e_var 7)) (a_cons (e_ixT (e_var 5) (e_var 7)) (a_nil))))))))
    (s_one (s_ret (e_bl)))
    (s_nil))
    (s_one (s_if (t_not (t_truth (e_callB (cr_all rfl) v_all Z.b_all (a_cons (e_ofF (f_comp [("_law_k", 8)] rfl sc_law.nd (i_range1 Z.b_range (a_cons (e_int) (a_nil))) (blkOk_by (by change blkC ["_law_script", "_law_pen_here", "_law_walks", "_law_firsts", "_law_streets", "_law_states", "_law_turn", "_law_at", "_law_k", "_law_walk_here", "_law_stand_here"] (defScope s_law) _ _ = true; decide +kernel)) (fun _ _ _ _ _ => g_name 8 sc_law.nd) (fun _ _ _ _ _ => ts_nil) (fun _ _ _ _ _ => e_call (ok__law_stands Z) (hr.mono (by decide)) hg takes0 (a_cons (e_ixT (e_var 4) (e_var 8)) (a_cons (e_ixT (e_ixT (e_var 5) (e_var 8)) (e_neg (e_int))) (a_nil)))))) (a_nil)))))
    (s_one (s_ret (e_bl)))
    (s_nil))))))
    (s_cons (s_for (vs := [7]) [7, 8] (passes_of rfl) rfl (i_range1 Z.b_range (a_cons (e_int) (a_nil))) (g_name 7 sc_law.nd)
    (s_one (s_for (vs := [8]) [8] (passes_of rfl) rfl (i_range1 Z.b_range (a_cons (e_lenT Z.b_len (a_cons (e_ixT (e_var 5) (e_var 7)) (a_nil))) (a_nil))) (g_name 8 sc_law.nd)
    (s_one (s_if (PW.pt (w_or (t_not (t_truth (e_call (ok__law_taken_back Z) (hr.mono (by decide)) hg (takes_of rfl rfl rfl rfl) (a_cons (e_ixT (e_var 4) (e_var 7)) (a_cons (e_ixT (e_var 5) (e_var 7)) (a_nil)))))) (w_or1 (t_not (t_truth (e_call (ok__law_stands Z) (hr.mono (by decide)) hg (takes_of rfl rfl rfl rfl) (a_cons (e_ixT (e_var 4) (e_var 7)) (a_cons (e_ixT (e_ixT (e_var 5) (e_var 7)) (e_neg (e_int))) (a_nil)))))))))
    (s_one (s_ret (e_bl)))
    (s_nil))))))
    (s_one (s_ret (e_and (e_cmp (op_eqA (hu64 hr)) v_eq (e_meth0 (ok_Street_row Z) (hr.mono (by decide)) hg (takes_of rfl rfl rfl rfl) (e_ixT (e_var 4) (e_int))) (e_ixT (e_call (ok__law_begun Z) (hr.mono (by decide)) hg (takes_of rfl rfl rfl rfl) (a_cons (e_ixT (e_var 3) (e_int)) (a_nil))) (e_int)) rfl) (e_one (e_cmp (op_eqA (hu64 hr)) v_eq (e_ofF (f_meth0 (ok_Street_gone Z) (hr.mono (by decide)) hg (takes_of rfl rfl rfl rfl) (e_ixT (e_var 4) (e_int)))) (e_ofF (f_lst (a_nil))) rfl)))))))))))
end
end LTS
theorem law_mk {l : PySem.W.OpenLaw} {w : World} {K : PySem.W.Frag} {h : Heap} {mg : Str → Option Value} {fa f : Addr} {oc kV dc pm cd ct : Value} {od an : Option Addr} {sl : Array (Option Value)} {c0 P0 : Addr} {c1 P1 : Addr} (X : K.In h) (G : h.Ns mainGlobals mg) (hfa : mg "law" = some (.ref fa))
    (t0 : PySem.W.tabIn K "_law_taken_back" = some (c0, P0)) (n0 : K.lookup P0 = none) (m0 : FnC K mg "_law_taken_back" (topS 39) c0)
    (t1 : PySem.W.tabIn K "_law_deed" = some (c1, P1)) (n1 : K.lookup P1 = none) (m1 : FnC K mg "_law_deed" (topS 40) c1)
    (u0_1 : P0 ≠ P1)
    (Z : Facts0 K mg) (a : PySem.W.nsIn K mainGlobals "law" = some (some (.ref f))) (l1 : K.lookup f = some ⟨oc, od, .func (PySem.W.fnOf "law" "law" (defArgs s_law) (defBody s_law) (defScope s_law) .none kV dc pm an cd ct), sl⟩) (c : PySem.W.codeIn K cd "law" = true) (k : PySem.W.keepIn K (.ref f) = true) :
    ∃ (cs : List (Addr × Addr)) (LT : LawT) (fd : FuncData), (∀ p ∈ cs, ∃ m ∈ (["_law_taken_back", "_law_deed"] : List Str), PySem.W.tabIn K m = some p) ∧ (∀ p ∈ cs, K.lookup p.2 = none) ∧ (∀ p ∈ LT.T, p.1 ∈ cs.map (·.2)) ∧ (∀ p ∈ cs, ∃ q, (p.2, q) ∈ LT.T) ∧
      (∀ (s : Shared) (u : Value), BindsTo s fd ⟨[u], []⟩ [("_law_script", u)]) ∧ ∀ base : Heap, K.In base → base.Ns mainGlobals mg → (∀ p ∈ cs, LamX.TabB base mg p.1 p.2) → FnG l.prog w K mg base 8 fa fd ["_law_script"] (@spD LT K mg D_law false 1) := by
  have e := hfa.symm.trans (PySem.W.mg_of X G a)
  cases e
  let LT0 : LawT := ⟨[(P0, ("_law_taken_back" : Str) ++ ".<locals>." ++ "<lambda>"), (P1, ("_law_deed" : Str) ++ ".<locals>." ++ "<lambda>")]⟩
  refine ⟨[(c0, P0), (c1, P1)], LT0, PySem.W.fnOf "law" "law" (defArgs s_law) (defBody s_law) (defScope s_law) .none kV dc pm an cd ct, (List.forall_mem_cons.mpr ⟨⟨_, List.mem_cons_self, t0⟩, (List.forall_mem_cons.mpr ⟨⟨_, (List.mem_cons_of_mem _ List.mem_cons_self), t1⟩, (fun _ h => nomatch h)⟩)⟩), (List.forall_mem_cons.mpr ⟨n0, (List.forall_mem_cons.mpr ⟨n1, (fun _ h => nomatch h)⟩)⟩), (List.forall_mem_cons.mpr ⟨List.mem_cons_self, (List.forall_mem_cons.mpr ⟨(List.mem_cons_of_mem _ List.mem_cons_self), (fun _ h => nomatch h)⟩)⟩), (List.forall_mem_cons.mpr ⟨⟨_, List.mem_cons_self⟩, (List.forall_mem_cons.mpr ⟨⟨_, (List.mem_cons_of_mem _ List.mem_cons_self)⟩, (fun _ h => nomatch h)⟩)⟩), fun s v => .of_eq rfl, fun base _ _ tb => ?_⟩
  obtain ⟨fm0, fdm0, Fm0, gm0, cm0⟩ := m0
  obtain ⟨fm1, fdm1, Fm1, gm1, cm1⟩ := m1
  exact @ok_law LT0 _ _ _ _ base ⟨Z, ⟨fm0, fdm0, c0, P0, Fm0, gm0, cm0, tb _ List.mem_cons_self, List.mem_cons_self, (List.forall_mem_cons.mpr ⟨(fun _ => rfl), (List.forall_mem_cons.mpr ⟨(fun z => absurd z (Ne.symm u0_1)), (fun _ h => nomatch h)⟩)⟩)⟩, ⟨fm1, fdm1, c1, P1, Fm1, gm1, cm1, tb _ (List.mem_cons_of_mem _ List.mem_cons_self), (List.mem_cons_of_mem _ List.mem_cons_self), (List.forall_mem_cons.mpr ⟨(fun z => absurd z u0_1), (List.forall_mem_cons.mpr ⟨(fun _ => rfl), (fun _ h => nomatch h)⟩)⟩)⟩⟩ _ _ (fun_mk l1 c k)
local macro_rules | `(tactic| walk_at "d") => `(tactic| simp only [↓wp_repT, ↓q_plUse, ↓q_retPl, ↓q_unpPd, ↓q_retPd, ↓q_swapD, ↓wp_sortS, ↓x_mn3, ↓wp_tell, ↓wp_callP, ↓wp_aFn, ↓wp_aLam, ↓wp_aSl, ↓wp_aGl, ↓wp_fmtL, ↓wp_fld, ↓x_stL, ↓x_stLs, ↓wp_getK, ↓wp_callE, ↓wp_lstR3, ↓wps_fld, ↓wp_meth, ↓wp_make, ↓wp_pop0T, ↓q_tryS2, ↓q_gTL, ↓wp_lstV, ↓q_forV, ↓wp_lstKT, ↓wp_setdT, ↓wp_getO1, ↓q_updO, ↓q_dispC, ↓wp_sumV, ↓q_dictO, ↓q_cpyO, ↓q_exprY, ↓wpy_slN, x_dictEn, x_fdivP, ↓wp_row, ↓fnx_0, ↓fnx_1, ↓fnx_2, ↓fnx_3, ↓fnx_4, ↓fnx_5, ↓fnx_6, ↓fnx_7, ↓fnx_8, ↓fnx_9, ↓fnx_10, ↓fnx_11, rowI_len, fs_ownD, ↓q_newD, ↓q_dispO, ↓q_putO, ↓wp_getO, ↓wp_ixD, ↓wp_keysF, ↓q_fd, ↓wp_valsF, ↓wp_itmsF, ↓wp_dispF, ↓wp_inO, ↓x_fdT, ↓x_lstF, ↓d_0, ↓lk_0, ↓ld_0, ↓d_1, ↓lk_1, ↓ld_1, ↓d_2, ↓lk_2, ↓ld_2, ↓d_3, ↓lk_3, ↓ld_3, ↓d_4, ↓lk_4, ↓ld_4, ↓d_5, ↓lk_5, ↓ld_5, ↓d_6, ↓lk_6, ↓ld_6, ↓d_7, ↓lk_7, ↓ld_7, ↓d_8, ↓lk_8, ↓ld_8, ↓d_9, ↓lk_9, ↓ld_9, ↓d_10, ↓lk_10, ↓ld_10, ↓d_11, ↓lk_11, ↓ld_11, ↓d_12, ↓lk_12, ↓ld_12, ↓d_13, ↓lk_13, ↓ld_13, ↓d_14, ↓lk_14, ↓ld_14, ↓d_15, ↓lk_15, ↓ld_15, ↓d_16, ↓lk_16, ↓ld_16, ↓d_17, ↓lk_17, ↓ld_17, ↓d_18, ↓lk_18, ↓ld_18, ↓d_19, ↓lk_19, ↓ld_19, ↓d_20, ↓lk_20, ↓ld_20, ↓d_21, ↓lk_21, ↓ld_21, ↓d_22, ↓lk_22, ↓ld_22, ↓d_23, ↓lk_23, ↓ld_23, ↓d_24, ↓lk_24, ↓ld_24, ↓d_25, ↓lk_25, ↓ld_25, ↓q_swap, ↓q_tup2, ↓wp_idx, ↓wp_cnt, ↓wp_popT, ↓wp_fin, ↓wp_iZip3, ↓zp_3, ↓wp_lenC, ↓wp_iZip3X, ↓zp_3X, ↓x_rat0, ↓x_rat1, ↓q_move, ↓wps_appT, ↓wpy_pop, ↓wpy_popI, ↓wpy_op2, ↓q_appY, ↓wp_fmt, ↓wp_js, ↓wp_js0, ↓wp_js1, ↓x_dm, ↓wp_chain3, ↓wp_iZipM, ↓zp_m, ↓wp_iRange3, ↓q_r3, ↓wps_putC, ↓wp_get2, ↓wp_newK, ↓wp_newT, ↓wp_dispK, ↓wp_dispT, ↓wp_evp, ↓wp_evp0, ↓x_pcells, ↓x_pat, ↓x_pleft, ↓x_wat, ↓x_wleft, ↓q_popI, ↓wp_lstR1, ↓wp_lstR2, ↓wp_revR1, ↓wp_revR2, ↓q_sput, ↓wp_ixO, ↓wp_tupT, ↓x_tt_tok, ↓x_tt_tup, ↓x_tt_lst, ↓x_nileq, ↓x_nilne, ↓x_mulL, ↓x_addL, ↓wp_iEnum, ↓wp_iZip, ↓wp_iRev, ↓en_lst, ↓en_tup, ↓zp_lst, ↓zp_tup, ↓rv_lst, ↓rv_tup, ↓wps_raise, ↓q_app, ↓q_ext, ↓q_rev, ↓q_clr, ↓q_retOwn, ↓q_frz, ↓q_bor, flatB_true, ↓wp_revS, ↓x_revt, ↓x_revl, ↓q_ins, fs_own, fs_dat, fs_emp, ↓o_0, ↓f_0, ↓o_1, ↓f_1, ↓o_2, ↓f_2, ↓o_3, ↓f_3, ↓o_4, ↓f_4, ↓o_5, ↓f_5, ↓o_6, ↓f_6, ↓o_7, ↓f_7, ↓o_8, ↓f_8, ↓o_9, ↓f_9, ↓o_10, ↓f_10, ↓o_11, ↓f_11, ↓o_12, ↓f_12, ↓o_13, ↓f_13, ↓o_14, ↓f_14, ↓o_15, ↓f_15, ↓o_16, ↓f_16, ↓o_17, ↓f_17, ↓o_18, ↓f_18, ↓o_19, ↓f_19, ↓o_20, ↓f_20, ↓o_21, ↓f_21, ↓o_22, ↓f_22, ↓o_23, ↓f_23, ↓o_24, ↓f_24, ↓o_25, ↓f_25, ↓x_at_ite, ↓x_bls1, ↓x_bls2, ↓x_bls3, ↓x_bls4, decide_true, decide_false, Bool.and_self, Bool.true_and, Bool.and_true, List.all_cons, List.all_nil, id_def, ↓x_nebls, ↓x_nonnon, ↓x_tupnon, ↓x_excnon, ↓x_intnon, ↓x_nnonnon, ↓x_ntupnon, ↓x_eqt2, ↓x_net2, nc_0, nc_1, nc_2, nc_3, nc_4, nc_5, nc_6, nc_7, nc_8, nc_9, nc_10, nc_11, nc_12, nc_13, nc_14, nc_15, nc_16, nc_17, nc_18, nc_19, nc_20, nc_21, nc_22, nc_23, nc_24, nc_25, nc_26, nc_27, nc_28, nc_29, nc_30, nc_31, nc_32, ii_int, ii_bl, ii_non, ii_str, ii_tup, ii_ktp, ii_lst, ii_frz, ii_dct, Bool.not_false, reduceCtorEq, Bool.true_eq_false, ↓q_tryE, ↓q_tryA, ↓x_isX1, ↓x_isXv, ↓x_isXt, ↓wp_ok, ↓wp_bad, ↓wp_bind, ↓wp_ofO, ↓wp_eC, ↓wp_pub, ↓wp_ms1, ↓wp_ms0, ↓q_str, ↓wp_ev0, ↓wp_ev1, ↓wp_disp, ↓x_dki, ↓x_dks, ↓wp_tAll, ↓wp_op2, ↓wp_op2S, ↓wp_op1, ↓wp_aNil, ↓wp_aCons, ↓wp_eB, ↓wp_eTup, ↓wp_eLst, ↓wp_tBl, ↓wp_tTru, ↓wp_and, ↓wp_or, ↓wp_not, ↓wp_eIf, ↓wp_eNot, ↓wp_eAnd, ↓wp_eOr, ↓wp_eChain, ↓wp_lenT, ↓wp_oNone, ↓wp_oSome, ↓wp_eSl, ↓wp_iVal, ↓wp_iRange1, ↓wp_iRange2, ↓wps_seq, ↓wps_ret, ↓wps_expr, ↓wps_if, ↓wps_skip, ↓wps_brk, ↓wps_cont, ↓wps_unp, ↓wps_putT, ↓ex_some, ↓ex_ite, ↓ex_none, ↓wpn_nil, ↓q_call, ↓q_comp, ↓q_for, ↓q_while, ↓q_set, ↓q_own, ↓q_par, ↓q_par2, ↓q_gN, ↓q_gT, ↓q_gTk, ↓q_gsNil, ↓q_gsCons, ↓q_tbl, ↓q_oint, ↓q_lst, ↓q_r1, ↓q_r2, ↓q_put, ↓v_0, ↓n_0, ↓v_1, ↓n_1, ↓v_2, ↓n_2, ↓v_3, ↓n_3, ↓v_4, ↓n_4, ↓v_5, ↓n_5, ↓v_6, ↓n_6, ↓v_7, ↓n_7, ↓v_8, ↓n_8, ↓v_9, ↓n_9, ↓v_10, ↓n_10, ↓v_11, ↓n_11, ↓v_12, ↓n_12, ↓v_13, ↓n_13, ↓v_14, ↓n_14, ↓v_15, ↓n_15, ↓v_16, ↓n_16, ↓v_17, ↓n_17, ↓v_18, ↓n_18, ↓v_19, ↓n_19, ↓v_20, ↓n_20, ↓v_21, ↓n_21, ↓v_22, ↓n_22, ↓v_23, ↓n_23, ↓v_24, ↓n_24, ↓v_25, ↓n_25, ↓v_26, ↓n_26, ↓v_27, ↓n_27, ↓v_28, ↓n_28, ↓v_29, ↓n_29, ↓v_30, ↓n_30, ↓v_31, ↓n_31, ↓v_32, ↓n_32, ↓v_33, ↓n_33, ↓x_is_non_int, ↓x_is_non_bool, ↓x_is_non_tuple, ↓x_is_non_str, ↓x_is_non_list, ↓x_is_non_dict, ↓x_is_bl_int, ↓x_is_bl_bool, ↓x_is_bl_tuple, ↓x_is_bl_str, ↓x_is_bl_list, ↓x_is_bl_dict, ↓x_is_int_int, ↓x_is_int_bool, ↓x_is_int_tuple, ↓x_is_int_str, ↓x_is_int_list, ↓x_is_int_dict, ↓x_is_str_int, ↓x_is_str_bool, ↓x_is_str_tuple, ↓x_is_str_str, ↓x_is_str_list, ↓x_is_str_dict, ↓x_is_tup_int, ↓x_is_tup_bool, ↓x_is_tup_tuple, ↓x_is_tup_str, ↓x_is_tup_list, ↓x_is_tup_dict, ↓x_is_lst_int, ↓x_is_lst_bool, ↓x_is_lst_tuple, ↓x_is_lst_str, ↓x_is_lst_list, ↓x_is_lst_dict, ↓x_is_frz_int, ↓x_is_frz_bool, ↓x_is_frz_tuple, ↓x_is_frz_str, ↓x_is_frz_list, ↓x_is_frz_dict, ↓x_is_dct_int, ↓x_is_dct_bool, ↓x_is_dct_tuple, ↓x_is_dct_str, ↓x_is_dct_list, ↓x_is_dct_dict, ↓x_is_ktp_int, ↓x_is_ktp_bool, ↓x_is_ktp_tuple, ↓x_is_ktp_str, ↓x_is_ktp_list, ↓x_is_ktp_dict, ↓x_eq_int, ↓x_ne_int, ↓x_eq_bl, ↓x_ne_bl, ↓x_eq_str, ↓x_ne_str, ↓x_tr_bl, ↓x_tr_int, ↓x_ad_int, ↓x_sb_int, ↓x_ng_int, ↓x_lt_int, ↓x_le_int, ↓x_gt_int, ↓x_ge_int, ↓x_md_int, ↓x_fd_int, ↓x_pw_int, ↓x_ml_int, ↓x_ml_tup, ↓x_ad_tup, ↓x_ad_lst, ↓x_ad_str, ↓x_ab_int, ↓x_ln_tup, ↓x_ln_lst, ↓x_ln_frz, ↓x_ln_ktp, ↓x_ln_dct, ↓x_dI_tup, ↓x_dI_lst, ↓x_dI_frz, ↓x_dI_ktp, ↓x_dI_str, ↓x_to_lst, ↓x_to_tup, ↓x_to_frz, ↓x_lo_lst, ↓x_lo_tup, ↓x_lo_frz, ↓x_sl_tup, ↓x_sl_lst, ↓x_sl_frz, ↓x_al_add, ↓x_st_int, ↓x_st_str, ↓x_nt_int, ↓x_nt_bl, ↓x_mx_int, ↓x_mn_int, ↓x_is_bl, ↓x_isnt_bl, ↓x_cle, ↓x_clt, ↓x_lntok, ↓x_ixtok, ↓x_ixtup, ↓x_ixlst, ↓x_ixfrz, ↓x_ixktp, ↓x_all, ↓x_any, ↓x_sum, ↓x_neT, ↓x_at0, ↓x_at1, ↓x_at2, ↓x_at3, ↓x_at4, ↓x_tk0, ↓x_tk1, ↓x_ix30, ↓x_ix31, ↓x_ix32, List.map_cons, List.map_nil, List.length_cons, List.length_nil, List.cons_append, List.nil_append, List.replicate, Nat.reduceSub, Nat.reduceAdd, Nat.zero_add, Nat.reduceLeDiff, true_and, and_true, Bool.not_true, Bool.not_false, if_true, if_false, Bool.false_eq_true, eq_self, not_true_eq_false, not_false_eq_true, st_1, List.set_cons_zero, List.set_cons_succ, flat, decide_eq_true_eq, Bool.not_eq_true', decide_eq_false_iff_not])
local macro_rules | `(tactic| walk_at "b") => `(tactic| (rw [wp_defD]; refine ⟨rfl, ?_⟩; simp only [List.map_cons, List.map_nil, Nat.reduceSub, List.replicate, List.cons_append, List.nil_append]))
local macro_rules | `(tactic| walk_at "bd") => `(tactic| repeat (first | assumption | apply bd_sub | apply bd_add | apply bd_mul | apply bd_pow | (apply bd_fmod; (first | assumption | decide)) | exact bd_of (n := 64) (by decide)))
local macro_rules | `(tactic| walk_at "sz") => `(tactic| repeat (first | refine And.intro (c_mul (by walk_at "bd") (by walk_at "bd") (by decide)) ?_ | refine And.intro (c_pow3 (by walk_at "bd") (by decide)) ?_ | refine And.intro (c_pow5 (by walk_at "bd") (by decide)) ?_ | refine And.intro (c_pow2 (by walk_at "bd") (by decide)) ?_ | refine And.intro (cfd_of (by omega) (by omega)) ?_ | refine And.intro (by omega) ?_))
local macro_rules | `(tactic| walk_at "w") => `(tactic| simp only [wipeD, List.set_cons_zero, List.set_cons_succ] at *)
local macro_rules | `(tactic| walk_at "th") => `(tactic| (apply Thing.mono; (repeat (first | assumption | exact th_bl | exact th_non | exact th_dct0 | exact th_lit (by decide) (by decide) | exact th_int (by assumption) (by decide) | exact th_str (by decide) (Nat.le_refl _) | exact ths_nil | apply th_tups | apply th_lsts | apply ths_cons | apply th_mrg | apply th_dct1)); all_goals decide))
local macro_rules | `(tactic| walk_at "ths") => `(tactic| ((try simp only [List.forall_mem_cons, List.not_mem_nil, false_implies, implies_true, and_true]); repeat (first | walk_at "th" | refine And.intro (by walk_at "th") ?_)))
local macro_rules | `(tactic| walk_at "u") => `(tactic| simp only [updL, wipeD, List.set_cons_zero, List.set_cons_succ] at *)
/-! ### the two tables as maps of rows without end -/
structure Wk where
  on : Rat
  back : Rat
  come : Rat
  go : Rat
structure Wk.Ok (w : Wk) : Prop where
  on : 0 < w.on
  back : 0 ≤ w.back
  less : w.back < w.on
  come : 0 < w.come
  go : 0 < w.go
namespace Wk
variable (w : Wk)
def q : Rat := w.back / w.on
def ca : Rat := w.come / w.on
def ga : Rat := w.go / w.on
def a : Rat := (1 - w.q - w.ca) / w.ca
def b : Rat := (1 - w.q - w.ga) / w.ga
def unit : Rat := w.on * (1 - w.q)
def x (k : Nat) : Rat := (1 + w.b * w.q ^ k) / w.unit
def y (k : Nat) : Rat := (1 + w.a * w.q ^ k) / w.unit
def z (k : Nat) : Rat := (1 - w.q ^ (k + 1)) * (1 - w.a * w.b * w.q ^ k) / w.unit
def l : Rat := 1 / w.unit
def opD (g : Nat → Rat) (k : Nat) : Rat := w.x k * g k + w.z k * g (k + 1)
def opE (g : Nat → Rat) : Nat → Rat
  | 0 => w.y 0 * g 0
  | k + 1 => w.y (k + 1) * g (k + 1) + w.l * g k
def act (c : Nat) (g : Nat → Rat) (k : Nat) : Rat := if c = 0 then w.opE g k else if c = 1 then w.opD g k else w.opD g k + w.opE g k
def del : Nat → Rat
  | 0 => 1
  | _ + 1 => 0
def val : List Nat → Nat → Rat
  | [] => del
  | c :: ls => w.act c (val ls)
def wt (ls : List Nat) : Rat := w.val ls 0
variable {w}
/-! rows of numbers, cut at a size -/
def stD (X Z F : Nat → Int) (k : Nat) : Int := F k * X k + (if k = 0 then 0 else F (k - 1) * Z (k - 1))
def stE (N : Nat) (Y L F : Nat → Int) (k : Nat) : Int := F k * Y k + (if k + 1 < N then F (k + 1) * L k else 0)
def st3 (N : Nat) (X Z Y L : Nat → Int) (c : Nat) (F : Nat → Int) (k : Nat) : Int := if c = 0 then stE N Y L F k else if c = 1 then stD X Z F k else stD X Z F k + stE N Y L F k
variable {N : Nat} {X Z Y L : Nat → Int} {c : Rat}
end Wk
theorem lets_snoc (r : List Nat) (c : Nat) : lets (r ++ [c]) = lets r ++ [.int (c : Int)] := by simp [lets]
theorem cut_init {α : Type} {xs : List α} {y : α} : cutL (xs ++ [y]) none (some (-1)) = xs := by
  unfold cutL
  rw [HT.sIx_none]
  have : HT.sIx (xs ++ [y]).length (xs ++ [y]).length (some (-1)) = xs.length := by
    unfold HT.sIx
    rw [List.length_append, List.length_singleton]
    simp only
    rw [if_pos (by decide)]
    omega
  rw [this, List.drop_zero, Nat.sub_zero, List.take_left]
/-- a share of small numbers -/
structure Ch (q : Rat) : Prop where
  n0 : 0 ≤ q.num
  n1 : q.num ≤ q.den
  d1 : (q.den : Int) ≤ 60
theorem ch_low {n d : Int} (h0 : 0 ≤ n) (h1 : n ≤ d) (hd : 0 < d) (h2 : d ≤ 60) : Ch (Rat.divInt n d) := by
  obtain ⟨a, b, e, a0, b0, b1, g, q⟩ := low_facts (n := n) (d := d) h0 hd
  have e' : D.tup [.int (Rat.divInt n d).num, .int (Rat.divInt n d).den] = .tup [.int a, .int b] := e
  simp only [D.tup.injEq, List.cons.injEq, D.int.injEq, and_true] at e'
  refine ⟨by omega, ?_, by omega⟩
  have : a * d ≤ b * d := by rw [q, Int.mul_comm b d]; exact Int.mul_le_mul_of_nonneg_right h1 (by omega)
  have := Int.le_of_mul_le_mul_right this hd
  omega
theorem ilt_ilt {a b c d : Int} (hb : 0 < b) (hd : 0 < d) : Rat.divInt a b < Rat.divInt c d ↔ a * d < c * b := by
  have hb' : (0 : Rat) < b := Rat.intCast_pos.mpr hb
  have hd' : (0 : Rat) < d := Rat.intCast_pos.mpr hd
  rw [Rat.divInt_eq_div, Rat.divInt_eq_div, Rat.div_lt_iff hb']
  have e : (c : Rat) / d * b = (c * b : Rat) / d := by grind
  rw [e, Rat.lt_div_iff hd', ← Rat.intCast_mul, ← Rat.intCast_mul, Rat.intCast_lt_intCast]
theorem divInt_lt {n d : Int} {q : Rat} (hd : 0 < d) : Rat.divInt n d < q ↔ n * q.den < q.num * d := by
  have hq := den_pos q
  conv => lhs; rw [← Rat.num_divInt_den q]
  rw [ilt_ilt hd hq]
theorem pos_low {n d : Int} (h0 : 0 < n) (hd : 0 < d) : 0 < Rat.divInt n d := by
  have := (ilt_ilt (a := 0) (b := 1) (c := n) (d := d) (by decide) hd).mpr (by omega)
  simpa using this
/-- a walk's chances -/
structure EW (w : Wk) : Prop where
  ok : w.Ok
  con : Ch w.on
  cback : Ch w.back
  ccome : Ch w.come
  cgo : Ch w.go
def walkD (c : Int) (w : Wk) : D := .tup [.int c, rat w.on, rat w.back, rat w.come, rat w.go]
/-! ### the tables in whole numbers -/
namespace Wk
def iu (w : Wk) : Int := w.back.num * w.on.den
def iv (w : Wk) : Int := w.back.den * w.on.num
def ic (w : Wk) : Int := (w.iv - w.iu) * w.come.den * w.on.num
def id' (w : Wk) : Int := w.iv * w.come.num * w.on.den
def ig (w : Wk) : Int := (w.iv - w.iu) * w.go.den * w.on.num
def ih (w : Wk) : Int := w.iv * w.go.num * w.on.den
def iX (w : Wk) (m k : Nat) : Int := (w.ih * w.iv ^ k + (w.ig - w.ih) * w.iu ^ k) * w.id' * w.iv ^ (2 * m + 1 - k)
def iY (w : Wk) (m k : Nat) : Int := (w.id' * w.iv ^ k + (w.ic - w.id') * w.iu ^ k) * w.ih * w.iv ^ (2 * m + 1 - k)
def iZ (w : Wk) (m k : Nat) : Int := (w.id' * w.ih * w.iv ^ k - (w.ic - w.id') * (w.ig - w.ih) * w.iu ^ k) * (w.iv ^ (k + 1) - w.iu ^ (k + 1)) * w.iv ^ (2 * (m - k))
def iL (w : Wk) (m : Nat) : Int := w.id' * w.ih * w.iv ^ (2 * m + 1)
end Wk
structure IFacts (w : Wk) : Prop where
  u0 : 0 ≤ w.iu
  uv : w.iu < w.iv
  v0 : 0 < w.iv
  vb : Bd w.iv 12
  ub : Bd w.iu 12
  c0 : 0 < w.ic
  cb : Bd w.ic 24
  d0 : 0 < w.id'
  db : Bd w.id' 24
  g0 : 0 < w.ig
  gb : Bd w.ig 24
  h0 : 0 < w.ih
  hb : Bd w.ih 24
  on0 : 0 < w.on.num
  onb : w.on.num ≤ 60
theorem EW.ints {w : Wk} (h : EW w) : IFacts w := by
  have num : ∀ q : Rat, Ch q → 0 ≤ q.num ∧ q.num ≤ 60 ∧ 0 < (q.den : Int) ∧ (q.den : Int) ≤ 60 := fun q c => ⟨c.n0, by have := c.n1; have := c.d1; omega, den_pos q, c.d1⟩
  have pos : ∀ q : Rat, 0 < q → 0 < q.num := fun q c => by simpa using (Rat.lt_iff 0 q).mp c
  obtain ⟨a1, a2, a3, a4⟩ := num _ h.con
  obtain ⟨b1, b2, b3, b4⟩ := num _ h.cback
  obtain ⟨c1, c2, c3, c4⟩ := num _ h.ccome
  obtain ⟨g1, g2, g3, g4⟩ := num _ h.cgo
  have p1 := pos _ h.ok.on
  have p2 := pos _ h.ok.come
  have p3 := pos _ h.ok.go
  have le : ∀ x y A B : Int, 0 ≤ x → x ≤ A → 0 ≤ y → y ≤ B → 0 ≤ A → x * y ≤ A * B := fun x y A B h1 h2 h3 h4 h5 => Int.mul_le_mul h2 h4 h3 h5
  have u0 : 0 ≤ w.iu := Int.mul_nonneg b1 (by omega)
  have u1 : w.iu ≤ 60 * 60 := le _ _ _ _ b1 b2 (by omega) a4 (by decide)
  have v0 : 0 < w.iv := Int.mul_pos b3 p1
  have v1 : w.iv ≤ 60 * 60 := le _ _ _ _ (by omega) b4 a1 a2 (by decide)
  have uv : w.iu < w.iv := by
    have := (Rat.lt_iff w.back w.on).mp h.ok.less
    unfold Wk.iu Wk.iv
    rw [Int.mul_comm (w.back.den : Int)]
    exact this
  have tri : ∀ x y z : Int, 0 < x → x ≤ 3600 → 0 < y → y ≤ 60 → 0 < z → z ≤ 60 → 0 < x * y * z ∧ Bd (x * y * z) 24 := fun x y z h1 h2 h3 h4 h5 h6 => by
    have q1 : 0 < x * y := Int.mul_pos h1 h3
    have q2 : 0 < x * y * z := Int.mul_pos q1 h5
    have q3 : x * y ≤ 3600 * 60 := le _ _ _ _ (by omega) h2 (by omega) h4 (by decide)
    have q4 : x * y * z ≤ 3600 * 60 * 60 := le _ _ _ _ (by omega) q3 (by omega) h6 (by decide)
    exact ⟨q2, bd_int 24 (by omega) (by omega)⟩
  have C := tri (w.iv - w.iu) w.come.den w.on.num (by omega) (by omega) c3 c4 p1 a2
  have Dd := tri w.iv w.come.num w.on.den v0 (by omega) p2 c2 a3 a4
  have G := tri (w.iv - w.iu) w.go.den w.on.num (by omega) (by omega) g3 g4 p1 a2
  have Hh := tri w.iv w.go.num w.on.den v0 (by omega) p3 g2 a3 a4
  exact ⟨u0, uv, v0, bd_int 12 (by omega) (by omega), bd_int 12 (by omega) (by omega), C.1, C.2, Dd.1, Dd.2, G.1, G.2, Hh.1, Hh.2, p1, a2⟩
theorem rq (q : Rat) : q * ((q.den : Int) : Rat) = (q.num : Rat) := by
  have h := Rat.num_divInt_den q
  rw [Rat.divInt_eq_div] at h
  have hd : ((q.den : Int) : Rat) ≠ 0 := by
    have := Rat.intCast_pos.mpr (den_pos q)
    grind
  generalize ((q.den : Int) : Rat) = d at *
  generalize (q.num : Rat) = n at *
  rw [← h]; grind
abbrev goL (w : Wk) (m c : Nat) (F : Nat → Int) : Nat → Int := Wk.st3 (m + 1) (w.iX m) (w.iZ m) (w.iY m) (fun _ => w.iL m) c F
theorem go0 {w : Wk} {m k : Nat} {F : Nat → Int} : goL w m 0 F k = F k * w.iY m k + (if k + 1 < m + 1 then F (k + 1) * w.iL m else 0) := rfl
/-! ### what rows of letters weigh -/
namespace Wk
/-- each cell by itself -/
def one (w : Wk) (c : Nat) : Rat := if c = 0 then 1 / w.come else if c = 1 then 1 / w.go else 1 / w.go + 1 / w.come
end Wk
theorem is_whole_ok {d : D} {s : S} (h : plain d = true) : wp (D_is_whole [d] s) (fun a s' => a = .bl (isInt d) ∧ s' = s) fun _ _ => False := by
  unfold D_is_whole
  walk_at "b"
  cases d <;> first
    | (exact Bool.noConfusion h)
    | (walk_at "d"; try rfl)
theorem common_divisor_ok {a b : Int} {s : S} : wp (D_common_divisor [.int a, .int b] s) (fun r s' => r = .int (Int.gcd a b) ∧ s' = s) fun _ _ => False := by
  unfold D_common_divisor
  walk_at "b"
  (try walk_at "d")
  refine wpw_of (fun ρ s' => s' = s ∧ ∃ x y : Int, 0 ≤ x ∧ 0 ≤ y ∧ Int.gcd x y = Int.gcd a b ∧ ρ = [.dat (.int x), .dat (.int y)]) (fun ρ => match ρ with
    | [_, .dat (.int y)] => y.toNat
    | _ => 0) ⟨rfl, _, _, by split <;> omega, by split <;> omega, gcd_ite a b, rfl⟩ ?_
  rintro _ _ ⟨rfl, x, y, hx, hy, hg, rfl⟩
  (try walk_at "d")
  refine ite2 (fun hc => ?_) (fun hc => ?_)
  · refine ⟨by omega, ?_⟩
    walk_at "w"
    have := fmod_rng (i := x) hc
    refine ⟨⟨_, _, by omega, this.1, by rw [gcd_step hc]; exact hg, rfl⟩, ?_⟩
    show (x.fmod y).toNat < y.toNat
    omega
  · have : y = 0 := by omega
    subst this
    rw [← hg]
    simp
    omega
theorem is_ratio_ok {d : D} {s : S} (h : pd d = true) : wp (D_is_ratio [d] s) (fun a s' => a = .bl (ratB d) ∧ s' = s) fun _ _ => False := by
  unfold D_is_ratio
  walk_at "b"
  cases d with
  | tup xs =>
    (try walk_at "d")
    refine ite2 (fun e => ?_) (fun e => ?_)
    · simp [ratB_len e]
    · obtain ⟨a, b, rfl⟩ := two_of (xs := xs) (by omega)
      have ha := pd_tup' h a (by simp)
      have hb := pd_tup' h b (by simp)
      (try walk_at "d")
      refine wpc_of (is_whole_ok (pd_plain ha)) ?_
      rintro _ _ ⟨rfl, rfl⟩
      (try walk_at "d")
      cases ia : isInt a with
      | false => simp [ratB_no1 ia]
      | true =>
        simp only [Bool.true_eq_false, if_false]
        refine wpc_of (is_whole_ok (pd_plain hb)) ?_
        rintro _ _ ⟨rfl, rfl⟩
        (try walk_at "d")
        cases ib : isInt b with
        | false => simp [ratB_no2 ib]
        | true =>
          obtain ⟨n, rfl⟩ := isInt_yes ia
          obtain ⟨m, rfl⟩ := isInt_yes ib
          (try walk_at "d")
          refine ite2 (fun e => ?_) (fun e => ?_)
          · refine wpc_of common_divisor_ok ?_
            rintro _ _ ⟨rfl, rfl⟩
            (try walk_at "d")
            have : decide (((Int.gcd n m : Nat) : Int) = 1) = decide (Int.gcd n m = 1) := by
              congr 1
              exact propext ⟨fun h => by omega, fun h => by omega⟩
            simp [ratB, e, this]
          · simp [ratB, e]
  | tok n => simp [pd] at h
  | ty n => simp [pd] at h
  | glb n => simp [pd] at h
  | ktp n => simp [pd] at h
  | exc n => simp [pd] at h
  | fd n m => simp [pd] at h
  | _ => walk_at "d"; try rfl
/-- a ratio, written or reckoned -/
def IsR (d : D) (q : Rat) : Prop := d = rat q ∨ d = .ktp [.int q.num, .int q.den]
theorem isR (q : Rat) : IsR (rat q) q := .inl rfl
theorem is_lessR_ok {a b : D} {p q : Rat} {n m : Nat} {s : S} (ha : IsR a p) (hb : IsR b q) (hp : RB p n) (hq : RB q m) (hn : n + m ≤ 9000) : wp (D_is_less [a, b] s) (fun r s' => r = .bl (decide (p < q)) ∧ s' = s) fun _ _ => False := by
  have e : decide (p < q) = decide (p.num * q.den < q.num * p.den) := by rw [decide_eq_decide]; exact Rat.lt_iff p q
  rw [e]
  unfold D_is_less
  rcases ha with rfl | rfl <;> rcases hb with rfl | rfl <;>
    (try unfold rat) <;> (walk_at "b"; walk_at "d"; exact ⟨c_mul hp.nu hq.de (by omega), c_mul hq.nu hp.de (by omega)⟩)
theorem pen_ok {ns : List Int} (h : ns.length ≤ 63) : wp (D__law_pen [.frz (ns.map .int)] []) (fun a s' => a = .tok 1 ∧ Pen 0 [] s') fun _ _ => False := by
  unfold D__law_pen
  walk_at "b"
  (try walk_at "d")
  rw [cutL_map]
  refine ⟨flats_ints _, by simp [flats, flat], cutL ns none (some 63), 0, 0, rfl, by decide, by decide, by decide⟩
theorem pen_mono {k k' : Int} {r s : S} (h : Pen k r s) (hk : k ≤ k') : Pen k' r s := by
  obtain ⟨ns, p, l, e, h1, h2, h3⟩ := h
  exact ⟨ns, p, l, e, h1, by omega, h3⟩
theorem draw_ok {m k : Int} {r s : S} (hm : 0 < m) (hm2 : m < 2 ^ 64) (hk : k < 2 ^ 200) (h : Pen k r s) : wp (D__law_draw [.tok 1, .int m] s) (Drawn m k r) fun _ _ => False := by
  obtain ⟨ns, p, left, rfl, p0, pk, l0⟩ := h
  have bp : Bd p 200 := bd_rng p0 pk hk
  have m0 : m ≠ 0 := by omega
  have fm : ∀ x, CFd x m := fun x => cfd_64 hm hm2
  have fin : ∀ (x q : Int), 0 ≤ q → Drawn m k r (.int (x.fmod m)) (.l (ns.map .int) :: .l [.tok 0, .int (p + 1), .int q] :: r) := fun x q hq =>
    ⟨_, rfl, (fmod_rng hm).1, (fmod_rng hm).2, ns, p + 1, q, rfl, by omega, by omega, hq⟩
  unfold D__law_draw
  walk_at "b"
  (try walk_at "d")
  by_cases hl : 0 < left
  · rw [if_pos hl]
    exact ⟨m0, fm _, _, rfl, (fmod_rng hm).1, (fmod_rng hm).2, ns, p, _, rfl, p0, by omega, fdiv_nn l0 hm⟩
  rw [if_neg hl]
  have hl0 : left = 0 := by omega
  subst hl0
  have p10 : CPw 10 18 := by decide
  have b1 : CMulX 60013 p := c_mul (n := 64) (bd_of (by decide)) bp (by decide)
  have b2 : CMulX (60013 * p) p := c_mul (bd_mul (n := 64) (bd_of (by decide)) bp) bp (by decide)
  have b3 : CMulX 419 p := c_mul (n := 64) (bd_of (by decide)) bp (by decide)
  refine ⟨b1, b2, b3, ?_⟩
  by_cases he : 0 < ((ns.map D.int).length : Int)
  · rw [if_pos he]
    obtain ⟨c, ec⟩ := at_map (fmod_rng (i := p) he).1 (fmod_rng (i := p) he).2
    refine ⟨by omega, _, ec, ?_⟩
    (try walk_at "d")
    refine ite2 (fun _ => ⟨p10, ite2 (fun _ => ⟨fm _, m0, fin _ _ (fdiv_nn (by split <;> omega) hm)⟩) (fun _ => ?_)⟩) (fun _ => ?_)
    · walk_at "sz"
      exact fin _ _ l0
    · walk_at "sz"
      exact fin _ _ l0
  · rw [if_neg he]
    walk_at "sz"
    exact fin _ _ l0
theorem lowest_ok {n d : Int} {s : S} (h0 : 0 ≤ n) (hd : 0 < d) (hb : Bd d 9000) : wp (D__law_lowest [.int n, .int d] s) (fun r s' => r = rat (Rat.divInt n d) ∧ s' = s) fun _ _ => False := by
  unfold D__law_lowest
  walk_at "b"
  (try walk_at "d")
  refine wpw_of (fun ρ s' => s' = s ∧ ∃ x y : Int, 0 ≤ x ∧ 0 ≤ y ∧ Int.gcd x y = Int.gcd n d ∧ ρ = [.dat (.int n), .dat (.int d), .dat (.int x), .dat (.int y)]) (fun ρ => match ρ with
    | [_, _, _, .dat (.int y)] => y.toNat
    | _ => 0) ⟨rfl, _, _, by split <;> omega, by omega, by rw [if_neg (by omega)], rfl⟩ ?_
  rintro _ _ ⟨rfl, x, y, hx, hy, hg, rfl⟩
  (try walk_at "d")
  refine ite2 (fun hc => ?_) (fun hc => ?_)
  · refine ⟨by omega, ?_⟩
    walk_at "w"
    have := fmod_rng (i := x) hc
    refine ⟨⟨_, _, by omega, this.1, by rw [gcd_step hc]; exact hg, rfl⟩, ?_⟩
    show (x.fmod y).toNat < y.toNat
    omega
  · have : y = 0 := by omega
    subst this
    have hx2 : x = (Int.gcd n d : Int) := by
      rw [← hg]
      simp
      omega
    have hg2 := bd_gcd (i := n) hb (by omega)
    have h0 : 0 < (Int.gcd n d : Int) := by
      have := Int.gcd_pos_of_ne_zero_right n (show d ≠ 0 by omega)
      omega
    obtain ⟨e1, e2⟩ := low_num (n := n) (show d ≠ 0 by omega)
    rw [if_neg (by omega)] at e1 e2
    rw [hx2]
    refine ⟨cfd_bd (by omega) hg2, cfd_bd (by omega) hg2, ?_⟩
    rw [e1, e2]
    rfl
theorem p98 : (2 : Int) ^ 98 = 316912650057057350374175801344 := by decide
theorem p97 : (2 : Int) ^ 97 = 158456325028528675187087900672 := by decide
def IsCq (lo : Int) (d : D) : Prop := ∃ q : Rat, d = rat q ∧ Ch q ∧ (lo = 1 → 0 < q)
theorem chance_ok {lo k : Int} {r s : S} (hlo : lo = 0 ∨ lo = 1) (hk : k < 2 ^ 98) (h : Pen k r s) : wp (D__law_chance [.tok 1, .int lo] s) (PenD (IsCq lo) (k + 5) r) fun _ _ => False := by
  rw [p98] at hk
  unfold D__law_chance
  walk_at "b"
  (try walk_at "d")
  refine wpc_of (draw_ok (by decide) (by decide) (by rw [p200]; omega) h) ?_
  rintro _ s1 ⟨a, rfl, a0, a1, h1⟩
  (try walk_at "d")
  refine wpc_of (draw_ok (by decide) (by decide) (by rw [p200]; omega) h1) ?_
  rintro _ s2 ⟨b, rfl, b0, b1, h2⟩
  (try walk_at "d")
  refine wpc_of (draw_ok (by omega) (by omega) (by rw [p200]; omega) h2) ?_
  rintro _ s3 ⟨t, rfl, t0, t1, h3⟩
  (try walk_at "d")
  refine ite2 (fun e => ?_) (fun e => ?_)
  · refine at_allD (P := IsCq lo) ?_ a0 (by simpa using e) fun x hx => ⟨hx, pen_mono h3 (by omega)⟩
    simp only [List.forall_mem_cons, List.not_mem_nil, false_implies, implies_true, and_true]
    have mk : ∀ (n m : Nat) (h : m ≠ 0) (g : Nat.Coprime n m), 0 < n → n ≤ m → m ≤ 60 → IsCq lo (.tup [.int (n : Int), .int (m : Int)]) := fun n m h g n0 nm m6 => ⟨⟨n, m, h, g⟩, rfl, ⟨Int.natCast_nonneg _, by show (n : Int) ≤ m; omega, by show (m : Int) ≤ 60; omega⟩, fun _ => (Rat.lt_iff 0 _).mpr (by show (0 : Int) * (m : Int) < (n : Int) * 1; omega)⟩
    exact ⟨mk 1 1 (by decide) (by decide) (by decide) (by decide) (by decide), mk 1 60 (by decide) (by decide) (by decide) (by decide) (by decide), mk 59 60 (by decide) (by decide) (by decide) (by decide) (by decide)⟩
  · refine wpc_of (lowest_ok (by omega) (by omega) (bd_mono (bd_int 8 (by omega) (by omega)) (by decide))) ?_
    rintro _ _ ⟨rfl, rfl⟩
    exact ⟨⟨_, rfl, ch_low (by omega) (by omega) (by omega) (by omega), fun z => pos_low (by omega) (by omega)⟩, pen_mono h3 (by omega)⟩
def IsWk (m : Int) (d : D) : Prop := ∃ (n : Nat) (w : Wk), d = walkD (n : Int) w ∧ 1 ≤ n ∧ (n : Int) ≤ m ∧ EW w
theorem ne_rat2 (p q : Rat) : dNe (rat p) (rat q) = some (.bl (!decide (p = q))) := by
  unfold rat
  rw [ne_tup2]
  congr 3
  rw [← Bool.decide_and]
  refine decide_eq_decide.mpr ⟨fun h => Rat.ext h.1 (by have := h.2; omega), fun h => by rw [h]; exact ⟨rfl, rfl⟩⟩
def IsWkL (l m : Int) (d : D) : Prop := ∃ (n : Nat) (w : Wk), d = walkD (n : Int) w ∧ 1 ≤ n ∧ l ≤ (n : Int) ∧ (n : Int) ≤ m ∧ EW w
theorem walk_okL {l m k : Int} {r s : S} (hl1 : 1 ≤ l) (hm : l ≤ m) (hm6 : m ≤ 12) (hk : k < 2 ^ 97) (h : Pen k r s) : wp (D__law_walk [.tok 1, .int l, .int m] s) (PenD (IsWkL l m) (k + 30) r) fun _ _ => False := by
  rw [p97] at hk
  unfold D__law_walk
  walk_at "b"
  (try walk_at "d")
  refine wpc_of (draw_ok (by decide) (by decide) (by rw [p200]; omega) h) ?_
  rintro _ s1 ⟨a, rfl, a0, a1, h1⟩
  (try walk_at "d")
  refine wpc_of (draw_ok (by decide) (by decide) (by rw [p200]; omega) h1) ?_
  rintro _ s2 ⟨b, rfl, b0, b1, h2⟩
  (try walk_at "d")
  refine wpc_of (draw_ok (by omega) (by omega) (by rw [p200]; omega) h2) ?_
  rintro _ s3 ⟨c, rfl, c0, c1, h3⟩
  (try walk_at "d")
  refine wpc_of (chance_ok (.inr rfl) (by rw [p98]; omega) h3) ?_
  rintro _ s4 ⟨⟨on, rfl, Con, on0⟩, h4⟩
  (try walk_at "d")
  refine wpc_of (chance_ok (.inl rfl) (by rw [p98]; omega) h4) ?_
  rintro _ s5 ⟨⟨ot, rfl, Cot, _⟩, h5⟩
  (try walk_at "d")
  refine wpc_of (chance_ok (.inr rfl) (by rw [p98]; omega) h5) ?_
  rintro _ s6 ⟨⟨co, rfl, Cco, co0⟩, h6⟩
  (try walk_at "d")
  refine wpc_of (chance_ok (.inr rfl) (by rw [p98]; omega) h6) ?_
  rintro _ s7 ⟨⟨go, rfl, Cgo, go0⟩, h7⟩
  (try walk_at "d")
  have on0 := on0 rfl
  have co0 := co0 rfl
  have go0 := go0 rfl
  have fin : ∀ (on back : Rat), Ch on → Ch back → 0 < on → 0 ≤ back → back < on → ∀ P : D → S → Prop, (∀ d s, PenD (IsWkL l m) (k + 30) r d s → P d s) → ∃ q, atI [.int l, .int m, .int (l + c), .int (l + c)] a = some q ∧ P (.tup [q, rat on, rat back, rat co, rat go]) s7 := fun on back C1 C2 o0 b0 lt P hP => by
    refine at_allD (P := fun d => ∃ i : Int, d = .int i ∧ l ≤ i ∧ i ≤ m) ?_ a0 (by simpa using a1) ?_
    · simp only [List.forall_mem_cons, List.not_mem_nil, false_implies, implies_true, and_true]
      exact ⟨⟨_, rfl, by omega, by omega⟩, ⟨_, rfl, by omega, by omega⟩, ⟨_, rfl, by omega, by omega⟩, ⟨_, rfl, by omega, by omega⟩⟩
    · rintro _ ⟨i, rfl, i0, i1⟩
      exact hP _ _ ⟨⟨i.toNat, ⟨on, back, co, go⟩, by rw [Int.toNat_of_nonneg (by omega)]; rfl, by omega, by omega, by omega, ⟨⟨o0, b0, lt, co0, go0⟩, C1, C2, Cco, Cgo⟩⟩, pen_mono h7 (by omega)⟩
  have don := den_pos on
  have dot := den_pos ot
  have non : 0 < on.num := by simpa using (Rat.lt_iff 0 on).mp on0
  have bs : ∀ x : Int, 0 ≤ x → x ≤ 60 → Bd x 8 := fun x h0 h1 => bd_int 8 (by omega) (by omega)
  have c1 := Con.n1; have c2 := Con.d1; have c3 := Cot.n0; have c4 := Cot.n1; have c5 := Cot.d1
  refine ite2 (fun e1 => ?_) (fun e1 => ?_)
  · subst e1
    refine wpc_of (lowest_ok (by omega) (by omega) (bd_mono (bs _ (by omega) (by omega)) (by decide))) ?_
    rintro _ _ ⟨rfl, rfl⟩
    (try walk_at "d")
    (try rw [if_neg (by decide)])
    refine fin on _ Con (ch_low (by omega) (by omega) don (by omega)) on0 ?_ ((divInt_lt don).mpr (Int.mul_lt_mul_of_pos_right (by omega) don)) (fun d s => PenD (IsWkL l m) (k + 30) r d s) fun d s h => h
    exact Rat.num_nonneg.mp (ch_low (n := on.num - 1) (d := (on.den : Int)) (by omega) (by omega) don (by omega)).n0
  · refine ite2 (fun e2 => ?_) (fun e2 => ?_)
    · rw [ne_rat2]
      by_cases hs : on = ot
      · rw [decide_eq_true hs]
        (try walk_at "d")
        exact fin on 0 Con ⟨by decide, by decide, by decide⟩ on0 Rat.le_refl on0 (fun d s => PenD (IsWkL l m) (k + 30) r d s) fun d s h => h
      · rw [decide_eq_false hs]
        (try walk_at "d")
        refine ⟨c_mul (bs _ (by omega) (by omega)) (bs _ (by omega) c5) (by decide), c_mul (bs _ c3 (by omega)) (bs _ (by omega) c2) (by decide), ite2 (fun hl => ?_) (fun hl => ?_)⟩
        · have lt : on < ot := (Rat.lt_iff on ot).mpr hl
          exact fin ot on Cot Con (by grind) (by grind) lt (fun d s => PenD (IsWkL l m) (k + 30) r d s) fun d s h => h
        · have lt : ¬ on < ot := fun z => hl ((Rat.lt_iff on ot).mp z)
          exact fin on ot Con Cot on0 (Rat.num_nonneg.mp c3) (by grind) (fun d s => PenD (IsWkL l m) (k + 30) r d s) fun d s h => h
    · exact fin on 0 Con ⟨by decide, by decide, by decide⟩ on0 Rat.le_refl on0 (fun d s => PenD (IsWkL l m) (k + 30) r d s) fun d s h => h
theorem walk_ok {m k : Int} {r s : S} (hm : 1 ≤ m) (hm6 : m ≤ 12) (hk : k < 2 ^ 97) (h : Pen k r s) : wp (D__law_walk [.tok 1, .int 1, .int m] s) (PenD (IsWk m) (k + 30) r) fun _ _ => False :=
  wp_mono (walk_okL (by decide) hm hm6 hk h) (fun a s' ⟨⟨n, w, e, n1, _, nm, hw⟩, hp⟩ => ⟨⟨n, w, e, n1, nm, hw⟩, hp⟩) fun _ _ z => z
theorem split2 {L : List Nat} {b : Nat} (h : b + 1 < L.length) : ∃ p x y r, L = p ++ x :: y :: r ∧ p.length = b := by
  refine ⟨L.take b, L[b], L[b + 1], L.drop (b + 2), ?_, by simp; omega⟩
  have e1 : L.drop b = L[b] :: L.drop (b + 1) := List.drop_eq_getElem_cons (by omega)
  have e2 : L.drop (b + 1) = L[b + 1] :: L.drop (b + 2) := List.drop_eq_getElem_cons h
  rw [← e2, ← e1, List.take_append_drop]
theorem cut_mid {L : List Nat} (h : 2 ≤ L.length) : cutL (lets L) (some 1) (some (-1)) = lets (L.drop 1).dropLast := by
  unfold cutL
  have s1 : HT.sIx (lets L).length (lets L).length (some (-1)) = L.length - 1 := by
    unfold HT.sIx
    rw [lets_len]
    simp only
    rw [if_pos (by decide)]
    omega
  have s2 : HT.sIx (lets L).length 0 (some 1) = 1 := by
    unfold HT.sIx
    rw [lets_len]
    simp only
    rw [if_neg (by decide)]
    omega
  rw [s1, s2]
  unfold lets
  rw [List.dropLast_eq_take, List.map_take, List.map_drop]
  simp
  try omega
/-! where rows lead -/
structure Stand (n : Nat) (ls : List Nat) : Prop where
  len : ls.length = n
  h01 : ∀ z ∈ ls, z = 0 ∨ z = 1
theorem rep_lets {n z : Nat} (hz : z ≤ 1) : D.tup (List.replicate (n : Int).toNat [D.int (z : Int)]).flatten = .tup (lets (List.replicate n z)) ∧ Stand n (List.replicate n z) := by
  refine ⟨?_, by simp, fun x hx => ?_⟩
  · rw [repf]; simp [lets]
  · rw [(List.mem_replicate.mp hx).2]; omega
theorem stand_ok {n : Nat} {k : Int} {r s : S} (h1 : 1 ≤ n) (hn : n ≤ 12) (hk : k < 2 ^ 97) (h : Pen k r s) : wp (D__law_stand [.tok 1, .int (n : Int)] s) (PenD (fun a => ∃ ls : List Nat, a = .tup (lets ls) ∧ Stand n ls) (k + 20) r) fun _ _ => False := by
  rw [p97] at hk
  unfold D__law_stand
  walk_at "b"
  (try walk_at "d")
  refine wpc_of (draw_ok (by decide) (by decide) (by rw [p200]; omega) h) ?_
  rintro _ s1 ⟨a, rfl, a0, a1, h1⟩
  (try walk_at "d")
  refine ⟨by omega, ?_⟩
  refine wpk_of (by rw [rngD_len]; omega) (comp_inv (fun i acc s' => (∃ ls : List Nat, acc = lets ls ∧ ls.length = i ∧ ∀ x ∈ ls, x = 0 ∨ x = 1) ∧ Pen (k + 1 + i) r s') ⟨⟨[], rfl, rfl, by simp⟩, by simpa using h1⟩ (fun i x acc s' hd ⟨⟨ls, ea, el, ec⟩, h2⟩ => ?_) (fun _ _ z => z)) ?_
  · obtain ⟨hi, rfl⟩ := rng0 hd
    refine ⟨_, rfl, ?_⟩
    walk_at "u"
    (try walk_at "d")
    refine wpc_of (draw_ok (by decide) (by decide) (by rw [p200]; omega) h2) ?_
    rintro _ s3 ⟨b, rfl, b0, b1, h3⟩
    refine ⟨⟨ls ++ [b.toNat], ?_, by simp [el], fun x hx => ?_⟩, pen_mono h3 (by omega)⟩
    · rw [ea]
      simp only [lets, List.map_append, List.map_singleton]
      rw [Int.toNat_of_nonneg b0]
    · rcases List.mem_append.mp hx with hx | hx
      · exact ec x hx
      · rw [List.mem_singleton.mp hx]; omega
  rintro _ s3 ⟨⟨ls, rfl, el, ec⟩, h3⟩
  rw [rngD_len] at el h3
  (try walk_at "d")
  have st : Stand n ls := ⟨by omega, ec⟩
  have z0 := rep_lets (n := n) (z := 0) (by omega)
  have z1 := rep_lets (n := n) (z := 1) (by omega)
  refine ⟨⟨by omega, by omega⟩, ⟨by omega, by omega⟩, at_allD (P := fun a => ∃ ls : List Nat, a = .tup (lets ls) ∧ Stand n ls) ?_ a0 (by simpa using a1) fun x hx => ⟨hx, pen_mono h3 (by omega)⟩⟩
  simp only [List.forall_mem_cons, List.not_mem_nil, false_implies, implies_true, and_true]
  exact ⟨⟨_, z0.1, z0.2⟩, ⟨_, z1.1, z1.2⟩, ⟨ls, rfl, st⟩, ⟨ls, rfl, st⟩⟩
theorem eqv_bls (a b : Bool) : PyData.eqv (.bool a) (.bool b) = (a == b) := by cases a <;> cases b <;> rfl
theorem idx_t0 : dIdx [.bl true, .bl false, .bl false] (.bl true) = some (.int 0) := by
  have r : (ready (.bl true) && ready (.lst [.bl true, .bl false, .bl false])) = true := by rfl
  unfold dIdx
  rw [r]
  simp [List.findIdx?_cons, eqB, toPy, eqv_bls]
theorem word_dice {s : S} : wp (D__law_word (.exc "NoDice" s)) (fun a s' => a = .str "dice" ∧ s' = s) fun _ _ => False := by
  unfold D__law_word
  refine wp_actX (by decide +kernel) ?_
  simp only [List.replicate, List.set_cons_succ, List.set_cons_zero]
  (try walk_at "d")
  refine ⟨true, by decide +kernel, false, by decide +kernel, false, by decide +kernel, false, by decide +kernel, ?_⟩
  rw [if_neg (by decide)]
  refine ⟨.int 1, rfl, .bl false, by rfl, false, rfl, ?_⟩
  rw [if_neg (by decide)]
  refine ⟨true, by decide +kernel, ?_⟩
  rw [if_neg (by decide)]
  refine ⟨_, idx_t0, _, by rfl, rfl⟩
theorem okDs_all : ∀ {xs : List D}, (∀ x ∈ xs, okD x = true) → okDs xs = true
  | [], _ => rfl
  | x :: xs, h => by simp [okDs, h x (by simp), okDs_all fun y hy => h y (List.mem_cons_of_mem _ hy)]
theorem dep_all : ∀ {xs : List D} {m : Nat}, (∀ x ∈ xs, (toPy x).depth ≤ m) → PyData.depthAll (toPys xs) ≤ m
  | [], _, _ => by simp [toPys, PyData.depthAll]
  | x :: xs, m, h => by
    have h1 := h x (by simp)
    have h2 := dep_all (m := m) fun y hy => h y (List.mem_cons_of_mem _ hy)
    simp [toPys, PyData.depthAll]
    omega
theorem rd_list {L : List D} (h1 : ∀ x ∈ L, okD x = true) (h2 : ∀ x ∈ L, (toPy x).depth ≤ 62) : ready (.lst L) = true := by
  have := dep_all h2
  simp [ready, okD, okDs_all h1, toPy, PyData.depth]
  omega
theorem rd_tup {L : List D} (h1 : ∀ x ∈ L, okD x = true) (h2 : ∀ x ∈ L, (toPy x).depth ≤ 62) : ready (.tup L) = true := by
  have := dep_all h2
  simp [ready, okD, okDs_all h1, toPy, PyData.depth]
  omega
theorem eqB_self {d : D} (h : ready d = true) : eqB d d = true := SeqAt.eqv_refl _ (canLay_of d (ready_ok h))
theorem eq_selfL {xs : List D} (h : ready (.lst xs) = true) : dEq (.lst xs) (.lst xs) = some (.bl true) := by
  have e : (if (ready (.lst xs) && ready (.lst xs)) = true then some (D.bl (eqB (.lst xs) (.lst xs))) else none) = dEq (.lst xs) (.lst xs) := rfl
  rw [← e, h, eqB_self h]
  rfl
/-- the chance of what may happen at a border -/
def chD (w : Wk) (n b x y : Nat) : Rat := if x = y then 0 else if b = 0 then w.come else if b = n then w.go else if y < x then w.on else w.back
def obD : List D := [.str "on", .str "back"]
theorem in_ob {W : Str} {b : Bool} (h : (ready (.str W) && ready (.tup obD)) = true) (k : inB (.str W) obD = b) : dIn (.str W) (.tup [.str "on", .str "back"]) = some (.bl b) := by
  show (if (ready (.str W) && ready (.tup obD)) = true then some (D.bl (inB (.str W) obD)) else none) = _
  rw [h, k]; rfl
theorem in_stay : dIn (.str "stay") (.tup [.str "on", .str "back"]) = some (.bl false) := in_ob (by decide +kernel) (by decide +kernel)
theorem in_come : dIn (.str "come") (.tup [.str "on", .str "back"]) = some (.bl false) := in_ob (by decide +kernel) (by decide +kernel)
theorem in_go : dIn (.str "go") (.tup [.str "on", .str "back"]) = some (.bl false) := in_ob (by decide +kernel) (by decide +kernel)
theorem in_on : dIn (.str "on") (.tup [.str "on", .str "back"]) = some (.bl true) := in_ob (by decide +kernel) (by decide +kernel)
theorem in_back : dIn (.str "back") (.tup [.str "on", .str "back"]) = some (.bl true) := in_ob (by decide +kernel) (by decide +kernel)
/-- the stand behind a border at which both cells are exchanged -/
def swN (p : List Nat) (x y : Nat) (r : List Nat) : List Nat := ((p ++ y :: x :: r).drop 1).dropLast
theorem sw_a (t : List Nat) : swN [] 1 0 (t ++ [0]) = 1 :: t := by
  unfold swN
  show ((1 :: t) ++ [0]).dropLast = _
  exact List.dropLast_concat
theorem sw_b (q : List Nat) : swN (1 :: q) 1 0 [] = q ++ [0] := by
  unfold swN
  show (q ++ [0, 1]).dropLast = _
  rw [show q ++ [0, 1] = (q ++ [0]) ++ [1] by simp]
  exact List.dropLast_concat
theorem changed_stay {ls : List Nat} {b : Int} {s : S} : wp (D_changed [.tup (lets ls), .int b, .str "stay"] s) (fun a s' => a = .tup (lets ls) ∧ s' = s) fun _ _ => False := by
  unfold D_changed
  walk_at "b"
  (try walk_at "d")
  (repeat rw [if_neg (by decide)])
  refine ⟨_, in_stay, ?_⟩
  (try walk_at "d")
theorem ratB_rat (q : Rat) : ratB (rat q) = true := by
  have h1 := den_pos q
  have h2 := rat_gcd q
  unfold rat
  simp [ratB, h2]
  omega
/-- a die of a walk of n cells -/
structure DieQ (n : Nat) (d : Nat × Rat) : Prop where
  b : d.1 ≤ n
  q0 : 0 ≤ d.2.num
  q1 : d.2.num < d.2.den
  rb : RB d.2 7600
def dieD (d : Nat × Rat) : D := .tup [.int (d.1 : Int), rat d.2]
theorem chD_rb {w : Wk} {n b x y : Nat} (h : EW w) : RB (chD w n b x y) 6 := by
  have mk : ∀ {q : Rat}, Ch q → RB q 6 := fun c => ⟨bd_int 6 (by have := c.n0; omega) (by have := c.n1; have := c.d1; omega), bd_int 6 (by omega) (by have := c.d1; omega)⟩
  unfold chD
  split
  · exact ⟨bd_int 6 (by decide) (by decide), bd_int 6 (by decide) (by decide)⟩
  · split
    · exact mk h.ccome
    · split
      · exact mk h.cgo
      · split
        · exact mk h.con
        · exact mk h.cback
def borderB (c : Int) : D → Bool
  | .int i => decide (0 ≤ i) && decide (i ≤ c)
  | _ => false
def lessB : D → Bool
  | .tup [.int n, .int m] => decide (0 ≤ n) && decide (n < m)
  | _ => false
def dieB (c : Int) : D → Bool
  | .tup [b, s] => borderB c b && ratB s && lessB s
  | _ => false
theorem dieB_len {c : Int} {xs : List D} (h : (xs.length : Int) ≠ 2) : dieB c (.tup xs) = false := by
  match xs, h with
  | [], _ => rfl
  | [_], _ => rfl
  | [_, _], h => exact absurd rfl h
  | _ :: _ :: _ :: _, _ => rfl
theorem is_borderB {d : D} {c : Int} {ws : List D} {s : S} (h : pd d = true) : wp (D_is_border [.tup (.int c :: ws), d] s) (fun a s' => a = .bl (borderB c d) ∧ s' = s) fun _ _ => False := by
  unfold D_is_border
  walk_at "b"
  cases d with
  | int i =>
    walk_at "d"
    refine ite2 (fun e => ?_) (fun e => ?_)
    · simp [borderB, e]
    · simp [borderB, e]
  | tok n => simp [pd] at h
  | ty n => simp [pd] at h
  | glb n => simp [pd] at h
  | ktp n => simp [pd] at h
  | exc n => simp [pd] at h
  | fd n m => simp [pd] at h
  | _ => walk_at "d"; rfl
theorem is_die_any {d : D} {c : Int} {ws : List D} {s : S} (h : pd d = true) : wp (D_is_die [.tup (.int c :: ws), d] s) (fun a s' => a = .bl (dieB c d) ∧ s' = s) fun _ _ => False := by
  unfold D_is_die
  walk_at "b"
  cases d with
  | tup xs =>
    walk_at "d"
    refine ite2 (fun e => ?_) (fun e => ?_)
    · simp [dieB_len e]
    · obtain ⟨a, b, rfl⟩ := two_of (xs := xs) (by omega)
      have ha := pd_tup' h a (by simp)
      have hb := pd_tup' h b (by simp)
      walk_at "d"
      refine wpc_of (is_borderB ha) ?_
      rintro _ _ ⟨rfl, rfl⟩
      rename_i s
      walk_at "d"
      cases hq : borderB c a with
      | false => simp [dieB, hq]
      | true =>
        simp only [Bool.true_eq_false, if_false]
        refine wpc_of (is_ratio_ok hb) ?_
        rintro _ _ ⟨rfl, rfl⟩
        rename_i s
        walk_at "d"
        cases hr : ratB b with
        | false => simp [dieB, hq, hr]
        | true =>
          simp only [Bool.true_eq_false, if_false]
          obtain ⟨n, m, rfl, hm, hg⟩ := ratB_inv hr
          walk_at "d"
          refine ite2 (fun e => ?_) (fun e => ?_)
          · simp [dieB, hq, hr, lessB, e]
          · simp [dieB, hq, hr, lessB, e]
  | tok n => simp [pd] at h
  | ty n => simp [pd] at h
  | glb n => simp [pd] at h
  | ktp n => simp [pd] at h
  | exc n => simp [pd] at h
  | fd n m => simp [pd] at h
  | _ => walk_at "d"; rfl
theorem great_ok {n : Nat} {s : S} (hn : n ≤ 33) : wp (D__law_great [.int (n : Int)] s) (fun a s' => a = .int ((10 ^ 60 : Int) ^ n) ∧ s' = s) fun _ _ => False := by
  have pb : ∀ i, i ≤ 33 → Bd ((10 ^ 60 : Int) ^ i) (200 * i + 1) := fun i _ => bd_pow (n := 200) (by unfold Bd; decide) i
  have p60 : CPw 10 60 := by decide
  unfold D__law_great
  walk_at "b"
  walk_at "d"
  refine ⟨by omega, ?_⟩
  refine wpl_n (fun i : Nat => [(1, .dat (.int ((10 ^ 60 : Int) ^ i)))]) rfl (fun i d hd => ?_) ?_
  · obtain ⟨hi, rfl⟩ := rng0 hd
    refine ⟨_, rfl, ?_⟩
    walk_at "u"
    walk_at "d"
    refine ⟨p60, c_mul (pb i (by omega)) (n := 200 * i + 1) (m := 200) (by unfold Bd; decide) (by omega), ?_⟩
    rw [Int.pow_succ]
    rfl
  · walk_at "u"
    walk_at "d"
    rw [rngD_len, Int.toNat_natCast]
/-- the share of a die -/
def IsSh (d : D) : Prop := ∃ n m : Int, d = .tup [.int n, .int m] ∧ 0 ≤ n ∧ n < m ∧ Int.gcd n m = 1 ∧ Bd m 7500
theorem low_Sh {n m : Int} (h0 : 0 ≤ n) (h1 : n < m) (hb : Bd m 7500) : IsSh (rat (Rat.divInt n m)) := by
  obtain ⟨a, b, e, a0, b0, bm, g, ab⟩ := low_facts (n := n) (d := m) h0 (by omega)
  have hm : 0 < m := by omega
  have h2 : a * m < b * m := by rw [ab, Int.mul_comm b m]; exact Int.mul_lt_mul_of_pos_right h1 b0
  exact ⟨a, b, e, a0, Int.lt_of_mul_lt_mul_right h2 (by omega), g, bd_le hb (by omega)⟩
theorem great_pos {n : Nat} (h : n = 1 ∨ n = 33) : (10 : Int) ^ 60 ≤ (10 ^ 60 : Int) ^ n ∧ Bd ((10 ^ 60 : Int) ^ n) 6650 := by
  rcases h with rfl | rfl
  · exact ⟨by decide, by unfold Bd; decide⟩
  · exact ⟨by decide +kernel, bd_mono (bd_pow (n := 200) (by unfold Bd; decide) 33) (by decide)⟩
theorem ite_b {c : Prop} [Decidable c] {P : Int → Prop} {x y : Int} (hx : P x) (hy : P y) : if c then P x else P y := by split <;> assumption
structure ChI (lo n m : Int) : Prop where
  lo : lo ≤ n
  n0 : 0 ≤ n
  nm : n ≤ m
  m0 : 0 < m
  m60 : m ≤ 60
  g : Int.gcd n m = 1
theorem share_ok {n m k : Int} {r s : S} (C : ChI 0 n m) (hk : k < 2 ^ 97) (h : Pen k r s) : wp (D__law_share [.tok 1, .tup [.int n, .int m]] s) (PenD IsSh (k + 30) r) fun _ _ => False := by
  rw [show (2 : Int) ^ 97 = 158456325028528675187087900672 by decide] at hk
  obtain ⟨z1, z2, z3, z4, z5, z6⟩ := C
  have p9 : CPw 10 9 := by decide
  have p6 : CPw 10 6 := by decide
  have p30 : CPw 10 30 := by decide
  unfold D__law_share
  walk_at "b"
  walk_at "d"
  refine wpc_of (draw_ok (by decide) (by decide) (by rw [p200]; omega) h) ?_
  rintro _ s1 ⟨a, rfl, a0, a1, h1⟩
  walk_at "d"
  refine wpc_of (draw_ok (by decide) (by decide) (by rw [p200]; omega) h1) ?_
  rintro _ s2 ⟨b, rfl, b0, b1, h2⟩
  walk_at "d"
  have key : ∀ N : Nat, (N = 1 ∨ N = 33) → ∀ (Q : D → S → Prop), (∀ g : Int, (10 : Int) ^ 60 ≤ g → Bd g 6650 → Q (.int g) s2) → wpc (D__law_great [.int (N : Int)] s2) Q (fun _ _ => False) ⟨⟩ := fun N hN Q hQ => by
    refine wpc_of (great_ok (by omega)) ?_
    rintro _ _ ⟨rfl, rfl⟩
    exact hQ _ (great_pos hN).1 (great_pos hN).2
  refine ite_b (P := fun z => wpc (D__law_great [.int z] s2) _ _ _) (key 33 (.inr rfl) _ ?_) (key 1 (.inl rfl) _ ?_)
  all_goals
    intro g g0 gb
    have gp : (10 : Int) ^ 60 = 1000000000000000000000000000000000000000000000000000000000000 := by decide
    rw [gp] at g0
    walk_at "d"
    refine ⟨p9, ?_⟩
    refine wpc_of (draw_ok (by decide) (by decide) (by rw [p200]; omega) h2) ?_
    rintro _ s3 ⟨c, rfl, c0, c1, h3⟩
    walk_at "d"
    refine at_allD (P := fun d => ∃ f : Int, d = .int f ∧ 0 < f ∧ Bd f 6650) ?_ c0 (by simpa using c1) ?_
    · simp only [List.forall_mem_cons, List.not_mem_nil, false_implies, implies_true, and_true]
      exact ⟨⟨_, rfl, by decide, bd_mono (bd_of (n := 64) (by decide)) (by decide)⟩, ⟨_, rfl, by decide, bd_mono (bd_of (n := 64) (by decide)) (by decide)⟩, ⟨_, rfl, by decide, bd_mono (bd_of (n := 64) (by decide)) (by decide)⟩, ⟨_, rfl, by omega, gb⟩⟩
    rintro _ ⟨f, rfl, f0, fb⟩
    refine ⟨p6, ?_⟩
    refine wpc_of (draw_ok (by decide) (by decide) (by rw [p200]; omega) h3) ?_
    rintro _ s4 ⟨d, rfl, d0, d1, h4⟩
    walk_at "d"
    refine ⟨p6, p30, ?_⟩
    refine wpc_of (draw_ok (by decide) (by decide) (by rw [p200]; omega) h4) ?_
    rintro _ s5 ⟨e, rfl, e0, e1, h5⟩
    walk_at "d"
    refine at_allD (P := fun d => ∃ f : Int, d = .int f ∧ 0 < f ∧ Bd f 6650) ?_ e0 (by simpa using e1) ?_
    · simp only [List.forall_mem_cons, List.not_mem_nil, false_implies, implies_true, and_true]
      exact ⟨⟨_, rfl, by decide, bd_mono (bd_of (n := 64) (by decide)) (by decide)⟩, ⟨_, rfl, by decide, bd_mono (bd_of (n := 64) (by decide)) (by decide)⟩, ⟨_, rfl, by decide, by unfold Bd; decide +kernel⟩, ⟨_, rfl, by omega, gb⟩⟩
    rintro _ ⟨u, rfl, u0, ub⟩
    have d6 : d < 1000000 := d1
    have bd : Bd d 20 := bd_int 20 (by omega) (by omega)
    walk_at "d"
    refine ⟨c_mul bd ub (by decide), p6, ?_⟩
    refine wpc_of (draw_ok (by decide) (by decide) (by rw [p200]; omega) h5) ?_
    rintro _ s6 ⟨v, rfl, v0, v1, h6⟩
    have v6 : v < 1000000 := v1
    have bv : Bd v 20 := bd_int 20 (by omega) (by omega)
    walk_at "d"
    have B0 : 0 ≤ d * u := Int.mul_nonneg d0 (by omega)
    have B1 : 0 < 1 + d * u := by omega
    have BB : Bd (1 + d * u) 6700 := bd_mono (bd_add' (bd_mono (bd_of (n := 64) (by decide)) (show 64 ≤ 6699 by decide)) (bd_mono (bd_mul bd ub) (by decide))) (by decide)
    refine ⟨c_mul bv gb (by decide), p6, cfd_64 (by decide) (by decide), by omega, ?_⟩
    refine wpc_of (draw_ok (by decide) (by decide) (by rw [p200]; omega) h6) ?_
    rintro _ s7 ⟨w, rfl, w0, w1, h7⟩
    walk_at "d"
    obtain ⟨r0, r1⟩ := fmod_rng (i := (v * g).fdiv (10 ^ Int.toNat 6)) B1
    generalize ((v * g).fdiv (10 ^ Int.toNat 6)).fmod (1 + d * u) = y at *
    generalize 1 + d * u = z at *
    have fin : ∀ d, IsSh d → PenD IsSh (k + 30) r d s7 := fun d hd => ⟨hd, pen_mono h7 (by omega)⟩
    have rest : 0 < n → wpc (D__law_lowest [.int (n * f - 1), .int (m * f)] s7) (PenD IsSh (k + 30) r) (fun _ _ => False) ⟨⟩ := by
      intro n1
      have q0 : 0 < n * f := Int.mul_pos (by omega) f0
      have q1 : 0 < m * f := Int.mul_pos z4 f0
      have q2 : n * f ≤ m * f := Int.mul_le_mul_of_nonneg_right z3 (by omega)
      have qb : Bd (m * f) 7500 := bd_mono (bd_mul (bd_int 8 (by omega) (by omega)) fb) (by decide)
      refine wpc_of (lowest_ok (by omega) q1 (bd_mono qb (by decide))) ?_
      rintro _ _ ⟨rfl, rfl⟩
      exact fin _ (low_Sh (by omega) (by omega) qb)
    have gg : Int.gcd (g - 2) (g - 1) = 1 := by
      have h1 := Int.gcd_dvd_left (g - 2) (g - 1)
      have h2 := Int.gcd_dvd_right (g - 2) (g - 1)
      have h3 : ((Int.gcd (g - 2) (g - 1) : Nat) : Int) ∣ 1 := by
        have := Int.dvd_sub h2 h1
        rwa [show g - 1 - (g - 2) = 1 by omega] at this
      have h4 := Int.le_of_dvd (by decide) h3
      have h5 : 0 < Int.gcd (g - 2) (g - 1) := Int.gcd_pos_of_ne_zero_right _ (by omega)
      omega
    have gb1 : Bd (g - 1) 7500 := bd_mono (bd_sub' gb (bd_mono (bd_of (n := 64) (by decide)) (by decide))) (by decide)
    refine ite2 (fun e1 => ?_) (fun e1 => ?_)
    · refine ite2 (fun e2 => ?_) (fun e2 => ?_)
      · exact fin _ ⟨n, m, rfl, z2, e2, z6, bd_mono (bd_int 8 (by omega) (by omega)) (by decide)⟩
      · rw [if_pos (by omega), if_pos (by omega)]
        refine ⟨c_mul (bd_int 8 (by omega) (by omega)) fb (by decide), c_mul (bd_int 8 (by omega) (by omega)) fb (by decide), rest (by omega)⟩
    · refine ite2 (fun e3 => ?_) (fun e3 => ?_)
      · refine ite2 (fun g1 => ?_) (fun g1 => ?_)
        · refine ⟨c_mul (bd_int 8 (by omega) (by omega)) fb (by decide), c_mul (bd_int 8 (by omega) (by omega)) fb (by decide), rest (by omega)⟩
        · rw [if_pos (by omega)]
          have two : a = 2 ∨ a = 3 := by omega
          have s0 : IsSh (.tup [.int 0, .int 1]) := ⟨0, 1, rfl, by decide, by decide, by decide, bd_mono (bd_of (n := 64) (by decide)) (by decide)⟩
          have s1 : IsSh (.tup [.int (g - 2), .int (g - 1)]) := ⟨g - 2, g - 1, rfl, by omega, by omega, gg, gb1⟩
          rcases two with rfl | rfl
          · exact ⟨_, rfl, fin _ s0⟩
          · exact ⟨_, rfl, fin _ s1⟩
      · refine ite2 (fun e4 => ?_) (fun e4 => ?_)
        · refine at_allD (P := IsSh) ?_ (by omega) (by simp; omega) fun x hx => fin x hx
          simp only [List.forall_mem_cons, List.not_mem_nil, false_implies, implies_true, and_true]
          exact ⟨⟨0, 1, rfl, by decide, by decide, by decide, bd_mono (bd_of (n := 64) (by decide)) (by decide)⟩, ⟨g - 2, g - 1, rfl, by omega, by omega, gg, gb1⟩⟩
        · refine wpc_of (lowest_ok r0 B1 (bd_mono BB (by decide))) ?_
          rintro _ _ ⟨rfl, rfl⟩
          walk_at "d"
          refine wpc_of (lowest_ok w0 (by decide) (bd_mono (bd_of (n := 64) (by decide)) (by decide))) ?_
          rintro _ _ ⟨rfl, rfl⟩
          walk_at "d"
          refine at_allD (P := IsSh) ?_ (by omega) (by simp; omega) fun x hx => fin x hx
          simp only [List.forall_mem_cons, List.not_mem_nil, false_implies, implies_true, and_true]
          exact ⟨low_Sh r0 r1 (bd_mono BB (by decide)), low_Sh w0 w1 (bd_mono (bd_of (n := 64) (by decide)) (by decide))⟩
theorem sh_rat {d : D} (h : IsSh d) : ∃ q : Rat, d = rat q ∧ 0 ≤ q.num ∧ q.num < q.den ∧ RB q 7600 := by
  obtain ⟨n, m, rfl, n0, nm, g, b⟩ := h
  have em : ((m.toNat : Nat) : Int) = m := Int.toNat_of_nonneg (by omega)
  refine ⟨⟨n, m.toNat, by omega, ?_⟩, ?_, n0, by show n < ((m.toNat : Nat) : Int); omega, ?_, ?_⟩
  · show n.natAbs.gcd m.toNat = 1
    rw [show m.toNat = m.natAbs by omega]
    exact g
  · show D.tup [.int n, .int m] = .tup [.int n, .int ((m.toNat : Nat) : Int)]
    rw [em]
  · show Bd n 7600
    unfold Bd at b ⊢
    exact Nat.lt_of_lt_of_le (show n.natAbs < 2 ^ 7500 by omega) (Nat.pow_le_pow_right (by decide) (by decide))
  · show Bd ((m.toNat : Nat) : Int) 7600
    rw [em]
    exact bd_mono b (by decide)
theorem share_q {C : Rat} {k : Int} {r s : S} (hC : Ch C) (hk : k < 2 ^ 97) (h : Pen k r s) : wp (D__law_share [.tok 1, rat C] s) (PenD (fun d => ∃ q : Rat, d = rat q ∧ 0 ≤ q.num ∧ q.num < q.den ∧ RB q 7600) (k + 30) r) fun _ _ => False := by
  have c1 := hC.n0; have c2 := hC.n1; have c3 := hC.d1; have c4 := den_pos C
  exact wp_mono (share_ok ⟨c1, c1, c2, c4, c3, rat_gcd C⟩ hk h) (fun d s z => ⟨sh_rat z.1, z.2⟩) fun _ _ z => z
theorem dieB_ok {n : Nat} {d : Nat × Rat} (h : DieQ n d) : dieB (n : Int) (dieD d) = true := by
  obtain ⟨b, q⟩ := d
  have h1 : b ≤ n := h.b
  have h2 : 0 ≤ q.num := h.q0
  have h3 : q.num < q.den := h.q1
  have h4 := ratB_rat q
  show (borderB (n : Int) (.int (b : Int)) && ratB (rat q) && lessB (rat q)) = true
  rw [h4]
  simp [borderB, rat, lessB, h2, h3]
  omega
theorem pd_die (d : Nat × Rat) : pd (dieD d) = true := rfl
theorem is_die_ok {n : Nat} {w : Wk} {d : Nat × Rat} {s : S} (h : DieQ n d) : wp (D_is_die [walkD (n : Int) w, dieD d] s) (fun a s' => a = .bl true ∧ s' = s) fun _ _ => False := by
  have z := is_die_any (d := dieD d) (c := (n : Int)) (ws := [rat w.on, rat w.back, rat w.come, rat w.go]) (s := s) (pd_die d)
  rw [dieB_ok h] at z
  exact z
def nxL (ls : List Nat) (b : Nat) : List Nat :=
  let L := 1 :: (ls ++ [0])
  let x := L[b]?.getD 0
  let y := L[b + 1]?.getD 0
  if x = y then ls else ((L.take b ++ y :: x :: L.drop (b + 2)).drop 1).dropLast
def chL (w : Wk) (ls : List Nat) (b : Nat) : Rat := chD w ls.length b ((1 :: (ls ++ [0]))[b]?.getD 0) ((1 :: (ls ++ [0]))[b + 1]?.getD 0)
theorem nxL_eq {ls p r : List Nat} {x y : Nat} (e : 1 :: (ls ++ [0]) = p ++ x :: y :: r) : nxL ls p.length = if x = y then ls else swN p x y r := by
  have h1 : (p ++ x :: y :: r)[p.length]?.getD 0 = x := by simp
  have h2 : (p ++ x :: y :: r)[p.length + 1]?.getD 0 = y := by
    rw [List.getElem?_append_right (by omega)]; simp
  have h3 : (p ++ x :: y :: r).take p.length = p := List.take_left' rfl
  have h4 : (p ++ x :: y :: r).drop (p.length + 2) = r := by
    rw [show p ++ x :: y :: r = (p ++ [x, y]) ++ r by simp]
    exact List.drop_left' (by simp)
  unfold nxL swN
  simp only [e, h1, h2, h3, h4]
theorem chL_eq {w : Wk} {ls p r : List Nat} {x y : Nat} (e : 1 :: (ls ++ [0]) = p ++ x :: y :: r) : chL w ls p.length = chD w ls.length p.length x y := by
  have h1 : (p ++ x :: y :: r)[p.length]?.getD 0 = x := by simp
  have h2 : (p ++ x :: y :: r)[p.length + 1]?.getD 0 = y := by
    rw [List.getElem?_append_right (by omega)]; simp
  unfold chL
  simp only [e, h1, h2]
def nextD (w : Wk) (ls : List Nat) (b : Nat) : D := .tup [.tup (lets (nxL ls b)), rat (chL w ls b)]
theorem next_ok {n : Nat} {w : Wk} {ls : List Nat} {s : S} (h1 : 1 ≤ n) (hn : n ≤ 12) (hs : Stand n ls) : wp (D__law_next [walkD (n : Int) w, .tup (lets ls)] s) (fun a s' => a = .lst ((List.range (n + 1)).map (nextD w ls)) ∧ s' = s) fun _ _ => False := by
  have hl := hs.len
  unfold D__law_next
  walk_at "b"
  rw [show walkD (n : Int) w = .tup [.int (n : Int), rat w.on, rat w.back, rat w.come, rat w.go] from rfl]
  (try walk_at "d")
  have ell : (lets ls).length = n := by rw [lets_len, hl]
  have rl : (List.replicate ((n : Int) - 1).toNat [rat w.on]).flatten = List.replicate (n - 1) (rat w.on) := by
    rw [repf, show ((n : Int) - 1).toNat = n - 1 by omega]
  rw [rl]
  simp only [List.length_replicate]
  refine ⟨⟨by omega, by omega, by omega⟩, by omega, by omega, by omega, by omega, ⟨by omega, by omega⟩, ?_⟩
  have walkE : walkD (n : Int) w = .tup [.int (n : Int), rat w.on, rat w.back, rat w.come, rat w.go] := rfl
  rw [← walkE]
  have chances : ∀ b : Nat, b ≤ n → (rat w.come :: (List.replicate (n - 1) (rat w.on) ++ [rat w.go]))[b]? = some (rat (if b = 0 then w.come else if b = n then w.go else w.on)) := fun b hb => by
    by_cases b0 : b = 0
    · subst b0; rfl
    · rw [if_neg b0]
      obtain ⟨c, rfl⟩ : ∃ c, b = c + 1 := ⟨b - 1, by omega⟩
      rw [List.getElem?_cons_succ]
      by_cases bn : c + 1 = n
      · rw [if_pos bn, List.getElem?_append_right (by simp; omega)]
        simp only [List.length_replicate]
        rw [show c - (n - 1) = 0 by omega]
        rfl
      · rw [if_neg bn, List.getElem?_append_left (by simp; omega), List.getElem?_replicate, if_pos (by omega)]
  refine wpl_n (fun i => [(4, .own ((List.range i).map (nextD w ls)))]) rfl (fun i d hd => ?_) ?_
  · obtain ⟨hi, rfl⟩ := rng0 hd
    obtain ⟨p, x, y, r, e, rfl⟩ := split2 (L := 1 :: (ls ++ [0])) (b := i) (by simp; omega)
    have le := congrArg List.length e
    simp only [List.length_cons, List.length_append, List.length_nil] at le
    have eL : D.int 1 :: (lets ls ++ [D.int 0]) = lets (p ++ x :: y :: r) := by rw [← e]; simp [lets]
    have a1 : atI (lets (p ++ x :: y :: r)) (p.length : Int) = some (.int (x : Int)) := atI_nat (by simp [lets])
    have a2 : atI (lets (p ++ x :: y :: r)) ((p.length : Int) + 1) = some (.int (y : Int)) := by
      rw [show (p.length : Int) + 1 = ((p.length + 1 : Nat) : Int) by omega]
      exact atI_nat (by
        rw [show p ++ x :: y :: r = (p ++ [x]) ++ y :: r by simp]
        unfold lets
        rw [List.map_append, List.getElem?_append_right (by simp)]
        simp)
    have a3 : atI (rat w.come :: (List.replicate (n - 1) (rat w.on) ++ [rat w.go])) (p.length : Int) = some (rat (if p.length = 0 then w.come else if p.length = n then w.go else w.on)) := atI_nat (chances _ (by omega))
    have c1 : cutL (lets (p ++ x :: y :: r)) none (some (p.length : Int)) = lets p := by
      rw [cut_take (by omega), Int.toNat_natCast]
      simp [lets]
    have c2 : cutL (lets (p ++ x :: y :: r)) (some ((p.length : Int) + 2)) none = lets r := by
      rw [cut_drop (by omega), show ((p.length : Int) + 2).toNat = p.length + 2 by omega, show lets (p ++ x :: y :: r) = lets (p ++ [x, y]) ++ lets r by simp [lets]]
      exact List.drop_left' (by simp [lets])
    refine ⟨_, rfl, ?_⟩
    walk_at "u"
    rw [eL]
    (try walk_at "d")
    rw [walkE]
    (try walk_at "d")
    have s1 : ∀ C : Rat, ∃ z3 z4, dLt (.int (x : Int)) (.int (y : Int)) = some z3 ∧ dInt [z3] = some z4 ∧ dIxT s (.lst [rat C, rat w.back]) z4 = some (rat (if x < y then w.back else C)) := fun C => by
      by_cases h : x < y
      · refine ⟨.bl true, .int 1, ?_, rfl, ?_⟩
        · show some (D.bl (decide ((x : Int) < y))) = _
          rw [decide_eq_true (by omega)]
        · rw [if_pos h]; rfl
      · refine ⟨.bl false, .int 0, ?_, rfl, ?_⟩
        · show some (D.bl (decide ((x : Int) < y))) = _
          rw [decide_eq_false (by omega)]
        · rw [if_neg h]; rfl
    have s2 : ∃ z9 z10, dEq (.int (x : Int)) (.int (y : Int)) = some z9 ∧ dInt [z9] = some z10 ∧ ∀ A B : D, dIxT s (.lst [A, B]) z10 = some (if x = y then B else A) := by
      by_cases h : x = y
      · refine ⟨.bl true, .int 1, ?_, rfl, fun A B => ?_⟩
        · rw [eq_int, decide_eq_true (by omega)]
        · rw [if_pos h]; rfl
      · refine ⟨.bl false, .int 0, ?_, rfl, fun A B => ?_⟩
        · rw [eq_int, decide_eq_false (by omega)]
        · rw [if_neg h]; rfl
    obtain ⟨z3, z4, q1, q2, q3⟩ := s1 (if p.length = 0 then w.come else if p.length = n then w.go else w.on)
    obtain ⟨z9, z10, q4, q5, q6⟩ := s2
    refine ⟨_, a3, _, a1, _, a2, z3, q1, z4, q2, _, q3, _, a2, _, a1, ?_, ?_, _, a1, _, a2, z9, q4, z10, q5, _, q6 _ _, ?_, ?_⟩
    · rw [c1]; simp [lets]; omega
    · rw [c1, c2]; simp [lets]; omega
    · simp; omega
    · rw [List.range_succ, List.map_append]
      have same : (if x = y then D.tup [D.tup (lets ls), D.tup [D.int 0, D.int 1]] else D.tup [D.tup (cutL (cutL (lets (p ++ x :: y :: r)) none (some (p.length : Int)) ++ [D.int (y : Int), D.int (x : Int)] ++ cutL (lets (p ++ x :: y :: r)) (some ((p.length : Int) + 2)) none) (some 1) (some (-1))), rat (if x < y then w.back else if p.length = 0 then w.come else if p.length = n then w.go else w.on)]) = nextD w ls p.length := by
        unfold nextD
        rw [nxL_eq e, chL_eq e, c1, c2]
        by_cases h : x = y
        · rw [if_pos h, if_pos h, show chD w ls.length p.length x y = 0 from if_pos h]; rfl
        · rw [if_neg h, if_neg h]
          have hc : chD w ls.length p.length x y = (if x < y then w.back else if p.length = 0 then w.come else if p.length = n then w.go else w.on) := by
            unfold chD
            rw [if_neg h, hl]
            have zero : p.length = 0 → x = 1 := fun z => by
              have : p = [] := List.eq_nil_of_length_eq_zero z
              subst this
              simp at e
              exact e.1.symm
            have last : p.length = n → y = 0 := fun z => by
              have : r = [] := List.eq_nil_of_length_eq_zero (by omega)
              subst this
              have e2 := congrArg List.getLast? e
              rw [show (1 :: (ls ++ [0])) = (1 :: ls) ++ [0] by simp, List.getLast?_concat, show p ++ [x, y] = (p ++ [x]) ++ [y] by simp, List.getLast?_concat] at e2
              exact (Option.some.inj e2).symm
            have b01 : y ≤ 1 := by
              have : y ∈ 1 :: (ls ++ [0]) := by rw [e]; simp
              simp only [List.mem_cons, List.mem_append, List.not_mem_nil, or_false] at this
              rcases this with h | h | h
              · omega
              · rcases hs.h01 y h with h | h <;> omega
              · omega
            by_cases g0 : p.length = 0
            · have := zero g0
              rw [if_pos g0, if_neg (by omega), if_pos g0]
            · rw [if_neg g0]
              by_cases gn : p.length = n
              · have := last gn
                rw [if_pos gn, if_neg (by omega), if_neg g0, if_pos gn]
              · rw [if_neg gn]
                by_cases gy : y < x
                · rw [if_pos gy, if_neg (by omega), if_neg g0, if_neg gn]
                · rw [if_neg gy, if_pos (by omega)]
          rw [hc]
          congr 2
          rw [show lets p ++ [D.int (y : Int), D.int (x : Int)] ++ lets r = lets (p ++ y :: x :: r) by simp [lets]]
          rw [cut_mid (by simp; omega)]
          rfl
      rw [same]
      rfl
  · walk_at "u"
    (try walk_at "d")
    rw [rngD_len]
    rw [show ((n : Int) + 1).toNat = n + 1 by omega]
theorem num_q {q C : Rat} : q.num * (C.den : Int) < C.num * (q.den : Int) ↔ q < C := (Rat.lt_iff q C).symm
theorem chL_ch {n : Nat} {w : Wk} {ls : List Nat} {b : Nat} (h : EW w) : Ch (chL w ls b) := by
  unfold chL chD
  split
  · exact ⟨by decide, by decide, by decide⟩
  · split
    · exact h.ccome
    · split
      · exact h.cgo
      · split
        · exact h.con
        · exact h.cback
/-! ### rows of numbers -/
def bit (v : Nat) : Nat := min v 1
def bits (R : List Nat) : List Nat := R.map bit
theorem bit0 : bit 0 = 0 := rfl
theorem bit1 {v : Nat} (h : v ≠ 0) : bit v = 1 := by unfold bit; omega
theorem bit_two (v : Nat) : bit v = 0 ∨ bit v = 1 := by unfold bit; omega
theorem bit_0 {v : Nat} (h : bit v = 0) : v = 0 := by unfold bit at h; omega
theorem bit_1 {v : Nat} (h : bit v ≠ 0) : v ≠ 0 := by unfold bit at h; omega
theorem bits_len (R : List Nat) : (bits R).length = R.length := by simp [bits]
theorem bits_01 (R : List Nat) : ∀ z ∈ bits R, z = 0 ∨ z = 1 := fun z hz => by
  obtain ⟨v, _, rfl⟩ := List.mem_map.mp hz
  exact bit_two v
/-- what a die may do to a row of numbers: the border, the word, who does it, the row behind -/
inductive Ev (R : List Nat) (c : Nat) : Nat → Str → Nat → List Nat → Prop
  | stay (b : Nat) : Ev R c b "stay" 0 R
  | come {t : List Nat} (h : R = 0 :: t) : Ev R c 0 "come" c (c :: t)
  | go {t : List Nat} {v : Nat} (h : R = t ++ [v]) (hv : v ≠ 0) : Ev R c (t.length + 1) "go" v (t ++ [0])
  | on {p r : List Nat} {u : Nat} (h : R = p ++ u :: 0 :: r) (hu : u ≠ 0) : Ev R c (p.length + 1) "on" u (p ++ 0 :: u :: r)
  | back {p r : List Nat} {v : Nat} (h : R = p ++ 0 :: v :: r) (hv : v ≠ 0) : Ev R c (p.length + 1) "back" v (p ++ v :: 0 :: r)
def wordA (n b x y : Nat) : Str := if x = y then "stay" else if b = 0 then "come" else if b = n then "go" else if y < x then "on" else "back"
theorem deed_w {c : Int} {w : Wk} {ls p r : List Nat} {x y : Nat} {s : S} (hc : c = (ls.length : Nat)) (h1 : 1 ≤ ls.length) (h6 : ls.length ≤ 12) (h01 : ∀ z ∈ ls, z = 0 ∨ z = 1) (e : 1 :: (ls ++ [0]) = p ++ x :: y :: r) :
    wp (D_deed_at [walkD c w, .tup (lets ls), .int (p.length : Int)] s) (fun a s' => a = .tup [.str (wordA ls.length p.length x y), rat (chD w ls.length p.length x y)] ∧ s' = s) fun _ _ => False := by
  have walkE : walkD c w = .tup [.int c, rat w.on, rat w.back, rat w.come, rat w.go] := rfl
  have stay : x = y → (D.tup [.str "stay", .tup [.int 0, .int 1]] = .tup [.str (wordA ls.length p.length x y), rat (chD w ls.length p.length x y)]) := fun h => by
    unfold wordA chD
    rw [if_pos h, if_pos h]
    rfl
  rcases p with _ | ⟨q0, q⟩
  · simp only [List.nil_append, List.cons.injEq] at e
    obtain ⟨rfl, e⟩ := e
    rcases ls with _ | ⟨y0, t⟩
    · simp at h1
    simp only [List.cons_append, List.cons.injEq] at e
    obtain ⟨rfl, rfl⟩ := e
    have hy := h01 y0 (by simp)
    unfold D_deed_at
    walk_at "b"
    rw [walkE]
    have a0 : atI (lets (y0 :: t)) 0 = some (.int (y0 : Int)) := at_0
    (try walk_at "d")
    refine ⟨_, a0, ?_⟩
    (try walk_at "d")
    have cc : ¬ (0 = c) := by rw [hc]; simp only [List.length_cons]; omega
    rcases hy with rfl | rfl
    · rw [if_pos (by decide)]
      unfold wordA chD
      rw [if_neg (by decide), if_pos rfl, if_neg (by decide), if_pos rfl]
    · rw [if_neg (by decide), if_neg cc, if_neg (by decide)]
      (try rw [if_neg (by decide)])
      exact stay rfl
  · simp only [List.cons_append, List.cons.injEq] at e
    obtain ⟨rfl, e⟩ := e
    rcases List.eq_nil_or_concat r with rfl | ⟨r', z, rfl⟩
    · have e2 : ls ++ [0] = (q ++ [x]) ++ [y] := by rw [e]; simp
      obtain ⟨rfl, e3⟩ := List.append_inj' e2 rfl
      have : 0 = y := by simpa using e3
      subst this
      have hx := h01 x (by simp)
      unfold D_deed_at
      walk_at "b"
      rw [walkE]
      (try walk_at "d")
      have bc : ((q.length + 1 : Nat) : Int) = c := by rw [hc]; simp
      have al : atI (lets (q ++ [x])) (-1) = some (.int (x : Int)) := by rw [lets_snoc]; exact at_last
      rw [if_neg (by omega), if_pos bc]
      refine ⟨_, al, ?_⟩
      (try walk_at "d")
      rcases hx with rfl | rfl
      · rw [if_neg (by decide), if_pos (by omega), if_neg (by omega)]
        (try rw [if_pos (by omega), if_neg (by omega)])
        exact stay rfl
      · rw [if_pos (by decide)]
        unfold wordA chD
        rw [if_neg (by decide), if_neg (by simp), if_pos (by simp), if_neg (by decide), if_neg (by simp), if_pos (by simp)]
    · rw [List.concat_eq_append] at *
      have e2 : ls ++ [0] = (q ++ x :: y :: r') ++ [z] := by rw [e]; simp
      obtain ⟨rfl, e3⟩ := List.append_inj' e2 rfl
      have : 0 = z := by simpa using e3
      subst this
      have hx := h01 x (by simp)
      have hy := h01 y (by simp)
      unfold D_deed_at
      walk_at "b"
      rw [walkE]
      (try walk_at "d")
      have ll : (q ++ x :: y :: r').length = q.length + r'.length + 2 := by simp; omega
      have a1 : atI (lets (q ++ x :: y :: r')) (((q.length + 1 : Nat) : Int) - 1) = some (.int (x : Int)) := by
        rw [show ((q.length + 1 : Nat) : Int) - 1 = (q.length : Int) by omega]
        exact atI_nat (by simp [lets])
      have a2 : atI (lets (q ++ x :: y :: r')) ((q.length + 1 : Nat) : Int) = some (.int (y : Int)) := atI_nat (by
        rw [show q ++ x :: y :: r' = (q ++ [x]) ++ y :: r' by simp]
        unfold lets
        rw [List.map_append, List.getElem?_append_right (by simp)]
        simp)
      rw [if_neg (by omega), if_neg (by rw [hc, ll]; omega), if_pos (by omega), if_pos (by rw [hc, ll]; omega)]
      refine ⟨_, a1, _, a2, ?_⟩
      (try walk_at "d")
      have z1 : ¬ q.length + 1 = 0 := by omega
      have z2 : ¬ q.length + 1 = (q ++ x :: y :: r').length := by rw [ll]; omega
      refine ite2 (fun h => ?_) (fun h => ?_)
      · unfold wordA chD
        rw [if_neg (by omega), if_neg z1, if_neg z2, if_pos (by omega), if_neg (by omega), if_neg z1, if_neg z2, if_pos (by omega)]
      · rw [if_pos (by omega), if_pos (by rw [hc, ll]; omega)]
        refine ⟨_, a1, _, a2, ?_⟩
        (try walk_at "d")
        refine ite2 (fun h' => ?_) (fun h' => ?_)
        · unfold wordA chD
          rw [if_neg (by omega), if_neg z1, if_neg z2, if_neg (by omega), if_neg (by omega), if_neg z1, if_neg z2, if_neg (by omega)]
        · exact stay (by omega)
theorem happens_w {n : Nat} {w : Wk} {ls p r : List Nat} {x y : Nat} {q : Rat} {s : S} (h : EW w) (h1 : 1 ≤ n) (hn : n ≤ 12) (hl : ls.length = n) (h01 : ∀ z ∈ ls, z = 0 ∨ z = 1) (rq : RB q 7600) (e : 1 :: (ls ++ [0]) = p ++ x :: y :: r) :
    wp (D_happens [walkD (n : Int) w, .tup (lets ls), dieD (p.length, q)] s) (fun a s' => a = .str (if x = y ∨ ¬ q < chD w n p.length x y then "stay" else wordA n p.length x y) ∧ s' = s) fun _ _ => False := by
  unfold D_happens dieD
  walk_at "b"
  (try walk_at "d")
  refine wpc_of (deed_w (by rw [hl]) (by omega) (by omega) h01 e) ?_
  rintro _ _ ⟨rfl, rfl⟩
  (try walk_at "d")
  refine wpc_of (is_lessR_ok (isR q) (isR _) rq (chD_rb h) (by decide)) ?_
  rintro _ _ ⟨rfl, rfl⟩
  (try walk_at "d")
  rw [hl]
  refine ite2 (fun g => ?_) (fun g => ?_)
  · by_cases q : x = y
    · rw [if_pos (.inl q)]; unfold wordA; rw [if_pos q]
    · rw [if_neg (fun z => z.elim q fun z => z g)]
  · rw [if_pos (.inr g)]
theorem changed_come {r0 : Nat} {t : List Nat} {s : S} : wp (D_changed [.tup (lets (r0 :: t)), .int 0, .str "come"] s) (fun a s' => a = .tup (lets (1 :: t)) ∧ s' = s) fun _ _ => False := by
  unfold D_changed
  walk_at "b"
  (try walk_at "d")
  (repeat first | rw [if_pos (show Str.ofString "come" = Str.ofString "come" from rfl)] | rw [if_neg (by decide)])
  have x0 : ixN (lets (r0 :: t)).length 0 = some 0 := by simp [ixN, lets]
  refine ⟨_, x0, ?_⟩
  (try walk_at "d")
  (repeat rw [if_neg (by decide)])
  refine ⟨_, in_come, ?_⟩
  (try walk_at "d")
  rfl
theorem changed_go {v : Nat} {t : List Nat} {b : Int} {s : S} : wp (D_changed [.tup (lets (t ++ [v])), .int b, .str "go"] s) (fun a s' => a = .tup (lets (t ++ [0])) ∧ s' = s) fun _ _ => False := by
  unfold D_changed
  walk_at "b"
  (try walk_at "d")
  (repeat first | rw [if_pos (show Str.ofString "go" = Str.ofString "go" from rfl)] | rw [if_neg (by decide)])
  have x0 : ixN (lets (t ++ [v])).length (-1) = some t.length := by
    rw [lets_len]
    simp [ixN]
    omega
  refine ⟨_, x0, ?_⟩
  (try walk_at "d")
  refine ⟨_, in_go, ?_⟩
  (try walk_at "d")
  simp [lets]
theorem at_a {p r : List Nat} {u v : Nat} : atI (lets (p ++ u :: v :: r)) (((p.length + 1 : Nat) : Int) - 1) = some (.int (u : Int)) := by
  rw [show ((p.length + 1 : Nat) : Int) - 1 = (p.length : Int) by omega]
  exact atI_nat (by simp [lets])
theorem at_b {p r : List Nat} {u v : Nat} : atI (lets (p ++ u :: v :: r)) ((p.length + 1 : Nat) : Int) = some (.int (v : Int)) := atI_nat (by
  rw [show p ++ u :: v :: r = (p ++ [u]) ++ v :: r by simp]
  unfold lets
  rw [List.map_append, List.getElem?_append_right (by simp)]
  simp)
theorem changed_sw {p r : List Nat} {u v : Nat} {W : Str} {s : S} (hW : W = "on" ∨ W = "back") : wp (D_changed [.tup (lets (p ++ u :: v :: r)), .int ((p.length + 1 : Nat) : Int), .str W] s) (fun a s' => a = .tup (lets (p ++ v :: u :: r)) ∧ s' = s) fun _ _ => False := by
  have ll : (p ++ u :: v :: r).length = p.length + r.length + 2 := by simp; omega
  have x1 : ixN (lets (p ++ u :: v :: r)).length (((p.length + 1 : Nat) : Int) - 1) = some p.length := ixN_lt (by omega) (by rw [lets_len]; omega)
  have x2 : ∀ d : D, ixN ((lets (p ++ u :: v :: r)).set p.length d).length ((p.length + 1 : Nat) : Int) = some (p.length + 1) := fun d => ixN_lt rfl (by rw [List.length_set, lets_len]; omega)
  have st : ((lets (p ++ u :: v :: r)).set p.length (.int (v : Int))).set (p.length + 1) (.int (u : Int)) = lets (p ++ v :: u :: r) := by
    simp [lets, List.set_append]
  unfold D_changed
  walk_at "b"
  have iW : dIn (.str W) (.tup [.str "on", .str "back"]) = some (.bl true) := by
    rcases hW with rfl | rfl
    · exact in_on
    · exact in_back
  have n1 : ¬ W = "come" := by rcases hW with rfl | rfl <;> decide
  have n2 : ¬ W = "go" := by rcases hW with rfl | rfl <;> decide
  (try walk_at "d")
  rw [if_neg n1, if_neg n2]
  refine ⟨_, iW, ?_⟩
  (try walk_at "d")
  refine ⟨_, at_b, _, x1, _, at_a, _, x2 _, ?_⟩
  rw [st]
def ogD : List D := [.str "on", .str "go"]
theorem in_og {W : Str} {b : Bool} (h : (ready (.str W) && ready (.tup ogD)) = true) (k : inB (.str W) ogD = b) : dIn (.str W) (.tup [.str "on", .str "go"]) = some (.bl b) := by
  show (if ready (.str W) && ready (.tup ogD) then some (D.bl (inB (.str W) ogD)) else none) = _
  rw [if_pos h, k]
theorem og_stay : dIn (.str "stay") (.tup [.str "on", .str "go"]) = some (.bl false) := in_og (by decide +kernel) (by decide +kernel)
theorem og_back : dIn (.str "back") (.tup [.str "on", .str "go"]) = some (.bl false) := in_og (by decide +kernel) (by decide +kernel)
theorem og_on : dIn (.str "on") (.tup [.str "on", .str "go"]) = some (.bl true) := in_og (by decide +kernel) (by decide +kernel)
theorem og_go : dIn (.str "go") (.tup [.str "on", .str "go"]) = some (.bl true) := in_og (by decide +kernel) (by decide +kernel)
/-- who does it -/
theorem who_ok {R R' : List Nat} {c b v : Nat} {W : Str} {s : S} (h : Ev R c b W v R') : wp (D_who_does [.tup (lets R), .int (b : Int), .str W, .int (c : Int)] s) (fun a s' => a = .int (v : Int) ∧ s' = s) fun _ _ => False := by
  cases h with
  | stay b =>
    unfold D_who_does
    walk_at "b"
    (try walk_at "d")
    (repeat rw [if_neg (by decide)])
    refine ⟨_, og_stay, ?_⟩
    (try walk_at "d")
    (repeat rw [if_neg (by decide)])
    (try walk_at "d")
    (try rfl)
  | come h =>
    unfold D_who_does
    walk_at "b"
    (try walk_at "d")
    (try rw [if_pos (show Str.ofString "come" = Str.ofString "come" from rfl)])
  | @go t v h hv =>
    subst h
    unfold D_who_does
    walk_at "b"
    (try walk_at "d")
    (repeat rw [if_neg (by decide)])
    refine ⟨_, og_go, ?_⟩
    (try walk_at "d")
    have al : atI (lets (t ++ [v])) (((t.length + 1 : Nat) : Int) - 1) = some (.int (v : Int)) := by
      rw [show ((t.length + 1 : Nat) : Int) - 1 = (t.length : Int) by omega]
      exact atI_nat (by simp [lets])
    exact ⟨_, al, rfl⟩
  | on h hu =>
    subst h
    unfold D_who_does
    walk_at "b"
    (try walk_at "d")
    (repeat rw [if_neg (by decide)])
    refine ⟨_, og_on, ?_⟩
    (try walk_at "d")
    exact ⟨_, at_a, rfl⟩
  | back h hv =>
    subst h
    unfold D_who_does
    walk_at "b"
    (try walk_at "d")
    (repeat rw [if_neg (by decide)])
    refine ⟨_, og_back, ?_⟩
    (try walk_at "d")
    (repeat first | rw [if_pos (show Str.ofString "back" = Str.ofString "back" from rfl)] | rw [if_neg (by decide)])
    exact ⟨_, at_b, rfl⟩
/-- the row behind, but for the number of who comes -/
theorem changed_ev {R R' : List Nat} {c b v : Nat} {W : Str} (h : Ev R c b W v R') : ∃ X : List Nat, (∀ s, wp (D_changed [.tup (lets R), .int (b : Int), .str W] s) (fun a s' => a = .tup (lets X) ∧ s' = s) fun _ _ => False) ∧
    (W = "come" → D.int (c : Int) :: cutL (lets R) (some 1) none = lets R') ∧ (W ≠ "come" → X = R') := by
  cases h with
  | stay b => exact ⟨R, fun _ => changed_stay, fun z => absurd z (by decide), fun _ => rfl⟩
  | @come t h =>
    subst h
    refine ⟨1 :: t, fun _ => changed_come, fun _ => ?_, fun z => absurd rfl z⟩
    rw [cut_drop (by omega)]
    rfl
  | @go t v h hv => subst h; exact ⟨t ++ [0], fun _ => changed_go, fun z => absurd z (by decide), fun _ => rfl⟩
  | on h hu => subst h; exact ⟨_, fun _ => changed_sw (.inl rfl), fun z => absurd z (by decide), fun _ => rfl⟩
  | back h hv => subst h; exact ⟨_, fun _ => changed_sw (.inr rfl), fun z => absurd z (by decide), fun _ => rfl⟩
theorem bits_app (a b : List Nat) : bits (a ++ b) = bits a ++ bits b := by simp [bits]
theorem bits_cons (v : Nat) (t : List Nat) : bits (v :: t) = bit v :: bits t := rfl
/-- WHAT A DIE DOES -/
theorem ev_ok {n c b : Nat} {w : Wk} {R : List Nat} {q : Rat} (h : EW w) (hn1 : 1 ≤ n) (hn : n ≤ 12) (hl : R.length = n) (hb : b ≤ n) (rq : RB q 7600) (hc : c ≠ 0) (q0 : 0 ≤ q) :
    ∃ (W : Str) (v : Nat) (R' : List Nat), Ev R c b W v R' ∧ ((¬ q < chL w (bits R) b ∧ W = "stay" ∧ v = 0 ∧ R' = R) ∨ (q < chL w (bits R) b ∧ W ≠ "stay")) ∧ ∀ s, wp (D_happens [walkD (n : Int) w, .tup (lets (bits R)), dieD (b, q)] s) (fun a s' => a = .str W ∧ s' = s) fun _ _ => False := by
  have go : ∀ (p r : List Nat) (x y : Nat), 1 :: (bits R ++ [0]) = p ++ x :: y :: r → p.length = b → (x ≠ y → ∃ (v : Nat) (R' : List Nat), Ev R c b (wordA n b x y) v R' ∧ bits R' = swN p x y r) →
      ∃ (W : Str) (v : Nat) (R' : List Nat), Ev R c b W v R' ∧ ((¬ q < chL w (bits R) b ∧ W = "stay" ∧ v = 0 ∧ R' = R) ∨ (q < chL w (bits R) b ∧ W ≠ "stay")) ∧ ∀ s, wp (D_happens [walkD (n : Int) w, .tup (lets (bits R)), dieD (b, q)] s) (fun a s' => a = .str W ∧ s' = s) fun _ _ => False := by
    rintro p r x y e rfl hne
    have hh := fun s => happens_w (s := s) h hn1 hn ((bits_len R).trans hl) (bits_01 R) rq e
    have ce := chL_eq (w := w) e
    rw [bits_len, hl] at ce
    by_cases st : x = y ∨ ¬ q < chD w n p.length x y
    · refine ⟨"stay", 0, R, .stay _, .inl ⟨?_, rfl, rfl, rfl⟩, fun s => ?_⟩
      · rw [ce]
        rcases st with st | st
        · unfold chD
          rw [if_pos st]
          exact Rat.not_lt.mpr q0
        · exact st
      have := hh s
      rwa [if_pos st] at this
    · obtain ⟨v, R', h1, h2⟩ := hne fun z => st (.inl z)
      refine ⟨_, v, R', h1, .inr ⟨?_, ?_⟩, fun s => ?_⟩
      · rw [ce]
        exact Decidable.not_not.mp fun z => st (.inr z)
      · unfold wordA
        rw [if_neg fun z => st (.inl z)]
        repeat' split
        all_goals decide
      have := hh s
      rwa [if_neg st] at this
  rcases Nat.eq_zero_or_pos b with rfl | b0
  · rcases R with _ | ⟨r0, t⟩
    · simp at hl; omega
    refine go [] (bits t ++ [0]) 1 (bit r0) (by rw [bits_cons]; rfl) rfl fun ne => ?_
    have r00 : r0 = 0 := by
      rcases bit_two r0 with z | z
      · exact bit_0 z
      · exact absurd z.symm ne
    subst r00
    refine ⟨c, c :: t, ?_, ?_⟩
    · have : wordA n 0 1 (bit 0) = "come" := by unfold wordA; rw [if_neg (by decide), if_pos rfl]
      rw [this]
      exact .come rfl
    · rw [bits_cons, bit1 hc, bit0, sw_a]
  · rcases Nat.lt_or_ge b n with bn | bn
    · obtain ⟨p, u, v, r, e, hp⟩ := split2 (L := R) (b := b - 1) (by omega)
      refine go (1 :: bits p) (bits r ++ [0]) (bit u) (bit v) (by rw [e, bits_app, bits_cons, bits_cons]; simp) (by rw [List.length_cons, bits_len]; omega) fun ne => ?_
      have hb' : b = p.length + 1 := by omega
      have sw : swN (1 :: bits p) (bit u) (bit v) (bits r ++ [0]) = bits (p ++ v :: u :: r) := by
        unfold swN
        rw [show ((1 :: bits p) ++ bit v :: bit u :: (bits r ++ [0])).drop 1 = (bits p ++ bit v :: bit u :: bits r) ++ [0] by simp, List.dropLast_concat, bits_app, bits_cons, bits_cons]
      rw [sw]
      subst hb'
      by_cases hv : v = 0
      · subst hv
        have hu : u ≠ 0 := fun z => by subst z; exact ne rfl
        have : wordA n (p.length + 1) (bit u) (bit 0) = "on" := by
          unfold wordA
          rw [if_neg ne, if_neg (by omega), if_neg (by omega), if_pos (by rw [bit1 hu, bit0]; decide)]
        rw [this]
        exact ⟨u, _, .on e hu, rfl⟩
      · have hu : u = 0 := by
          rw [bit1 hv] at ne
          rcases bit_two u with z | z
          · exact bit_0 z
          · exact absurd z ne
        subst hu
        have : wordA n (p.length + 1) (bit 0) (bit v) = "back" := by
          unfold wordA
          rw [if_neg ne, if_neg (by omega), if_neg (by omega), if_neg (by rw [bit1 hv, bit0]; decide)]
        rw [this]
        exact ⟨v, _, .back e hv, rfl⟩
    · have bn' : b = n := by omega
      rcases List.eq_nil_or_concat R with rfl | ⟨t, v, rfl⟩
      · simp at hl; omega
      rw [List.concat_eq_append] at *
      have hb' : b = t.length + 1 := by rw [bn', ← hl]; simp
      refine go (1 :: bits t) [] (bit v) 0 (by rw [bits_app, bits_cons]; simp [bits]) (by rw [List.length_cons, bits_len]; omega) fun ne => ?_
      have hv := bit_1 ne
      rw [bit1 hv, sw_b]
      have : wordA n b 1 0 = "go" := by unfold wordA; rw [if_neg (by decide), if_neg (by omega), if_pos bn']
      rw [this]
      subst hb'
      refine ⟨v, t ++ [0], .go rfl hv, by rw [bits_app]; rfl⟩
/-! ### a street -/
def flS (a b c : D) : List (Str × D) := [("own_walk", a), ("now", b), ("past", c)]
def strC (wd nw : D) (k : Nat) : Cell := .o "Street" (flS wd nw (.tok k))
def nwD (R g : List Nat) (c : Nat) : D := .tup [.tup (lets R), .tup (lets g), .int (c : Int)]
/-- a street stands at i -/
structure StrAt (s : S) (i : Nat) (wd nw : D) (past : List D) : Prop where
  o : s[i]? = some (strC wd nw (i + 1))
  l : s[i + 1]? = some (.l past)
theorem insS {s : S} {i : Nat} {wd nw : D} {k : Nat} (h : s[i]? = some (strC wd nw k)) : insOf s "Street" (.tok i) = some (i, flS wd nw (.tok k)) := by
  have e : tokO s i = some (("Street" : Str), flS wd nw (.tok k)) := by
    unfold tokO
    rw [h]
    rfl
  show (match tokO s i with
    | some (c', fs) => if c' = ("Street" : Str) then some (i, fs) else none
    | none => none) = _
  rw [e]
  rfl
theorem StrAt.ins {s : S} {i : Nat} {wd nw : D} {past : List D} (h : StrAt s i wd nw past) : insOf s "Street" (.tok i) = some (i, flS wd nw (.tok (i + 1))) := insS h.o
theorem StrAt.tl {s : S} {i : Nat} {wd nw : D} {past : List D} (h : StrAt s i wd nw past) : tokL s (i + 1) = some past := by
  unfold tokL
  rw [h.l]
theorem lk_walk {a b c : D} : (flS a b c).lookup ("own_walk" : Str) = some a := rfl
theorem lk_now {a b c : D} : (flS a b c).lookup ("now" : Str) = some b := rfl
theorem lk_past {a b c : D} : (flS a b c).lookup ("past" : Str) = some c := rfl
theorem pg_now {a b c d : D} : putG ("now" : Str) d (flS a b c) = flS a d c := rfl
theorem lk_turn {a b c : D} : (flS a b c).lookup ("turn" : Str) = none := rfl
theorem lk_row {a b c : D} : (flS a b c).lookup ("row" : Str) = none := rfl
theorem lk_gone {a b c : D} : (flS a b c).lookup ("gone" : Str) = none := rfl
theorem lk_back {a b c : D} : (flS a b c).lookup ("back" : Str) = none := rfl
/-- the state behind -/
def setS (s : S) (i : Nat) (wd nw : D) (past : List D) : S := (s.set (i + 1) (.l past)).set i (strC wd nw (i + 1))
theorem StrAt.set {s : S} {i : Nat} {wd nw nw' : D} {past past' : List D} (h : StrAt s i wd nw past) : StrAt (setS s i wd nw' past') i wd nw' past' := by
  have h1 : i < s.length := (List.getElem?_eq_some_iff.mp h.o).1
  have h2 : i + 1 < s.length := (List.getElem?_eq_some_iff.mp h.l).1
  unfold setS
  refine ⟨List.getElem?_set_self (by simpa using h1), ?_⟩
  rw [List.getElem?_set_ne (by omega)]
  exact List.getElem?_set_self h2
/-- what else stands there stays -/
theorem setS_ne {s : S} {i j : Nat} {wd nw : D} {past : List D} (h1 : j ≠ i) (h2 : j ≠ i + 1) : (setS s i wd nw past)[j]? = s[j]? := by
  unfold setS
  rw [List.getElem?_set_ne (by omega), List.getElem?_set_ne (by omega)]
theorem StrAt.other {s : S} {i j : Nat} {wd wd' nw nw' nw2 : D} {past past' past2 : List D} (h : StrAt s j wd' nw' past') (h1 : j ≠ i) (h2 : j ≠ i + 1) (h3 : j + 1 ≠ i) : StrAt (setS s i wd nw past) j wd' nw' past' :=
  ⟨(setS_ne h1 h2).trans h.o, (setS_ne h3 (by omega)).trans h.l⟩
theorem setS_len {s : S} {i : Nat} {wd nw : D} {past : List D} : (setS s i wd nw past).length = s.length := by simp [setS]
theorem row_ok {s : S} {i : Nat} {wd : D} {R g : List Nat} {c : Nat} {past : List D} (h : StrAt s i wd (nwD R g c) past) : wp (D_Street_row [.tok i] s) (fun a s' => a = .tup (lets R) ∧ s' = s) fun _ _ => False := by
  unfold D_Street_row
  walk_at "b"
  (try walk_at "d")
  refine ⟨_, h.ins, _, lk_now, ?_⟩
  unfold nwD
  (try walk_at "d")
theorem gone_ok {s : S} {i : Nat} {wd : D} {R g : List Nat} {c : Nat} {past : List D} (h : StrAt s i wd (nwD R g c) past) : wp (D_Street_gone [.tok i] s) (fun a s' => a = .lst (lets g) ∧ s' = s) fun _ _ => False := by
  unfold D_Street_gone
  walk_at "b"
  (try walk_at "d")
  refine ⟨_, h.ins, _, lk_now, ?_⟩
  unfold nwD
  (try walk_at "d")
theorem back_ok {s : S} {i : Nat} {wd nw : D} {R g : List Nat} {c : Nat} {past : List D} (h : StrAt s i wd nw (past ++ [nwD R g c])) : wp (D_Street_back [.tok i] s) (fun a s' => a = .tup (lets R) ∧ s' = setS s i wd (nwD R g c) past) fun _ _ => False := by
  have h1 : i < s.length := (List.getElem?_eq_some_iff.mp h.o).1
  unfold D_Street_back
  walk_at "b"
  (try walk_at "d")
  refine ⟨_, h.ins, _, lk_past, ?_⟩
  refine ⟨.int ((past ++ [nwD R g c]).length : Nat), ?_, ?_⟩
  · show (tokL s (i + 1)).map _ = _
    rw [h.tl]; rfl
  (try walk_at "d")
  rw [if_neg (by simp; omega)]
  refine ⟨_, h.ins, _, lk_past, ?_⟩
  refine ⟨(nwD R g c, s.set (i + 1) (.l past)), ?_, ?_⟩
  · show (match tokL s (i + 1) with
      | some ds => match ds.getLast? with
        | some d => some (d, s.set (i + 1) (.l ds.dropLast))
        | none => none
      | none => none) = _
    rw [h.tl]
    simp
  have o2 : (s.set (i + 1) (.l past))[i]? = some (strC wd nw (i + 1)) := by rw [List.getElem?_set_ne (by omega)]; exact h.o
  refine ⟨_, insS o2, ⟨by unfold nwD; simp [flat, flats, flats_lets], by show 3 < 1000; decide⟩, ?_⟩
  rw [pg_now]
  have o3 : (setS s i wd (nwD R g c) past)[i]? = some (strC wd (nwD R g c) (i + 1)) := (h.set (nw' := nwD R g c) (past' := past)).o
  refine ⟨_, insS o3, _, lk_now, ?_⟩
  unfold nwD
  (try walk_at "d")
  rfl
theorem turn_ok {n : Nat} {w : Wk} {s : S} {i : Nat} {R R' g : List Nat} {c b v : Nat} {q : Rat} {W : Str} {past : List D} (hd : DieQ n (b, q)) (hl : R.length ≤ 12) (hg : g.length ≤ 1000) (hp : past.length ≤ 1000) (h : StrAt s i (walkD (n : Int) w) (nwD R g c) past) (e : Ev R c b W v R')
    (hap : ∀ s, wp (D_happens [walkD (n : Int) w, .tup (lets (bits R)), dieD (b, q)] s) (fun a s' => a = .str W ∧ s' = s) fun _ _ => False) :
    wp (D_Street_turn [.tok i, dieD (b, q)] s) (fun a s' => a = .tup [.str W, .int (v : Int)] ∧ s' = setS s i (walkD (n : Int) w) (nwD R' (g ++ if W = "go" then [v] else []) (c + if W = "come" then 1 else 0)) (past ++ [nwD R g c])) fun _ _ => False := by
  obtain ⟨X, ch, c1, c2⟩ := changed_ev e
  unfold D_Street_turn
  walk_at "b"
  (try walk_at "d")
  refine ⟨_, h.ins, _, lk_walk, ?_⟩
  refine wpc_of (is_die_ok hd) ?_
  rintro _ _ ⟨rfl, rfl⟩
  (try walk_at "d")
  refine ⟨_, h.ins, _, lk_now, ?_⟩
  unfold nwD
  (try walk_at "d")
  refine ⟨_, h.ins, _, lk_walk, ?_⟩
  (try walk_at "d")
  refine wpk_of (by rw [lets_len]; omega) (comp_map (fun d => match d with
    | .int v => .int (if 1 < v then 1 else v)
    | d => d) fun d hd' => ?_) ?_
  · obtain ⟨k, hk, rfl⟩ := List.mem_map.mp hd'
    refine ⟨_, rfl, by walk_at "d", ?_⟩
    walk_at "u"
    (try walk_at "d")
  rintro _ _ ⟨rfl, rfl⟩
  rename_i s
  have eb : ((lets R).map fun d => match d with
    | .int v => D.int (if 1 < v then 1 else v)
    | d => d) = lets (bits R) := by
    unfold lets bits
    rw [List.map_map, List.map_map]
    refine List.map_congr_left fun k _ => ?_
    show D.int (if (1 : Int) < (k : Int) then 1 else (k : Int)) = .int ((bit k : Nat) : Int)
    unfold bit
    by_cases h : (1 : Int) < (k : Int)
    · rw [if_pos h, show min k 1 = 1 by omega]; rfl
    · rw [if_neg h, show min k 1 = k by omega]
  rw [eb]
  (try walk_at "d")
  refine wpc_of (hap _) ?_
  rintro _ _ ⟨rfl, rfl⟩
  (try walk_at "d")
  unfold dieD
  (try walk_at "d")
  refine wpc_of (who_ok e) ?_
  rintro _ _ ⟨rfl, rfl⟩
  (try walk_at "d")
  refine ⟨_, h.ins, _, lk_past, ?_⟩
  rename_i s
  have fl : flat (D.tup [D.tup (lets R), D.tup (lets g), D.int (c : Int)]) = true := by simp [flat, flats, flats_lets]
  refine ⟨by show (tokL _ _).isSome = true; rw [h.tl]; rfl, _, h.ins, _, lk_now, s.set (i + 1) (.l (past ++ [nwD R g c])), ?_, ?_⟩
  · show (match tokL s (i + 1) with
      | some ds => if flat (D.tup [D.tup (lets R), D.tup (lets g), D.int (c : Int)]) = true ∧ ds.length < 16777216 then some (s.set (i + 1) (.l (ds ++ [D.tup [D.tup (lets R), D.tup (lets g), D.int (c : Int)]]))) else none
      | none => none) = _
    rw [h.tl]
    simp only
    rw [if_pos ⟨fl, by omega⟩]
    rfl
  have h1 : i < s.length := (List.getElem?_eq_some_iff.mp h.o).1
  have o2 : (s.set (i + 1) (.l (past ++ [nwD R g c])))[i]? = some (strC (walkD (n : Int) w) (nwD R g c) (i + 1)) := by rw [List.getElem?_set_ne (by omega)]; exact h.o
  generalize hs2 : s.set (i + 1) (.l (past ++ [nwD R g c])) = s2 at o2 ⊢
  refine wpc_of (ch _) ?_
  rintro _ _ ⟨rfl, rfl⟩
  rename_i s2
  (try walk_at "d")
  have gE : lets g ++ (List.replicate (if W = "go" then (1 : Int) else 0).toNat [D.int (v : Int)]).flatten = lets (g ++ if W = "go" then [v] else []) := by
    by_cases hw : W = "go"
    · rw [if_pos hw, if_pos hw]; simp [lets]
    · rw [if_neg hw, if_neg hw]; simp [lets]
  have cE : ((c : Int) + if W = "come" then 1 else 0) = ((c + if W = "come" then 1 else 0 : Nat) : Int) := by
    by_cases hw : W = "come"
    · rw [if_pos hw, if_pos hw]; simp
    · rw [if_neg hw, if_neg hw]; simp
  have gL : (lets g).length + (List.replicate (if W = "go" then (1 : Int) else 0).toNat [D.int (v : Int)]).flatten.length ≤ 16777216 := by
    rw [lets_len]
    by_cases hw : W = "go"
    · rw [if_pos hw]; simp; omega
    · rw [if_neg hw]; simp; omega
  have kk : ((if W = "go" then (1 : Int) else 0) ≤ 1000 ∧ -1000 ≤ if W = "go" then (1 : Int) else 0) := by split <;> exact ⟨by decide, by decide⟩
  have flR : ∀ Y : List Nat, ∀ m : List Nat, ∀ k : Int, flats [D.tup (lets Y), D.tup (lets m), D.int k] = true := fun Y m k => by simp [flat, flats, flats_lets]
  by_cases hw : W = "come"
  · rw [if_pos hw]
    refine ⟨by
      unfold cutL
      rw [List.length_take, List.length_drop, lets_len]
      omega, kk, gL, _, insS o2, ⟨?_, by show 3 < 1000; decide⟩, ?_⟩
    · rw [gE, c1 hw]
      exact flR _ _ _
    · rw [gE, c1 hw, cE, pg_now, ← hs2]
      rfl
  · rw [if_neg hw]
    refine ⟨kk, gL, _, insS o2, ⟨?_, by show 3 < 1000; decide⟩, ?_⟩
    · rw [gE]
      exact flR _ _ _
    · rw [gE, c2 hw, cE, pg_now, ← hs2]
      rfl
/-! ### the numbers at first -/
theorem ints_mapF {α : Type} (f : α → Int) : ∀ L : List α, intsOf (L.map fun x => D.int (f x)) = some (L.map f)
  | [] => rfl
  | x :: L => by show (intsOf (L.map fun x => D.int (f x))).map _ = _; rw [ints_mapF f L]; rfl
theorem sum_castF {α : Type} (f : α → Nat) : ∀ L : List α, (L.map fun x => ((f x : Nat) : Int)).sum = (((L.map f).sum : Nat) : Int)
  | [] => rfl
  | x :: L => by rw [List.map_cons, List.sum_cons, List.map_cons, List.sum_cons, sum_castF f L]; omega
theorem sum_tup (r : List Nat) : dSumT [.tup (lets r)] = some (.int ((r.sum : Nat) : Int)) := by
  show (intsOf (r.map fun n : Nat => D.int (n : Int))).map _ = _
  have c := sum_castF (fun n : Nat => n) r
  rw [List.map_id'] at c
  rw [ints_mapF, Option.map_some, c]
/-- the numbers of the first walkers -/
def numR : List Nat → List Nat
  | [] => []
  | x :: r => ((x :: r).sum * x) :: numR r
theorem numR_len : ∀ ls : List Nat, (numR ls).length = ls.length
  | [] => rfl
  | x :: r => by simp [numR, numR_len r]
theorem numR_get : ∀ (ls : List Nat) (k : Nat), (numR ls)[k]? = ls[k]?.map fun x => (ls.drop k).sum * x
  | [], k => by simp [numR]
  | x :: r, 0 => by simp [numR]
  | x :: r, k + 1 => by simpa [numR] using numR_get r k
theorem sum_01 : ∀ {ls : List Nat}, (∀ z ∈ ls, z = 0 ∨ z = 1) → ls.sum ≤ ls.length
  | [], _ => by simp
  | x :: r, h => by
    have := sum_01 (ls := r) fun z hz => h z (List.mem_cons_of_mem _ hz)
    have := h x (by simp)
    simp
    omega
theorem numR_le : ∀ {ls : List Nat}, (∀ z ∈ ls, z = 0 ∨ z = 1) → ∀ v ∈ numR ls, v ≤ ls.length
  | [], _, v, hv => by simp [numR] at hv
  | x :: r, h, v, hv => by
    rcases List.mem_cons.mp hv with rfl | hv
    · have := sum_01 h
      rcases h x (by simp) with rfl | rfl
      · simp
      · rw [Nat.mul_one]; exact this
    · have := numR_le (ls := r) (fun z hz => h z (List.mem_cons_of_mem _ hz)) v hv
      simp
      omega
theorem numbered_ok {n : Nat} {ls : List Nat} {s : S} (hn : n ≤ 12) (hs : Stand n ls) : wp (D_numbered [.tup (lets ls)] s) (fun a s' => a = .tup (lets (numR ls)) ∧ s' = s) fun _ _ => False := by
  have hl := hs.len
  unfold D_numbered
  walk_at "b"
  (try walk_at "d")
  refine wpl_n (fun i => [(1, .own (lets (numR (ls.drop (n - i)))).reverse), (2, .dat (.int (((ls.drop (n - i)).sum : Nat) : Int)))]) (by rw [Nat.sub_zero, List.drop_of_length_le (by omega)]; rfl) (fun i d hd => ?_) ?_
  · have hi : i < n := by
      have := (List.getElem?_eq_some_iff.mp hd).1
      rw [List.length_reverse, lets_len] at this
      omega
    rw [List.getElem?_reverse (by rw [lets_len]; omega), lets_len, hl] at hd
    obtain ⟨h1, rfl⟩ := lets_get hd
    obtain ⟨k, rfl⟩ : ∃ k, n = k + 1 + i := ⟨n - 1 - i, by omega⟩
    have ek : k + 1 + i - 1 - i = k := by omega
    have e1 : k + 1 + i - (i + 1) = k := by omega
    have e2 : k + 1 + i - i = k + 1 := by omega
    have dr : ls.drop k = ls[k]?.getD 0 :: ls.drop (k + 1) := by
      rw [List.drop_eq_getElem_cons (show k < ls.length by omega), List.getElem?_eq_getElem (show k < ls.length by omega)]
      rfl
    rw [ek, e1, e2, dr]
    have sr := sum_01 (ls := ls.drop (k + 1)) fun z hz => hs.h01 z (List.mem_of_mem_drop hz)
    have lr : (ls.drop (k + 1)).length ≤ 12 := by rw [List.length_drop]; omega
    have xx : ls[k]?.getD 0 ≤ 1 := by
      rw [List.getElem?_eq_getElem (show k < ls.length by omega)]
      have := hs.h01 _ (List.getElem_mem (show k < ls.length by omega))
      show ls[k] ≤ 1
      omega
    generalize ls.drop (k + 1) = r at *
    generalize ls[k]?.getD 0 = x at *
    have ll := numR_len r
    refine ⟨_, rfl, ?_⟩
    walk_at "u"
    (try walk_at "d")
    refine ⟨c_mul (n := 20) (m := 20) (bd_int 20 (by omega) (by omega)) (bd_int 20 (by omega) (by omega)) (by decide), by rw [List.length_reverse, lets_len]; omega, ?_⟩
    have e1 : ((r.sum : Int) + (x : Int)) = (((x :: r).sum : Nat) : Int) := by rw [List.sum_cons]; omega
    have e2 : (((x :: r).sum : Nat) : Int) * (x : Int) = (((x :: r).sum * x : Nat) : Int) := by rw [Int.natCast_mul]
    rw [e1, e2]
    have e3 : lets (numR (x :: r)) = .int (((x :: r).sum * x : Nat) : Int) :: lets (numR r) := rfl
    rw [e3, List.reverse_cons]
  · walk_at "u"
    (try walk_at "d")
    rw [List.length_reverse, lets_len, hl, Nat.sub_self, List.drop_zero, List.reverse_reverse]
theorem begun_ok {n : Nat} {ls : List Nat} {s : S} (hn : n ≤ 12) (hs : Stand n ls) : wp (D__law_begun [.tup (lets ls)] s) (fun a s' => a = .tup [.tup (lets (numR ls)), .tok s.length, .int ((ls.sum + 1 : Nat) : Int)] ∧ s' = s ++ [.l []]) fun _ _ => False := by
  have hl := hs.len
  unfold D__law_begun
  walk_at "b"
  (try walk_at "d")
  rw [lets_len, Int.toNat_natCast]
  refine ⟨by omega, ?_⟩
  refine wpl_n (fun i => [(1, .own (lets ((numR ls).take i)))]) rfl (fun i d hd => ?_) ?_
  · obtain ⟨hi, rfl⟩ := rng0 hd
    refine ⟨_, rfl, ?_⟩
    walk_at "u"
    (try walk_at "d")
    have ec : cutL (lets ls) (some (i : Int)) none = lets (ls.drop i) := by rw [cut_drop (by omega), Int.toNat_natCast]; simp [lets]
    have sr := sum_01 (ls := ls.drop i) fun z hz => hs.h01 z (List.mem_of_mem_drop hz)
    have lr : (ls.drop i).length ≤ 12 := by rw [List.length_drop]; omega
    have xx : ls[i]?.getD 0 ≤ 1 := by
      rw [List.getElem?_eq_getElem hi]
      have := hs.h01 _ (List.getElem_mem hi)
      show ls[i] ≤ 1
      omega
    have tk : (numR ls).take (i + 1) = (numR ls).take i ++ [(ls.drop i).sum * ls[i]?.getD 0] := by
      rw [List.take_add_one, numR_get, List.getElem?_eq_getElem hi]
      rfl
    rw [ec]
    refine ⟨_, sum_tup _, _, lets_at hi, ?_⟩
    (try walk_at "d")
    refine ⟨c_mul (n := 20) (m := 20) (bd_int 20 (by omega) (by omega)) (bd_int 20 (by omega) (by omega)) (by decide), by rw [lets_len, List.length_take]; omega, ?_⟩
    rw [tk]
    have e2 : (((ls.drop i).sum : Nat) : Int) * ((ls[i]?.getD 0 : Nat) : Int) = (((ls.drop i).sum * ls[i]?.getD 0 : Nat) : Int) := by rw [Int.natCast_mul]
    rw [e2]
    simp [lets]
  · walk_at "u"
    (try walk_at "d")
    rw [rngD_len, List.take_of_length_le (by rw [numR_len]; omega)]
    refine ⟨flats_lets _, rfl, _, sum_tup _, ?_⟩
    (try walk_at "d")
    rfl
theorem init_ok {n : Nat} {wd : D} {ls : List Nat} {s : S} {i : Nat} (hn : n ≤ 12) (hs : Stand n ls) (hf : flat wd = true) (h : s[i]? = some (.o "Street" [])) :
    wp (D_Street___init__ [.tok i, wd, .tup (lets ls)] s) (fun a s' => a = .non ∧ s' = (s.set i (strC wd (nwD (numR ls) [] (ls.sum + 1)) s.length)) ++ [.l []]) fun _ _ => False := by
  have lt : i < s.length := (List.getElem?_eq_some_iff.mp h).1
  have insE : ∀ (s : S) (fs : List (Str × D)), s[i]? = some (.o "Street" fs) → insOf s "Street" (.tok i) = some (i, fs) := fun s fs h => by
    have e : tokO s i = some (("Street" : Str), fs) := by
      unfold tokO
      rw [h]
    show (match tokO s i with
      | some (c', fs) => if c' = ("Street" : Str) then some (i, fs) else none
      | none => none) = _
    rw [e]
    rfl
  unfold D_Street___init__
  walk_at "b"
  (try walk_at "d")
  refine ⟨_, insE _ _ h, ⟨hf, by show 0 < 1000; decide⟩, ?_⟩
  refine wpc_of (numbered_ok hn hs) ?_
  rintro _ _ ⟨rfl, rfl⟩
  (try walk_at "d")
  refine ⟨_, sum_tup _, ?_⟩
  (try walk_at "d")
  have h1 : ∀ x, (s.set i x)[i]? = some x := fun x => List.getElem?_set_self lt
  refine ⟨_, insE _ _ (h1 _), ⟨by simp [flats, flat, flats_lets], by show 1 < 1000; decide⟩, by rfl, ?_⟩
  have l3 : ∀ x y : Cell, i < ((s.set i x).set i y).length := fun x y => by simpa using lt
  have h3 : ∀ x y z : Cell, (((s.set i x).set i y) ++ [z])[i]? = some y := fun x y z => by
    rw [List.getElem?_append_left (l3 x y)]
    exact List.getElem?_set_self (by simpa using lt)
  refine ⟨_, insE _ _ (h3 _ _ _), by show 2 < 1000; decide, ?_⟩
  simp only [List.length_set, List.set_set]
  rw [List.set_append_left _ _ (by simpa using lt), List.set_set]
  rfl
/-! ### the law's own look at a die -/
structure Sq where
  R : List Nat
  g : List Nat
  c : Nat
  t : Nat
def sqD (x : Sq) : D := .tup [.tup (lets x.R), .tok x.t, .int (x.c : Int)]
structure SqOk (n m : Nat) (x : Sq) : Prop where
  len : x.R.length = n
  r : ∀ v ∈ x.R, v ≤ m
  g : ∀ v ∈ x.g, v ≤ m
  gl : x.g.length ≤ m
  c : x.c ≤ m
  c0 : x.c ≠ 0
theorem SqOk.mono {n m m' : Nat} {x : Sq} (h : SqOk n m x) (hm : m ≤ m') : SqOk n m' x := ⟨h.len, fun v hv => Nat.le_trans (h.r v hv) hm, fun v hv => Nat.le_trans (h.g v hv) hm, Nat.le_trans h.gl hm, Nat.le_trans h.c hm, h.c0⟩
theorem tokL_of {s : S} {t : Nat} {ds : List D} (h : s[t]? = some (.l ds)) : tokL s t = some ds := by
  unfold tokL
  rw [h]
def bitF : D → D
  | .int v => .int (if 0 < v then 1 else 0)
  | d => d
theorem bits_map (R : List Nat) : (lets R).map bitF = lets (bits R) := by
  unfold lets bits
  rw [List.map_map, List.map_map]
  refine List.map_congr_left fun k _ => ?_
  show D.int (if 0 < (k : Int) then 1 else 0) = .int ((bit k : Nat) : Int)
  unfold bit
  by_cases h : 0 < (k : Int)
  · rw [if_pos h, show min k 1 = 1 by omega]; rfl
  · rw [if_neg h, show min k 1 = 0 by omega]; rfl
theorem stand_bits {n : Nat} {R : List Nat} (h : R.length = n) : Stand n (bits R) := ⟨(bits_len R).trans h, bits_01 R⟩
theorem next_at {n : Nat} {w : Wk} {ls : List Nat} {b : Nat} (hb : b ≤ n) : atI ((List.range (n + 1)).map (nextD w ls)) (b : Int) = some (nextD w ls b) := by
  obtain ⟨d, e, hd⟩ := atI_of (xs := (List.range (n + 1)).map (nextD w ls)) (i := (b : Int)) (by omega) (by simp; omega)
  rw [Int.toNat_natCast, List.getElem?_map, List.getElem?_range (by omega)] at hd
  cases hd
  exact e
theorem cut_l {p r : List Nat} {u v : Nat} : cutL (lets (p ++ u :: v :: r)) none (some (((p.length + 1 : Nat) : Int) - 1)) = lets p := by
  rw [cut_take (by omega), show (((p.length + 1 : Nat) : Int) - 1).toNat = p.length by omega]
  simp [lets]
theorem cut_r {p r : List Nat} {u v : Nat} : cutL (lets (p ++ u :: v :: r)) (some (((p.length + 1 : Nat) : Int) + 1)) none = lets r := by
  rw [cut_drop (by omega), show (((p.length + 1 : Nat) : Int) + 1).toNat = p.length + 2 by omega, show p ++ u :: v :: r = (p ++ [u, v]) ++ r by simp]
  have : lets ((p ++ [u, v]) ++ r) = lets (p ++ [u, v]) ++ lets r := by simp [lets]
  rw [this, List.drop_left' (by rw [lets_len]; simp)]
theorem max_l (v : Nat) : dMax [.int (v : Int), .int ((0 : Nat) : Int)] = some (.int (v : Int)) := by
  show some (D.int (if ((0 : Nat) : Int) > (v : Int) then ((0 : Nat) : Int) else (v : Int))) = _
  rw [if_neg (by omega)]
theorem max_r (v : Nat) : dMax [.int ((0 : Nat) : Int), .int (v : Int)] = some (.int (v : Int)) := by
  show some (D.int (if (v : Int) > ((0 : Nat) : Int) then (v : Int) else ((0 : Nat) : Int))) = _
  by_cases h : (v : Int) > ((0 : Nat) : Int)
  · rw [if_pos h]
  · rw [if_neg h, show (v : Int) = ((0 : Nat) : Int) by omega]
theorem done_ok {n m b v : Nat} {w : Wk} {x : Sq} {q : Rat} {W : Str} {R' : List Nat} {s : S} (e : EW w) (n1 : 1 ≤ n) (hn : n ≤ 12) (hs : SqOk n m x) (hm : m ≤ 100) (hd : DieQ n (b, q)) (st : s[x.t]? = some (.l (lets x.g)))
    (ev : Ev x.R x.c b W v R') (hw : (¬ q < chL w (bits x.R) b ∧ W = "stay" ∧ v = 0 ∧ R' = x.R) ∨ (q < chL w (bits x.R) b ∧ W ≠ "stay")) :
    wp (D__law_done [walkD (n : Int) w, sqD x, dieD (b, q)] s) (fun a s' => ∃ t : Nat, a = .tup [.tup [.str W, .int (v : Int)], sqD ⟨R', x.g ++ (if W = "go" then [v] else []), x.c + (if W = "come" then 1 else 0), t⟩] ∧
      (t = x.t ∧ s' = s ∧ W ≠ "go" ∨ t = s.length ∧ s' = s ++ [.l (lets (x.g ++ (if W = "go" then [v] else [])))])) fun _ _ => False := by
  have hl := hs.len
  unfold D__law_done
  walk_at "b"
  unfold sqD dieD
  rw [show walkD (n : Int) w = .tup [.int (n : Int), rat w.on, rat w.back, rat w.come, rat w.go] from rfl]
  (try walk_at "d")
  refine wpk_of (by rw [lets_len]; omega) (comp_map bitF fun d hd' => ?_) ?_
  · obtain ⟨k, hk, rfl⟩ := List.mem_map.mp hd'
    refine ⟨_, rfl, by walk_at "d", ?_⟩
    walk_at "u"
    (try walk_at "d")
    rfl
  rintro _ _ ⟨rfl, rfl⟩
  rename_i s
  rw [bits_map]
  (try walk_at "d")
  refine wpc_of (next_ok n1 hn (stand_bits hl)) ?_
  rintro _ _ ⟨rfl, rfl⟩
  rename_i s
  (try walk_at "d")
  refine ⟨_, next_at hd.b, ?_⟩
  unfold nextD
  (try walk_at "d")
  have rc : RB (chL w (bits x.R) b) 6 := chD_rb e
  have rq := hd.rb
  refine ⟨c_mul rq.nu rc.de (by decide), c_mul rc.nu rq.de (by decide), ?_⟩
  have iq := num_q (q := q) (C := chL w (bits x.R) b)
  rcases hw with ⟨nq, rfl, rfl, rfl⟩ | ⟨lq, ns⟩
  · rw [if_pos (by have := mt iq.mp nq; omega)]
    exact ⟨x.t, rfl, .inl ⟨rfl, by decide⟩⟩
  rw [if_neg (by have := iq.mpr lq; omega)]
  clear iq rc lq
  cases ev with
  | stay b => exact absurd rfl ns
  | @come t h =>
    rw [if_pos (by rfl), h]
    have ec : cutL (lets (0 :: t)) (some 1) none = lets t := by rw [cut_drop (by decide)]; rfl
    rw [h] at hl
    rw [ec]
    refine ⟨by rw [lets_len]; simp at hl; omega, x.t, ?_, .inl ⟨rfl, by decide⟩⟩
    rw [if_pos rfl]
    rfl
  | @go t v h hv =>
    rw [if_neg (by omega)]
    have lt : t.length + 1 = n := by rw [h] at hl; simpa using hl
    rw [if_pos (by omega), h]
    have ep : lets (t ++ [v]) = lets t ++ [.int (v : Int)] := by simp [lets]
    have ga : dAddT s (.tok x.t) (.lst [.int (v : Int)]) = some (.lst (lets (x.g ++ [v]))) := by
      show (tokL s x.t).bind (fun ds => dAddL (.lst ds) (.lst [.int (v : Int)])) = _
      rw [tokL_of st]
      show (if (lets x.g).length + 1 ≤ 16777216 then some (D.lst (lets x.g ++ [.int (v : Int)])) else none) = _
      rw [if_pos (by rw [lets_len]; have := hs.gl; omega)]
      simp [lets]
    rw [ep, cut_init]
    refine ⟨_, at_last, by rw [lets_len]; omega, _, at_last, _, ga, _, rfl, flats_lets _, ?_⟩
    refine ⟨s.length, ?_, .inr ⟨rfl, ?_⟩⟩
    · rw [if_neg (by decide), Nat.add_zero]
      simp [lets]
    · rw [if_pos rfl]
  | @on p r u h hu =>
    rw [if_neg (by omega)]
    have lt : p.length + 2 + r.length = n := by rw [h] at hl; simp at hl; omega
    rw [if_neg (by omega), h]
    refine ⟨_, at_a, ?_⟩
    (try walk_at "d")
    rw [if_pos (by omega), cut_l, cut_r]
    refine ⟨_, at_b, _, at_a, by rw [lets_len]; omega, by rw [List.length_append, lets_len, lets_len]; simp; omega, _, at_a, _, at_b, _, max_l _, x.t, ?_, .inl ⟨rfl, by decide⟩⟩
    rw [if_neg (by decide), Nat.add_zero]
    simp [lets]
  | @back p r v h hv =>
    rw [if_neg (by omega)]
    have lt : p.length + 2 + r.length = n := by rw [h] at hl; simp at hl; omega
    rw [if_neg (by omega), h]
    refine ⟨_, at_a, ?_⟩
    (try walk_at "d")
    rw [cut_l, cut_r]
    refine ⟨_, at_b, _, at_a, by rw [lets_len]; omega, by rw [List.length_append, lets_len, lets_len]; simp; omega, _, at_a, _, at_b, _, max_r _, x.t, ?_, .inl ⟨rfl, by decide⟩⟩
    rw [if_neg (by decide), Nat.add_zero]
    simp [lets]
/-! ### one street and the law's list of its states -/
def TOk (L t : Nat) : Prop := t = L + 4 ∨ t = L + 6 ∨ L + 8 ≤ t
def IK (L i k : Nat) : Prop := i = L ∧ k = L + 5 ∨ i = L + 2 ∧ k = L + 7
def nwS (y : Sq) : D := nwD y.R y.g y.c
structure Side (L : Nat) (s : S) (i k n m : Nat) (w : Wk) (pre : List Sq) (x : Sq) : Prop where
  l2 : 2 ≤ L
  ik : IK L i k
  st : StrAt s i (walkD (n : Int) w) (nwS x) (pre.map nwS)
  ks : s[k]? = some (.l ((pre ++ [x]).map sqD))
  ok : ∀ y ∈ pre ++ [x], SqOk n m y
  tk : ∀ y ∈ pre ++ [x], s[y.t]? = some (.l (lets y.g)) ∧ TOk L y.t
  pl : pre.length ≤ m
  ln : L + 8 ≤ s.length
/-- but for the street, its past and the law's list all stands -/
def Frm (s s' : S) (i k : Nat) : Prop := s.length ≤ s'.length ∧ ∀ j c, j ≠ i → j ≠ i + 1 → j ≠ k → s[j]? = some c → s'[j]? = some c
def FrP (s s' : S) (i k : Nat) : Prop := s.length ≤ s'.length ∧ ∀ j c, 2 ≤ j → j ≠ i → j ≠ i + 1 → j ≠ k → s[j]? = some c → s'[j]? = some c
theorem Frm.p {s s' : S} {i k : Nat} (h : Frm s s' i k) : FrP s s' i k := ⟨h.1, fun j c _ => h.2 j c⟩
theorem FrP.trans {s s' s2 : S} {i k : Nat} (h : FrP s s' i k) (h' : FrP s' s2 i k) : FrP s s2 i k := ⟨Nat.le_trans h.1 h'.1, fun j c a b d e f => h'.2 j c a b d e (h.2 j c a b d e f)⟩
theorem Frm.rfl' {s : S} {i k : Nat} : Frm s s i k := ⟨Nat.le_refl _, fun _ _ _ _ _ h => h⟩
theorem Side.other {L : Nat} {s s' : S} {i k i' k' n m : Nat} {w : Wk} {pre : List Sq} {x : Sq} (h : Side L s i k n m w pre x) (ik : IK L i' k') (ne : i ≠ i') (f : FrP s s' i' k') : Side L s' i k n m w pre x := by
  have l2 := h.l2
  have a := h.ik
  unfold IK at a ik
  refine ⟨h.l2, h.ik, ⟨f.2 _ _ (by omega) (by omega) (by omega) (by omega) h.st.o, f.2 _ _ (by omega) (by omega) (by omega) (by omega) h.st.l⟩, f.2 _ _ (by omega) (by omega) (by omega) (by omega) h.ks, h.ok, fun y hy => ?_, h.pl, Nat.le_trans h.ln f.1⟩
  obtain ⟨q1, q2⟩ := h.tk y hy
  have q3 := q2
  unfold TOk at q3
  exact ⟨f.2 _ _ (by omega) (by omega) (by omega) (by omega) q1, q2⟩
theorem Side.pen {L : Nat} {s s' : S} {i k n m : Nat} {w : Wk} {pre : List Sq} {x : Sq} {a b : Int} {r : S} (h : Side L s i k n m w pre x) (p : Pen a r s) (p' : Pen b r s') : Side L s' i k n m w pre x := by
  have same : ∀ j, 2 ≤ j → s'[j]? = s[j]? := fun j hj => by
    obtain ⟨_, _, _, rfl, _⟩ := p
    obtain ⟨_, _, _, rfl, _⟩ := p'
    obtain ⟨j, rfl⟩ : ∃ z, j = z + 2 := ⟨j - 2, by omega⟩
    simp
  have l2 := h.l2
  have a := h.ik
  unfold IK at a
  refine ⟨h.l2, h.ik, ⟨(same _ (by omega)).trans h.st.o, (same _ (by omega)).trans h.st.l⟩, (same _ (by omega)).trans h.ks, h.ok, fun y hy => ?_, h.pl, ?_⟩
  case refine_2 =>
    have ln := h.ln
    obtain ⟨_, _, _, rfl, _⟩ := p
    obtain ⟨_, _, _, rfl, _⟩ := p'
    exact ln
  obtain ⟨q1, q2⟩ := h.tk y hy
  have q3 := q2
  unfold TOk at q3
  exact ⟨(same _ (by omega)).trans q1, q2⟩
theorem Side.mono {L : Nat} {s : S} {i k n m m' : Nat} {w : Wk} {pre : List Sq} {x : Sq} (h : Side L s i k n m w pre x) (hm : m ≤ m') : Side L s i k n m' w pre x :=
  ⟨h.l2, h.ik, h.st, h.ks, fun y hy => (h.ok y hy).mono hm, h.tk, Nat.le_trans h.pl hm, h.ln⟩
theorem Side.last {L : Nat} {s : S} {i k n m : Nat} {w : Wk} {pre : List Sq} {x : Sq} (h : Side L s i k n m w pre x) : SqOk n m x ∧ s[x.t]? = some (.l (lets x.g)) ∧ TOk L x.t :=
  ⟨h.ok x (by simp), h.tk x (by simp)⟩
theorem th_row {l : Nat} {R : List Nat} (hl : R.length ≤ 100) (h : ∀ v ∈ R, v ≤ 100) (L : Nat) (hL : 64 ≤ L) : Thing L 1 7000 (.tup (lets R)) :=
  (th_tup (m := 100) (fun x hx => by
    obtain ⟨v, hv, rfl⟩ := List.mem_map.mp hx
    exact th_lit (by have := h v hv; rw [Int.natAbs_natCast]; exact Nat.lt_of_le_of_lt this (by decide)) hL) (by rw [lets_len]; exact hl)).mono (by decide) (by decide)
theorem th_out {R : List Nat} (hl : R.length ≤ 100) (h : ∀ v ∈ R, v ≤ 100) (L : Nat) (hL : 64 ≤ L) : Thing L 1 7000 (.lst (lets R)) :=
  (th_lst (m := 100) (fun x hx => by
    obtain ⟨v, hv, rfl⟩ := List.mem_map.mp hx
    exact th_lit (by have := h v hv; rw [Int.natAbs_natCast]; exact Nat.lt_of_le_of_lt this (by decide)) hL) (by rw [lets_len]; exact hl)).mono (by decide) (by decide)
theorem rep_row {R : List Nat} (hl : R.length ≤ 100) (h : ∀ v ∈ R, v ≤ 100) : repD 12900 (.tup (lets R)) = some (.str (toPy (.tup (lets R))).shown) := th_rep (th_row (l := 0) hl h _ (by decide)) (by decide) (by decide)
theorem rep_out {R : List Nat} (hl : R.length ≤ 100) (h : ∀ v ∈ R, v ≤ 100) (L : Nat) (hL : 64 ≤ L) : repD L (.lst (lets R)) = some (.str (toPy (.lst (lets R))).shown) := th_rep (th_out hl h _ hL) (by decide) (by decide)
theorem rd_out (g : List Nat) : ready (.lst (lets g)) = true := rd_list (fun x hx => by
  obtain ⟨v, _, rfl⟩ := List.mem_map.mp hx
  rfl) fun x hx => by
  obtain ⟨v, _, rfl⟩ := List.mem_map.mp hx
  simp [toPy, PyData.depth]
theorem stands_ok {L i k n m : Nat} {w : Wk} {pre : List Sq} {x : Sq} {s : S} (hn : n ≤ 12) (hm : m ≤ 100) (h : Side L s i k n m w pre x) : wp (D__law_stands [.tok i, sqD x] s) (fun a s' => a = .bl true ∧ s' = s) fun _ _ => False := by
  obtain ⟨hk, ht, _⟩ := h.last
  have hst : StrAt s i (walkD (n : Int) w) (nwD x.R x.g x.c) (pre.map nwS) := h.st
  have r1 := rep_row (R := x.R) (by rw [hk.len]; omega) (fun v hv => Nat.le_trans (hk.r v hv) hm)
  have r2 := rep_out (R := x.g) (Nat.le_trans hk.gl hm) (fun v hv => Nat.le_trans (hk.g v hv) hm)
  unfold D__law_stands
  walk_at "b"
  (try walk_at "d")
  refine ⟨_, hst.ins, lk_gone, ?_⟩
  refine wpc_of (gone_ok hst) ?_
  rintro _ _ ⟨rfl, rfl⟩
  rename_i s
  (try walk_at "d")
  refine ⟨_, hst.ins, lk_row, ?_⟩
  refine wpc_of (row_ok hst) ?_
  rintro _ _ ⟨rfl, rfl⟩
  rename_i s
  unfold sqD
  (try walk_at "d")
  refine ⟨_, r1, _, r1, _, rfl, _, rfl, ?_⟩
  rw [if_neg (by simp)]
  have rt : dRepT 1920 s [.tok x.t] = some (.str (toPy (.lst (lets x.g))).shown) := by
    show (tokL s x.t).bind (fun l => repD 1920 (.lst l)) = _
    rw [tokL_of ht]
    exact r2 1920 (by decide)
  refine ⟨_, r2 12900 (by decide), rfl, _, rt, _, rfl, _, rfl, ?_⟩
  rw [if_neg (by simp)]
  refine ⟨by rw [lets_len]; have := hk.gl; omega, _, hst.ins, lk_gone, ?_⟩
  refine wpc_of (gone_ok hst) ?_
  rintro _ _ ⟨rfl, rfl⟩
  rename_i s
  (try walk_at "d")
  have eq : dEqR s (.lst (lets x.g)) (.tok x.t) = some (.bl true) := by
    show (tokL s x.t).bind (fun ds => dEq (.lst (lets x.g)) (.lst ds)) = _
    rw [tokL_of ht]
    exact eq_selfL (rd_out _)
  first | exact ⟨_, eq, rfl, rfl⟩ | exact ⟨_, eq, rfl⟩ | exact eq
/-- the last state is taken off the law's list -/
theorem pop_at {s : S} {k : Nat} {ds : List D} {d : D} (h : s[k]? = some (.l (ds ++ [d]))) : popL s (.tok k) = some (d, s.set k (.l ds)) := by
  show (match tokL s k with
      | some ds => match ds.getLast? with
        | some d => some (d, s.set k (.l ds.dropLast))
        | none => none
      | none => none) = _
  rw [tokL_of h]
  simp
theorem word_back {s : S} : wp (D__law_word (.exc "NoBack" s)) (fun a s' => a = .str "back" ∧ s' = s) fun _ _ => False := by
  unfold D__law_word
  refine wp_actX (by decide +kernel) ?_
  simp only [List.replicate, List.set_cons_succ, List.set_cons_zero]
  (try walk_at "d")
  refine ⟨false, by decide +kernel, false, by decide +kernel, true, by decide +kernel, false, by decide +kernel, ?_⟩
  rw [if_neg (by decide)]
  refine ⟨.int 1, rfl, .bl false, by rfl, false, rfl, ?_⟩
  rw [if_neg (by decide)]
  refine ⟨true, by decide +kernel, ?_⟩
  rw [if_neg (by decide)]
  refine ⟨.int 2, by rfl, _, by rfl, rfl⟩
theorem back_none {s : S} {i : Nat} {wd nw : D} (h : StrAt s i wd nw []) : wp (D_Street_back [.tok i] s) (fun _ _ => False) fun c s' => c = "NoBack" ∧ s' = s := by
  unfold D_Street_back
  walk_at "b"
  (try walk_at "d")
  refine ⟨_, h.ins, _, lk_past, ?_⟩
  refine ⟨.int ((([] : List D)).length : Nat), ?_, ?_⟩
  · show (tokL s (i + 1)).map _ = _
    rw [h.tl]; rfl
  (try walk_at "d")
theorem back_at {L i k n m : Nat} {w : Wk} {pre : List Sq} {x : Sq} {s : S} (hn : n ≤ 12) (hm : m ≤ 100) (h : Side L s i k n m w pre x) : wp (D__law_taken_back [.tok i, .tok k] s)
    (fun a s' => a = .bl true ∧ ∃ pre' x', Side L s' i k n m w pre' x' ∧ pre'.length = pre.length - 1 ∧ Frm s s' i k ∧ (pre = [] → x' = x ∧ pre' = []) ∧ (pre ≠ [] → pre = pre' ++ [x'])) fun _ _ => False := by
  unfold D__law_taken_back
  walk_at "b"
  (try walk_at "d")
  refine ⟨_, tokL_of h.ks, ?_⟩
  rcases List.eq_nil_or_concat pre with rfl | ⟨pre', y, rfl⟩
  · rw [if_pos (by simp)]
    refine wp_lamX (x := "NoBack") (s1 := s) ?_ (wp_mono word_back ?_ (fun _ _ z => z))
    · (try walk_at "d")
      refine ⟨_, h.st.ins, lk_back, ?_⟩
      exact wpc_exc (exc_of (back_none h.st)) ⟨rfl, rfl⟩
    · rintro _ _ ⟨rfl, rfl⟩
      (try walk_at "d")
      exact ⟨[], x, h, rfl, Frm.rfl', fun _ => ⟨rfl, rfl⟩, fun z => absurd rfl z⟩
  · rw [List.concat_eq_append] at *
    rw [if_neg (by simp; omega)]
    have hks : s[k]? = some (.l (((pre' ++ [y]).map sqD) ++ [sqD x])) := by rw [h.ks]; simp
    have l2 := h.l2
    have ik := h.ik
    unfold IK at ik
    have klt : k < s.length := (List.getElem?_eq_some_iff.mp h.ks).1
    refine ⟨_, pop_at hks, ?_⟩
    have st2 : StrAt (s.set k (.l ((pre' ++ [y]).map sqD))) i (walkD (n : Int) w) (nwS x) ((pre' ++ [y]).map nwS) :=
      ⟨by rw [List.getElem?_set_ne (by omega)]; exact h.st.o, by rw [List.getElem?_set_ne (by omega)]; exact h.st.l⟩
    have st3 : StrAt (s.set k (.l ((pre' ++ [y]).map sqD))) i (walkD (n : Int) w) (nwS x) (pre'.map nwS ++ [nwD y.R y.g y.c]) := by
      rw [show pre'.map nwS ++ [nwD y.R y.g y.c] = (pre' ++ [y]).map nwS by simp [nwS]]
      exact st2
    refine ⟨_, st2.ins, lk_back, ?_⟩
    refine wpc_of (back_ok st3) ?_
    rintro _ _ ⟨rfl, rfl⟩
    have oy := h.ok y (by simp)
    have r1 := rep_row (R := y.R) (by rw [oy.len]; omega) (fun v hv => Nat.le_trans (oy.r v hv) hm)
    have k2 : (setS (s.set k (.l ((pre' ++ [y]).map sqD))) i (walkD (n : Int) w) (nwD y.R y.g y.c) (pre'.map nwS))[k]? = some (.l ((pre' ++ [y]).map sqD)) := by
      rw [setS_ne (by omega) (by omega)]
      exact List.getElem?_set_self klt
    have fr : Frm s (setS (s.set k (.l ((pre' ++ [y]).map sqD))) i (walkD (n : Int) w) (nwD y.R y.g y.c) (pre'.map nwS)) i k := ⟨by rw [setS_len, List.length_set]; exact Nat.le_refl _, fun j c h1 h2 h3 hc => by
      rw [setS_ne h1 h2, List.getElem?_set_ne (Ne.symm h3)]
      exact hc⟩
    have st4 := st3.set (nw' := nwD y.R y.g y.c) (past' := pre'.map nwS)
    generalize setS (s.set k (.l ((pre' ++ [y]).map sqD))) i (walkD (n : Int) w) (nwD y.R y.g y.c) (pre'.map nwS) = s2 at *
    (try walk_at "d")
    refine ⟨_, r1, ?_⟩
    (try walk_at "d")
    refine ⟨_, tokL_of k2, ?_⟩
    refine ⟨sqD y, by rw [List.map_append]; exact at_last, _, rfl, _, r1, _, rfl, by simp, pre', y, ⟨l2, h.ik, st4, k2, fun z hz => h.ok z (List.mem_append_left _ hz), fun z hz => ?_, by have := h.pl; simp at this; omega, Nat.le_trans h.ln fr.1⟩, by simp, fr, fun z => by simp at z, fun _ => rfl⟩
    obtain ⟨q1, q2⟩ := h.tk z (List.mem_append_left _ hz)
    have q3 := q2
    unfold TOk at q3
    exact ⟨fr.2 _ _ (by omega) (by omega) (by omega) q1, q2⟩
/-! ### a deed -/
theorem pen_fr {a : Int} {r s s' : S} {i k : Nat} (h : Pen a r s) (i2 : 2 ≤ i) (k2 : 2 ≤ k) (kp : Frm s s' i k) : ∃ r', Pen a r' s' := by
  obtain ⟨ns, p, l, rfl, h1, h2, h3⟩ := h
  have a := kp.2 0 _ (by omega) (by omega) (by omega) rfl
  have b := kp.2 1 _ (by omega) (by omega) (by omega) rfl
  match s', a, b with
  | x :: y :: z, a, b =>
    cases a
    cases b
    exact ⟨z, ns, p, l, rfl, h1, h2, h3⟩
theorem pen_frp {a b : Int} {r s s' : S} {i k : Nat} (h : Pen a r s) (h' : Pen b r s') : FrP s s' i k := by
  obtain ⟨_, _, _, rfl, _⟩ := h
  obtain ⟨_, _, _, rfl, _⟩ := h'
  refine ⟨Nat.le_refl _, fun j c j2 _ _ _ hc => ?_⟩
  obtain ⟨j, rfl⟩ : ∃ z, j = z + 2 := ⟨j - 2, by omega⟩
  simpa using hc
theorem turn_bad {n : Nat} {w : Wk} {s : S} {i : Nat} {nw d : D} {past : List D} (h : StrAt s i (walkD (n : Int) w) nw past) (hp : pd d = true) (hb : dieB (n : Int) d = false) :
    wp (D_Street_turn [.tok i, d] s) (fun _ _ => False) fun c s' => c = "NoDice" ∧ s' = s := by
  unfold D_Street_turn
  walk_at "b"
  (try walk_at "d")
  refine ⟨_, h.ins, _, lk_walk, ?_⟩
  refine wpc_of (is_die_any (d := d) hp) ?_
  rintro _ _ ⟨rfl, rfl⟩
  rw [hb]
  (try walk_at "d")
theorem ev_le {R R' : List Nat} {c b v m : Nat} {W : Str} (e : Ev R c b W v R') (h : ∀ z ∈ R, z ≤ m) (hc : c ≤ m) : v ≤ m ∧ (∀ z ∈ R', z ≤ m) ∧ R'.length = R.length := by
  cases e with
  | stay b => exact ⟨by omega, h, rfl⟩
  | come e => subst e; exact ⟨hc, fun z hz => by
      rcases List.mem_cons.mp hz with rfl | hz
      · exact hc
      · exact h z (by simp [hz]), by simp⟩
  | go e hv => subst e; exact ⟨h _ (by simp), fun z hz => by
      rcases List.mem_append.mp hz with hz | hz
      · exact h z (by simp [hz])
      · rw [List.mem_singleton.mp hz]; omega, by simp⟩
  | on e hu => subst e; exact ⟨h _ (by simp), fun z hz => h z (by
      simp only [List.mem_append, List.mem_cons] at hz ⊢
      rcases hz with hz | hz | hz | hz <;> simp [hz]), by simp⟩
  | back e hv => subst e; exact ⟨h _ (by simp), fun z hz => h z (by
      simp only [List.mem_append, List.mem_cons] at hz ⊢
      rcases hz with hz | hz | hz | hz <;> simp [hz]), by simp⟩
theorem rep_due {R R' : List Nat} {c b v : Nat} {W : Str} (e : Ev R c b W v R') (hv : v ≤ 100) : repD 12900 (.tup [.str W, .int (v : Int)]) = some (.str (toPy (.tup [.str W, .int (v : Int)])).shown) := by
  have hi : Thing 12900 0 66 (.int (v : Int)) := th_lit (by rw [Int.natAbs_natCast]; exact Nat.lt_of_le_of_lt hv (by decide)) (by decide)
  have go : Thing 12900 0 100 (.str W) → repD 12900 (.tup [.str W, .int (v : Int)]) = some (.str (toPy (.tup [.str W, .int (v : Int)])).shown) := fun h =>
    th_rep (th_tups (ths_cons h (ths_cons hi ths_nil))) (by decide) (by decide)
  refine go ?_
  cases e <;> exact (th_str (k := 4) (by decide +kernel) (by decide +kernel)).mono (by decide) (by decide)
theorem deed_ok' {L i k n m : Nat} {w : Wk} {pre : List Sq} {x : Sq} {K : Int} {r s : S} (e : EW w) (n1 : 1 ≤ n) (hn : n ≤ 12) (hm : m < 100) (hK : K ≤ 60000) (h : Side L s i k n m w pre x) (hp : Pen K r s) :
    wp (D__law_deed [.tok 1, walkD (n : Int) w, .tok i, .tok k] s) (fun a s' => a = .bl true ∧ ∃ pre' x', Side L s' i k n (m + 1) w pre' x' ∧ FrP s s' i k ∧ (pre' ++ [x'])[0]? = (pre ++ [x])[0]? ∧ ∃ r', Pen (K + 60) r' s') fun _ _ => False := by
  have l2 := h.l2
  have ik := h.ik
  unfold IK at ik
  unfold D__law_deed
  walk_at "b"
  rw [show walkD (n : Int) w = .tup [.int (n : Int), rat w.on, rat w.back, rat w.come, rat w.go] from rfl]
  (try walk_at "d")
  refine wpc_of (draw_ok (by decide) (by decide) (by rw [p200]; omega) hp) ?_
  rintro _ s1 ⟨y1, rfl, y10, y11, p1⟩
  (try walk_at "d")
  refine wpc_of (draw_ok (by decide) (by decide) (by rw [p200]; omega) p1) ?_
  rintro _ s2 ⟨y2, rfl, y20, y21, p2⟩
  (try walk_at "d")
  refine wpc_of (draw_ok (by decide) (by decide) (by rw [p200]; omega) p2) ?_
  rintro _ s3 ⟨y3, rfl, y30, y31, p3⟩
  (try walk_at "d")
  refine wpc_of (draw_ok (by omega) (by omega) (by rw [p200]; omega) p3) ?_
  rintro _ s4 ⟨y4, rfl, y40, y41, p4⟩
  (try walk_at "d")
  have pick : ∃ b : Nat, atI [D.int 0, .int (n : Int), .int y4, .int y4] y3 = some (.int (b : Int)) ∧ b ≤ n := by
    have : y3 = 0 ∨ y3 = 1 ∨ y3 = 2 ∨ y3 = 3 := by omega
    rcases this with rfl | rfl | rfl | rfl
    · exact ⟨0, rfl, by omega⟩
    · exact ⟨n, rfl, by omega⟩
    · exact ⟨y4.toNat, by rw [Int.toNat_of_nonneg y40]; rfl, by omega⟩
    · exact ⟨y4.toNat, by rw [Int.toNat_of_nonneg y40]; rfl, by omega⟩
  obtain ⟨b, eb, hb⟩ := pick
  refine ⟨_, eb, ?_⟩
  have h4 := h.pen hp p4
  (try walk_at "d")
  refine ⟨_, tokL_of h4.ks, sqD x, by rw [List.map_append]; exact at_last, ?_⟩
  unfold sqD
  (try walk_at "d")
  obtain ⟨hk4, ht4, _⟩ := h4.last
  have hl := hk4.len
  refine wpk_of (by rw [lets_len]; omega) (comp_map bitF fun d hd' => ?_) ?_
  · obtain ⟨k, hk, rfl⟩ := List.mem_map.mp hd'
    refine ⟨_, rfl, by walk_at "d", ?_⟩
    walk_at "u"
    (try walk_at "d")
    rfl
  rintro _ _ ⟨rfl, rfl⟩
  rename_i s4
  rw [bits_map]
  (try walk_at "d")
  refine wpc_of (next_ok (w := w) n1 hn (stand_bits hl)) ?_
  rintro _ _ ⟨rfl, rfl⟩
  rename_i s4
  (try walk_at "d")
  refine ⟨_, next_at hb, ?_⟩
  unfold nextD
  (try walk_at "d")
  refine wpc_of (share_q (chL_ch (n := n) e) (by rw [p97]; omega) p4) ?_
  rintro _ s5 ⟨⟨q, rfl, q0, q1, rq⟩, p5⟩
  have h5 := h4.pen p4 p5
  have hd : DieQ n (b, q) := ⟨hb, q0, q1, rq⟩
  (try walk_at "d")
  refine ite2 (fun hy0 => ?_) (fun hy0 => ?_)
  · have pick : ∃ d, atI [D.non, D.lst [D.int (b : Int), D.tup [D.int 0, D.int 1]], D.tup [D.int ((n : Int) + 1), D.tup [D.int 0, D.int 1]], D.tup [D.int (b : Int), D.tup [D.int 1, D.int 1]], D.tup [D.bl true, D.tup [D.int 0, D.int 1]], D.tup [D.int (b : Int)], D.str (Str.ofString "0:0/1"), D.tup []] y2 = some d ∧ pd d = true ∧ dieB (n : Int) d = false := by
      have : y2 = 0 ∨ y2 = 1 ∨ y2 = 2 ∨ y2 = 3 ∨ y2 = 4 ∨ y2 = 5 ∨ y2 = 6 ∨ y2 = 7 := by omega
      rcases this with rfl | rfl | rfl | rfl | rfl | rfl | rfl | rfl
      · exact ⟨_, rfl, rfl, rfl⟩
      · exact ⟨_, rfl, rfl, rfl⟩
      · exact ⟨_, rfl, rfl, by simp [dieB, borderB]; omega⟩
      · exact ⟨_, rfl, rfl, by simp [dieB, lessB]⟩
      · exact ⟨_, rfl, rfl, by simp [dieB, borderB]⟩
      · exact ⟨_, rfl, rfl, rfl⟩
      · exact ⟨_, rfl, rfl, rfl⟩
      · exact ⟨_, rfl, rfl, rfl⟩
    obtain ⟨od, eo, po, bo⟩ := pick
    refine wp_lamX (x := "NoDice") (s1 := s5) ?_ (wp_mono word_dice ?_ (fun _ _ z => z))
    · (try walk_at "d")
      refine ⟨_, h5.st.ins, lk_turn, _, eo, ?_⟩
      exact wpc_exc (exc_of (turn_bad h5.st po bo)) ⟨rfl, rfl⟩
    · rintro _ _ ⟨rfl, rfl⟩
      (try walk_at "d")
      exact ⟨pre, x, h5.mono (by omega), pen_frp hp p5, rfl, r, pen_mono p5 (by omega)⟩
  refine ite2 (fun hy1 => ?_) (fun hy1 => ?_)
  · refine wpc_of (back_at hn (by omega) h5) ?_
    rintro _ s6 ⟨rfl, pre', x', sd, _, fr, hd1, hd2⟩
    obtain ⟨r6, p6⟩ := pen_fr p5 (by omega) (by omega) fr
    refine ⟨rfl, pre', x', sd.mono (by omega), (pen_frp hp p5).trans fr.p, ?_, r6, pen_mono p6 (by omega)⟩
    by_cases z : pre = []
    · obtain ⟨rfl, rfl⟩ := hd1 z
      rw [z]
    · rw [List.getElem?_append_left (l₂ := [x]) (List.length_pos_iff.mpr z), ← hd2 z]
  obtain ⟨hk5, ht5, tt5⟩ := h5.last
  refine ⟨_, tokL_of h5.ks, sqD x, by rw [List.map_append]; exact at_last, ?_⟩
  obtain ⟨W, v, R', ev, hw, hap⟩ := ev_ok e n1 hn hl hb rq hk4.c0 (Rat.num_nonneg.mp q0)
  refine wpc_of (done_ok e n1 hn hk4 (by omega) hd ht5 ev hw) ?_
  rintro _ s6 ⟨t, rfl, cs⟩
  generalize ey : (⟨R', x.g ++ (if W = "go" then [v] else []), x.c + (if W = "come" then 1 else 0), t⟩ : Sq) = y at *
  have ln5 := h5.ln
  have up : (∀ (j : Nat) (c : Cell), s5[j]? = some c → s6[j]? = some c) ∧ s5.length ≤ s6.length ∧ s6[y.t]? = some (.l (lets y.g)) ∧ TOk L y.t := by
    subst ey
    rcases cs with ⟨rfl, rfl, nw⟩ | ⟨rfl, rfl⟩
    · refine ⟨fun _ _ z => z, Nat.le_refl _, ?_, tt5⟩
      show s6[x.t]? = some (.l (lets (x.g ++ if W = "go" then [v] else [])))
      rw [if_neg nw, List.append_nil]
      exact ht5
    · refine ⟨fun j c z => by rw [List.getElem?_append_left (List.getElem?_eq_some_iff.mp z).1]; exact z, by simp, by simp, .inr (.inr ln5)⟩
  obtain ⟨up, ul, uy, ut⟩ := up
  (try walk_at "d")
  have k6 := up k _ h5.ks
  have klt : k < s6.length := (List.getElem?_eq_some_iff.mp k6).1
  have pl5 := h5.pl
  have fl : flat (sqD y) = true := by simp [sqD, flat, flats, flats_lets]
  have ap : appS s6 (.tok k) (sqD y) = some (s6.set k (.l ((pre ++ [x]).map sqD ++ [sqD y]))) := by
    show (match tokL s6 k with
      | some ds => if flat (sqD y) = true ∧ ds.length < 16777216 then some (s6.set k (.l (ds ++ [sqD y]))) else none
      | none => none) = _
    rw [tokL_of k6]
    simp only
    rw [if_pos ⟨fl, by rw [List.length_map]; simp; omega⟩]
  refine ⟨by show (tokL s6 k).isSome = true; rw [tokL_of k6]; rfl, _, ap, ?_⟩
  have st7 : StrAt (s6.set k (.l ((pre ++ [x]).map sqD ++ [sqD y]))) i (walkD (n : Int) w) (nwD x.R x.g x.c) (pre.map nwS) :=
    ⟨by rw [List.getElem?_set_ne (by omega)]; exact up _ _ h5.st.o, by rw [List.getElem?_set_ne (by omega)]; exact up _ _ h5.st.l⟩
  refine ⟨_, st7.ins, lk_turn, ?_⟩
  refine wpc_of (turn_ok hd (by omega) (by have := hk5.gl; omega) (by rw [List.length_map]; omega) st7 ev hap) ?_
  rintro _ _ ⟨rfl, rfl⟩
  obtain ⟨v1, v2, v3⟩ := ev_le ev hk5.r hk5.c
  have rd := rep_due ev (by omega)
  (try walk_at "d")
  refine ⟨_, rd, ?_⟩
  (try walk_at "d")
  refine ⟨_, rd, ?_⟩
  have st8 := st7.set (nw' := nwD R' (x.g ++ (if W = "go" then [v] else [])) (x.c + (if W = "come" then 1 else 0))) (past' := pre.map nwS ++ [nwD x.R x.g x.c])
  have e1 : nwD R' (x.g ++ (if W = "go" then [v] else [])) (x.c + (if W = "come" then 1 else 0)) = nwS y := by subst ey; rfl
  have e2 : pre.map nwS ++ [nwD x.R x.g x.c] = (pre ++ [x]).map nwS := by simp [nwS]
  rw [e1, e2] at st8
  rw [e1, e2]
  have fr : FrP s5 (setS (s6.set k (.l ((pre ++ [x]).map sqD ++ [sqD y]))) i (walkD (n : Int) w) (nwS y) ((pre ++ [x]).map nwS)) i k := ⟨by rw [setS_len, List.length_set]; exact ul, fun j c _ h1 h2 h3 hc => by
    rw [setS_ne h1 h2, List.getElem?_set_ne (Ne.symm h3)]
    exact up j c hc⟩
  have frm : Frm s5 (setS (s6.set k (.l ((pre ++ [x]).map sqD ++ [sqD y]))) i (walkD (n : Int) w) (nwS y) ((pre ++ [x]).map nwS)) i k := ⟨fr.1, fun j c h1 h2 h3 hc => by
    rw [setS_ne h1 h2, List.getElem?_set_ne (Ne.symm h3)]
    exact up j c hc⟩
  have k8 : (setS (s6.set k (.l ((pre ++ [x]).map sqD ++ [sqD y]))) i (walkD (n : Int) w) (nwS y) ((pre ++ [x]).map nwS))[k]? = some (.l (((pre ++ [x]) ++ [y]).map sqD)) := by
    rw [setS_ne (by omega) (by omega), List.getElem?_set_self klt, List.map_append (l₁ := pre ++ [x])]
    rfl
  have y8 : (setS (s6.set k (.l ((pre ++ [x]).map sqD ++ [sqD y]))) i (walkD (n : Int) w) (nwS y) ((pre ++ [x]).map nwS))[y.t]? = some (.l (lets y.g)) := by
    have q := ut
    unfold TOk at q
    rw [setS_ne (by omega) (by omega), List.getElem?_set_ne (by omega)]
    exact uy
  generalize setS (s6.set k (.l ((pre ++ [x]).map sqD ++ [sqD y]))) i (walkD (n : Int) w) (nwS y) ((pre ++ [x]).map nwS) = s8 at *
  obtain ⟨r8, p8⟩ := pen_fr p5 (by omega) (by omega) frm
  have oy : SqOk n (m + 1) y := by
    subst ey
    refine ⟨by show R'.length = n; rw [v3]; exact hl, fun z hz => by have := v2 z hz; omega, fun z hz => ?_, ?_, ?_, by show x.c + _ ≠ 0; have := hk5.c0; omega⟩
    · have hz : z ∈ x.g ++ (if W = "go" then [v] else []) := hz
      rcases List.mem_append.mp hz with hz | hz
      · have := hk5.g z hz; omega
      · by_cases q : W = "go"
        · rw [if_pos q] at hz
          rw [List.mem_singleton.mp hz]; omega
        · rw [if_neg q] at hz
          cases hz
    · show (x.g ++ (if W = "go" then [v] else [])).length ≤ m + 1
      have := hk5.gl
      rw [List.length_append]
      by_cases q : W = "go"
      · rw [if_pos q]; simp; omega
      · rw [if_neg q]; simp; omega
    · show x.c + (if W = "come" then 1 else 0) ≤ m + 1
      have := hk5.c
      split <;> omega
  refine ⟨.bl true, by simp [dEq], rfl, pre ++ [x], y, ⟨l2, h5.ik, st8, k8, fun z hz => ?_, fun z hz => ?_, by simp; omega, Nat.le_trans h5.ln fr.1⟩, (pen_frp hp p5).trans fr, by rw [List.getElem?_append_left (l₂ := [y]) (by simp)], r8, pen_mono p8 (by omega)⟩
  · rcases List.mem_append.mp hz with hz | hz
    · exact (h5.ok z hz).mono (by omega)
    · rw [List.mem_singleton.mp hz]; exact oy
  · rcases List.mem_append.mp hz with hz | hz
    · obtain ⟨q1, q2⟩ := h5.tk z hz
      have q3 := q2
      unfold TOk at q3
      exact ⟨frm.2 _ _ (by omega) (by omega) (by omega) q1, q2⟩
    · rw [List.mem_singleton.mp hz]
      exact ⟨y8, ut⟩
/-! ### the law */ -/
theorem comp_nil {g : DG} {c : DT} {f : DE} {ρ : List Sl} {s : S} {Q : List D → S → Prop} {X : Str → S → Prop} (h : Q [] s) : wp (compN g c f ρ [] s) Q X := by
  unfold compN
  simp only [wp_ok]
  exact h
theorem comp_cons {g : DG} {c : DT} {f : DE} {ρ : List Sl} {d : D} {ds : List D} {s : S} {Q : List D → S → Prop} {X : Str → S → Prop}
    (h : ∃ ρ1, g d ρ = some ρ1 ∧ wp (c ρ1 s) (fun b s1 => b = true ∧ wp (f ρ1 s1) (fun y s2 => wp (compN g c f ρ ds s2) (fun ys s3 => Q (y :: ys) s3) X) X) X) : wp (compN g c f ρ (d :: ds) s) Q X := by
  obtain ⟨ρ1, e1, h1⟩ := h
  unfold compN
  rw [e1]
  simp only
  rw [wp_bind]
  refine wp_mono h1 (fun b s1 ⟨hb, h2⟩ => ?_) fun _ _ z => z
  subst hb
  simp only [if_true]
  rw [wp_bind]
  refine wp_mono h2 (fun y s2 hy => ?_) fun _ _ z => z
  rw [wp_bind]
  refine wp_mono hy (fun ys s3 q => ?_) fun _ _ z => z
  rw [wp_ok]
  exact q
def begSq (ls : List Nat) (t : Nat) : Sq := ⟨numR ls, [], ls.sum + 1, t⟩
theorem beg_ok {n : Nat} {ls : List Nat} {t : Nat} (hn : n ≤ 12) (hs : Stand n ls) : SqOk n 13 (begSq ls t) := by
  have hl := hs.len
  have sr := sum_01 hs.h01
  refine ⟨by show (numR ls).length = n; rw [numR_len]; exact hl, fun v hv => by have := numR_le hs.h01 v hv; omega, fun v hv => absurd hv (by show v ∉ []; simp), by show 0 ≤ 13; decide, by show ls.sum + 1 ≤ 13; omega, by show ls.sum + 1 ≠ 0; omega⟩
theorem flat_walk {n : Nat} {w : Wk} : flat (walkD (n : Int) w) = true := by simp [walkD, rat, flat, flats]
theorem eq_selfT {xs : List D} (h : ready (.tup xs) = true) : dEq (.tup xs) (.tup xs) = some (.bl true) := by
  have e : (if (ready (.tup xs) && ready (.tup xs)) = true then some (D.bl (eqB (.tup xs) (.tup xs))) else none) = dEq (.tup xs) (.tup xs) := rfl
  rw [← e, h, eqB_self h]
  rfl
theorem rd_rowT (g : List Nat) : ready (.tup (lets g)) = true := rd_tup (fun x hx => by
  obtain ⟨v, _, rfl⟩ := List.mem_map.mp hx
  rfl) fun x hx => by
  obtain ⟨v, _, rfl⟩ := List.mem_map.mp hx
  simp [toPy, PyData.depth]
theorem law_ok : LawOk D_law := fun ns hns => ok_of_wp <| by
  unfold D_law
  walk_at "b"
  (try walk_at "d")
  refine wpc_of (pen_ok hns) ?_
  rintro _ s0 ⟨rfl, h0⟩
  (try walk_at "d")
  refine wpc_of (walk_ok (by decide) (by decide) (by rw [p97]; omega) h0) ?_
  rintro _ s1 ⟨⟨n1, w1, rfl, a1, b1, e1⟩, h1⟩
  (try walk_at "d")
  refine wpc_of (walk_ok (by decide) (by decide) (by rw [p97]; omega) h1) ?_
  rintro _ s2 ⟨⟨n2, w2, rfl, a2, b2, e2⟩, h2⟩
  (try walk_at "d")
  have c1 : n1 ≤ 12 := by omega
  have c2 : n2 ≤ 12 := by omega
  refine wpk_of (P := fun ys s' => ∃ l1 l2, ys = [D.tup (lets l1), D.tup (lets l2)] ∧ Stand n1 l1 ∧ Stand n2 l2 ∧ Pen 200 [] s') (by show 2 ≤ 16777216; decide) ?_ ?_
  · refine comp_cons ⟨_, rfl, ?_⟩
    walk_at "u"
    (try walk_at "d")
    refine ⟨.int (n1 : Int), rfl, ?_⟩
    refine wpc_of (stand_ok a1 c1 (by rw [p97]; omega) h2) ?_
    rintro _ s3 ⟨⟨l1, rfl, g1⟩, h3⟩
    (try walk_at "d")
    refine comp_cons ⟨_, rfl, ?_⟩
    walk_at "u"
    (try walk_at "d")
    refine ⟨.int (n2 : Int), rfl, ?_⟩
    refine wpc_of (stand_ok a2 c2 (by rw [p97]; omega) h3) ?_
    rintro _ s4 ⟨⟨l2, rfl, g2⟩, h4⟩
    exact comp_nil ⟨l1, l2, rfl, g1, g2, pen_mono h4 (by omega)⟩
  rintro _ s4 ⟨l1, l2, rfl, g1, g2, h4⟩
  clear h0 h1 h2
  obtain ⟨ns', p', q', rfl, hh⟩ := h4
  (try walk_at "d")
  refine ⟨by decide, ?_⟩
  rw [show rngD 0 1 (Int.toNat 2) = [D.int 0, D.int 1] from rfl]
  let st1 := strC (walkD (n1 : Int) w1) (nwD (numR l1) [] (l1.sum + 1)) 3
  let st2 := strC (walkD (n2 : Int) w2) (nwD (numR l2) [] (l2.sum + 1)) 5
  refine wpk_of (P := fun ys s' => ys = [D.tok 2, D.tok 4] ∧ s' = [Cell.l (List.map D.int ns'), Cell.l [D.tok 0, D.int p', D.int q'], st1, .l [], st2, .l []]) (by show 2 ≤ 16777216; decide) ?_ ?_
  · refine comp_cons ⟨_, rfl, ?_⟩
    walk_at "u"
    (try walk_at "d")
    refine wp_mono (init_ok (i := 2) c1 g1 flat_walk rfl) (fun a s' ⟨ea, es⟩ => ?_) fun _ _ z => z
    subst ea
    have es : s' = [Cell.l (List.map D.int ns'), Cell.l [D.tok 0, D.int p', D.int q'], st1, .l []] := es
    subst es
    refine ⟨rfl, comp_cons ⟨_, rfl, ?_⟩⟩
    walk_at "u"
    (try walk_at "d")
    refine wp_mono (init_ok (i := 4) c2 g2 flat_walk rfl) (fun a s' ⟨ea, es⟩ => ?_) fun _ _ z => z
    subst ea
    have es : s' = [Cell.l (List.map D.int ns'), Cell.l [D.tok 0, D.int p', D.int q'], st1, .l [], st2, .l []] := es
    subst es
    exact ⟨rfl, comp_nil ⟨rfl, rfl⟩⟩
  rintro _ _ ⟨rfl, rfl⟩
  (try walk_at "d")
  let x1 := begSq l1 6
  let x2 := begSq l2 8
  refine wpk_of (P := fun ys s' => ys = [D.tok 7, D.tok 9] ∧ s' = [Cell.l (List.map D.int ns'), Cell.l [D.tok 0, D.int p', D.int q'], st1, .l [], st2, .l [], .l [], .l [sqD x1], .l [], .l [sqD x2]]) (by show 2 ≤ 16777216; decide) ?_ ?_
  · refine comp_cons ⟨_, rfl, ?_⟩
    walk_at "u"
    (try walk_at "d")
    refine wpc_of (begun_ok c1 g1) ?_
    rintro _ _ ⟨rfl, rfl⟩
    (try walk_at "d")
    refine ⟨by simp [flats, flat, flats_lets], ?_⟩
    refine comp_cons ⟨_, rfl, ?_⟩
    walk_at "u"
    (try walk_at "d")
    refine wpc_of (begun_ok c2 g2) ?_
    rintro _ _ ⟨rfl, rfl⟩
    (try walk_at "d")
    exact ⟨by simp [flats, flat, flats_lets], comp_nil ⟨rfl, rfl⟩⟩
  rintro _ _ ⟨rfl, rfl⟩
  (try walk_at "d")
  have sd1 : Side 2 [Cell.l (List.map D.int ns'), Cell.l [D.tok 0, D.int p', D.int q'], st1, .l [], st2, .l [], .l [], .l [sqD x1], .l [], .l [sqD x2]] 2 7 n1 13 w1 [] x1 :=
    ⟨by decide, .inl ⟨rfl, rfl⟩, ⟨rfl, rfl⟩, rfl, fun y hy => by rw [List.mem_singleton.mp hy]; exact beg_ok c1 g1, fun y hy => by rw [List.mem_singleton.mp hy]; exact ⟨rfl, .inl rfl⟩, by decide, by show 10 ≤ 10; decide⟩
  have sd2 : Side 2 [Cell.l (List.map D.int ns'), Cell.l [D.tok 0, D.int p', D.int q'], st1, .l [], st2, .l [], .l [], .l [sqD x1], .l [], .l [sqD x2]] 4 9 n2 13 w2 [] x2 :=
    ⟨by decide, .inr ⟨rfl, rfl⟩, ⟨rfl, rfl⟩, rfl, fun y hy => by rw [List.mem_singleton.mp hy]; exact beg_ok c2 g2, fun y hy => by rw [List.mem_singleton.mp hy]; exact ⟨rfl, .inr (.inl rfl)⟩, by decide, by show 10 ≤ 10; decide⟩
  have pn : ∃ r, Pen 200 r [Cell.l (List.map D.int ns'), Cell.l [D.tok 0, D.int p', D.int q'], st1, .l [], st2, .l [], .l [], .l [sqD x1], .l [], .l [sqD x2]] := ⟨_, ns', p', q', rfl, hh⟩
  refine ⟨by decide, ?_⟩
  refine wpl_s (fun _ => []) (fun t s' => ∃ pa ya pb yb, Side 2 s' 2 7 n1 (13 + t) w1 pa ya ∧ Side 2 s' 4 9 n2 (13 + t) w2 pb yb ∧ (pa ++ [ya])[0]? = some x1 ∧ (pb ++ [yb])[0]? = some x2 ∧ ∃ r, Pen (200 + 100 * (t : Int)) r s') rfl ⟨[], x1, [], x2, sd1, sd2, rfl, rfl, by simpa using pn⟩ (fun t d s' hd hz => ?_) (fun s' hz => ?_)
  · obtain ⟨ht, rfl⟩ := rng0 hd
    have ht : t < 40 := ht
    obtain ⟨pa, ya, pb, yb, A, B, ha, hb, r, hp⟩ := hz
    refine ⟨_, rfl, ?_⟩
    walk_at "u"
    (try walk_at "d")
    refine wpc_of (draw_ok (by decide) (by decide) (by rw [p200]; omega) hp) ?_
    rintro _ s2 ⟨c, rfl, c0, c1', h2⟩
    have A2 := A.pen hp h2
    have B2 := B.pen hp h2
    (try walk_at "d")
    have cc : c = 0 ∨ c = 1 := by omega
    rcases cc with rfl | rfl
    · (try walk_at "d")
      refine wp_mono (deed_ok' e1 a1 c1 (by omega) (by omega) A2 h2) (fun a s3 hpost => ?_) fun _ _ z => z
      obtain ⟨rfl, pa', ya', A3, fr, hd3, r3, h3⟩ := hpost
      have B3 := (B2.other A2.ik (by decide) fr).mono (show 13 + t ≤ 13 + t + 1 by omega)
      rw [ha] at hd3
      (try walk_at "d")
      refine ⟨by decide, ?_⟩
      rw [show rngD 0 1 (Int.toNat 2) = [D.int 0, D.int 1] from rfl]
      refine wpk_of (P := fun ys s' => ys = [D.bl true, D.bl true] ∧ s' = s3) (by show 2 ≤ 16777216; decide) ?_ ?_
      · refine comp_cons ⟨_, rfl, ?_⟩
        walk_at "u"
        (try walk_at "d")
        refine ⟨_, tokL_of A3.ks, sqD ya', by rw [List.map_append]; exact at_last, ?_⟩
        refine wp_mono (stands_ok c1 (by omega) A3) (fun a s4 ⟨ea, es⟩ => ?_) fun _ _ z => z
        subst ea es
        refine comp_cons ⟨_, rfl, ?_⟩
        walk_at "u"
        (try walk_at "d")
        refine ⟨_, tokL_of B3.ks, sqD yb, by rw [List.map_append]; exact at_last, ?_⟩
        refine wp_mono (stands_ok c2 (by omega) B3) (fun a s4 ⟨ea, es⟩ => ?_) fun _ _ z => z
        subst ea es
        exact comp_nil ⟨rfl, rfl⟩
      rintro _ _ ⟨rfl, rfl⟩
      (try walk_at "d")
      exact ⟨pa', ya', pb, yb, A3, B3, hd3, hb, r3, pen_mono h3 (by omega)⟩
    · (try walk_at "d")
      refine wp_mono (deed_ok' e2 a2 c2 (by omega) (by omega) B2 h2) (fun a s3 hpost => ?_) fun _ _ z => z
      obtain ⟨rfl, pb', yb', B3, fr, hd3, r3, h3⟩ := hpost
      have A3 := (A2.other B2.ik (by decide) fr).mono (show 13 + t ≤ 13 + t + 1 by omega)
      rw [hb] at hd3
      (try walk_at "d")
      refine ⟨by decide, ?_⟩
      rw [show rngD 0 1 (Int.toNat 2) = [D.int 0, D.int 1] from rfl]
      refine wpk_of (P := fun ys s' => ys = [D.bl true, D.bl true] ∧ s' = s3) (by show 2 ≤ 16777216; decide) ?_ ?_
      · refine comp_cons ⟨_, rfl, ?_⟩
        walk_at "u"
        (try walk_at "d")
        refine ⟨_, tokL_of A3.ks, sqD ya, by rw [List.map_append]; exact at_last, ?_⟩
        refine wp_mono (stands_ok c1 (by omega) A3) (fun a s4 ⟨ea, es⟩ => ?_) fun _ _ z => z
        subst ea es
        refine comp_cons ⟨_, rfl, ?_⟩
        walk_at "u"
        (try walk_at "d")
        refine ⟨_, tokL_of B3.ks, sqD yb', by rw [List.map_append]; exact at_last, ?_⟩
        refine wp_mono (stands_ok c2 (by omega) B3) (fun a s4 ⟨ea, es⟩ => ?_) fun _ _ z => z
        subst ea es
        exact comp_nil ⟨rfl, rfl⟩
      rintro _ _ ⟨rfl, rfl⟩
      (try walk_at "d")
      exact ⟨pa, ya, pb', yb', A3, B3, ha, hd3, r3, pen_mono h3 (by omega)⟩
  · clear pn sd1 sd2
    obtain ⟨pa, ya, pb, yb, A, B, ha, hb, _⟩ := hz
    walk_at "u"
    (try walk_at "d")
    refine ⟨by decide, ?_⟩
    refine wpl_s (fun _ => []) (fun t s' => ∃ pa ya pb yb, Side 2 s' 2 7 n1 53 w1 pa ya ∧ Side 2 s' 4 9 n2 53 w2 pb yb ∧ (pa ++ [ya])[0]? = some x1 ∧ (pb ++ [yb])[0]? = some x2 ∧ (1 ≤ t → pa = []) ∧ (2 ≤ t → pb = [])) rfl ⟨pa, ya, pb, yb, A, B, ha, hb, fun z => absurd z (by decide), fun z => absurd z (by decide)⟩ (fun t d s' hd hz => ?_) (fun s' hz => ?_)
    · obtain ⟨ht, rfl⟩ := rng0 hd
      obtain ⟨pa, ya, pb, yb, A, B, ha, hb, ta, tb⟩ := hz
      have tt : t = 0 ∨ t = 1 := by have : t < 2 := ht; omega
      refine ⟨_, rfl, ?_⟩
      rcases tt with rfl | rfl
      · walk_at "u"
        (try walk_at "d")
        refine ⟨_, tokL_of A.ks, ?_⟩
        have pl := A.pl
        have ll : ((pa ++ [ya]).map sqD).length = pa.length + 1 := by simp
        rw [ll]
        refine ⟨⟨by omega, by omega⟩, ?_⟩
        rw [Int.toNat_natCast]
        refine wpl_s (fun _ => []) (fun t s' => ∃ p y, Side 2 s' 2 7 n1 53 w1 p y ∧ p.length = pa.length - t ∧ (p ++ [y])[0]? = some x1 ∧ Side 2 s' 4 9 n2 53 w2 pb yb) rfl ⟨pa, ya, A, by omega, by assumption, B⟩ (fun t d s' hd hz => ?_) (fun s' hz => ?_)
        · obtain ⟨ht, rfl⟩ := rng0 hd
          obtain ⟨p, y, A1, lp, hx, B1⟩ := hz
          refine ⟨_, rfl, ?_⟩
          walk_at "u"
          (try walk_at "d")
          refine wpc_of (back_at c1 (by decide) A1) ?_
          rintro _ s2 ⟨rfl, p', y', A2, lp', fr, hd1, hd2⟩
          have B2 := B1.other A1.ik (by decide) fr.p
          have hx' : (p' ++ [y'])[0]? = some x1 := by
            by_cases z : p = []
            · obtain ⟨rfl, rfl⟩ := hd1 z
              rw [z] at hx
              exact hx
            · rw [List.getElem?_append_left (l₂ := [y]) (List.length_pos_iff.mpr z), hd2 z] at hx
              exact hx
          (try walk_at "d")
          refine ⟨_, tokL_of A2.ks, sqD y', by rw [List.map_append]; exact at_last, ?_⟩
          refine wpc_of (stands_ok c1 (by decide) A2) ?_
          rintro _ _ ⟨rfl, rfl⟩
          (try walk_at "d")
          exact ⟨p', y', A2, by omega, hx', B2⟩
        · obtain ⟨p, y, A1, lp, hx, B1⟩ := hz
          walk_at "u"
          (try walk_at "d")
          have p0 : p = [] := List.length_eq_zero_iff.mp (by rw [lp, rngD_len]; omega)
          exact ⟨p, y, pb, yb, A1, B1, hx, hb, fun _ => p0, fun z => absurd z (by decide)⟩
      · walk_at "u"
        (try walk_at "d")
        refine ⟨_, tokL_of B.ks, ?_⟩
        have pl := B.pl
        have ll : ((pb ++ [yb]).map sqD).length = pb.length + 1 := by simp
        rw [ll]
        refine ⟨⟨by omega, by omega⟩, ?_⟩
        rw [Int.toNat_natCast]
        refine wpl_s (fun _ => []) (fun t s' => ∃ p y, Side 2 s' 4 9 n2 53 w2 p y ∧ p.length = pb.length - t ∧ (p ++ [y])[0]? = some x2 ∧ Side 2 s' 2 7 n1 53 w1 pa ya) rfl ⟨pb, yb, B, by omega, by assumption, A⟩ (fun t d s' hd hz => ?_) (fun s' hz => ?_)
        · obtain ⟨ht, rfl⟩ := rng0 hd
          obtain ⟨p, y, A1, lp, hx, B1⟩ := hz
          refine ⟨_, rfl, ?_⟩
          walk_at "u"
          (try walk_at "d")
          refine wpc_of (back_at c2 (by decide) A1) ?_
          rintro _ s2 ⟨rfl, p', y', A2, lp', fr, hd1, hd2⟩
          have B2 := B1.other A1.ik (by decide) fr.p
          have hx' : (p' ++ [y'])[0]? = some x2 := by
            by_cases z : p = []
            · obtain ⟨rfl, rfl⟩ := hd1 z
              rw [z] at hx
              exact hx
            · rw [List.getElem?_append_left (l₂ := [y]) (List.length_pos_iff.mpr z), hd2 z] at hx
              exact hx
          (try walk_at "d")
          refine ⟨_, tokL_of A2.ks, sqD y', by rw [List.map_append]; exact at_last, ?_⟩
          refine wpc_of (stands_ok c2 (by decide) A2) ?_
          rintro _ _ ⟨rfl, rfl⟩
          (try walk_at "d")
          exact ⟨p', y', A2, by omega, hx', B2⟩
        · obtain ⟨p, y, A1, lp, hx, B1⟩ := hz
          walk_at "u"
          (try walk_at "d")
          have p0 : p = [] := List.length_eq_zero_iff.mp (by rw [lp, rngD_len]; omega)
          exact ⟨pa, ya, p, y, B1, A1, ha, hx, fun _ => ta (by decide), fun _ => p0⟩
    · obtain ⟨pa, ya, pb, yb, A, B, ha, hb, ta, tb⟩ := hz
      walk_at "u"
      (try walk_at "d")
      have pa0 := ta (by rw [rngD_len]; decide)
      have pb0 := tb (by rw [rngD_len]; decide)
      subst pa0 pb0
      have ha : ya = x1 := by simpa using ha
      have hb : yb = x2 := by simpa using hb
      subst ha hb
      have sa : StrAt s' 2 (walkD (n1 : Int) w1) (nwD (numR l1) [] (l1.sum + 1)) [] := A.st
      have sb : StrAt s' 4 (walkD (n2 : Int) w2) (nwD (numR l2) [] (l2.sum + 1)) [] := B.st
      refine ⟨_, sa.ins, lk_row, ?_⟩
      refine wpc_of (row_ok sa) ?_
      rintro _ _ ⟨rfl, rfl⟩
      (try walk_at "d")
      refine wpc_of (begun_ok c1 g1) ?_
      rintro _ _ ⟨rfl, rfl⟩
      (try walk_at "d")
      refine ⟨_, eq_selfT (rd_rowT _), true, rfl, ?_⟩
      rw [if_pos rfl]
      have sb2 : ∀ s : S, StrAt s 4 (walkD (n2 : Int) w2) (nwD (numR l2) [] (l2.sum + 1)) [] → StrAt (s ++ [.l []]) 4 (walkD (n2 : Int) w2) (nwD (numR l2) [] (l2.sum + 1)) [] := fun s h =>
        ⟨by rw [List.getElem?_append_left (List.getElem?_eq_some_iff.mp h.o).1]; exact h.o, by rw [List.getElem?_append_left (List.getElem?_eq_some_iff.mp h.l).1]; exact h.l⟩
      have sb3 := sb2 _ sb
      refine ⟨_, sb3.ins, lk_gone, ?_⟩
      refine wpc_of (gone_ok sb3) ?_
      rintro _ _ ⟨rfl, rfl⟩
      (try walk_at "d")
      exact ⟨_, by rfl, rfl⟩
end DL
end
open PySem PySem.W PyProof.Rows
set_option maxRecDepth 100000 in
set_option maxHeartbeats 0 in
theorem PySem.Challenge.cw_nopassing_k15_streets_holds : PySem.Challenge.rw_nopassing_k15_streets.Holds := by
  w_on; o_law; k_head; (case hw => w_witness2)
  k_fill
  refine DL.walk_ofT (l := PySem.Challenge.rw_nopassing_k15_streets) (k := 8) (x := "_law_script") ["_law_taken_back", "_law_deed"] rfl rfl ⟨rfl, by decide, by decide⟩ (fun w h Y => PySem.W.km_in_of Y) DL.law_ok (List.forall_mem_cons.mpr ⟨⟨_, rfl⟩, (List.forall_mem_cons.mpr ⟨⟨_, rfl⟩, (fun _ h => nomatch h)⟩)⟩) ?F
  case F =>
    intro w mg fa h KX G hmg
    refine' DL.law_mk KX G hmg ?tm0 ?nm0 (DL.mkFC KX G ?am0 ?lm0 ?cm0 ?km0) ?tm1 ?nm1 (DL.mkFC KX G ?am1 ?lm1 ?cm1 ?km1) ?um0_1 ⟨DL.mkF KX G ?a0 ?l0 ?c0 ?k0, DL.mkF KX G ?a1 ?l1 ?c1 ?k1, DL.mkF KX G ?a2 ?l2 ?c2 ?k2, DL.mkF KX G ?a3 ?l3 ?c3 ?k3, DL.mkF KX G ?a4 ?l4 ?c4 ?k4, DL.mkF KX G ?a5 ?l5 ?c5 ?k5, DL.mkF KX G ?a6 ?l6 ?c6 ?k6, DL.mkF KX G ?a7 ?l7 ?c7 ?k7, DL.mkF KX G ?a8 ?l8 ?c8 ?k8, DL.mkF KX G ?a9 ?l9 ?c9 ?k9, DL.mkF KX G ?a10 ?l10 ?c10 ?k10, DL.mkMk KX G ?pa11 ?pm11 ?pc11 ?pt11 ?pf11 ?pl11 ?po11 ?pk11, DL.mkMt KX G ?pa12 (DL.mkCl KX G ?qa0 ?qg0 ?qd0 ?qo0 ?qs0) ?pt12 ?pf12 ?pl12 ?po12 ?pk12, DL.mkMt KX G ?pa13 (DL.mkCl KX G ?qa1 ?qg1 ?qd1 ?qo1 ?qs1) ?pt13 ?pf13 ?pl13 ?po13 ?pk13, DL.mkMt KX G ?pa14 (DL.mkCl KX G ?qa2 ?qg2 ?qd2 ?qo2 ?qs2) ?pt14 ?pf14 ?pl14 ?po14 ?pk14, DL.mkMt KX G ?pa15 (DL.mkCl KX G ?qa3 ?qg3 ?qd3 ?qo3 ?qs3) ?pt15 ?pf15 ?pl15 ?po15 ?pk15, DL.mkF KX G ?a16 ?l16 ?c16 ?k16, DL.mkF KX G ?a17 ?l17 ?c17 ?k17, DL.mkF KX G ?a18 ?l18 ?c18 ?k18, DL.mkF KX G ?a19 ?l19 ?c19 ?k19, DL.mkF KX G ?a20 ?l20 ?c20 ?k20, DL.mkF KX G ?a21 ?l21 ?c21 ?k21, DL.mkF KX G ?a22 ?l22 ?c22 ?k22, DL.mkF KX G ?a23 ?l23 ?c23 ?k23, DL.mkF KX G ?a24 ?l24 ?c24 ?k24, DL.mkF KX G ?a25 ?l25 ?c25 ?k25, DL.mkF KX G ?a26 ?l26 ?c26 ?k26, DL.mkF KX G ?a27 ?l27 ?c27 ?k27, DL.mkF KX G ?a28 ?l28 ?c28 ?k28, DL.mkFd KX G ?va0 (DL.mkCl KX G ?qa4 ?qg4 ?qd4 ?qo4 ?qs4) ?vn0, DL.mkFd KX G ?va1 (DL.mkCl KX G ?qa5 ?qg5 ?qd5 ?qo5 ?qs5) ?vn1, DL.mkFd KX G ?va2 (DL.mkCl KX G ?qa6 ?qg6 ?qd6 ?qo6 ?qs6) ?vn2, DL.mkN KX G ?z0, DL.mkN KX G ?z1, DL.mkN KX G ?z2, DL.mkN KX G ?z3, DL.mkN KX G ?z4, DL.mkN KX G ?z5, DL.mkN KX G ?z6, DL.mkN KX G ?z7, DL.mkN KX G ?z8, DL.mkN KX G ?z9, DL.mkN KX G ?z10, DL.mkN KX G ?z11, DL.mkN KX G ?z12, DL.mkN KX G ?z13, DL.mkN KX G ?z14, DL.mkC KX G ?kc0, DL.mkC KX G ?kc1, DL.mkC KX G ?kc2, DL.mkC KX G ?kc3, DL.mkC KX G ?kc4, DL.mkC KX G ?kc5, DL.mkC KX G ?kc6, DL.mkC KX G ?kc7, DL.mkC KX G ?kc8, DL.mkXC KX G ?xa0 ?xe0 ?xk0 ?xb0 ?xt0 ⟨?ec0_0, ?ec0_1, ?ec0_2, ?ec0_3, ?ec0_4, ?ec0_5, ?ec0_6, ?ec0_7⟩, DL.mkXC KX G ?xa1 ?xe1 ?xk1 ?xb1 ?xt1 ⟨?ec1_0, ?ec1_1, ?ec1_2, ?ec1_3, ?ec1_4, ?ec1_5, ?ec1_6, ?ec1_7⟩, ?dgx, DL.xt_cons (DL.mkXR KX G ?ra0 ⟨?ec21_0, ?ec21_1, ?ec21_2, ?ec21_3, ?ec21_4, ?ec21_5, ?ec21_6, ?ec21_7⟩ ?rb0 ?rc0 ?rd0) (DL.xt_cons (DL.mkXR KX G ?ra1 ⟨?ec20_0, ?ec20_1, ?ec20_2, ?ec20_3, ?ec20_4, ?ec20_5, ?ec20_6, ?ec20_7⟩ ?rb1 ?rc1 ?rd1) (DL.xt_cons (DL.mkXR KX G ?ra2 ⟨?ec19_0, ?ec19_1, ?ec19_2, ?ec19_3, ?ec19_4, ?ec19_5, ?ec19_6, ?ec19_7⟩ ?rb2 ?rc2 ?rd2) (DL.xt_cons (DL.mkXR KX G ?ra3 ⟨?ec18_0, ?ec18_1, ?ec18_2, ?ec18_3, ?ec18_4, ?ec18_5, ?ec18_6, ?ec18_7⟩ ?rb3 ?rc3 ?rd3) (DL.xt_cons (DL.mkXR KX G ?ra4 ⟨?ec17_0, ?ec17_1, ?ec17_2, ?ec17_3, ?ec17_4, ?ec17_5, ?ec17_6, ?ec17_7⟩ ?rb4 ?rc4 ?rd4) (DL.xt_cons (DL.mkXR KX G ?ra5 ⟨?ec16_0, ?ec16_1, ?ec16_2, ?ec16_3, ?ec16_4, ?ec16_5, ?ec16_6, ?ec16_7⟩ ?rb5 ?rc5 ?rd5) (DL.xt_cons (DL.mkXR KX G ?ra6 ⟨?ec15_0, ?ec15_1, ?ec15_2, ?ec15_3, ?ec15_4, ?ec15_5, ?ec15_6, ?ec15_7⟩ ?rb6 ?rc6 ?rd6) (DL.xt_cons (DL.mkXR KX G ?ra7 ⟨?ec14_0, ?ec14_1, ?ec14_2, ?ec14_3, ?ec14_4, ?ec14_5, ?ec14_6, ?ec14_7⟩ ?rb7 ?rc7 ?rd7) (DL.xt_cons (DL.mkXV KX G ?ra8 ⟨?ec13_0, ?ec13_1, ?ec13_2, ?ec13_3, ?ec13_4, ?ec13_5, ?ec13_6, ?ec13_7⟩ ?rb8 ?rc8 ?rd8) (DL.xt_cons (DL.mkXR KX G ?ra9 ⟨?ec12_0, ?ec12_1, ?ec12_2, ?ec12_3, ?ec12_4, ?ec12_5, ?ec12_6, ?ec12_7⟩ ?rb9 ?rc9 ?rd9) (DL.xt_cons (DL.mkXR KX G ?ra10 ⟨?ec11_0, ?ec11_1, ?ec11_2, ?ec11_3, ?ec11_4, ?ec11_5, ?ec11_6, ?ec11_7⟩ ?rb10 ?rc10 ?rd10) (DL.xt_cons (DL.mkXR KX G ?ra11 ⟨?ec10_0, ?ec10_1, ?ec10_2, ?ec10_3, ?ec10_4, ?ec10_5, ?ec10_6, ?ec10_7⟩ ?rb11 ?rc11 ?rd11) (DL.xt_cons (DL.mkXR KX G ?ra12 ⟨?ec9_0, ?ec9_1, ?ec9_2, ?ec9_3, ?ec9_4, ?ec9_5, ?ec9_6, ?ec9_7⟩ ?rb12 ?rc12 ?rd12) (DL.xt_cons (DL.mkXR KX G ?ra13 ⟨?ec8_0, ?ec8_1, ?ec8_2, ?ec8_3, ?ec8_4, ?ec8_5, ?ec8_6, ?ec8_7⟩ ?rb13 ?rc13 ?rd13) (DL.xt_cons (DL.mkXR KX G ?ra14 ⟨?ec7_0, ?ec7_1, ?ec7_2, ?ec7_3, ?ec7_4, ?ec7_5, ?ec7_6, ?ec7_7⟩ ?rb14 ?rc14 ?rd14) (DL.xt_cons (DL.mkXR KX G ?ra15 ⟨?ec6_0, ?ec6_1, ?ec6_2, ?ec6_3, ?ec6_4, ?ec6_5, ?ec6_6, ?ec6_7⟩ ?rb15 ?rc15 ?rd15) (DL.xt_cons (DL.mkXR KX G ?ra16 ⟨?ec5_0, ?ec5_1, ?ec5_2, ?ec5_3, ?ec5_4, ?ec5_5, ?ec5_6, ?ec5_7⟩ ?rb16 ?rc16 ?rd16) (DL.xt_cons (DL.mkXR KX G ?ra17 ⟨?ec4_0, ?ec4_1, ?ec4_2, ?ec4_3, ?ec4_4, ?ec4_5, ?ec4_6, ?ec4_7⟩ ?rb17 ?rc17 ?rd17) (DL.xt_cons (DL.mkXV KX G ?ra18 ⟨?ec3_0, ?ec3_1, ?ec3_2, ?ec3_3, ?ec3_4, ?ec3_5, ?ec3_6, ?ec3_7⟩ ?rb18 ?rc18 ?rd18) (DL.xt_cons (DL.mkXR KX G ?ra19 ⟨?ec2_0, ?ec2_1, ?ec2_2, ?ec2_3, ?ec2_4, ?ec2_5, ?ec2_6, ?ec2_7⟩ ?rb19 ?rc19 ?rd19) (DL.xt_nil))))))))))))))))))))⟩ ?aL ?lL ?cL ?kL
    (case tm0 => first | k_is | rfl | decide +kernel); (case am0 => k_is); (case lm0 => k_is); (case cm0 => k_is); (case km0 => k_is); (case nm0 => first | k_is | rfl | decide +kernel); (case tm1 => first | k_is | rfl | decide +kernel); (case am1 => k_is); (case lm1 => k_is); (case cm1 => k_is); (case km1 => k_is); (case nm1 => first | k_is | rfl | decide +kernel); (case um0_1 => first | k_is | decide +kernel); (case a0 => k_is); (case l0 => k_is); (case c0 => k_is); (case k0 => k_is); (case a1 => k_is); (case l1 => k_is); (case c1 => k_is); (case k1 => k_is); (case a2 => k_is); (case l2 => k_is); (case c2 => k_is); (case k2 => k_is); (case a3 => k_is); (case l3 => k_is); (case c3 => k_is); (case k3 => k_is); (case a4 => k_is); (case l4 => k_is); (case c4 => k_is); (case k4 => k_is); (case a5 => k_is); (case l5 => k_is); (case c5 => k_is); (case k5 => k_is); (case a6 => k_is); (case l6 => k_is); (case c6 => k_is); (case k6 => k_is); (case a7 => k_is); (case l7 => k_is); (case c7 => k_is); (case k7 => k_is); (case a8 => k_is); (case l8 => k_is); (case c8 => k_is); (case k8 => k_is); (case a9 => k_is); (case l9 => k_is); (case c9 => k_is); (case k9 => k_is); (case a10 => k_is); (case l10 => k_is); (case c10 => k_is); (case k10 => k_is); (case pa11 => k_is); (case pm11 => k_is); (case pc11 => k_is); (case pt11 => k_is); (case pf11 => k_is); (case pl11 => k_is); (case po11 => k_is); (case pk11 => k_is); (case qa0 => k_is); (case qg0 => k_is); (case qd0 => k_is); (case qo0 => k_is); (case qs0 => k_is); (case pa12 => k_is); (case pt12 => k_is); (case pf12 => k_is); (case pl12 => k_is); (case po12 => k_is); (case pk12 => k_is); (case qa1 => k_is); (case qg1 => k_is); (case qd1 => k_is); (case qo1 => k_is); (case qs1 => k_is); (case pa13 => k_is); (case pt13 => k_is); (case pf13 => k_is); (case pl13 => k_is); (case po13 => k_is); (case pk13 => k_is); (case qa2 => k_is); (case qg2 => k_is); (case qd2 => k_is); (case qo2 => k_is); (case qs2 => k_is); (case pa14 => k_is); (case pt14 => k_is); (case pf14 => k_is); (case pl14 => k_is); (case po14 => k_is); (case pk14 => k_is); (case qa3 => k_is); (case qg3 => k_is); (case qd3 => k_is); (case qo3 => k_is); (case qs3 => k_is); (case pa15 => k_is); (case pt15 => k_is); (case pf15 => k_is); (case pl15 => k_is); (case po15 => k_is); (case pk15 => k_is); (case a16 => k_is); (case l16 => k_is); (case c16 => k_is); (case k16 => k_is); (case a17 => k_is); (case l17 => k_is); (case c17 => k_is); (case k17 => k_is); (case a18 => k_is); (case l18 => k_is); (case c18 => k_is); (case k18 => k_is); (case a19 => k_is); (case l19 => k_is); (case c19 => k_is); (case k19 => k_is); (case a20 => k_is); (case l20 => k_is); (case c20 => k_is); (case k20 => k_is); (case a21 => k_is); (case l21 => k_is); (case c21 => k_is); (case k21 => k_is); (case a22 => k_is); (case l22 => k_is); (case c22 => k_is); (case k22 => k_is); (case a23 => k_is); (case l23 => k_is); (case c23 => k_is); (case k23 => k_is); (case a24 => k_is); (case l24 => k_is); (case c24 => k_is); (case k24 => k_is); (case a25 => k_is); (case l25 => k_is); (case c25 => k_is); (case k25 => k_is); (case a26 => k_is); (case l26 => k_is); (case c26 => k_is); (case k26 => k_is); (case a27 => k_is); (case l27 => k_is); (case c27 => k_is); (case k27 => k_is); (case a28 => k_is); (case l28 => k_is); (case c28 => k_is); (case k28 => k_is); (case qa4 => k_is); (case qg4 => k_is); (case qd4 => k_is); (case qo4 => k_is); (case qs4 => k_is); (case va0 => k_is); (case vn0 => k_is); (case qa5 => k_is); (case qg5 => k_is); (case qd5 => k_is); (case qo5 => k_is); (case qs5 => k_is); (case va1 => k_is); (case vn1 => k_is); (case qa6 => k_is); (case qg6 => k_is); (case qd6 => k_is); (case qo6 => k_is); (case qs6 => k_is); (case va2 => k_is); (case vn2 => k_is); (case z0 => k_is); (case z1 => k_is); (case z2 => k_is); (case z3 => k_is); (case z4 => k_is); (case z5 => k_is); (case z6 => k_is); (case z7 => k_is); (case z8 => k_is); (case z9 => k_is); (case z10 => k_is); (case z11 => k_is); (case z12 => k_is); (case z13 => k_is); (case z14 => k_is); (case kc0 => k_is); (case kc1 => k_is); (case kc2 => k_is); (case kc3 => k_is); (case kc4 => k_is); (case kc5 => k_is); (case kc6 => k_is); (case kc7 => k_is); (case kc8 => k_is); (case xa0 => k_is); (case xe0 => k_exc); (case xk0 => k_is); (case xb0 => k_is); (case xt0 => k_is); (case ec0_0 => first | k_is | rfl | decide +kernel); (case ec0_1 => first | k_is | rfl | decide +kernel); (case ec0_2 => first | k_is | rfl | decide +kernel); (case ec0_3 => first | k_is | rfl | decide +kernel); (case ec0_4 => first | k_is | rfl | decide +kernel); (case ec0_5 => first | k_is | rfl | decide +kernel); (case ec0_6 => first | k_is | rfl | decide +kernel); (case ec0_7 => first | k_is | rfl | decide +kernel); (case xa1 => k_is); (case xe1 => k_exc); (case xk1 => k_is); (case xb1 => k_is); (case xt1 => k_is); (case ec1_0 => first | k_is | rfl | decide +kernel); (case ec1_1 => first | k_is | rfl | decide +kernel); (case ec1_2 => first | k_is | rfl | decide +kernel); (case ec1_3 => first | k_is | rfl | decide +kernel); (case ec1_4 => first | k_is | rfl | decide +kernel); (case ec1_5 => first | k_is | rfl | decide +kernel); (case ec1_6 => first | k_is | rfl | decide +kernel); (case ec1_7 => first | k_is | rfl | decide +kernel); (case dgx => k_is); (case ra0 => k_is); (case ec21_0 => first | k_is | rfl | decide +kernel); (case ec21_1 => first | k_is | rfl | decide +kernel); (case ec21_2 => first | k_is | rfl | decide +kernel); (case ec21_3 => first | k_is | rfl | decide +kernel); (case ec21_4 => first | k_is | rfl | decide +kernel); (case ec21_5 => first | k_is | rfl | decide +kernel); (case ec21_6 => first | k_is | rfl | decide +kernel); (case ec21_7 => first | k_is | rfl | decide +kernel); (case rb0 => k_is); (case rc0 => first | k_is | rfl | decide +kernel); (case rd0 => first | k_is | rfl | decide +kernel); (case ra1 => k_is); (case ec20_0 => first | k_is | rfl | decide +kernel); (case ec20_1 => first | k_is | rfl | decide +kernel); (case ec20_2 => first | k_is | rfl | decide +kernel); (case ec20_3 => first | k_is | rfl | decide +kernel); (case ec20_4 => first | k_is | rfl | decide +kernel); (case ec20_5 => first | k_is | rfl | decide +kernel); (case ec20_6 => first | k_is | rfl | decide +kernel); (case ec20_7 => first | k_is | rfl | decide +kernel); (case rb1 => k_is); (case rc1 => first | k_is | rfl | decide +kernel); (case rd1 => first | k_is | rfl | decide +kernel); (case ra2 => k_is); (case ec19_0 => first | k_is | rfl | decide +kernel); (case ec19_1 => first | k_is | rfl | decide +kernel); (case ec19_2 => first | k_is | rfl | decide +kernel); (case ec19_3 => first | k_is | rfl | decide +kernel); (case ec19_4 => first | k_is | rfl | decide +kernel); (case ec19_5 => first | k_is | rfl | decide +kernel); (case ec19_6 => first | k_is | rfl | decide +kernel); (case ec19_7 => first | k_is | rfl | decide +kernel); (case rb2 => k_is); (case rc2 => first | k_is | rfl | decide +kernel); (case rd2 => first | k_is | rfl | decide +kernel); (case ra3 => k_is); (case ec18_0 => first | k_is | rfl | decide +kernel); (case ec18_1 => first | k_is | rfl | decide +kernel); (case ec18_2 => first | k_is | rfl | decide +kernel); (case ec18_3 => first | k_is | rfl | decide +kernel); (case ec18_4 => first | k_is | rfl | decide +kernel); (case ec18_5 => first | k_is | rfl | decide +kernel); (case ec18_6 => first | k_is | rfl | decide +kernel); (case ec18_7 => first | k_is | rfl | decide +kernel); (case rb3 => k_is); (case rc3 => first | k_is | rfl | decide +kernel); (case rd3 => first | k_is | rfl | decide +kernel); (case ra4 => k_is); (case ec17_0 => first | k_is | rfl | decide +kernel); (case ec17_1 => first | k_is | rfl | decide +kernel); (case ec17_2 => first | k_is | rfl | decide +kernel); (case ec17_3 => first | k_is | rfl | decide +kernel); (case ec17_4 => first | k_is | rfl | decide +kernel); (case ec17_5 => first | k_is | rfl | decide +kernel); (case ec17_6 => first | k_is | rfl | decide +kernel); (case ec17_7 => first | k_is | rfl | decide +kernel); (case rb4 => k_is); (case rc4 => first | k_is | rfl | decide +kernel); (case rd4 => first | k_is | rfl | decide +kernel); (case ra5 => k_is); (case ec16_0 => first | k_is | rfl | decide +kernel); (case ec16_1 => first | k_is | rfl | decide +kernel); (case ec16_2 => first | k_is | rfl | decide +kernel); (case ec16_3 => first | k_is | rfl | decide +kernel); (case ec16_4 => first | k_is | rfl | decide +kernel); (case ec16_5 => first | k_is | rfl | decide +kernel); (case ec16_6 => first | k_is | rfl | decide +kernel); (case ec16_7 => first | k_is | rfl | decide +kernel); (case rb5 => k_is); (case rc5 => first | k_is | rfl | decide +kernel); (case rd5 => first | k_is | rfl | decide +kernel); (case ra6 => k_is); (case ec15_0 => first | k_is | rfl | decide +kernel); (case ec15_1 => first | k_is | rfl | decide +kernel); (case ec15_2 => first | k_is | rfl | decide +kernel); (case ec15_3 => first | k_is | rfl | decide +kernel); (case ec15_4 => first | k_is | rfl | decide +kernel); (case ec15_5 => first | k_is | rfl | decide +kernel); (case ec15_6 => first | k_is | rfl | decide +kernel); (case ec15_7 => first | k_is | rfl | decide +kernel); (case rb6 => k_is); (case rc6 => first | k_is | rfl | decide +kernel); (case rd6 => first | k_is | rfl | decide +kernel); (case ra7 => k_is); (case ec14_0 => first | k_is | rfl | decide +kernel); (case ec14_1 => first | k_is | rfl | decide +kernel); (case ec14_2 => first | k_is | rfl | decide +kernel); (case ec14_3 => first | k_is | rfl | decide +kernel); (case ec14_4 => first | k_is | rfl | decide +kernel); (case ec14_5 => first | k_is | rfl | decide +kernel); (case ec14_6 => first | k_is | rfl | decide +kernel); (case ec14_7 => first | k_is | rfl | decide +kernel); (case rb7 => k_is); (case rc7 => first | k_is | rfl | decide +kernel); (case rd7 => first | k_is | rfl | decide +kernel); (case ra8 => k_is); (case ec13_0 => first | k_is | rfl | decide +kernel); (case ec13_1 => first | k_is | rfl | decide +kernel); (case ec13_2 => first | k_is | rfl | decide +kernel); (case ec13_3 => first | k_is | rfl | decide +kernel); (case ec13_4 => first | k_is | rfl | decide +kernel); (case ec13_5 => first | k_is | rfl | decide +kernel); (case ec13_6 => first | k_is | rfl | decide +kernel); (case ec13_7 => first | k_is | rfl | decide +kernel); (case rb8 => k_is); (case rc8 => first | k_is | rfl | decide +kernel); (case rd8 => first | k_is | rfl | decide +kernel); (case ra9 => k_is); (case ec12_0 => first | k_is | rfl | decide +kernel); (case ec12_1 => first | k_is | rfl | decide +kernel); (case ec12_2 => first | k_is | rfl | decide +kernel); (case ec12_3 => first | k_is | rfl | decide +kernel); (case ec12_4 => first | k_is | rfl | decide +kernel); (case ec12_5 => first | k_is | rfl | decide +kernel); (case ec12_6 => first | k_is | rfl | decide +kernel); (case ec12_7 => first | k_is | rfl | decide +kernel); (case rb9 => k_is); (case rc9 => first | k_is | rfl | decide +kernel); (case rd9 => first | k_is | rfl | decide +kernel); (case ra10 => k_is); (case ec11_0 => first | k_is | rfl | decide +kernel); (case ec11_1 => first | k_is | rfl | decide +kernel); (case ec11_2 => first | k_is | rfl | decide +kernel); (case ec11_3 => first | k_is | rfl | decide +kernel); (case ec11_4 => first | k_is | rfl | decide +kernel); (case ec11_5 => first | k_is | rfl | decide +kernel); (case ec11_6 => first | k_is | rfl | decide +kernel); (case ec11_7 => first | k_is | rfl | decide +kernel); (case rb10 => k_is); (case rc10 => first | k_is | rfl | decide +kernel); (case rd10 => first | k_is | rfl | decide +kernel); (case ra11 => k_is); (case ec10_0 => first | k_is | rfl | decide +kernel); (case ec10_1 => first | k_is | rfl | decide +kernel); (case ec10_2 => first | k_is | rfl | decide +kernel); (case ec10_3 => first | k_is | rfl | decide +kernel); (case ec10_4 => first | k_is | rfl | decide +kernel); (case ec10_5 => first | k_is | rfl | decide +kernel); (case ec10_6 => first | k_is | rfl | decide +kernel); (case ec10_7 => first | k_is | rfl | decide +kernel); (case rb11 => k_is); (case rc11 => first | k_is | rfl | decide +kernel); (case rd11 => first | k_is | rfl | decide +kernel); (case ra12 => k_is); (case ec9_0 => first | k_is | rfl | decide +kernel); (case ec9_1 => first | k_is | rfl | decide +kernel); (case ec9_2 => first | k_is | rfl | decide +kernel); (case ec9_3 => first | k_is | rfl | decide +kernel); (case ec9_4 => first | k_is | rfl | decide +kernel); (case ec9_5 => first | k_is | rfl | decide +kernel); (case ec9_6 => first | k_is | rfl | decide +kernel); (case ec9_7 => first | k_is | rfl | decide +kernel); (case rb12 => k_is); (case rc12 => first | k_is | rfl | decide +kernel); (case rd12 => first | k_is | rfl | decide +kernel); (case ra13 => k_is); (case ec8_0 => first | k_is | rfl | decide +kernel); (case ec8_1 => first | k_is | rfl | decide +kernel); (case ec8_2 => first | k_is | rfl | decide +kernel); (case ec8_3 => first | k_is | rfl | decide +kernel); (case ec8_4 => first | k_is | rfl | decide +kernel); (case ec8_5 => first | k_is | rfl | decide +kernel); (case ec8_6 => first | k_is | rfl | decide +kernel); (case ec8_7 => first | k_is | rfl | decide +kernel); (case rb13 => k_is); (case rc13 => first | k_is | rfl | decide +kernel); (case rd13 => first | k_is | rfl | decide +kernel); (case ra14 => k_is); (case ec7_0 => first | k_is | rfl | decide +kernel); (case ec7_1 => first | k_is | rfl | decide +kernel); (case ec7_2 => first | k_is | rfl | decide +kernel); (case ec7_3 => first | k_is | rfl | decide +kernel); (case ec7_4 => first | k_is | rfl | decide +kernel); (case ec7_5 => first | k_is | rfl | decide +kernel); (case ec7_6 => first | k_is | rfl | decide +kernel); (case ec7_7 => first | k_is | rfl | decide +kernel); (case rb14 => k_is); (case rc14 => first | k_is | rfl | decide +kernel); (case rd14 => first | k_is | rfl | decide +kernel); (case ra15 => k_is); (case ec6_0 => first | k_is | rfl | decide +kernel); (case ec6_1 => first | k_is | rfl | decide +kernel); (case ec6_2 => first | k_is | rfl | decide +kernel); (case ec6_3 => first | k_is | rfl | decide +kernel); (case ec6_4 => first | k_is | rfl | decide +kernel); (case ec6_5 => first | k_is | rfl | decide +kernel); (case ec6_6 => first | k_is | rfl | decide +kernel); (case ec6_7 => first | k_is | rfl | decide +kernel); (case rb15 => k_is); (case rc15 => first | k_is | rfl | decide +kernel); (case rd15 => first | k_is | rfl | decide +kernel); (case ra16 => k_is); (case ec5_0 => first | k_is | rfl | decide +kernel); (case ec5_1 => first | k_is | rfl | decide +kernel); (case ec5_2 => first | k_is | rfl | decide +kernel); (case ec5_3 => first | k_is | rfl | decide +kernel); (case ec5_4 => first | k_is | rfl | decide +kernel); (case ec5_5 => first | k_is | rfl | decide +kernel); (case ec5_6 => first | k_is | rfl | decide +kernel); (case ec5_7 => first | k_is | rfl | decide +kernel); (case rb16 => k_is); (case rc16 => first | k_is | rfl | decide +kernel); (case rd16 => first | k_is | rfl | decide +kernel); (case ra17 => k_is); (case ec4_0 => first | k_is | rfl | decide +kernel); (case ec4_1 => first | k_is | rfl | decide +kernel); (case ec4_2 => first | k_is | rfl | decide +kernel); (case ec4_3 => first | k_is | rfl | decide +kernel); (case ec4_4 => first | k_is | rfl | decide +kernel); (case ec4_5 => first | k_is | rfl | decide +kernel); (case ec4_6 => first | k_is | rfl | decide +kernel); (case ec4_7 => first | k_is | rfl | decide +kernel); (case rb17 => k_is); (case rc17 => first | k_is | rfl | decide +kernel); (case rd17 => first | k_is | rfl | decide +kernel); (case ra18 => k_is); (case ec3_0 => first | k_is | rfl | decide +kernel); (case ec3_1 => first | k_is | rfl | decide +kernel); (case ec3_2 => first | k_is | rfl | decide +kernel); (case ec3_3 => first | k_is | rfl | decide +kernel); (case ec3_4 => first | k_is | rfl | decide +kernel); (case ec3_5 => first | k_is | rfl | decide +kernel); (case ec3_6 => first | k_is | rfl | decide +kernel); (case ec3_7 => first | k_is | rfl | decide +kernel); (case rb18 => k_is); (case rc18 => first | k_is | rfl | decide +kernel); (case rd18 => first | k_is | rfl | decide +kernel); (case ra19 => k_is); (case ec2_0 => first | k_is | rfl | decide +kernel); (case ec2_1 => first | k_is | rfl | decide +kernel); (case ec2_2 => first | k_is | rfl | decide +kernel); (case ec2_3 => first | k_is | rfl | decide +kernel); (case ec2_4 => first | k_is | rfl | decide +kernel); (case ec2_5 => first | k_is | rfl | decide +kernel); (case ec2_6 => first | k_is | rfl | decide +kernel); (case ec2_7 => first | k_is | rfl | decide +kernel); (case rb19 => k_is); (case rc19 => first | k_is | rfl | decide +kernel); (case rd19 => first | k_is | rfl | decide +kernel); (case aL => k_is); (case lL => k_is); (case cL => k_is); (case kL => k_is)
