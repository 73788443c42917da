import PyProof.Rows.All
import HandS.ForMost
import HandS.ForExc
import HandS.Flow
import HandS.IsInst
import HandS.Wide
import HandS.Deep
import HandS.WideBits
import HandS.TupAny
import HandS.TupMul
import HandS.Style
import PyProof.ReprRoads
import HandS.Exc
import HandS.ExcOwn
import HandS.ExcIs
import KE.KIsAll
import HandS.Lambda
import HandS.Walk
import HandS.Zip
import HandS.Rev
import HandS.RevRange
import HandS.TupLen
import HandS.RaiseMore
import HandS.Text
import HandS.Dict
import HandS.More
import HandS.ExcValue
import KE.GoesMore
import KE.GoesEnum
import KE.SortData
import KE.DataCmp
import PyProof.TupleOfSeq
import KE.KDictDisplayH
import HandS.Small
import KE.GoesZip
import HandS.FStr
import HandS.EndTab
import HandS.SetFor
import PyProof.P3Eq
import KE.KDictPairs
import KE.KDictWalk
import HandS.Conv
import KE.KDictSum
import KE.KDictZip
import KE.Datum
import HandS.TupSets
import PyProof.MaxThree
import HandS.SetKeys
import PyProof.DictMoreH
import HandS.StrMore
import PyProof.StrOps2
import PyProof.StrHeap
import PyProof.Rows.Range3
import KE.KTupSum
import HandS.TryMany
import HandS.TryOnly
import PyProof.DictUpdate
import KE.KDictList
import KE.KDictCopyH
import KE.KDictOf
import PyProof.ReprLen
import PySem.Challenge.RW_nopassing_k77_trees_written_and_read
set_option Elab.async false
set_option linter.all false
set_option maxRecDepth 100000
set_option maxHeartbeats 40000000
namespace DL
open PySem PySem.Spec PyProof.Rows L2
/-- data as trees -/
inductive D where
  | non | bl (b : Bool) | int (i : Int) | str (x : Str)
  | tup (xs : List D) | lst (xs : List D) | frz (xs : List D) | dct (kvs : List (D × D))
  | tok (n : Nat) | ty (n : String) | glb (x : Str) | ktp (xs : List D)
  | exc (c : Str)
  /-- a dict that nobody changes any more: keyed by tuples or not -/
  | fd (t : Bool) (kvs : List (D × D))
/-- a caught exception, kept -/
def KeptX (C : Value) (a : Addr) : HO := .ext fun h => ∃ (ob : Obj) (us : Array Value), h.get? a = some ob ∧ Zc C none ob ∧ ob.data = .fields us
/-- what a special object holds: a list, an instance of the class c -/
inductive Cell where
  | l (ds : List D)
  | o (c : Str) (fs : List (Str × D))
  | d (fs : List (Key × D))
  | t (fs : List (List Key × D))
  /-- a tuple of whole numbers whose object is known -/
  | b (ns : List Int)
abbrev S := List Cell
inductive Res (α : Type) where
  | ok (a : α) (s : S)
  | exc (c : Str) (s : S)
  | bad
/-- a name's slot: nothing, data, a list or dict of its own -/
inductive Sl where
  | emp | dat (d : D) | own (ds : List D) | ownD (t : Bool) (kvs : List (D × D))
  /-- something that may be called with n things -/
  | fn (n : Nat) (tl : List D → S → Res D)
def Sl.isOwn : Sl → Bool
  | .own _ => true
  | .ownD _ _ => true
  | _ => false
def kD : Key → D
  | .inl i => .int i
  | .inr x => .str x
def kT (k : List Key) : D := .tup (k.map kD)
mutual
/-- data that hang on no list or dict -/
def flat : D → Bool
  | .non => true
  | .bl _ => true
  | .int _ => true
  | .str _ => true
  | .tup xs => flats xs
  | .lst _ => false
  | .frz _ => false
  | .dct _ => false
  | .tok _ => true
  | .ty _ => true
  | .glb _ => true
  | .ktp xs => flats xs
  | .exc _ => false
  | .fd _ _ => false
def flats : List D → Bool
  | [] => true
  | x :: xs => flat x && flats xs
end
def flatC : Cell → Bool
  | .l ds => flats ds
  | .o _ fs => flats (fs.map (·.2))
  | .d fs => flats (fs.map (·.2))
  | .t fs => flats (fs.map (·.2))
  | .b _ => true
mutual
inductive Rep (K : PySem.W.Frag) (mg : Str → Option Value) (G : Hp) (τ : List Addr) : V → D → Prop
  | non : Rep K mg G τ .non .non
  | bl (b : Bool) : Rep K mg G τ (.bl b) (.bl b)
  | int (i : Int) : Rep K mg G τ (.int i) (.int i)
  | str (x : Str) : Rep K mg G τ (.str x) (.str x)
  | tup {a : Addr} {xs : List V} {ds : List D} : G a = some (.tup xs) → RepAll K mg G τ xs ds → Rep K mg G τ (.ref a) (.tup ds)
  | lst {a : Addr} {xs : List V} {ds : List D} : G a = some (.lst xs) → RepAll K mg G τ xs ds → Rep K mg G τ (.ref a) (.lst ds)
  | frz {a : Addr} {xs : List V} {ds : List D} : SqL K G a xs → RepAll K mg G τ xs ds → Rep K mg G τ (.ref a) (.frz ds)
  | dK {a : Addr} {kvs : List (Key × V)} {vs : List D} : G a = some (.dK kvs) → RepAll K mg G τ (kvs.map (·.2)) vs → Rep K mg G τ (.ref a) (.dct ((kvs.map fun p => kD p.1).zip vs))
  | dT {a : Addr} {kvs : List (List Key × V)} {vs : List D} : G a = some (.dT kvs) → RepAll K mg G τ (kvs.map (·.2)) vs → Rep K mg G τ (.ref a) (.dct ((kvs.map fun p => kT p.1).zip vs))
  | tok {n : Nat} {a : Addr} : τ[n]? = some a → Rep K mg G τ (.ref a) (.tok n)
  | ty (n : String) : Rep K mg G τ (.ty n) (.ty n)
  | glb {x : Str} {u : Value} {v : V} : mg x = some u → RelV v u → Rep K mg G τ v (.glb x)
  | ktp {a : Addr} {xs : List V} {ds : List D} : SqT K G a xs → RepAll K mg G τ xs ds → Rep K mg G τ (.ref a) (.ktp ds)
  | fdK {a : Addr} {o : Obj} {kvs : List (Key × V)} {vs : List D} : G a = some (.frz o (.dK kvs)) → RepAll K mg G τ (kvs.map (·.2)) vs → Rep K mg G τ (.ref a) (.fd false ((kvs.map fun p => kD p.1).zip vs))
  | fdT {a : Addr} {o : Obj} {kvs : List (List Key × V)} {vs : List D} : G a = some (.frz o (.dT kvs)) → RepAll K mg G τ (kvs.map (·.2)) vs → Rep K mg G τ (.ref a) (.fd true ((kvs.map fun p => kT p.1).zip vs))
  | exc {c : Str} {C a : Addr} : mg c = some (.ref C) → G a = some (KeptX (.ref C) a) → Rep K mg G τ (.ref a) (.exc c)
inductive RepAll (K : PySem.W.Frag) (mg : Str → Option Value) (G : Hp) (τ : List Addr) : List V → List D → Prop
  | nil : RepAll K mg G τ [] []
  | cons {v : V} {vs : List V} {d : D} {ds : List D} : Rep K mg G τ v d → RepAll K mg G τ vs ds → RepAll K mg G τ (v :: vs) (d :: ds)
end
section
variable {K : PySem.W.Frag} {mg : Str → Option Value} {G G' : Hp} {τ τ' : List Addr}
theorem seqT {H H' : Hp} {a : Addr} {xs : List V} (e : Same H H') (h : SqT K H a xs) : SqT K H' a xs := by
  rcases h with (h | ⟨o, h⟩) | h
  · exact .inl (.inl (e _ _ h))
  · exact .inl (.inr ⟨o, e _ _ h⟩)
  · exact .inr h
mutual
theorem Rep.mono (hg : Same G G') (ht : τ <+: τ') : ∀ {v : V} {d : D}, Rep K mg G τ v d → Rep K mg G' τ' v d
  | _, _, .non => .non
  | _, _, .bl b => .bl b
  | _, _, .int i => .int i
  | _, _, .str x => .str x
  | _, _, .tup h r => .tup (hg _ _ h) (RepAll.mono hg ht r)
  | _, _, .lst h r => .lst (hg _ _ h) (RepAll.mono hg ht r)
  | _, _, .frz h r => .frz (hg.seq h) (RepAll.mono hg ht r)
  | _, _, .dK h r => .dK (hg _ _ h) (RepAll.mono hg ht r)
  | _, _, .dT h r => .dT (hg _ _ h) (RepAll.mono hg ht r)
  | _, _, .tok h => .tok (by obtain ⟨m, rfl⟩ := ht; rw [List.getElem?_append_left (List.getElem?_eq_some_iff.mp h).1]; exact h)
  | _, _, .ty n => .ty n
  | _, _, .glb h r => .glb h r
  | _, _, .ktp h r => .ktp (seqT hg h) (RepAll.mono hg ht r)
  | _, _, .fdK h r => .fdK (hg _ _ h) (RepAll.mono hg ht r)
  | _, _, .fdT h r => .fdT (hg _ _ h) (RepAll.mono hg ht r)
  | _, _, .exc h r => .exc h (hg _ _ r)
theorem RepAll.mono (hg : Same G G') (ht : τ <+: τ') : ∀ {vs : List V} {ds : List D}, RepAll K mg G τ vs ds → RepAll K mg G' τ' vs ds
  | _, _, .nil => .nil
  | _, _, .cons h r => .cons (Rep.mono hg ht h) (RepAll.mono hg ht r)
end
/-- the frozen part without an object -/
def less (G : Hp) (a : Addr) : Hp := fun b => if b = a then none else G b
theorem less_ne {G : Hp} {a b : Addr} (h : b ≠ a) : less G a b = G b := by unfold less; rw [if_neg h]
theorem less_same {G : Hp} {a : Addr} : less G a a = none := by unfold less; rw [if_pos rfl]
theorem less_tup {a b : Addr} {xs : List V} (n : ∀ o, G a = some o → (∀ ys, o ≠ .tup ys) ∧ ∀ u ys, o ≠ .frz u (.tup ys)) (h : SqT K G b xs) : SqT K (less G a) b xs := by
  rcases h with (h | ⟨o, h⟩) | h
  · exact .inl (.inl ((less_ne fun e : b = a => (n _ (e ▸ h)).1 xs rfl).trans h))
  · exact .inl (.inr ⟨o, (less_ne fun e : b = a => (n _ (e ▸ h)).2 o xs rfl).trans h⟩)
  · exact .inr h
mutual
theorem Rep.less {a : Addr} (n : ∀ o, G a = some o → (∀ ys, o ≠ .tup ys) ∧ ∀ u ys, o ≠ .frz u (.tup ys)) : ∀ {v : V} {d : D}, Rep K mg G τ v d → flat d = true → Rep K mg (less G a) τ v d
  | _, _, .non, _ => .non
  | _, _, .bl b, _ => .bl b
  | _, _, .int i, _ => .int i
  | _, _, .str x, _ => .str x
  | _, _, .tup h r, f => .tup ((less_ne fun e => (n _ (e ▸ h)).1 _ rfl).trans h) (RepAll.less n r (by simpa [flat] using f))
  | _, _, .lst _ _, f => by simp [flat] at f
  | _, _, .frz _ _, f => by simp [flat] at f
  | _, _, .dK _ _, f => by simp [flat] at f
  | _, _, .dT _ _, f => by simp [flat] at f
  | _, _, .tok h, _ => .tok h
  | _, _, .ty n, _ => .ty n
  | _, _, .glb h r, _ => .glb h r
  | _, _, .ktp h r, f => .ktp (less_tup n h) (RepAll.less n r (by simpa [flat] using f))
  | _, _, .fdK _ _, f => by simp [flat] at f
  | _, _, .fdT _ _, f => by simp [flat] at f
  | _, _, .exc _ _, f => by simp [flat] at f
theorem RepAll.less {a : Addr} (n : ∀ o, G a = some o → (∀ ys, o ≠ .tup ys) ∧ ∀ u ys, o ≠ .frz u (.tup ys)) : ∀ {vs : List V} {ds : List D}, RepAll K mg G τ vs ds → flats ds = true → RepAll K mg (less G a) τ vs ds
  | _, _, .nil, _ => .nil
  | _, _, .cons h r, f => .cons (Rep.less n h (by simp [flats] at f; exact f.1)) (RepAll.less n r (by simp [flats] at f; exact f.2))
end
theorem RepAll.length : ∀ {vs : List V} {ds : List D}, RepAll K mg G τ vs ds → vs.length = ds.length
  | _, _, .nil => rfl
  | _, _, .cons _ r => congrArg (· + 1) (RepAll.length r)
theorem RepAll.get : ∀ {vs : List V} {ds : List D} {i : Nat} {v : V}, RepAll K mg G τ vs ds → vs[i]? = some v → ∃ d, ds[i]? = some d ∧ Rep K mg G τ v d
  | _, _, _, _, .nil, h => by simp at h
  | _, _, 0, _, .cons r _, h => by simp at h; subst h; exact ⟨_, rfl, r⟩
  | _, _, i + 1, _, .cons _ r, h => by simpa using RepAll.get (i := i) r (by simpa using h)
theorem RepAll.getD : ∀ {vs : List V} {ds : List D} {i : Nat} {d : D}, RepAll K mg G τ vs ds → ds[i]? = some d → ∃ v, vs[i]? = some v ∧ Rep K mg G τ v d
  | _, _, _, _, .nil, h => by simp at h
  | _, _, 0, _, .cons r _, h => by simp at h; subst h; exact ⟨_, rfl, r⟩
  | _, _, i + 1, _, .cons _ r, h => by simpa using RepAll.getD (i := i) r (by simpa using h)
theorem RepAll.append : ∀ {vs us : List V} {ds es : List D}, RepAll K mg G τ vs ds → RepAll K mg G τ us es → RepAll K mg G τ (vs ++ us) (ds ++ es)
  | _, _, _, _, .nil, h => h
  | _, _, _, _, .cons r t, h => .cons r (t.append h)
theorem RepAll.snoc {vs : List V} {v : V} {ds : List D} {d : D} (h : RepAll K mg G τ vs ds) (r : Rep K mg G τ v d) : RepAll K mg G τ (vs ++ [v]) (ds ++ [d]) := h.append (.cons r .nil)
theorem RepAll.take : ∀ {vs : List V} {ds : List D} (n : Nat), RepAll K mg G τ vs ds → RepAll K mg G τ (vs.take n) (ds.take n)
  | _, _, 0, _ => .nil
  | _, _, _ + 1, .nil => .nil
  | _, _, n + 1, .cons r t => .cons r (t.take n)
theorem RepAll.drop : ∀ {vs : List V} {ds : List D} (n : Nat), RepAll K mg G τ vs ds → RepAll K mg G τ (vs.drop n) (ds.drop n)
  | _, _, 0, h => h
  | _, _, _ + 1, .nil => .nil
  | _, _, n + 1, .cons _ t => t.drop n
theorem RepAll.set {v : V} {d : D} (r : Rep K mg G τ v d) : ∀ {vs : List V} {ds : List D} (n : Nat), RepAll K mg G τ vs ds → RepAll K mg G τ (vs.set n v) (ds.set n d)
  | _, _, _, .nil => .nil
  | _, _, 0, .cons _ t => .cons r t
  | _, _, n + 1, .cons q t => .cons q (t.set r n)
theorem RepAll.reverse {vs : List V} {ds : List D} (h : RepAll K mg G τ vs ds) : RepAll K mg G τ vs.reverse ds.reverse := by
  induction vs generalizing ds with
  | nil => cases h; exact .nil
  | cons v vs ih =>
    cases h with
    | cons r t =>
      rw [List.reverse_cons, List.reverse_cons]
      exact (ih t).snoc r
theorem RepAll.rep {vs : List V} {ds : List D} (h : RepAll K mg G τ vs ds) : ∀ n : Nat, RepAll K mg G τ (List.replicate n vs).flatten (List.replicate n ds).flatten
  | 0 => .nil
  | n + 1 => by
    rw [List.replicate_succ, List.replicate_succ, List.flatten_cons, List.flatten_cons]
    exact h.append (h.rep n)
theorem RepAll.eraseIdx : ∀ {vs : List V} {ds : List D} (n : Nat), RepAll K mg G τ vs ds → RepAll K mg G τ (vs.eraseIdx n) (ds.eraseIdx n)
  | _, _, _, .nil => .nil
  | _, _, 0, .cons _ t => t
  | _, _, n + 1, .cons q t => .cons q (t.eraseIdx n)
theorem RepAll.split {us : List D} : ∀ {vs : List V} {ds : List D}, RepAll K mg G τ vs (ds ++ us) → ∃ a b, vs = a ++ b ∧ RepAll K mg G τ a ds ∧ RepAll K mg G τ b us
  | vs, [], h => ⟨[], vs, rfl, .nil, h⟩
  | _, d :: ds, .cons r t => by
    obtain ⟨a, b, rfl, h1, h2⟩ := RepAll.split (ds := ds) t
    exact ⟨_ :: a, b, rfl, .cons r h1, h2⟩
end
/-- the abstract heap, its frozen part, the special objects -/
structure Hw where
  H : Hp
  G : Hp
  τ : List Addr
def CellOk (K : PySem.W.Frag) (mg : Str → Option Value) (W : Hw) (a : Addr) : Cell → Prop
  | .l ds => ∃ vs, W.H a = some (.lst vs) ∧ RepAll K mg W.G W.τ vs ds
  | .o c fs => ∃ C dx vs, mg c = some (.ref C) ∧ W.H a = some (.ins C dx ((fs.map (·.1)).zip vs)) ∧ RepAll K mg W.G W.τ vs (fs.map (·.2))
  | .d fs => ∃ vs, W.H a = some (.dK ((fs.map (·.1)).zip vs)) ∧ RepAll K mg W.G W.τ vs (fs.map (·.2))
  | .t fs => ∃ vs, W.H a = some (.dT ((fs.map (·.1)).zip vs)) ∧ RepAll K mg W.G W.τ vs (fs.map (·.2))
  | .b ns => ∃ o : Obj, W.H a = some (.frz o (.tup (ns.map V.int))) ∧ o.dict = none
/-- tables of code objects that all texts must know -/
class LawT where
  T : List (Addr × Str)
variable [LT : LawT]
structure Base (K : PySem.W.Frag) (mg : Str → Option Value) (W : Hw) (s : S) : Prop where
  sub : Same W.G W.H
  tupI : ∀ b xs, W.H b = some (.tup xs) → W.G b = some (.tup xs)
  spc : ∀ b ∈ W.τ, W.G b = none
  nd : W.τ.Nodup
  len : s.length = W.τ.length
  cel : ∀ (n : Nat) (c : Cell) (a : Addr), s[n]? = some c → W.τ[n]? = some a → CellOk K mg W a c
  flt : ∀ c ∈ s, flatC c = true
  tab : LamX.Tabs LawT.T W.H
  nog : ∀ b ps, W.G b ≠ some (.tbl ps)
  all : ∀ b ps, W.H b = some (.tbl ps) → ∃ q, (b, q) ∈ LawT.T
structure Ext (W W' : Hw) : Prop where
  keep0 : ∀ b o, W.H b = some o → b ∉ W.τ → W'.H b = some o ∨ ∃ ps ps', o = .tbl ps ∧ W'.H b = some (.tbl ps')
  grow : Same W.G W'.G
  out : ∀ b, W.H b ≠ none → W'.G b = W.G b
  tpre : W.τ <+: W'.τ
  tnew : ∀ b ∈ W'.τ, b ∉ W.τ → W.H b = none
  tab : LamX.Tabs LawT.T W.H → LamX.Tabs LawT.T W'.H
theorem Ext.keep {W W' : Hw} (E : Ext W W') (b : Addr) (o : HO) (h : W.H b = some o) (n : b ∉ W.τ) (nt : ∀ ps, o ≠ .tbl ps := by exact fun _ z => nomatch z) : W'.H b = some o := by
  rcases E.keep0 b o h n with z | ⟨ps, _, e, _⟩
  · exact z
  · exact absurd e (nt ps)
theorem Ext.dom {W W' : Hw} (E : Ext W W') {b : Addr} {o : HO} (h : W.H b = some o) (n : b ∉ W.τ) : W'.H b ≠ none := by
  rcases E.keep0 b o h n with z | ⟨_, _, _, z⟩ <;> rw [z] <;> exact fun q => nomatch q
omit LT in
/-- a place that is neither a table nor a code object gets something -/
theorem tabs_upd {T : List (Addr × Str)} {H : Hp} {a : Addr} {o : HO} (h : ∀ u, H a = some u → (∀ ps, u ≠ .tbl ps) ∧ ∀ q, u ≠ LamX.CodeO a q) (t : LamX.Tabs T H) : LamX.Tabs T (upd H a o) := fun p hp => by
  obtain ⟨ps, h1, h2, h3⟩ := t p hp
  refine ⟨ps, ?_, h2, fun pos cv hc => ?_⟩
  · refine (upd_ne fun z => ?_).trans h1
    rw [z] at h1
    exact (h _ h1).1 ps rfl
  · obtain ⟨c, e1, e2⟩ := h3 pos cv hc
    refine ⟨c, e1, (upd_ne fun z => ?_).trans e2⟩
    rw [z] at e2
    exact (h _ e2).2 p.2 rfl
omit LT in
theorem nog_upd {G : Hp} {a : Addr} {o : HO} (nt : ∀ ps, o ≠ .tbl ps) (h : ∀ b ps, G b ≠ some (.tbl ps)) : ∀ b ps, upd G a o b ≠ some (.tbl ps) := fun b ps z => by
  by_cases hb : b = a
  · rw [hb, upd_same] at z; exact nt ps (Option.some.inj z)
  · rw [upd_ne hb] at z; exact h b ps z
theorem all_upd {H : Hp} {a : Addr} {o : HO} (nt : ∀ ps, o ≠ .tbl ps) (h : ∀ b ps, H b = some (.tbl ps) → ∃ q, (b, q) ∈ LT.T) : ∀ b ps, upd H a o b = some (.tbl ps) → ∃ q, (b, q) ∈ LT.T := fun b ps z => by
  by_cases hb : b = a
  · rw [hb, upd_same] at z; exact absurd (Option.some.inj z) (nt ps)
  · rw [upd_ne hb] at z; exact h b ps z
omit LT in
theorem tabs_new {T : List (Addr × Str)} {H : Hp} {a : Addr} {o : HO} (h : H a = none) (t : LamX.Tabs T H) : LamX.Tabs T (upd H a o) := tabs_upd (fun u e => by rw [h] at e; cases e) t
section
variable {K : PySem.W.Frag} {mg : Str → Option Value} {W W' W'' W0 : Hw} {s s' : S}
theorem Ext.refl (W : Hw) : Ext W W := ⟨fun _ _ h _ => .inl h, fun _ _ h => h, fun _ _ => rfl, List.prefix_refl _, fun _ h n => absurd h n, fun t => t⟩
theorem Base.tau_some (B : Base K mg W s) {b : Addr} (h : b ∈ W.τ) : W.H b ≠ none := by
  obtain ⟨n, hn, e⟩ := List.getElem_of_mem h
  have hs : n < s.length := by rw [B.len]; exact hn
  have z := B.cel n s[n] b (List.getElem?_eq_getElem hs) (by rw [List.getElem?_eq_getElem hn, e])
  cases hc : s[n] with
  | l ds => rw [hc] at z; obtain ⟨vs, z, _⟩ := z; rw [z]; exact fun q => nomatch q
  | o c fs => rw [hc] at z; obtain ⟨C, dx, vs, _, z, _⟩ := z; rw [z]; exact fun q => nomatch q
  | d fs => rw [hc] at z; obtain ⟨vs, z, _⟩ := z; rw [z]; exact fun q => nomatch q
  | t fs => rw [hc] at z; obtain ⟨vs, z, _⟩ := z; rw [z]; exact fun q => nomatch q
  | b ns => rw [hc] at z; obtain ⟨vs, z, _⟩ := z; rw [z]; exact fun q => nomatch q
theorem Base.tau_plain (B : Base K mg W s) {b : Addr} (h : b ∈ W.τ) : ∀ u, W.H b = some u → (∀ ps, u ≠ .tbl ps) ∧ ∀ q, u ≠ LamX.CodeO b q := fun u hu => by
  obtain ⟨n, hn, e⟩ := List.getElem_of_mem h
  have hs : n < s.length := by rw [B.len]; exact hn
  have z := B.cel n s[n] b (List.getElem?_eq_getElem hs) (by rw [List.getElem?_eq_getElem hn, e])
  cases hc : s[n] with
  | l ds => rw [hc] at z; obtain ⟨vs, z, _⟩ := z; rw [z] at hu; cases hu; exact ⟨(fun _ q => nomatch q), (fun _ q => nomatch q)⟩
  | o c fs => rw [hc] at z; obtain ⟨C, dx, vs, _, z, _⟩ := z; rw [z] at hu; cases hu; exact ⟨(fun _ q => nomatch q), (fun _ q => nomatch q)⟩
  | d fs => rw [hc] at z; obtain ⟨vs, z, _⟩ := z; rw [z] at hu; cases hu; exact ⟨(fun _ q => nomatch q), (fun _ q => nomatch q)⟩
  | t fs => rw [hc] at z; obtain ⟨vs, z, _⟩ := z; rw [z] at hu; cases hu; exact ⟨(fun _ q => nomatch q), (fun _ q => nomatch q)⟩
  | b ns => rw [hc] at z; obtain ⟨vs, z, _⟩ := z; rw [z] at hu; cases hu; exact ⟨(fun _ q => nomatch q), (fun _ q => nomatch q)⟩
theorem Ext.trans (B : Base K mg W' s') (a : Ext W W') (b : Ext W' W'') : Ext W W'' := by
  have nt : ∀ c o, W.H c = some o → c ∉ W.τ → c ∉ W'.τ := fun c o h n m => by
    have := a.tnew c m n
    rw [h] at this; cases this
  refine ⟨fun c o h n => ?_, a.grow.trans b.grow, fun c h => ?_, a.tpre.trans b.tpre, fun c h n => ?_, fun t => b.tab (a.tab t)⟩
  · rcases a.keep0 c o h n with z | ⟨ps, ps', e, z⟩
    · exact b.keep0 c o z (nt c o h n)
    · rcases b.keep0 c _ z (nt c o h n) with y | ⟨_, ps2, _, y⟩
      · exact .inr ⟨ps, ps', e, y⟩
      · exact .inr ⟨ps, ps2, e, y⟩
  · refine (b.out c ?_).trans (a.out c h)
    by_cases m : c ∈ W.τ
    · obtain ⟨r, e⟩ := a.tpre
      exact B.tau_some (by rw [← e]; exact List.mem_append_left _ m)
    · cases q : W.H c with
      | none => exact absurd q h
      | some o => exact a.dom q m
  · by_cases m : c ∈ W'.τ
    · exact a.tnew c m n
    · cases q : W.H c with
      | none => rfl
      | some o =>
        have := b.tnew c h m
        exact absurd this (a.dom q n)
theorem Rep.ext (E : Ext W W') {v : V} {d : D} (r : Rep K mg W.G W.τ v d) : Rep K mg W'.G W'.τ v d := r.mono E.grow E.tpre
theorem RepAll.ext (E : Ext W W') {v : List V} {d : List D} (r : RepAll K mg W.G W.τ v d) : RepAll K mg W'.G W'.τ v d := r.mono E.grow E.tpre
end
/-- the code objects stay, the frozen part and the special objects grow -/
structure Grown (W W' : Hw) : Prop where
  g : Same W.G W'.G
  t : W.τ <+: W'.τ
  c : ∀ c q, W.H c = some (LamX.CodeO c q) → c ∉ W.τ → W'.H c = some (LamX.CodeO c q) ∧ c ∉ W'.τ
/-- what may be called in the slots of a def: the world at its entry, and what each does -/
class TellC where
  W : Hw
  ok : Addr → Nat → (List D → S → Res D) → Prop
instance tellC0 : TellC := ⟨⟨fun _ => none, fun _ => none, []⟩, fun _ _ _ => False⟩
section
omit LT
variable {W W1 W2 : Hw}
theorem Grown.refl (W : Hw) : Grown W W := ⟨fun _ _ h => h, List.prefix_refl _, fun _ _ h n => ⟨h, n⟩⟩
theorem Grown.trans (a : Grown W W1) (b : Grown W1 W2) : Grown W W2 := ⟨a.g.trans b.g, a.t.trans b.t, fun c q h n => let ⟨x, y⟩ := a.c c q h n; b.c c q x y⟩
theorem Grown.upd {a : Addr} {o : HO} (x : Grown W W1) (h : ∀ q, W1.H a ≠ some (LamX.CodeO a q)) : Grown W ⟨upd W1.H a o, W1.G, W1.τ⟩ :=
  ⟨x.g, x.t, fun c q hc n => by
    obtain ⟨e, m⟩ := x.c c q hc n
    exact ⟨(upd_ne fun z => h q (by rw [← z]; exact z ▸ e)).trans e, m⟩⟩
theorem Grown.frz {a : Addr} {o : HO} (x : Grown W W1) (h : Same W1.G (L2.upd W1.G a o)) : Grown W ⟨W1.H, L2.upd W1.G a o, W1.τ⟩ := ⟨x.g.trans h, x.t, x.c⟩
end
theorem Grown.ext {W W1 W2 : Hw} (x : Grown W W1) (E : Ext W1 W2) : Grown W W2 :=
  ⟨x.g.trans E.grow, x.t.trans E.tpre, fun c q hc n => by
    obtain ⟨e, m⟩ := x.c c q hc n
    refine ⟨E.keep c _ e m (fun ps z => LamX.codeO_ne ps z), fun m2 => ?_⟩
    have := E.tnew c m2 m
    rw [e] at this; cases this⟩
variable [TC : TellC]
/-- an object of a slot's own -/
structure OwnAt (W0 W : Hw) (a : Addr) : Prop where
  old : W0.H a = none
  frz : W.G a = none
  spc : a ∉ W.τ
inductive SlOk (K : PySem.W.Frag) (mg : Str → Option Value) (W0 W : Hw) : Option V → Sl → Prop
  | emp {x : Option V} : SlOk K mg W0 W x .emp
  | dat {v : V} {d : D} : Rep K mg W.G W.τ v d → SlOk K mg W0 W (some v) (.dat d)
  | own {a : Addr} {vs : List V} {ds : List D} : OwnAt W0 W a → W.H a = some (.lst vs) → RepAll K mg W.G W.τ vs ds → SlOk K mg W0 W (some (.ref a)) (.own ds)
  | ownK {a : Addr} {kvs : List (Key × V)} {vs : List D} : OwnAt W0 W a → W.H a = some (.dK kvs) → RepAll K mg W.G W.τ (kvs.map (·.2)) vs → SlOk K mg W0 W (some (.ref a)) (.ownD false ((kvs.map fun p => kD p.1).zip vs))
  | ownT {a : Addr} {kvs : List (List Key × V)} {vs : List D} : OwnAt W0 W a → W.H a = some (.dT kvs) → RepAll K mg W.G W.τ (kvs.map (·.2)) vs → SlOk K mg W0 W (some (.ref a)) (.ownD true ((kvs.map fun p => kT p.1).zip vs))
  | fn {a : Addr} {n : Nat} {tl : List D → S → Res D} : TC.ok a n tl → Grown TC.W W → SlOk K mg W0 W (some (.ref a)) (.fn n tl)
structure SSt (K : PySem.W.Frag) (mg : Str → Option Value) (W0 W : Hw) (s : S) (σ : L2.St) (ρ : List Sl) : Prop where
  ext : Ext W0 W
  base : Base K mg W s
  len : σ.length = ρ.length
  sl : ∀ (i : Nat) (x : Option V) (y : Sl), σ[i]? = some x → ρ[i]? = some y → SlOk K mg W0 W x y
  dist : ∀ (i j : Nat) (a : Addr) (y z : Sl), i ≠ j → σ[i]? = some (some (.ref a)) → σ[j]? = some (some (.ref a)) → ρ[i]? = some y → ρ[j]? = some z → y.isOwn = true → z.isOwn = true → False
section
variable {K : PySem.W.Frag} {mg : Str → Option Value} {W W' W'' W0 : Hw} {s s' : S} {σ σ' : L2.St} {ρ ρ' : List Sl}
theorem OwnAt.ext {a : Addr} (E : Ext W W') (o : OwnAt W0 W a) (h : W.H a ≠ none) : OwnAt W0 W' a :=
  ⟨o.old, (E.out a h).trans o.frz, fun m => h (E.tnew a m o.spc)⟩
theorem SlOk.ext (E : Ext W W') {x : Option V} {y : Sl} (h : SlOk K mg W0 W x y) : SlOk K mg W0 W' x y := by
  cases h with
  | emp => exact .emp
  | dat r => exact .dat (r.ext E)
  | own o e r => exact .own (o.ext E (by rw [e]; exact fun z => nomatch z)) (E.keep _ _ e o.spc) (r.ext E)
  | ownK o e r => exact .ownK (o.ext E (by rw [e]; exact fun z => nomatch z)) (E.keep _ _ e o.spc) (r.ext E)
  | ownT o e r => exact .ownT (o.ext E (by rw [e]; exact fun z => nomatch z)) (E.keep _ _ e o.spc) (r.ext E)
  | fn h g => exact .fn h (g.ext E)
theorem SSt.step (h : SSt K mg W0 W s σ ρ) (E : Ext W W') (B : Base K mg W' s') : SSt K mg W0 W' s' σ ρ :=
  ⟨h.ext.trans h.base E, B, h.len, fun i x y e1 e2 => (h.sl i x y e1 e2).ext E, h.dist⟩
/-- a slot gets data -/
theorem SSt.setDat (h : SSt K mg W0 W s σ ρ) {v : V} {d : D} (r : Rep K mg W.G W.τ v d) (i : Nat) : SSt K mg W0 W s (σ.set i (some v)) (ρ.set i (.dat d)) := by
  refine ⟨h.ext, h.base, by simp [h.len], fun j x y e1 e2 => ?_, fun j k a y z ne e1 e2 e3 e4 o1 o2 => ?_⟩
  · by_cases hj : j = i
    · subst hj
      have hl : j < σ.length := by
        by_cases q : j < σ.length
        · exact q
        · rw [List.getElem?_eq_none (by simpa using q)] at e1; cases e1
      rw [List.getElem?_set_self hl] at e1
      rw [List.getElem?_set_self (by rw [← h.len]; exact hl)] at e2
      cases e1; cases e2
      exact .dat r
    · rw [List.getElem?_set_ne (Ne.symm hj)] at e1 e2
      exact h.sl j x y e1 e2
  · have go : ∀ (j : Nat) y, (ρ.set i (.dat d))[j]? = some y → y.isOwn = true → j ≠ i := fun j y e o q => by
      subst q
      rw [List.getElem?_set] at e
      simp only [if_true] at e
      split at e
      · cases e; exact Bool.noConfusion o
      · cases e
    have n1 := go j y e3 o1
    have n2 := go k z e4 o2
    rw [List.getElem?_set_ne (Ne.symm n1)] at e1 e3
    rw [List.getElem?_set_ne (Ne.symm n2)] at e2 e4
    exact h.dist j k a y z ne e1 e2 e3 e4 o1 o2
/-- a slot's content is forgotten -/
theorem SSt.clear (h : SSt K mg W0 W s σ ρ) (i : Nat) : SSt K mg W0 W s σ (ρ.set i .emp) := by
  refine ⟨h.ext, h.base, by simp [h.len], fun j x y e1 e2 => ?_, fun j k a y z ne e1 e2 e3 e4 o1 o2 => ?_⟩
  · by_cases hj : j = i
    · subst hj
      rw [List.getElem?_set] at e2
      simp only [if_true] at e2
      split at e2
      · cases e2; exact .emp
      · cases e2
    · rw [List.getElem?_set_ne (Ne.symm hj)] at e2
      exact h.sl j x y e1 e2
  · have go : ∀ (j : Nat) y, (ρ.set i .emp)[j]? = some y → y.isOwn = true → j ≠ i := fun j y e o q => by
      subst q
      rw [List.getElem?_set] at e
      simp only [if_true] at e
      split at e
      · cases e; exact Bool.noConfusion o
      · cases e
    rw [List.getElem?_set_ne (Ne.symm (go j y e3 o1))] at e3
    rw [List.getElem?_set_ne (Ne.symm (go k z e4 o2))] at e4
    exact h.dist j k a y z ne e1 e2 e3 e4 o1 o2
end
end DL
namespace DL
open PySem PySem.Spec PyProof.Rows L2
variable [LT : LawT] [TC : TellC]
def Res.bind {α β : Type} (r : Res α) (f : α → S → Res β) : Res β :=
  match r with
  | .ok a s => f a s
  | .exc c s => .exc c s
  | .bad => .bad
def Res.ofO {α : Type} (o : Option α) (s : S) : Res α :=
  match o with
  | some a => .ok a s
  | none => .bad
/-- what is wanted behind a result -/
def Post {α β : Type} (K : PySem.W.Frag) (mg : Str → Option Value) (rel : Hw → β → α → Prop) (E : XK) (r : Res α) (W : Hw) (Q : β → Hp → Prop) : Prop :=
  match r with
  | .ok a s => ∀ x W', Ext W W' → Base K mg W' s → rel W' x a → Q x W'.H
  | .exc c s => ∀ W' u, Ext W W' → Base K mg W' s → mg c = some u → E u none W'.H
  | .bad => False
abbrev relE (K : PySem.W.Frag) (mg : Str → Option Value) : Hw → V → D → Prop := fun W v d => Rep K mg W.G W.τ v d
abbrev relA (K : PySem.W.Frag) (mg : Str → Option Value) : Hw → List V → List D → Prop := fun W v d => RepAll K mg W.G W.τ v d
abbrev relT : Hw → Bool → Bool → Prop := fun _ b c => b = c
/-- a new list of its own, not frozen -/
def relF (K : PySem.W.Frag) (mg : Str → Option Value) (W0 : Hw) : Hw → V → D → Prop := fun W v d => ∃ a vs ds, v = .ref a ∧ d = .lst ds ∧ W0.H a = none ∧ W.G a = none ∧ a ∉ W.τ ∧ W.H a = some (.lst vs) ∧ RepAll K mg W.G W.τ vs ds
section
variable {α β γ δ : Type} {K : PySem.W.Frag} {mg : Str → Option Value} {rel : Hw → β → α → Prop} {rel' : Hw → δ → γ → Prop} {E : XK} {W W' W0 : Hw} {s s' : S} {Q Q' : β → Hp → Prop}
theorem Post.ext {r : Res α} (e : Ext W W') (B : Base K mg W' s) (p : Post K mg rel E r W Q) : Post K mg rel E r W' Q := by
  cases r with
  | ok a s1 => exact fun x W2 e2 B2 r2 => p x W2 (e.trans B e2) B2 r2
  | exc c s1 => exact fun W2 u e2 B2 hu => p W2 u (e.trans B e2) B2 hu
  | bad => exact p
theorem Post.imp {r : Res α} (p : Post K mg rel E r W Q) (h : ∀ x H, Q x H → Q' x H) : Post K mg rel E r W Q' := by
  cases r with
  | ok a s1 => exact fun x W2 e2 B2 r2 => h _ _ (p x W2 e2 B2 r2)
  | exc c s1 => exact p
  | bad => exact p
theorem Post.of_ok {a : α} (p : Post K mg rel E (.ok a s) W Q) (B : Base K mg W s) {x : β} (r : rel W x a) : Q x W.H := p x W (Ext.refl W) B r
end
/-- the reading by a denotation -/
def tX {α β : Type} (K : PySem.W.Frag) (mg : Str → Option Value) (rel : Hw → Hw → β → α → Prop) (E : WX) (f : List Sl → S → Res α) : L2.St → Hp → (β → Hp → Prop) → Prop := fun σ H Q =>
  ∃ (W0 W : Hw) (s : S) (ρ : List Sl), W.H = H ∧ SSt K mg W0 W s σ ρ ∧ Post K mg (rel W) (fun u d H' => E u d σ H') (f ρ s) W Q
abbrev DE := List Sl → S → Res D
abbrev DA := List Sl → S → Res (List D)
abbrev DT := List Sl → S → Res Bool
abbrev tE (K : PySem.W.Frag) (mg : Str → Option Value) (E : WX) (f : DE) : TE := tX K mg (fun _ => relE K mg) E f
abbrev tF (K : PySem.W.Frag) (mg : Str → Option Value) (E : WX) (f : DE) : TE := tX K mg (relF K mg) E f
abbrev tA (K : PySem.W.Frag) (mg : Str → Option Value) (E : WX) (f : DA) : TA := tX K mg (fun _ => relA K mg) E f
abbrev tT (K : PySem.W.Frag) (mg : Str → Option Value) (E : WX) (f : DT) : TT := tX K mg (fun _ => relT) E f
section
variable {α β γ δ : Type} {K : PySem.W.Frag} {mg : Str → Option Value} {rel : Hw → Hw → β → α → Prop} {rel' : Hw → δ → γ → Prop} {E : WX} {σ : L2.St} {H : Hp} {W W0 : Hw} {s : S} {ρ : List Sl} {Q Q' : β → Hp → Prop}
theorem tX.imp {f : List Sl → S → Res α} (h : tX K mg rel E f σ H Q) (i : ∀ x H, Q x H → Q' x H) : tX K mg rel E f σ H Q' := by
  obtain ⟨W0, W, s, ρ, e, st, p⟩ := h
  exact ⟨W0, W, s, ρ, e, st, p.imp i⟩
/-- one step of a bind -/
theorem go {f : List Sl → S → Res α} {k : α → S → Res γ} {R : δ → Hp → Prop} (st : SSt K mg W0 W s σ ρ) (p : Post K mg rel' (fun u d H' => E u d σ H') ((f ρ s).bind k) W R) :
    tX K mg rel E f σ W.H (fun x H1 => ∃ W1 s1 a, W1.H = H1 ∧ rel W W1 x a ∧ Ext W W1 ∧ SSt K mg W0 W1 s1 σ ρ ∧ Post K mg rel' (fun u d H' => E u d σ H') (k a s1) W1 R) := by
  refine ⟨W0, W, s, ρ, rfl, st, ?_⟩
  cases hf : f ρ s with
  | ok a s1 =>
    rw [hf] at p
    exact fun x W1 e B r => ⟨W1, s1, a, rfl, r, e, st.step e B, Post.ext e B p⟩
  | exc c s1 =>
    rw [hf] at p
    exact p
  | bad =>
    rw [hf] at p
    exact p.elim
end
section
variable {X : Cx} {e a b : Expr} {t t' : TE} {pos : Pos} {E : WX}
theorem PE.mono (h : PE X e t) (i : ∀ σ H Q, t' σ H Q → t σ H Q) : PE X e t' := ⟨fun pins s σ H Q I q => h.run pins s σ H Q I (i σ H Q q)⟩
theorem PE.or (h : PE X e t) (h' : PE X e t') : PE X e (fun σ H Q => t σ H Q ∨ t' σ H Q) := ⟨fun pins s σ H Q I q => q.elim (h.run pins s σ H Q I) (h'.run pins s σ H Q I)⟩
theorem PT.mono {t t' : TT} (h : PT X e t) (i : ∀ σ H Q, t' σ H Q → t σ H Q) : PT X e t' := ⟨fun pins s σ H Q I q => h.run pins s σ H Q I (i σ H Q q)⟩
theorem PW.mono {t t' : TT} (h : PW X e t) (i : ∀ σ H Q, t' σ H Q → t σ H Q) : PW X e t' := ⟨fun wh pins s σ H Q I q => h.run wh pins s σ H Q I (i σ H Q q)⟩
theorem PA.mono {es : List Expr} {t t' : TA} (h : PA X es t) (i : ∀ σ H Q, t' σ H Q → t σ H Q) : PA X es t' := ⟨fun p pins s σ H Q I q => h.run p pins s σ H Q I (i σ H Q q)⟩
theorem PS.mono {st : Stmt} {t t' : TS} (h : PS X st t) (i : ∀ σ H D, t' D σ H → t D σ H) : PS X st t' := ⟨fun pins s σ H D I q => h.run pins s σ H D I (i σ H D q)⟩
theorem PSs.mono {st : List Stmt} {t t' : TS} (h : PSs X st t) (i : ∀ σ H D, t' D σ H → t D σ H) : PSs X st t' := ⟨fun pins s σ H D I q => h.run pins s σ H D I (i σ H D q)⟩
theorem OpR.or {f : Value → Value → Sem Value} {r r' : R2} (h : OpR X f r) (h' : OpR X f r') : OpR X f (fun x y H Q => r x y H Q ∨ r' x y H Q) :=
  fun pins s σ H x y v u Q I rx ry q => q.elim (h pins s σ H x y v u Q I rx ry) (h' pins s σ H x y v u Q I rx ry)
/-! ### names, constants -/
def eV (i : Nat) : DE := fun ρ s => match ρ[i]? with
  | some (.dat d) => .ok d s
  | _ => .bad
def eC (d : D) : DE := fun _ s => .ok d s
theorem e_var (i : Nat) {x : Str} (hN : X.N[i]? = some x := by rfl) (hv : Vis X.env.scope x := by first | exact Or.inl rfl | exact Or.inr (Or.inl rfl) | exact Or.inr (Or.inr rfl)) (hd : (x == ("__debug__" : Str)) = false := by decide)
    (hcd : (x == ("__classdict__" : Str)) = false := by decide) : PE X (.Name x pos) (tE X.K X.mg E (eV i)) := by
  refine PE.mono (pv i hN hv hd hcd) fun σ H Q h => ?_
  obtain ⟨W0, W, s, ρ, rfl, st, p⟩ := h
  unfold eV at p
  cases hr : ρ[i]? with
  | none => rw [hr] at p; exact p.elim
  | some y =>
    rw [hr] at p
    cases y with
    | dat d =>
      have hl : i < σ.length := by rw [st.len]; exact (List.getElem?_eq_some_iff.mp hr).1
      have z := st.sl i _ _ (List.getElem?_eq_getElem hl) hr
      generalize hx : σ[i] = x at z
      cases z with
      | dat r => exact ⟨_, by rw [List.getElem?_eq_getElem hl, hx], p.of_ok st.base r⟩
    | emp => exact p.elim
    | own ds => exact p.elim
    | ownD t kvs => exact p.elim
    | fn n tl => exact p.elim
theorem e_const {v : V} {d : D} (h : PE X e (tC v)) (r : ∀ G τ, Rep X.K X.mg G τ v d) : PE X e (tE X.K X.mg E (eC d)) := by
  refine PE.mono h fun σ H Q h => ?_
  obtain ⟨W0, W, s, ρ, rfl, st, p⟩ := h
  exact p.of_ok st.base (r _ _)
theorem e_int {i : Int} {j : Nat} : PE X (.Constant (.int i) j pos) (tE X.K X.mg E (eC (.int i))) := e_const pe_int fun _ _ => .int i
theorem e_bl {i : Bool} {j : Nat} : PE X (.Constant (.bool i) j pos) (tE X.K X.mg E (eC (.bl i))) := e_const pe_bl fun _ _ => .bl i
theorem e_non {j : Nat} : PE X (.Constant .none j pos) (tE X.K X.mg E (eC .non)) := e_const pe_non fun _ _ => .non
theorem e_str {x : Str} {j : Nat} : PE X (.Constant (.str x) j pos) (tE X.K X.mg E (eC (.str x))) := e_const pe_str fun _ _ => .str x
/-! ### what Rep says -/
section
variable {K : PySem.W.Frag} {mg : Str → Option Value} {G : Hp} {τ : List Addr} {v : V}
theorem Rep.int_inv {i : Int} (h : Rep K mg G τ v (.int i)) : v = .int i := by cases h; rfl
theorem Rep.bl_inv {i : Bool} (h : Rep K mg G τ v (.bl i)) : v = .bl i := by cases h; rfl
theorem Rep.str_inv {i : Str} (h : Rep K mg G τ v (.str i)) : v = .str i := by cases h; rfl
theorem Rep.non_inv (h : Rep K mg G τ v .non) : v = .non := by cases h; rfl
theorem Rep.ty_inv {i : String} (h : Rep K mg G τ v (.ty i)) : v = .ty i := by cases h; rfl
theorem Rep.tup_inv' {ds : List D} (h : Rep K mg G τ v (.tup ds)) : ∃ a xs, v = .ref a ∧ G a = some (.tup xs) ∧ RepAll K mg G τ xs ds := by cases h with | tup h r => exact ⟨_, _, rfl, h, r⟩
theorem Rep.tup_inv {ds : List D} (h : Rep K mg G τ v (.tup ds)) : ∃ a xs, v = .ref a ∧ SqT K G a xs ∧ RepAll K mg G τ xs ds := by cases h with | tup h r => exact ⟨_, _, rfl, .of h, r⟩
theorem Rep.lst_inv {ds : List D} (h : Rep K mg G τ v (.lst ds)) : ∃ a xs, v = .ref a ∧ G a = some (.lst xs) ∧ RepAll K mg G τ xs ds := by cases h with | lst h r => exact ⟨_, _, rfl, h, r⟩
theorem Rep.ktp_inv {ds : List D} (h : Rep K mg G τ v (.ktp ds)) : ∃ a xs, v = .ref a ∧ SqT K G a xs ∧ RepAll K mg G τ xs ds := by cases h with | ktp h r => exact ⟨_, _, rfl, h, r⟩
theorem Rep.frz_inv {ds : List D} (h : Rep K mg G τ v (.frz ds)) : ∃ a xs, v = .ref a ∧ SqL K G a xs ∧ RepAll K mg G τ xs ds := by cases h with | frz h r => exact ⟨_, _, rfl, h, r⟩
theorem RepAll.nil_inv {vs : List V} (h : RepAll K mg G τ vs []) : vs = [] := by cases h; rfl
theorem RepAll.cons_inv {vs : List V} {d : D} {ds : List D} (h : RepAll K mg G τ vs (d :: ds)) : ∃ v us, vs = v :: us ∧ Rep K mg G τ v d ∧ RepAll K mg G τ us ds := by cases h with | cons h r => exact ⟨_, _, rfl, h, r⟩
theorem RepAll.one_inv {vs : List V} {d : D} (h : RepAll K mg G τ vs [d]) : ∃ v, vs = [v] ∧ Rep K mg G τ v d := by
  obtain ⟨v, us, rfl, r, h⟩ := h.cons_inv
  rw [h.nil_inv]
  exact ⟨v, rfl, r⟩
theorem RepAll.two_inv {vs : List V} {d e : D} (h : RepAll K mg G τ vs [d, e]) : ∃ v u, vs = [v, u] ∧ Rep K mg G τ v d ∧ Rep K mg G τ u e := by
  obtain ⟨v, us, rfl, r, h⟩ := h.cons_inv
  obtain ⟨u, rfl, q⟩ := h.one_inv
  exact ⟨v, u, rfl, r, q⟩
end
/-! ### new objects -/
section
variable {K : PySem.W.Frag} {mg : Str → Option Value} {W : Hw} {s : S} {p : Addr}
theorem upd_new {H : Hp} {o : HO} (h : H p = none) : Same H (upd H p o) := fun b x e => by rw [upd_ne (ne_of_none e h)]; exact e
theorem Base.frz_none (B : Base K mg W s) (h : W.H p = none) : W.G p = none := B.sub.free h
/-- a new object, frozen -/
theorem Base.newO (B : Base K mg W s) (h : W.H p = none) (o : HO) (nt : ∀ ps, o ≠ .tbl ps := by exact fun _ z => nomatch z) : Base K mg ⟨upd W.H p o, upd W.G p o, W.τ⟩ s ∧ Ext W ⟨upd W.H p o, upd W.G p o, W.τ⟩ := by
  have hG := B.frz_none h
  have ht : p ∉ W.τ := fun m => B.tau_some m h
  have E : Ext W ⟨upd W.H p o, upd W.G p o, W.τ⟩ :=
    ⟨fun b o' e _ => .inl (upd_new h b o' e), upd_new hG, fun b e => upd_ne fun z => e (z ▸ h), List.prefix_refl _, fun _ m n => absurd m n, fun t => tabs_new h t⟩
  refine ⟨⟨fun b o' e => ?_, fun b xs e => ?_, fun b m => ?_, B.nd, B.len, fun n c a h1 h2 => ?_, B.flt, tabs_new h B.tab, nog_upd nt B.nog, all_upd nt B.all⟩, E⟩
  · dsimp only at e ⊢
    by_cases hb : b = p
    · subst hb; rw [upd_same] at e ⊢; exact e
    · rw [upd_ne hb] at e ⊢; exact B.sub b o' e
  · dsimp only at e ⊢
    by_cases hb : b = p
    · subst hb; rw [upd_same] at e ⊢; exact e
    · rw [upd_ne hb] at e ⊢; exact B.tupI b xs e
  · show upd W.G p _ b = none
    rw [upd_ne (fun z : b = p => ht (z ▸ m))]
    exact B.spc b m
  · have na : a ≠ p := fun z => ht (z ▸ List.mem_of_getElem? h2)
    have q := B.cel n c a h1 h2
    cases c with
    | l ds =>
      obtain ⟨us, e, r⟩ := q
      exact ⟨us, (upd_ne na).trans e, r.ext E⟩
    | o c fs =>
      obtain ⟨C, dx, us, e0, e, r⟩ := q
      exact ⟨C, dx, us, e0, (upd_ne na).trans e, r.ext E⟩
    | d fs =>
      obtain ⟨us, e, r⟩ := q
      exact ⟨us, (upd_ne na).trans e, r.ext E⟩
    | t fs =>
      obtain ⟨us, e, r⟩ := q
      exact ⟨us, (upd_ne na).trans e, r.ext E⟩
    | b ns =>
      obtain ⟨us, e, r⟩ := q
      exact ⟨us, (upd_ne na).trans e, r⟩
/-- a new list, not frozen -/
theorem Base.newL (B : Base K mg W s) (h : W.H p = none) {o : HO} (no : ∀ vs, o ≠ .tup vs) (nt : ∀ ps, o ≠ .tbl ps := by exact fun _ z => nomatch z) : Base K mg ⟨upd W.H p o, W.G, W.τ⟩ s ∧ Ext W ⟨upd W.H p o, W.G, W.τ⟩ := by
  have hG := B.frz_none h
  have ht : p ∉ W.τ := fun m => B.tau_some m h
  have E : Ext W ⟨upd W.H p o, W.G, W.τ⟩ := ⟨fun b o e _ => .inl (upd_new h b o e), fun _ _ e => e, fun b e => rfl, List.prefix_refl _, fun _ m n => absurd m n, fun t => tabs_new h t⟩
  refine ⟨⟨fun b o e => upd_new h b o (B.sub b o e), fun b xs e => ?_, B.spc, B.nd, B.len, fun n c a h1 h2 => ?_, B.flt, tabs_new h B.tab, B.nog, all_upd nt B.all⟩, E⟩
  · by_cases hb : b = p
    · subst hb
      have e' : upd W.H b o b = some (.tup xs) := e
      rw [upd_same] at e'
      exact absurd (Option.some.inj e') (no xs)
    · have e' : upd W.H p o b = some (.tup xs) := e
      rw [upd_ne hb] at e'
      exact B.tupI b xs e'
  · have na : a ≠ p := fun z => ht (z ▸ List.mem_of_getElem? h2)
    have q := B.cel n c a h1 h2
    cases c with
    | l ds =>
      obtain ⟨us, e, r⟩ := q
      exact ⟨us, (upd_ne na).trans e, r⟩
    | o c fs =>
      obtain ⟨C, dx, us, e0, e, r⟩ := q
      exact ⟨C, dx, us, e0, (upd_ne na).trans e, r⟩
    | d fs =>
      obtain ⟨us, e, r⟩ := q
      exact ⟨us, (upd_ne na).trans e, r⟩
    | t fs =>
      obtain ⟨us, e, r⟩ := q
      exact ⟨us, (upd_ne na).trans e, r⟩
    | b ns =>
      obtain ⟨us, e, r⟩ := q
      exact ⟨us, (upd_ne na).trans e, r⟩
/-- an object that isn't special and isn't frozen is frozen -/
theorem Base.freeze (B : Base K mg W s) {o : HO} (h : W.H p = some o) (hG : W.G p = none) (ht : p ∉ W.τ) (no : ∀ vs, o ≠ .tup vs) (nt : ∀ ps, o ≠ .tbl ps := by exact fun _ z => nomatch z) :
    Base K mg ⟨W.H, upd W.G p o, W.τ⟩ s := by
  have mono : Same W.G (upd W.G p o) := upd_new hG
  refine ⟨fun b x e => ?_, fun b xs e => ?_, fun b m => ?_, B.nd, B.len, fun n c a h1 h2 => ?_, B.flt, B.tab, nog_upd nt B.nog, B.all⟩
  · dsimp only at e ⊢
    by_cases hb : b = p
    · subst hb; rw [upd_same] at e; rw [← e]; exact h
    · rw [upd_ne hb] at e; exact B.sub b x e
  · exact mono _ _ (B.tupI b xs e)
  · show upd W.G p o b = none
    rw [upd_ne (fun z : b = p => ht (z ▸ m))]
    exact B.spc b m
  · have q := B.cel n c a h1 h2
    cases c with
    | l ds =>
      obtain ⟨us, e, r⟩ := q
      exact ⟨us, e, r.mono mono (List.prefix_refl _)⟩
    | o c fs =>
      obtain ⟨C, dx, us, e0, e, r⟩ := q
      exact ⟨C, dx, us, e0, e, r.mono mono (List.prefix_refl _)⟩
    | d fs =>
      obtain ⟨us, e, r⟩ := q
      exact ⟨us, e, r.mono mono (List.prefix_refl _)⟩
    | t fs =>
      obtain ⟨us, e, r⟩ := q
      exact ⟨us, e, r.mono mono (List.prefix_refl _)⟩
    | b ns =>
      obtain ⟨us, e, r⟩ := q
      exact ⟨us, e, r⟩
end
/-- a new list of its own may be taken for data -/
theorem r_ofF {f : DE} {K : PySem.W.Frag} {mg : Str → Option Value} : ∀ σ H Q, tE K mg E f σ H Q → tF K mg E f σ H Q := fun σ H Q h => by
  obtain ⟨W0, W, s, ρ, rfl, st, p⟩ := h
  refine ⟨W0, W, s, ρ, rfl, st, ?_⟩
  cases hf : f ρ s with
  | exc c s1 => rw [hf] at p; exact p
  | bad => rw [hf] at p; exact p
  | ok d s1 =>
    rw [hf] at p
    refine fun x W1 e B r => ?_
    obtain ⟨a, vs, ds, rfl, rfl, n0, nG, nt, eH, rv⟩ := r
    have B2 := B.freeze eH nG nt (fun _ z => nomatch z)
    have mono : Same W1.G (upd W1.G a (.lst vs)) := upd_new nG
    refine p (.ref a) ⟨W1.H, upd W1.G a (.lst vs), W1.τ⟩ ⟨e.keep0, e.grow.trans mono, fun b hb => ?_, e.tpre, e.tnew, e.tab⟩ B2 (.lst upd_same (rv.mono mono (List.prefix_refl _)))
    show upd W1.G a _ b = W.G b
    rw [upd_ne (fun z : b = a => hb (z ▸ n0))]
    exact e.out b hb
theorem e_ofF {f : DE} (h : PE X e (tF X.K X.mg E f)) : PE X e (tE X.K X.mg E f) := PE.mono h r_ofF
/-! ### arguments -/
def aNil : DA := fun _ s => .ok [] s
def aCons (f : DE) (g : DA) : DA := fun ρ s => (f ρ s).bind fun d s1 => (g ρ s1).bind fun ds s2 => .ok (d :: ds) s2
theorem a_nil : PA X [] (tA X.K X.mg E aNil) := PA.mono pa_nil fun σ H Q h => by
  obtain ⟨W0, W, s, ρ, rfl, st, p⟩ := h
  exact p.of_ok (x := []) st.base .nil
theorem a_cons {es : List Expr} {f : DE} {g : DA} (h : PE X e (tE X.K X.mg E f)) (hs : PA X es (tA X.K X.mg E g))
    (he : starEach (e :: es) X.env = (false, eval e X.env) :: starEach es X.env := by rfl) : PA X (e :: es) (tA X.K X.mg E (aCons f g)) := PA.mono (pa_cons h hs he) fun σ H Q h => by
  obtain ⟨W0, W, s, ρ, rfl, st, p⟩ := h
  refine (go st p).imp fun x H1 ⟨W1, s1, a, e1, r1, x1, st1, p1⟩ => ?_
  subst e1
  refine (go st1 p1).imp fun y H2 ⟨W2, s2, b, e2, r2, x2, st2, p2⟩ => ?_
  subst e2
  exact p2.of_ok (x := x :: y) st2.base (.cons (r1.ext x2) r2)
end
end DL
namespace DL
open PySem PySem.Spec PyProof.Rows L2
variable [LT : LawT] [TC : TellC]
/-! ### data of the library's kind -/
mutual
def toPy : D → PyData
  | .non => .none
  | .bl b => .bool b
  | .int i => .int i
  | .str x => .str x
  | .tup xs => .tuple (toPys xs)
  | .lst xs => .list (toPys xs)
  | .frz xs => .list (toPys xs)
  | .dct kvs => .dict (toPyKv kvs)
  | .tok _ => .none
  | .ty _ => .none
  | .glb _ => .none
  | .ktp xs => .tuple (toPys xs)
  | .exc _ => .none
  | .fd _ _ => .none
def toPys : List D → List PyData
  | [] => []
  | x :: xs => toPy x :: toPys xs
def toPyKv : List (D × D) → List (PyData × PyData)
  | [] => []
  | (k, v) :: r => (toPy k, toPy v) :: toPyKv r
end
mutual
/-- data without dicts, classes and the like -/
def okD : D → Bool
  | .non => true
  | .bl _ => true
  | .int _ => true
  | .str x => PyData.canLay0 (.str x)
  | .tup xs => okDs xs
  | .lst xs => okDs xs
  | .frz xs => okDs xs
  | .dct _ => false
  | .tok _ => false
  | .ty _ => false
  | .glb _ => false
  | .ktp xs => okDs xs
  | .exc _ => false
  | .fd _ _ => false
def okDs : List D → Bool
  | [] => true
  | x :: xs => okD x && okDs xs
end
def ready (x : D) : Bool := okD x && decide ((toPy x).depth ≤ 64)
def eqB (x y : D) : Bool := PyData.eqv (toPy x) (toPy y)
section
variable {K : PySem.W.Frag} {mg : Str → Option Value} {G H : Hp} {τ : List Addr}
mutual
theorem dp_of (hs : Same G H) : ∀ {v : V} {d : D}, Rep K mg G τ v d → okD d = true → Dp K H v (toPy d)
  | _, _, .non, _ => .non
  | _, _, .bl b, _ => .bl b
  | _, _, .int i, _ => .int i
  | _, _, .str x, _ => .str x
  | _, _, .tup h r, q => .tup (.of (hs _ _ h)) (dps_of hs r (by simpa [okD] using q))
  | _, _, .lst h r, q => .lst (.of (hs _ _ h)) (dps_of hs r (by simpa [okD] using q))
  | _, _, .frz h r, q => .lst (hs.seq h) (dps_of hs r (by simpa [okD] using q))
  | _, _, .dK _ _, q => by simp [okD] at q
  | _, _, .dT _ _, q => by simp [okD] at q
  | _, _, .tok _, q => by simp [okD] at q
  | _, _, .ty _, q => by simp [okD] at q
  | _, _, .glb _ _, q => by simp [okD] at q
  | _, _, .ktp h r, q => .tup (seqT hs h) (dps_of hs r (by simpa [okD] using q))
  | _, _, .fdK _ _, q => by simp [okD] at q
  | _, _, .fdT _ _, q => by simp [okD] at q
  | _, _, .exc _ _, q => by simp [okD] at q
theorem dps_of (hs : Same G H) : ∀ {vs : List V} {ds : List D}, RepAll K mg G τ vs ds → okDs ds = true → DpAll K H vs (toPys ds)
  | _, _, .nil, _ => .nil
  | _, _, .cons h r, q => .cons (dp_of hs h (by simp [okDs] at q; exact q.1)) (dps_of hs r (by simp [okDs] at q; exact q.2))
end
end
mutual
theorem canLay_of : ∀ d : D, okD d = true → (toPy d).canLay0 = true
  | .non, _ => by simp [toPy, PyData.canLay0]
  | .bl _, _ => by simp [toPy, PyData.canLay0]
  | .int _, _ => by simp [toPy, PyData.canLay0]
  | .str x, h => by simpa [okD, toPy] using h
  | .tup xs, h => by simpa [toPy, PyData.canLay0] using canLays_of xs (by simpa [okD] using h)
  | .lst xs, h => by simpa [toPy, PyData.canLay0] using canLays_of xs (by simpa [okD] using h)
  | .frz xs, h => by simpa [toPy, PyData.canLay0] using canLays_of xs (by simpa [okD] using h)
  | .dct _, h => by simp [okD] at h
  | .fd _ _, h => by simp [okD] at h
  | .tok _, h => by simp [okD] at h
  | .ty _, h => by simp [okD] at h
  | .glb _, h => by simp [okD] at h
  | .ktp xs, h => by simpa [toPy, PyData.canLay0] using canLays_of xs (by simpa [okD] using h)
  | .exc _, h => by simp [okD] at h
theorem canLays_of : ∀ ds : List D, okDs ds = true → PyData.canLayAll0 (toPys ds) = true
  | [], _ => by simp [toPys, PyData.canLayAll0]
  | x :: xs, h => by
    simp [okDs] at h
    simp [toPys, PyData.canLayAll0, canLay_of x h.1, canLays_of xs h.2]
end
theorem shaped_of {d : D} (h : ready d = true) : SeqAt.shaped (toPy d) = true := by
  simp [ready] at h
  simp [SeqAt.shaped, canLay_of d h.1, h.2]
theorem ready_ok {d : D} (h : ready d = true) : okD d = true := by
  simp [ready] at h
  exact h.1
/-! ### two values in, one out -/
abbrev F2 := D → D → Option D
def eOp2 (g : F2) (f h : DE) : DE := fun ρ s => (f ρ s).bind fun a s1 => (h ρ s1).bind fun b s2 => Res.ofO (g a b) s2
def V2 (K : PySem.W.Frag) (mg : Str → Option Value) (r : R2) (g : F2) : Prop :=
  ∀ (W : Hw) (s : S) (x y : V) (d e z : D) (Q : VK), Base K mg W s → Rep K mg W.G W.τ x d → Rep K mg W.G W.τ y e → g d e = some z → (∀ v W', Ext W W' → Base K mg W' s → Rep K mg W'.G W'.τ v z → Q v W'.H) → r x y W.H Q
def V2F (K : PySem.W.Frag) (mg : Str → Option Value) (r : R2) (g : F2) : Prop :=
  ∀ (W : Hw) (s : S) (x y : V) (d e z : D) (Q : VK), Base K mg W s → Rep K mg W.G W.τ x d → Rep K mg W.G W.τ y e → g d e = some z → (∀ v W', Ext W W' → Base K mg W' s → relF K mg W W' v z → Q v W'.H) → r x y W.H Q
section
variable {K : PySem.W.Frag} {mg : Str → Option Value} {r r' : R2} {g g' : F2}
theorem V2.inl (h : V2 K mg r g) : V2 K mg (fun x y H Q => r x y H Q ∨ r' x y H Q) g := fun W s x y d e z Q B rx ry hz q => .inl (h W s x y d e z Q B rx ry hz q)
theorem V2.inr (h : V2 K mg r' g) : V2 K mg (fun x y H Q => r x y H Q ∨ r' x y H Q) g := fun W s x y d e z Q B rx ry hz q => .inr (h W s x y d e z Q B rx ry hz q)
theorem stay {W : Hw} {s : S} (B : Base K mg W s) {z : D} {Q : VK} (q : ∀ v W', Ext W W' → Base K mg W' s → Rep K mg W'.G W'.τ v z → Q v W'.H) {v : V} (r : Rep K mg W.G W.τ v z) : Q v W.H := q v W (Ext.refl W) B r
theorem relF.mono {W W1 W2 : Hw} {v : V} {d : D} (e : Ext W W1) (B : Base K mg W1 s) (h : relF K mg W1 W2 v d) : relF K mg W W2 v d := by
  obtain ⟨a, vs, ds, rfl, rfl, n0, x⟩ := h
  refine ⟨a, vs, ds, rfl, rfl, ?_, x⟩
  cases q : W.H a with
  | none => rfl
  | some o =>
    by_cases m : a ∈ W.τ
    · obtain ⟨l, el⟩ := e.tpre
      exact absurd n0 (B.tau_some (by rw [← el]; exact List.mem_append_left _ m))
    · exact absurd n0 (e.dom q m)
end
section
variable {X : Cx} {a b c : Expr} {f h fc : DE} {pos : Pos} {E : WX} {r r' : R2} {g g' : F2}
theorem r_op2 (hv : V2 X.K X.mg r g) : ∀ σ H Q, tE X.K X.mg E (eOp2 g f h) σ H Q → tOp r (tE X.K X.mg E f) (tE X.K X.mg E h) σ H Q := fun σ H Q q => by
  obtain ⟨W0, W, s, ρ, rfl, st, p⟩ := q
  refine (go st p).imp fun x H1 ⟨W1, s1, d1, e1, r1, x1, st1, p1⟩ => ?_
  subst e1
  refine (go st1 p1).imp fun y H2 ⟨W2, s2, d2, e2, r2, x2, st2, p2⟩ => ?_
  subst e2
  cases hz : g d1 d2 with
  | none => rw [hz] at p2; exact p2.elim
  | some z =>
    rw [hz] at p2
    exact hv W2 s2 x y d1 d2 z Q st2.base (r1.ext x2) r2 hz p2
theorem e_op2 {op : Operator} (ho : OpR X (binaryOp op) r) (hv : V2 X.K X.mg r g) (ha : PE X a (tE X.K X.mg E f)) (hb : PE X b (tE X.K X.mg E h)) : PE X (.BinOp a op b pos) (tE X.K X.mg E (eOp2 g f h)) :=
  PE.mono (pe_op ho ha hb) (r_op2 hv)
theorem f_op2 {op : Operator} (ho : OpR X (binaryOp op) r) (hv : V2F X.K X.mg r g) (ha : PE X a (tE X.K X.mg E f)) (hb : PE X b (tE X.K X.mg E h)) : PE X (.BinOp a op b pos) (tF X.K X.mg E (eOp2 g f h)) := by
  refine PE.mono (pe_op ho ha hb) fun σ H Q q => ?_
  obtain ⟨W0, W, s, ρ, rfl, st, p⟩ := q
  refine (go st p).imp fun x H1 ⟨W1, s1, d1, e1, r1, x1, st1, p1⟩ => ?_
  subst e1
  refine (go st1 p1).imp fun y H2 ⟨W2, s2, d2, e2, r2, x2, st2, p2⟩ => ?_
  subst e2
  cases hz : g d1 d2 with
  | none => rw [hz] at p2; exact p2.elim
  | some z =>
    rw [hz] at p2
    exact hv W2 s2 x y d1 d2 z Q st2.base (r1.ext x2) r2 hz fun v W' e B rf => p2 v W' e B ((rf.mono x2 st2.base).mono x1 st1.base)
theorem e_cmp {op : CmpOp} (ho : OpR X (compareOp op) r) (hv : V2 X.K X.mg r g) (ha : PE X a (tE X.K X.mg E f)) (hb : PE X b (tE X.K X.mg E h)) (hm : behindInMarks op b = false) : PE X (.Compare a [op] [b] pos) (tE X.K X.mg E (eOp2 g f h)) :=
  PE.mono (pe_cmpR ho ha hb hm) (r_op2 hv)
/-- a truth as a test -/
def tBl (f : DE) : DT := fun ρ s => (f ρ s).bind fun d s1 => match d with
  | .bl b => .ok b s1
  | _ => .bad
theorem r_bl {te : TE} (hf : ∀ σ H Q, tE X.K X.mg E f σ H Q → te σ H Q) : ∀ σ H Q, tT X.K X.mg E (tBl f) σ H Q → tTest te σ H Q := fun σ H Q q => by
  obtain ⟨W0, W, s, ρ, rfl, st, p⟩ := q
  refine hf _ _ _ ((go st p).imp fun x H1 ⟨W1, s1, d1, e1, r1, x1, st1, p1⟩ => ?_)
  subst e1
  cases d1 with
  | bl b => exact ⟨b, r1.bl_inv, p1.of_ok st1.base rfl⟩
  | _ => exact p1.elim
theorem t_cmp {op : CmpOp} (ho : OpR X (compareOp op) r) (hv : V2 X.K X.mg r g) (ha : PE X a (tE X.K X.mg E f)) (hb : PE X b (tE X.K X.mg E h)) (hm : behindInMarks op b = false) : PT X (.Compare a [op] [b] pos) (tT X.K X.mg E (tBl (eOp2 g f h))) :=
  PT.mono (pt_cmpR ho ha hb hm) (r_bl (r_op2 hv))
/-- a op b op' c -/
def eChain (g g' : F2) (f h k : DE) : DE := fun ρ s => (f ρ s).bind fun x s1 => (h ρ s1).bind fun y s2 => match g x y with
  | some (.bl true) => (k ρ s2).bind fun z s3 => Res.ofO (g' y z) s3
  | some (.bl false) => .ok (.bl false) s2
  | _ => .bad
theorem r_chain (hv : V2 X.K X.mg r g) (hv' : V2 X.K X.mg r' g') : ∀ σ H Q, tE X.K X.mg E (eChain g g' f h fc) σ H Q → tChain r r' (tE X.K X.mg E f) (tE X.K X.mg E h) (tE X.K X.mg E fc) σ H Q := fun σ H Q q => by
  obtain ⟨W0, W, s, ρ, rfl, st, p⟩ := q
  refine (go st p).imp fun x H1 ⟨W1, s1, d1, e1, r1, x1, st1, p1⟩ => ?_
  subst e1
  refine (go st1 p1).imp fun y H2 ⟨W2, s2, d2, e2, r2, x2, st2, p2⟩ => ?_
  subst e2
  cases hz : g d1 d2 with
  | none => rw [hz] at p2; exact p2.elim
  | some z =>
    rw [hz] at p2
    refine hv W2 s2 x y d1 d2 z _ st2.base (r1.ext x2) r2 hz fun v W3 x3 B3 r3 => ?_
    cases z with
    | bl k =>
      refine ⟨k, r3.bl_inv, ?_⟩
      cases k with
      | true =>
        refine iteT ((go (st2.step x3 B3) (Post.ext x3 B3 p2)).imp fun w' H4 ⟨W4, s4, d4, e4, r4, x4, st4, p4⟩ => ?_)
        subst e4
        cases hz' : g' d2 d4 with
        | none => rw [hz'] at p4; exact p4.elim
        | some z' =>
          rw [hz'] at p4
          exact hv' W4 s4 y w' d2 d4 z' Q st4.base ((r2.ext x3).ext x4) r4 hz' p4
      | false => exact iteF (p2 _ W3 x3 B3 (.bl false))
    | _ => exact p2.elim
theorem t_chain {op op' : CmpOp} (ho : OpR X (compareOp op) r) (hv : V2 X.K X.mg r g) (ho' : OpR X (compareOp op') r') (hv' : V2 X.K X.mg r' g') (ha : PE X a (tE X.K X.mg E f)) (hb : PE X b (tE X.K X.mg E h)) (hc : PE X c (tE X.K X.mg E fc))
    (hm : lastMarks [op, op'] [b, c] = false := by with_unfolding_all rfl) : PT X (.Compare a [op, op'] [b, c] pos) (tT X.K X.mg E (tBl (eChain g g' f h fc))) := PT.mono (pt_chain ho ho' ha hb hc hm) (r_bl (r_chain hv hv'))
end
/-! ### the operators -/
def dIntB (p : Int → Int → Bool) : F2 := fun x y => match x, y with
  | .int i, .int j => some (.bl (p i j))
  | _, _ => none
def dLt : F2 := dIntB fun i j => decide (i < j)
def dLe : F2 := dIntB fun i j => decide (i ≤ j)
def dGt : F2 := dIntB fun i j => decide (j < i)
def dGe : F2 := dIntB fun i j => decide (j ≤ i)
def dSub : F2 := fun x y => match x, y with
  | .int i, .int j => some (.int (i - j))
  | _, _ => none
def dMod : F2 := fun x y => match x, y with
  | .int i, .int j => if j ≠ 0 then some (.int (i.fmod j)) else none
  | _, _ => none
def CFd (i j : Int) : Prop := j ≠ 0 ∧ Builtin.divisionGoesByPylong i j = false
instance (i j : Int) : Decidable (CFd i j) := by unfold CFd; exact inferInstance
def dFdiv : F2 := fun x y => match x, y with
  | .int i, .int j => if CFd i j then some (.int (i.fdiv j)) else none
  | _, _ => none
def CPw (i j : Int) : Prop := 0 ≤ j ∧ (Builtin.Int.intBits i : Int) * j ≤ 2 ^ 27
instance (i j : Int) : Decidable (CPw i j) := by unfold CPw; exact inferInstance
def dPow : F2 := fun x y => match x, y with
  | .int i, .int j => if CPw i j then some (.int (i ^ j.toNat)) else none
  | _, _ => none
instance (i j : Int) : Decidable (CShl i j) := by unfold CShl; exact inferInstance
instance (i j : Int) : Decidable (CMulX i j) := by unfold CMulX; exact inferInstance
def dAdd : F2 := fun x y => match x, y with
  | .int i, .int j => some (.int (i + j))
  | .tup a, .tup b => if a.length + b.length ≤ 16777216 then some (.tup (a ++ b)) else none
  | .lst a, .lst b => if a.length + b.length ≤ 16777216 then some (.lst (a ++ b)) else none
  | .str a, .str b => if a.length + b.length ≤ 16777216 then some (.str (a ++ b)) else none
  | _, _ => none
def dMul : F2 := fun x y => match x, y with
  | .int i, .int j => if CMulX i j then some (.int (i * j)) else none
  | .tup a, .int k => if a.length ≤ 1000 ∧ k ≤ 1000 ∧ -1000 ≤ k then some (.tup (List.replicate k.toNat a).flatten) else none
  | .lst a, .int k => if a.length * k.toNat ≤ 16777216 ∧ k ≤ 1000000 ∧ -1000000 ≤ k then some (.lst (List.replicate k.toNat a).flatten) else none
  | _, _ => none
def dEq : F2 := fun x y => match x, y with
  | .str a, .str b => some (.bl (decide (a = b)))
  | x, y => if ready x && ready y then some (.bl (eqB x y)) else none
def dNe : F2 := fun x y => match x, y with
  | .str a, .str b => some (.bl (!decide (a = b)))
  | x, y => if ready x && ready y then some (.bl (!eqB x y)) else none
section
variable {X : Cx} {K : PySem.W.Frag} {mg : Str → Option Value}
theorem vI {C : Int → Int → Prop} {g : Int → Int → V} {k : F2} (h : ∀ x y z, k x y = some z → ∃ i j, x = .int i ∧ y = .int j ∧ C i j ∧ ∀ G τ, Rep K mg G τ (g i j) z) : V2 K mg (rI C g) k := fun W s x y d e z Q B rx ry hz q => by
  obtain ⟨i, j, rfl, rfl, hc, hr⟩ := h d e z hz
  exact ⟨i, j, rx.int_inv, ry.int_inv, hc, stay B q (hr _ _)⟩
theorem vI0 {g : Int → Int → V} {k : F2} (h : ∀ x y z, k x y = some z → ∃ i j, x = .int i ∧ y = .int j ∧ ∀ G τ, Rep K mg G τ (g i j) z) : V2 K mg (rI0 g) k := fun W s x y d e z Q B rx ry hz q => by
  obtain ⟨i, j, rfl, rfl, hr⟩ := h d e z hz
  exact ⟨i, j, rx.int_inv, ry.int_inv, stay B q (hr _ _)⟩
theorem v_cmpI (p : Int → Int → Bool) : V2 K mg (rI0 fun i j => .bl (p i j)) (dIntB p) := vI0 fun x y z h => by
  unfold dIntB at h
  split at h
  · cases h; exact ⟨_, _, rfl, rfl, fun _ _ => .bl _⟩
  · cases h
theorem v_lt : V2 K mg (rI0 fun i j => .bl (decide (i < j))) dLt := v_cmpI _
theorem v_le : V2 K mg (rI0 fun i j => .bl (decide (i ≤ j))) dLe := v_cmpI _
theorem v_gt : V2 K mg (rI0 fun i j => .bl (decide (j < i))) dGt := v_cmpI _
theorem v_ge : V2 K mg (rI0 fun i j => .bl (decide (j ≤ i))) dGe := v_cmpI _
theorem v_sub : V2 K mg (rI0 fun i j => .int (i - j)) dSub := vI0 fun x y z h => by
  unfold dSub at h
  split at h
  · cases h; exact ⟨_, _, rfl, rfl, fun _ _ => .int _⟩
  · cases h
theorem v_mod : V2 K mg (rI (fun _ j => j ≠ 0) fun i j => .int (i.fmod j)) dMod := vI fun x y z h => by
  unfold dMod at h
  split at h
  · split at h
    · cases h; exact ⟨_, _, rfl, rfl, by assumption, fun _ _ => .int _⟩
    · cases h
  · cases h
theorem v_fdiv : V2 K mg (rI CFd fun i j => .int (i.fdiv j)) dFdiv := vI fun x y z h => by
  unfold dFdiv at h
  split at h
  · split at h
    · cases h; exact ⟨_, _, rfl, rfl, by assumption, fun _ _ => .int _⟩
    · cases h
  · cases h
theorem v_pow : V2 K mg (rI CPw fun i j => .int (i ^ j.toNat)) dPow := vI fun x y z h => by
  unfold dPow at h
  split at h
  · split at h
    · cases h; exact ⟨_, _, rfl, rfl, by assumption, fun _ _ => .int _⟩
    · cases h
  · cases h
theorem op_fdivX : OpR X (binaryOp .FloorDiv) (rI CFd fun i j => .int (i.fdiv j)) := opI fun i j _ _ _ _ _ hc q => floordiv_int hc.1 q (.inl hc.2)
theorem op_powX : OpR X (binaryOp .Pow) (rI CPw fun i j => .int (i ^ j.toNat)) := opI fun _ _ _ _ _ _ _ hc q => pow_int hc.1 hc.2 q
end
end DL
namespace DL
open PySem PySem.Spec PyProof.Rows L2
theorem tup_mul_same (l : Addr) (items : Array Value) (n : Nat) (dd : Option Addr) (sl : Array (Option Value)) (x : Int) (u : Tok) (c0 : (decide (x < -(2 ^ 63)) || decide (x ≥ 2 ^ 63)) = false) (c1 : (items.isEmpty || x == 1) = true) :
    Meets (Builtin.«tuple.__mul__» ⟨[.ref l, .int x u], []⟩) (fun _ R s => s.heap.get? l = some { cls := .type "tuple", dict := dd, data := .seq items n, slots := sl } ∧ R (.ok (.ret (Value.ref l))) s) :=
  .of_wp fun prog w A R s h => by
    obtain ⟨hp, g, d, tk, os⟩ := s
    obtain ⟨hl, h⟩ := h
    have f1 := AutoSeq1.idx_int
    wp_walk using wpAny_loadPart' hl
    refine wpAny_ite_false (decide_eq_false (by rw [c0]; exact Bool.false_ne_true)) ?_
    wp_walk using wpAny_loadPart' hl
    exact ⟨_, rfl, h⟩
theorem tup_mul_none (l : Addr) (items : Array Value) (n : Nat) (dd : Option Addr) (sl : Array (Option Value)) (x : Int) (u : Tok) (c0 : (decide (x < -(2 ^ 63)) || decide (x ≥ 2 ^ 63)) = false) (c1 : (items.isEmpty || x == 1) = false) (c2 : (decide (x ≤ 0) || items.isEmpty) = true) :
    Meets (Builtin.«tuple.__mul__» ⟨[.ref l, .int x u], []⟩) (fun _ R s => s.heap.get? l = some { cls := .type "tuple", dict := dd, data := .seq items n, slots := sl } ∧
      R (.ok (.ret (Value.ref s.heap.objs.size))) { s with heap := s.heap.push { cls := Value.type "tuple", data := Data.seq #[] }, toks := s.toks }) :=
  .of_wp fun prog w A R s h => by
    obtain ⟨hp, g, d, tk, os⟩ := s
    obtain ⟨hl, h⟩ := h
    have f1 := AutoSeq1.idx_int
    wp_walk using wpAny_loadPart' hl
    repeat (first
      | (refine wpAny_ite_false (decide_eq_false (by rw [c0]; exact Bool.false_ne_true)) ?_; wp_walk using wpAny_loadPart' hl)
      | (refine wpAny_ite_false (decide_eq_false (by rw [c1]; exact Bool.false_ne_true)) ?_; wp_walk using wpAny_loadPart' hl)
      | (refine wpAny_ite_true (decide_eq_true (by rw [c2])) ?_; wp_walk using wpAny_loadPart' hl))
    exact ⟨_, rfl, h⟩
section
variable {X : Cx}
/-- a tuple times any int -/
def rRepA (K : PySem.W.Frag) : R2 := fun x y H Q => ∃ l k xs, x = .ref l ∧ y = .int k ∧ SqT K H l xs ∧ -1000 ≤ k ∧ k ≤ 1000 ∧ xs.length ≤ 1000 ∧
  ((xs = [] ∨ k = 1) → Q (.ref l) H) ∧ ((xs ≠ [] ∧ k ≠ 1) → ∀ p, H p = none → Q (.ref p) (upd H p (.tup (List.replicate k.toNat xs).flatten)))
theorem op_repA : OpR X (binaryOp .Mult) (rRepA X.K) := by
  intro pins s σ H x y v u Q I rx ry h
  obtain ⟨l, k, xs, ex, ey, hT, hk0, hk1, hz, q0, q1⟩ := h
  by_cases hs : xs = [] ∨ k = 1
  · subst ex ey
    cases rx
    obtain ⟨t, rfl⟩ := ry
    obtain ⟨its, r, ⟨⟨cls, dd, data, sl⟩, ho, hc, n, hd⟩, hz2⟩ := I.tuple hT
    simp only at hc hd
    subst hc hd
    have c0 : (decide (k < -(2 ^ 63)) || decide (k ≥ 2 ^ 63)) = false := by
      rw [decide_eq_false (by omega), decide_eq_false (by omega)] <;> rfl
    have c1 : (its.toArray.isEmpty || k == 1) = true := by
      rcases hs with e | e
      · subst e; cases r; rfl
      · subst e; simp
    exact wpAny_binaryOp_repeat_ref (T := "tuple") (U := "int") (by decide) ⟨_, ho, rfl⟩ (fun s' => typeIs_int s' k t) noFill_tuple_mul F.fills_int_mul F.slot_int_rmul repeat_tuple F.slot_int_index.lookup
      (call_meets F.slot_int_rmul (typeIs_int s k t) F.entry_int_rmul (F.args_int_rmul_2 _ _) (int_rmul_tuple k t l its.toArray n dd sl)
        ⟨ho, rfl, ⟨_, ho, rfl⟩, call_meets F.slot_tuple_mul ⟨_, ho, rfl⟩ F.entry_tuple_mul (F.args_tuple_mul_2 _ _) (tup_mul_same l its.toArray n dd sl k t c0 c1) ⟨ho, ⟨.ref l, H, I, rfl, q0 hs⟩⟩⟩)
  · have hn : xs ≠ [] := fun e => hs (.inl e)
    have h1 : k ≠ 1 := fun e => hs (.inr e)
    by_cases h2 : 2 ≤ k
    · exact op_repT pins s σ H x y v u Q I rx ry ⟨l, k, xs, ex, ey, hT, hn, h2, hk1, hz, q1 ⟨hn, h1⟩⟩
    · subst ex ey
      cases rx
      obtain ⟨t, rfl⟩ := ry
      obtain ⟨its, r, ⟨⟨cls, dd, data, sl⟩, ho, hc, n, hd⟩, hz2⟩ := I.tuple hT
      simp only at hc hd
      subst hc hd
      have c0 : (decide (k < -(2 ^ 63)) || decide (k ≥ 2 ^ 63)) = false := by
        rw [decide_eq_false (by omega), decide_eq_false (by omega)] <;> rfl
      have c1 : (its.toArray.isEmpty || k == 1) = false := by
        have e1 : its.toArray.isEmpty = false := by
          cases r with
          | nil => exact absurd rfl hn
          | cons _ _ => rfl
        rw [e1, Bool.false_or]
        exact beq_eq_false_iff_ne.mpr h1
      have c2 : (decide (k ≤ 0) || its.toArray.isEmpty) = true := by rw [decide_eq_true (by omega)]; rfl
      have e0 : k.toNat = 0 := by omega
      have hq := q1 ⟨hn, h1⟩ s.heap.objs.size I.fresh
      rw [e0] at hq
      exact wpAny_binaryOp_repeat_ref (T := "tuple") (U := "int") (by decide) ⟨_, ho, rfl⟩ (fun s' => typeIs_int s' k t) noFill_tuple_mul F.fills_int_mul F.slot_int_rmul repeat_tuple F.slot_int_index.lookup
        (call_meets F.slot_int_rmul (typeIs_int s k t) F.entry_int_rmul (F.args_int_rmul_2 _ _) (int_rmul_tuple k t l its.toArray n dd sl)
          ⟨ho, rfl, ⟨_, ho, rfl⟩, call_meets F.slot_tuple_mul ⟨_, ho, rfl⟩ F.entry_tuple_mul (F.args_tuple_mul_2 _ _) (tup_mul_none l its.toArray n dd sl k t c0 c1 c2)
            ⟨ho, ⟨.ref s.heap.objs.size, _, I.laid (o := .tup []) (t' := s.toks) (fun b o e => Heap.get?_push_of_some _ e) (Nat.le_refl _) ⟨Nat.zero_le _, [], .nil, ⟨_, Heap.get?_push_size _ rfl, rfl, _, rfl⟩⟩, rfl, hq⟩⟩⟩)
end
end DL
namespace DL
open PySem PySem.Spec PyProof.Rows L2
variable [LT : LawT] [TC : TellC]
theorem line_le {n : Nat} (h : n ≤ 16777216) : n ≤ sizeLine := by rw [sizeLine_eq]; exact h
section
variable {K : PySem.W.Frag} {mg : Str → Option Value} {W : Hw} {s : S}
/-- a new list, taken for data -/
theorem newFrz (B : Base K mg W s) {p : Addr} (h : W.H p = none) (o : HO) {z : D} {Q : VK} (q : ∀ v W', Ext W W' → Base K mg W' s → Rep K mg W'.G W'.τ v z → Q v W'.H)
    (r : ∀ W', Ext W W' → W'.G p = some o → Rep K mg W'.G W'.τ (.ref p) z) (nt : ∀ ps, o ≠ .tbl ps := by exact fun _ z => nomatch z) : Q (.ref p) (upd W.H p o) := by
  obtain ⟨B1, E1⟩ := B.newO h o nt
  exact q (.ref p) _ E1 B1 (r _ E1 upd_same)
end
/-! ### + -/
def rAdd (K : PySem.W.Frag) : R2 := fun x y H Q => rI0 (fun i j => .int (i + j)) x y H Q ∨ rCatA K x y H Q ∨ rCat x y H Q ∨ ∃ i j, x = .str i ∧ y = .str j ∧ i.length + j.length ≤ sizeLine ∧ Q (.str (i ++ j)) H
section
variable {X : Cx} {K : PySem.W.Frag} {mg : Str → Option Value}
theorem op_addA : OpR X (binaryOp .Add) (rAdd X.K) := OpR.or op_add (OpR.or op_catA (OpR.or op_cat op_add_str))
theorem v_add : V2 K mg (rAdd K) dAdd := fun W s x y d e z Q B rx ry hz q => by
  unfold dAdd at hz
  split at hz
  · cases hz
    exact .inl ⟨_, _, rx.int_inv, ry.int_inv, stay B q (.int _)⟩
  · split at hz
    · cases hz
      rename_i a b hl
      obtain ⟨a1, xs, rfl, h1, r1⟩ := rx.tup_inv'
      obtain ⟨b1, ys, rfl, h2, r2⟩ := ry.tup_inv'
      have l1 := r1.length
      have l2 := r2.length
      refine .inr (.inl ⟨a1, b1, xs, ys, rfl, rfl, .of (B.sub _ _ h1), .of (B.sub _ _ h2), line_le (by omega), fun e => ?_, fun e1 e2 => ?_, fun e1 e2 p hp => ?_⟩)
      · subst e
        cases r1
        exact stay B q (.tup h2 (by simpa using r2))
      · subst e2
        cases r2
        exact stay B q (.tup h1 (by simpa using r1))
      · exact newFrz B hp _ q fun W' E' e' => .tup e' ((r1.append r2).ext E')
    · cases hz
  · split at hz
    · cases hz
      rename_i a b hl
      obtain ⟨a1, xs, rfl, h1, r1⟩ := rx.lst_inv
      obtain ⟨b1, ys, rfl, h2, r2⟩ := ry.lst_inv
      have l1 := r1.length
      have l2 := r2.length
      exact .inr (.inr (.inl ⟨a1, b1, xs, ys, rfl, rfl, B.sub _ _ h1, B.sub _ _ h2, line_le (by omega), fun p hp => newFrz B hp _ q fun W' E' e' => .lst e' ((r1.append r2).ext E')⟩))
    · cases hz
  · split at hz
    · cases hz
      exact .inr (.inr (.inr ⟨_, _, rx.str_inv, ry.str_inv, line_le (by assumption), stay B q (.str _)⟩))
    · cases hz
  · cases hz
/-- list + list, a new list of its own -/
def dAddL : F2 := fun x y => match x, y with
  | .lst a, .lst b => if a.length + b.length ≤ 16777216 then some (.lst (a ++ b)) else none
  | _, _ => none
theorem newOwn {W : Hw} {s : S} (B : Base K mg W s) {p : Addr} (h : W.H p = none) {vs : List V} {ds : List D} {Q : VK} (q : ∀ v W', Ext W W' → Base K mg W' s → relF K mg W W' v (.lst ds) → Q v W'.H) (r : RepAll K mg W.G W.τ vs ds) : Q (.ref p) (upd W.H p (.lst vs)) := by
  obtain ⟨B1, E1⟩ := B.newL h (o := .lst vs) (fun _ z => nomatch z)
  exact q (.ref p) _ E1 B1 ⟨p, vs, ds, rfl, rfl, h, B.frz_none h, fun m => B.tau_some m h, upd_same, r⟩
theorem vF_add : V2F K mg rCat dAddL := fun W s x y d e z Q B rx ry hz q => by
  unfold dAddL at hz
  split at hz
  · split at hz
    · cases hz
      rename_i a b hl
      obtain ⟨a1, xs, rfl, h1, r1⟩ := rx.lst_inv
      obtain ⟨b1, ys, rfl, h2, r2⟩ := ry.lst_inv
      have l1 := r1.length
      have l2 := r2.length
      exact ⟨a1, b1, xs, ys, rfl, rfl, B.sub _ _ h1, B.sub _ _ h2, line_le (by omega), fun p hp => newOwn B hp q (r1.append r2)⟩
    · cases hz
  · cases hz
/-! ### * -/
def rMul (K : PySem.W.Frag) : R2 := fun x y H Q => rI CMulX (fun i j => .int (i * j)) x y H Q ∨ rRepA K x y H Q ∨ rRep x y H Q
theorem op_mulA : OpR X (binaryOp .Mult) (rMul X.K) := OpR.or op_mulX (OpR.or op_repA op_rep)
theorem rep_one {α : Type} (xs : List α) : (List.replicate (1 : Int).toNat xs).flatten = xs := by simp
theorem rep_nil {α : Type} (n : Nat) : (List.replicate n ([] : List α)).flatten = [] := by simp
theorem v_mul : V2 K mg (rMul K) dMul := fun W s x y d e z Q B rx ry hz q => by
  unfold dMul at hz
  split at hz
  · split at hz
    · cases hz
      exact .inl ⟨_, _, rx.int_inv, ry.int_inv, by assumption, stay B q (.int _)⟩
    · cases hz
  · split at hz
    · cases hz
      rename_i a k hl
      obtain ⟨a1, xs, rfl, h1, r1⟩ := rx.tup_inv'
      cases ry.int_inv
      have l1 := r1.length
      refine .inr (.inl ⟨a1, k, xs, rfl, rfl, .of (B.sub _ _ h1), hl.2.2, hl.2.1, by omega, fun e => ?_, fun e p hp => ?_⟩)
      · rcases e with e | e
        · subst e
          cases r1
          rw [rep_nil] at q
          exact stay B q (.tup h1 .nil)
        · subst e
          rw [rep_one] at q
          exact stay B q (.tup h1 r1)
      · exact newFrz B hp _ q fun W' E' e' => .tup e' ((r1.rep _).ext E')
    · cases hz
  · split at hz
    · cases hz
      rename_i a k hl
      obtain ⟨a1, xs, rfl, h1, r1⟩ := rx.lst_inv
      cases ry.int_inv
      have l1 := r1.length
      exact .inr (.inr ⟨a1, k, xs, rfl, rfl, B.sub _ _ h1, by omega, by omega, line_le (by rw [l1]; exact hl.1), fun p hp => newFrz B hp _ q fun W' E' e' => .lst e' ((r1.rep _).ext E')⟩)
    · cases hz
  · cases hz
def dMulL : F2 := fun x y => match x, y with
  | .lst a, .int k => if a.length * k.toNat ≤ 16777216 ∧ k ≤ 1000000 ∧ -1000000 ≤ k then some (.lst (List.replicate k.toNat a).flatten) else none
  | _, _ => none
/-! ### == -/
def rEqA (K : PySem.W.Frag) : R2 := fun x y H Q => rEq x y H Q ∨ rEqD K x y H Q
def rNeA (K : PySem.W.Frag) : R2 := fun x y H Q => rNe x y H Q ∨ rNeD K x y H Q
theorem op_eqA (hu : X.A.units + 64 < cLine) : OpR X (compareOp .Eq) (rEqA X.K) := OpR.or op_eq (op_eqD hu)
theorem op_neA (hu : X.A.units + 64 < cLine) : OpR X (compareOp .NotEq) (rNeA X.K) := OpR.or op_ne (op_neD hu)
theorem v_eq : V2 K mg (rEqA K) dEq := fun W s x y d e z Q B rx ry hz q => by
  unfold dEq at hz
  split at hz
  · cases hz
    cases rx.str_inv
    cases ry.str_inv
    refine .inl ⟨rfl, ?_⟩
    simp only [V.str.injEq]
    exact stay B q (.bl _)
  · split at hz
    · cases hz
      rename_i hr
      rw [Bool.and_eq_true] at hr
      exact .inr ⟨_, _, dp_of B.sub rx (ready_ok hr.1), dp_of B.sub ry (ready_ok hr.2), shaped_of hr.1, shaped_of hr.2, stay B q (.bl _)⟩
    · cases hz
theorem v_ne : V2 K mg (rNeA K) dNe := fun W s x y d e z Q B rx ry hz q => by
  unfold dNe at hz
  split at hz
  · cases hz
    cases rx.str_inv
    cases ry.str_inv
    refine .inl ⟨rfl, ?_⟩
    simp only [V.str.injEq]
    exact stay B q (.bl _)
  · split at hz
    · cases hz
      rename_i hr
      rw [Bool.and_eq_true] at hr
      exact .inr ⟨_, _, dp_of B.sub rx (ready_ok hr.1), dp_of B.sub ry (ready_ok hr.2), shaped_of hr.1, shaped_of hr.2, stay B q (.bl _)⟩
    · cases hz
/-! ### is None, is of truths -/
def rIs : R2 := fun x y H Q => (y = .non ∧ Q (.bl (decide (x = .non))) H) ∨ rIsB x y H Q
def rIsnt : R2 := fun x y H Q => (y = .non ∧ Q (.bl (!decide (x = .non))) H) ∨ rNotB x y H Q
def isNon : D → Option Bool
  | .non => some true
  | .glb _ => none
  | .ty _ => some false
  | _ => some false
def dIs : F2 := fun x y => match x, y with
  | x, .non => (isNon x).map .bl
  | .bl a, .bl b => some (.bl (decide (a = b)))
  | _, _ => none
def dIsnt : F2 := fun x y => match x, y with
  | x, .non => (isNon x).map fun b => .bl (!b)
  | .bl a, .bl b => some (.bl (!decide (a = b)))
  | _, _ => none
theorem op_isA : OpR X (compareOp .Is) rIs := OpR.or op_isN op_isBl
theorem op_isntA : OpR X (compareOp .IsNot) rIsnt := OpR.or op_notN op_notBl
theorem isNon_of {W : Hw} {v : V} {d : D} {b : Bool} (r : Rep K mg W.G W.τ v d) (h : isNon d = some b) : decide (v = .non) = b := by
  cases r <;> first
    | (simp [isNon] at h; subst h; simp)
    | (simp [isNon] at h)
theorem v_is : V2 K mg rIs dIs := fun W s x y d e z Q B rx ry hz q => by
  unfold dIs at hz
  split at hz
  · cases ry.non_inv
    cases hn : isNon d with
    | none => rw [hn] at hz; cases hz
    | some b =>
      rw [hn] at hz
      cases hz
      refine .inl ⟨rfl, ?_⟩
      rw [isNon_of rx hn]
      exact stay B q (.bl _)
  · cases hz
    cases rx.bl_inv
    cases ry.bl_inv
    exact .inr ⟨_, _, rfl, rfl, stay B q (.bl _)⟩
  · cases hz
theorem v_isnt : V2 K mg rIsnt dIsnt := fun W s x y d e z Q B rx ry hz q => by
  unfold dIsnt at hz
  split at hz
  · cases ry.non_inv
    cases hn : isNon d with
    | none => rw [hn] at hz; cases hz
    | some b =>
      rw [hn] at hz
      cases hz
      refine .inl ⟨rfl, ?_⟩
      rw [isNon_of rx hn]
      exact stay B q (.bl _)
  · cases hz
    cases rx.bl_inv
    cases ry.bl_inv
    exact .inr ⟨_, _, rfl, rfl, stay B q (.bl _)⟩
  · cases hz
/-! ### in, of data -/
def rInT (K : PySem.W.Frag) : R2 := fun x y H Q => ∃ d ds, Dp K H x d ∧ Dp K H y (.tuple ds) ∧ SeqAt.shaped d = true ∧ SeqAt.shaped (.tuple ds) = true ∧ Q (.bl (ds.any fun z => PyData.eqv z d)) H
def rNotInT (K : PySem.W.Frag) : R2 := fun x y H Q => ∃ d ds, Dp K H x d ∧ Dp K H y (.tuple ds) ∧ SeqAt.shaped d = true ∧ SeqAt.shaped (.tuple ds) = true ∧ Q (.bl (!ds.any fun z => PyData.eqv z d)) H
theorem room_in {A : Around} {d : PyData} {ds : List PyData} (h : SeqAt.shaped d = true) (hu : A.units + 65 < cLine) : A.units + 1 + min (PyData.depthAll ds) d.depth < cLine := by
  have h1 := SeqAt.depth_of_shaped h
  have h2 : min (PyData.depthAll ds) d.depth ≤ d.depth := Nat.min_le_right _ _
  omega
theorem op_inT (hu : X.A.units + 65 < cLine) : OpR X (compareOp .In) (rInT X.K) := by
  intro pins s σ H x y v u Q I rx ry h
  obtain ⟨d, ds, hd, he, sd, se, q⟩ := h
  obtain ⟨as, r1⟩ := Dp.reads I d x v hd rx
  obtain ⟨bs, r2⟩ := Dp.reads I (.tuple ds) y u he ry
  have c2 : PyData.canLayAll0 ds = true := by have := SeqAt.canLay_of_shaped se; simpa [PyData.canLay0] using this
  exact SeqAt.in_tuple_reads r2 r1 c2 (SeqAt.canLay_of_shaped sd) (room_in sd hu) ⟨.bl _, H, I, rfl, q⟩
theorem op_notInT (hu : X.A.units + 65 < cLine) : OpR X (compareOp .NotIn) (rNotInT X.K) := by
  intro pins s σ H x y v u Q I rx ry h
  obtain ⟨d, ds, hd, he, sd, se, q⟩ := h
  obtain ⟨as, r1⟩ := Dp.reads I d x v hd rx
  obtain ⟨bs, r2⟩ := Dp.reads I (.tuple ds) y u he ry
  have c2 : PyData.canLayAll0 ds = true := by have := SeqAt.canLay_of_shaped se; simpa [PyData.canLay0] using this
  exact SeqAt.notIn_tuple_reads r2 r1 c2 (SeqAt.canLay_of_shaped sd) (room_in sd hu) ⟨.bl _, H, I, rfl, q⟩
def inB (x : D) (ys : List D) : Bool := ys.any fun z => eqB z x
def dIn : F2 := fun x y => match y with
  | .lst ds => if ready x && ready (.lst ds) then some (.bl (inB x ds)) else none
  | .tup ds => if ready x && ready (.tup ds) then some (.bl (inB x ds)) else none
  | .str b => match x with
    | .str a => some (.bl (!(Builtin.Str.occurrences b a 0 b.length 1).isEmpty))
    | _ => none
  | _ => none
def dNotIn : F2 := fun x y => match y with
  | .lst ds => if ready x && ready (.lst ds) then some (.bl (!inB x ds)) else none
  | .tup ds => if ready x && ready (.tup ds) then some (.bl (!inB x ds)) else none
  | .str b => match x with
    | .str a => some (.bl (!!(Builtin.Str.occurrences b a 0 b.length 1).isEmpty))
    | _ => none
  | _ => none
def rInA (K : PySem.W.Frag) : R2 := fun x y H Q => rInD K x y H Q ∨ rInT K x y H Q ∨ ∃ i j, x = .str i ∧ y = .str j ∧ Q (.bl (!(Builtin.Str.occurrences j i 0 j.length 1).isEmpty)) H
def rNotInA (K : PySem.W.Frag) : R2 := fun x y H Q => rNotInD K x y H Q ∨ rNotInT K x y H Q ∨ ∃ i j, x = .str i ∧ y = .str j ∧ Q (.bl (!(!(Builtin.Str.occurrences j i 0 j.length 1).isEmpty))) H
theorem op_inA (hu : X.A.units + 65 < cLine) : OpR X (compareOp .In) (rInA X.K) := OpR.or (op_inD hu) (OpR.or (op_inT hu) op_in_str)
theorem op_notInA (hu : X.A.units + 65 < cLine) : OpR X (compareOp .NotIn) (rNotInA X.K) := OpR.or (op_notInD hu) (OpR.or (op_notInT hu) op_notIn_str)
theorem toPys_map (ds : List D) : toPys ds = ds.map toPy := by
  induction ds with
  | nil => rfl
  | cons d ds ih => simp [toPys, ih]
theorem inB_py (x : D) (ds : List D) : ((toPys ds).any fun z => PyData.eqv z (toPy x)) = inB x ds := by
  rw [toPys_map, List.any_map]
  rfl
theorem v_in : V2 K mg (rInA K) dIn := fun W s x y d e z Q B rx ry hz q => by
  unfold dIn at hz
  split at hz
  · split at hz
    · cases hz
      rename_i ds hr
      rw [Bool.and_eq_true] at hr
      refine .inl ⟨toPy d, toPys ds, dp_of B.sub rx (ready_ok hr.1), by simpa [toPy] using dp_of B.sub ry (ready_ok hr.2), shaped_of hr.1, by simpa [toPy] using shaped_of hr.2, ?_⟩
      rw [inB_py]
      exact stay B q (.bl _)
    · cases hz
  · split at hz
    · cases hz
      rename_i ds hr
      rw [Bool.and_eq_true] at hr
      refine .inr (.inl ⟨toPy d, toPys ds, dp_of B.sub rx (ready_ok hr.1), by simpa [toPy] using dp_of B.sub ry (ready_ok hr.2), shaped_of hr.1, by simpa [toPy] using shaped_of hr.2, ?_⟩)
      rw [inB_py]
      exact stay B q (.bl _)
    · cases hz
  · split at hz
    · cases hz
      exact .inr (.inr ⟨_, _, rx.str_inv, ry.str_inv, stay B q (.bl _)⟩)
    · cases hz
  · cases hz
theorem v_notIn : V2 K mg (rNotInA K) dNotIn := fun W s x y d e z Q B rx ry hz q => by
  unfold dNotIn at hz
  split at hz
  · split at hz
    · cases hz
      rename_i ds hr
      rw [Bool.and_eq_true] at hr
      refine .inl ⟨toPy d, toPys ds, dp_of B.sub rx (ready_ok hr.1), by simpa [toPy] using dp_of B.sub ry (ready_ok hr.2), shaped_of hr.1, by simpa [toPy] using shaped_of hr.2, ?_⟩
      rw [inB_py]
      exact stay B q (.bl _)
    · cases hz
  · split at hz
    · cases hz
      rename_i ds hr
      rw [Bool.and_eq_true] at hr
      refine .inr (.inl ⟨toPy d, toPys ds, dp_of B.sub rx (ready_ok hr.1), by simpa [toPy] using dp_of B.sub ry (ready_ok hr.2), shaped_of hr.1, by simpa [toPy] using shaped_of hr.2, ?_⟩)
      rw [inB_py]
      exact stay B q (.bl _)
    · cases hz
  · split at hz
    · cases hz
      exact .inr (.inr ⟨_, _, rx.str_inv, ry.str_inv, stay B q (.bl _)⟩)
    · cases hz
  · cases hz
end
end DL
namespace DL
open PySem PySem.Spec PyProof.Rows L2
variable [LT : LawT] [TC : TellC]
/-! ### truth, and, or, not, if else -/
def dTruth : D → Option Bool
  | .non => some false
  | .bl b => some b
  | .int i => some (i != 0)
  | .str x => if x.length ≤ 16777216 then some ((x.length : Int) != 0) else none
  | .tup xs => some (!xs.isEmpty)
  | .lst xs => some (!xs.isEmpty)
  | .frz xs => some (!xs.isEmpty)
  | _ => none
def tTru (f : DE) : DT := fun ρ s => (f ρ s).bind fun d s1 => Res.ofO (dTruth d) s1
def eAnd (f g : DE) : DE := fun ρ s => (f ρ s).bind fun d s1 => match dTruth d with
  | some true => g ρ s1
  | some false => .ok d s1
  | none => .bad
def eOr (f g : DE) : DE := fun ρ s => (f ρ s).bind fun d s1 => match dTruth d with
  | some true => .ok d s1
  | some false => g ρ s1
  | none => .bad
def eNot (f : DE) : DE := fun ρ s => (f ρ s).bind fun d s1 => match dTruth d with
  | some b => .ok (.bl (!b)) s1
  | none => .bad
def tAndD (f g : DT) : DT := fun ρ s => (f ρ s).bind fun b s1 => if b then g ρ s1 else .ok false s1
def tOrD (f g : DT) : DT := fun ρ s => (f ρ s).bind fun b s1 => if b then .ok true s1 else g ρ s1
def tNotD (f : DT) : DT := fun ρ s => (f ρ s).bind fun b s1 => .ok (!b) s1
def eIf (c : DT) (f g : DE) : DE := fun ρ s => (c ρ s).bind fun b s1 => if b then f ρ s1 else g ρ s1
section
variable {K : PySem.W.Frag} {mg : Str → Option Value} {W : Hw} {s : S} {v : V} {d : D} {b : Bool}
theorem empty_of {vs : List V} {ds : List D} (r : RepAll K mg W.G W.τ vs ds) : vs.isEmpty = ds.isEmpty := by cases r <;> rfl
theorem tru_of (B : Base K mg W s) (r : Rep K mg W.G W.τ v d) (h : dTruth d = some b) : TruV K v W.H b := by
  cases r with
  | non => simp [dTruth] at h; exact h
  | bl c => simp [dTruth] at h; exact h.symm
  | int i => simp [dTruth] at h; exact h.symm
  | str x =>
    simp only [dTruth] at h
    split at h
    · cases h; exact ⟨line_le (by assumption), rfl⟩
    · cases h
  | tup q r => simp only [dTruth, Option.some.injEq] at h; exact .inr (.inl ⟨_, .of (B.sub _ _ q), by rw [empty_of r]; exact h.symm⟩)
  | lst q r => simp only [dTruth, Option.some.injEq] at h; exact .inl ⟨_, .of (B.sub _ _ q), by rw [empty_of r]; exact h.symm⟩
  | frz q r => simp only [dTruth, Option.some.injEq] at h; exact .inl ⟨_, B.sub.seq q, by rw [empty_of r]; exact h.symm⟩
  | _ => simp [dTruth] at h
end
section
variable {X : Cx} {a b c : Expr} {rest : List Expr} {f g h : DE} {p q : DT} {pos : Pos} {E : WX}
theorem t_truth (ha : PE X a (tE X.K X.mg E f)) (he : ∀ whole, isTrue a X.env whole = (do let v ← whole; standAt a.pos; holding [v] (truthy v)) := by intro _; rfl) : PT X a (tT X.K X.mg E (tTru f)) :=
  PT.mono (pt_truth ha he) fun σ H Q z => by
    obtain ⟨W0, W, s, ρ, rfl, st, z⟩ := z
    refine (go st z).imp fun x H1 ⟨W1, s1, d1, e1, r1, x1, st1, z1⟩ => ?_
    subst e1
    cases hd : dTruth d1 with
    | none => rw [hd] at z1; exact z1.elim
    | some k =>
      rw [hd] at z1
      exact ⟨k, tru_of st1.base r1 hd, z1.of_ok st1.base rfl⟩
theorem e_one {op : BoolOp} (h : PE X a (tE X.K X.mg E f)) : PE X (.BoolOp op [a] pos) (tE X.K X.mg E f) := pe_one h
theorem e_and (ha : PE X a (tE X.K X.mg E f)) (hb : PE X (.BoolOp .And (b :: rest) pos) (tE X.K X.mg E g)) : PE X (.BoolOp .And (a :: b :: rest) pos) (tE X.K X.mg E (eAnd f g)) :=
  PE.mono (pe_andT ha hb) fun σ H Q z => by
    obtain ⟨W0, W, s, ρ, rfl, st, z⟩ := z
    refine (go st z).imp fun x H1 ⟨W1, s1, d1, e1, r1, x1, st1, z1⟩ => ?_
    subst e1
    cases hd : dTruth d1 with
    | none => rw [hd] at z1; exact z1.elim
    | some k =>
      rw [hd] at z1
      refine ⟨k, tru_of st1.base r1 hd, ?_⟩
      cases k with
      | true => exact iteT ⟨W0, W1, s1, ρ, rfl, st1, z1⟩
      | false => exact iteF (z1.of_ok st1.base r1)
theorem w_and1 (ha : PT X a (tT X.K X.mg E p)) : PW X (.BoolOp .And [a] pos) (tT X.K X.mg E p) := pw_and1 ha
theorem w_or1 (ha : PT X a (tT X.K X.mg E p)) : PW X (.BoolOp .Or [a] pos) (tT X.K X.mg E p) := pw_or1 ha
theorem w_and (ha : PT X a (tT X.K X.mg E p)) (hb : PW X (.BoolOp .And (b :: rest) pos) (tT X.K X.mg E q)) : PW X (.BoolOp .And (a :: b :: rest) pos) (tT X.K X.mg E (tAndD p q)) :=
  PW.mono (pw_and ha hb) fun σ H Q z => by
    obtain ⟨W0, W, s, ρ, rfl, st, z⟩ := z
    refine (go st z).imp fun x H1 ⟨W1, s1, d1, e1, r1, x1, st1, z1⟩ => ?_
    subst e1
    cases (show x = d1 from r1)
    cases x with
    | true => exact iteT ⟨W0, W1, s1, ρ, rfl, st1, z1⟩
    | false => exact iteF (z1.of_ok st1.base rfl)
theorem w_or (ha : PT X a (tT X.K X.mg E p)) (hb : PW X (.BoolOp .Or (b :: rest) pos) (tT X.K X.mg E q)) : PW X (.BoolOp .Or (a :: b :: rest) pos) (tT X.K X.mg E (tOrD p q)) :=
  PW.mono (pw_or ha hb) fun σ H Q z => by
    obtain ⟨W0, W, s, ρ, rfl, st, z⟩ := z
    refine (go st z).imp fun x H1 ⟨W1, s1, d1, e1, r1, x1, st1, z1⟩ => ?_
    subst e1
    cases (show x = d1 from r1)
    cases x with
    | true => exact iteT (z1.of_ok st1.base rfl)
    | false => exact iteF ⟨W0, W1, s1, ρ, rfl, st1, z1⟩
theorem t_not (ha : PT X a (tT X.K X.mg E p)) : PT X (.UnaryOp .Not a pos) (tT X.K X.mg E (tNotD p)) :=
  PT.mono (pt_not ha) fun σ H Q z => by
    obtain ⟨W0, W, s, ρ, rfl, st, z⟩ := z
    refine (go st z).imp fun x H1 ⟨W1, s1, d1, e1, r1, x1, st1, z1⟩ => ?_
    subst e1
    cases (show x = d1 from r1)
    exact z1.of_ok st1.base rfl
theorem e_if (hc : PT X c (tT X.K X.mg E p)) (ha : PE X a (tE X.K X.mg E f)) (hb : PE X b (tE X.K X.mg E g)) : PE X (.IfExp c a b pos) (tE X.K X.mg E (eIf p f g)) :=
  PE.mono (pe_ifExp hc ha hb) fun σ H Q z => by
    obtain ⟨W0, W, s, ρ, rfl, st, z⟩ := z
    refine (go st z).imp fun x H1 ⟨W1, s1, d1, e1, r1, x1, st1, z1⟩ => ?_
    subst e1
    cases (show x = d1 from r1)
    cases x with
    | true => exact iteT ⟨W0, W1, s1, ρ, rfl, st1, z1⟩
    | false => exact iteF ⟨W0, W1, s1, ρ, rfl, st1, z1⟩
/-! ### one value in -/
abbrev F1 := D → Option D
def eOp1 (g : F1) (f : DE) : DE := fun ρ s => (f ρ s).bind fun a s1 => Res.ofO (g a) s1
def dNeg : F1 := fun x => match x with
  | .int i => some (.int (-i))
  | _ => none
/-! ### displays -/
def eTup (fs : DA) : DE := fun ρ s => (fs ρ s).bind fun ds s1 => if ds.length ≤ 16777216 then .ok (.tup ds) s1 else .bad
def eLst (fs : DA) : DE := fun ρ s => (fs ρ s).bind fun ds s1 => if ds.length ≤ 16777216 then .ok (.lst ds) s1 else .bad
theorem e_tup {es : List Expr} {fs : DA} {k : Nat} (h : PA X es (tA X.K X.mg E fs)) : PE X (.Tuple es k pos) (tE X.K X.mg E (eTup fs)) :=
  PE.mono (pe_tup h) fun σ H Q z => by
    obtain ⟨W0, W, s, ρ, rfl, st, z⟩ := z
    refine (go st z).imp fun x H1 ⟨W1, s1, d1, e1, r1, x1, st1, z1⟩ => ?_
    subst e1
    split at z1
    · refine ⟨line_le (by rw [r1.length]; assumption), fun p hp => ?_⟩
      exact newFrz st1.base hp _ z1 fun W' E' e' => .tup e' (RepAll.ext E' r1)
    · exact z1.elim
theorem f_lst {es : List Expr} {fs : DA} (h : PA X es (tA X.K X.mg E fs)) : PE X (.List es pos) (tF X.K X.mg E (eLst fs)) :=
  PE.mono (pe_lst h) fun σ H Q z => by
    obtain ⟨W0, W, s, ρ, rfl, st, z⟩ := z
    refine (go st z).imp fun x H1 ⟨W1, s1, d1, e1, r1, x1, st1, z1⟩ => ?_
    subst e1
    split at z1
    · refine ⟨line_le (by rw [r1.length]; assumption), fun p hp => ?_⟩
      exact newOwn st1.base hp (fun v W' e B rf => z1 v W' e B (rf.mono x1 st1.base)) r1
    · exact z1.elim
/-! ### x[i] -/
def dIx : F2 := fun x y => match x, y with
  | .lst xs, .int i => atI xs i
  | .tup xs, .int i => atI xs i
  | .frz xs, .int i => atI xs i
  | .ktp xs, .int i => atI xs i
  | .str x, .int i => if x.length ≤ 16777216 then (atI x.cps.toList i).map fun c => .str ⟨#[c]⟩ else none
  | _, _ => none
theorem atI_rep {K : PySem.W.Frag} {mg : Str → Option Value} {G : Hp} {τ : List Addr} {vs : List V} {ds : List D} {i : Int} {d : D} (r : RepAll K mg G τ vs ds) (h : atI ds i = some d) : ∃ v, atI vs i = some v ∧ Rep K mg G τ v d := by
  unfold atI at h ⊢
  rw [r.length]
  cases e : ixN ds.length i with
  | none => rw [e] at h; cases h
  | some j =>
    rw [e] at h
    exact r.getD h
theorem v_ix {K : PySem.W.Frag} {mg : Str → Option Value} : V2 K mg (rIx K) dIx := fun W s x y d e z Q B rx ry hz q => by
  unfold dIx at hz
  split at hz
  · obtain ⟨a, xs, rfl, h1, r1⟩ := rx.lst_inv
    cases ry.int_inv
    obtain ⟨v, hv, rv⟩ := atI_rep r1 hz
    exact .inl ⟨a, xs, _, v, rfl, rfl, .of (B.sub _ _ h1), hv, stay B q rv⟩
  · obtain ⟨a, xs, rfl, h1, r1⟩ := rx.tup_inv
    cases ry.int_inv
    obtain ⟨v, hv, rv⟩ := atI_rep r1 hz
    exact .inr (.inl ⟨a, xs, _, v, rfl, rfl, seqT B.sub h1, hv, stay B q rv⟩)
  · obtain ⟨a, xs, rfl, h1, r1⟩ := rx.frz_inv
    cases ry.int_inv
    obtain ⟨v, hv, rv⟩ := atI_rep r1 hz
    exact .inl ⟨a, xs, _, v, rfl, rfl, B.sub.seq h1, hv, stay B q rv⟩
  · obtain ⟨a, xs, rfl, h1, r1⟩ := rx.ktp_inv
    cases ry.int_inv
    obtain ⟨v, hv, rv⟩ := atI_rep r1 hz
    exact .inr (.inl ⟨a, xs, _, v, rfl, rfl, seqT B.sub h1, hv, stay B q rv⟩)
  · split at hz
    · rename_i x i hl
      cases hc : atI x.cps.toList i with
      | none => rw [hc] at hz; cases hz
      | some c =>
        rw [hc] at hz
        cases hz
        cases rx.str_inv
        cases ry.int_inv
        exact .inr (.inr ⟨_, _, c, rfl, rfl, line_le hl, hc, stay B q (.str _)⟩)
    · cases hz
  · cases hz
/-! ### slices -/
abbrev DO := List Sl → S → Res (Option Int)
def oNone : DO := fun _ s => .ok none s
def oSome (f : DE) : DO := fun ρ s => (f ρ s).bind fun d s1 => match d with
  | .int i => .ok (some i) s1
  | _ => .bad
def cutL {α : Type} (xs : List α) (lo hi : Option Int) : List α := (xs.drop (HT.sIx xs.length 0 lo)).take (HT.sIx xs.length xs.length hi - HT.sIx xs.length 0 lo)
def dSl (x : D) (lo hi : Option Int) : Option D := match x with
  | .str z => if z.length ≤ 16777216 then some (.str (cutS z lo hi)) else none
  | .tup xs => some (.tup (cutL xs lo hi))
  | .lst xs => some (.lst (cutL xs lo hi))
  | .frz xs => some (.lst (cutL xs lo hi))
  | _ => none
def eSl (f : DE) (l h : DO) : DE := fun ρ s => (f ρ s).bind fun d s1 => (l ρ s1).bind fun lo s2 => (h ρ s2).bind fun hi s3 => Res.ofO (dSl d lo hi) s3
abbrev tO (K : PySem.W.Frag) (mg : Str → Option Value) (E : WX) (f : DO) : TO := tX K mg (fun _ _ (x y : Option Int) => x = y) E f
theorem PO.mono {e : Option Expr} {t t' : TO} (h : PO X e t) (i : ∀ σ H Q, t' σ H Q → t σ H Q) : PO X e t' := ⟨fun pins s σ H Q I q => h.run pins s σ H Q I (i σ H Q q)⟩
theorem o_none : PO X none (tO X.K X.mg E oNone) := PO.mono po_none fun σ H Q z => by
  obtain ⟨W0, W, s, ρ, rfl, st, z⟩ := z
  exact z.of_ok st.base rfl
theorem o_some (ha : PE X a (tE X.K X.mg E f)) : PO X (some a) (tO X.K X.mg E (oSome f)) := PO.mono (po_some ha) fun σ H Q z => by
  obtain ⟨W0, W, s, ρ, rfl, st, z⟩ := z
  refine (go st z).imp fun x H1 ⟨W1, s1, d1, e1, r1, x1, st1, z1⟩ => ?_
  subst e1
  cases d1 with
  | int i => exact ⟨i, r1.int_inv, z1.of_ok st1.base rfl⟩
  | _ => exact z1.elim
theorem cut_rep {K : PySem.W.Frag} {mg : Str → Option Value} {G : Hp} {τ : List Addr} {vs : List V} {ds : List D} (r : RepAll K mg G τ vs ds) (lo hi : Option Int) : RepAll K mg G τ (cutV vs lo hi) (cutL ds lo hi) := by
  unfold cutV cutL
  rw [r.length]
  exact (r.drop _).take _
def rSlAny (K : PySem.W.Frag) : V → Option Int → Option Int → Hp → VK → Prop := fun x lo hi H Q => rSlA K x lo hi H Q ∨ rSlL K x lo hi H Q ∨ rSlS x lo hi H Q
theorem sl_any : SlR X (rSlAny X.K) := sl_tupA.or (sl_list.or sl_str)
theorem cut_whole {α : Type} {xs : List α} {lo hi : Option Int} (h : HT.sIx xs.length 0 lo = 0 ∧ HT.sIx xs.length xs.length hi = xs.length) : cutL xs lo hi = xs := by
  unfold cutL
  rw [h.1, h.2]
  simp
theorem e_slice {lo hi : Option Expr} {l h : DO} {p2 : Pos} (ha : PE X a (tE X.K X.mg E f)) (hl : PO X lo (tO X.K X.mg E l)) (hh : PO X hi (tO X.K X.mg E h)) : PE X (.Subscript a (.Slice lo hi none p2) pos) (tE X.K X.mg E (eSl f l h)) :=
  PE.mono (pe_slice sl_any ha hl hh) fun σ H Q z => by
    obtain ⟨W0, W, s, ρ, rfl, st, z⟩ := z
    refine (go st z).imp fun x H1 ⟨W1, s1, d1, e1, r1, x1, st1, z1⟩ => ?_
    subst e1
    refine (go st1 z1).imp fun y H2 ⟨W2, s2, d2, e2, r2, x2, st2, z2⟩ => ?_
    subst e2
    refine (go st2 z2).imp fun y3 H3 ⟨W3, s3, d3, e3, r3, x3, st3, z3⟩ => ?_
    subst e3
    cases (show y = d2 from r2)
    cases (show y3 = d3 from r3)
    have r1 := (Rep.ext x2 r1).ext x3
    cases d1 with
    | str x =>
      simp only [dSl] at z3
      split at z3
      · cases r1.str_inv
        exact .inr (.inr ⟨_, rfl, line_le (by assumption), z3.of_ok st3.base (.str _)⟩)
      · exact z3.elim
    | tup ds =>
      obtain ⟨p, xs, rfl, h1, rr⟩ := r1.tup_inv'
      refine .inl ⟨p, xs, rfl, .of (st3.base.sub _ _ h1), fun e => ?_, fun ne q hq => ?_⟩
      · have e' : cutL ds y y3 = ds := cut_whole (by rw [← rr.length]; exact e)
        refine z3.of_ok st3.base ?_
        show Rep X.K X.mg W3.G W3.τ (.ref p) (.tup (cutL ds y y3))
        rw [e']
        exact .tup h1 rr
      · exact newFrz st3.base hq _ z3 fun W' E' e' => .tup e' (RepAll.ext E' (cut_rep rr y y3))
    | lst ds =>
      obtain ⟨p, xs, rfl, h1, rr⟩ := r1.lst_inv
      exact .inr (.inl ⟨p, xs, rfl, .of (st3.base.sub _ _ h1), fun q hq => newFrz st3.base hq _ z3 fun W' E' e' => .lst e' (RepAll.ext E' (cut_rep rr y y3))⟩)
    | frz ds =>
      obtain ⟨p, xs, rfl, h1, rr⟩ := r1.frz_inv
      exact .inr (.inl ⟨p, xs, rfl, st3.base.sub.seq h1, fun q hq => newFrz st3.base hq _ z3 fun W' E' e' => .lst e' (RepAll.ext E' (cut_rep rr y y3))⟩)
    | _ => exact z3.elim
/-! ### calls of built-ins -/
abbrev FN := List D → Option D
def eB (g : FN) (fs : DA) : DE := fun ρ s => (fs ρ s).bind fun ds s1 => Res.ofO (g ds) s1
def VC (K : PySem.W.Frag) (mg : Str → Option Value) (r : List V → Hp → VK → Prop) (g : FN) : Prop :=
  ∀ (W : Hw) (s : S) (vs : List V) (ds : List D) (z : D) (Q : VK), Base K mg W s → RepAll K mg W.G W.τ vs ds → g ds = some z → (∀ v W', Ext W W' → Base K mg W' s → Rep K mg W'.G W'.τ v z → Q v W'.H) → r vs W.H Q
def VCF (K : PySem.W.Frag) (mg : Str → Option Value) (r : List V → Hp → VK → Prop) (g : FN) : Prop :=
  ∀ (W : Hw) (s : S) (vs : List V) (ds : List D) (z : D) (Q : VK), Base K mg W s → RepAll K mg W.G W.τ vs ds → g ds = some z → (∀ v W', Ext W W' → Base K mg W' s → relF K mg W W' v z → Q v W'.H) → r vs W.H Q
variable {e : Expr} {es : List Expr} {fs : DA} {gn : FN} {r : List V → Hp → VK → Prop}
theorem r_B {ta : TA} (hv : VC X.K X.mg r gn) : ∀ σ H Q, tE X.K X.mg E (eB gn fs) σ H Q → tCB r (tA X.K X.mg E fs) σ H Q := fun σ H Q z => by
  obtain ⟨W0, W, s, ρ, rfl, st, z⟩ := z
  refine (go st z).imp fun x H1 ⟨W1, s1, d1, e1, r1, x1, st1, z1⟩ => ?_
  subst e1
  cases hz : gn d1 with
  | none => rw [hz] at z1; exact z1.elim
  | some d => rw [hz] at z1; exact hv W1 s1 x d1 d Q st1.base r1 hz z1
theorem rF_B {ta : TA} (hv : VCF X.K X.mg r gn) : ∀ σ H Q, tF X.K X.mg E (eB gn fs) σ H Q → tCB r (tA X.K X.mg E fs) σ H Q := fun σ H Q z => by
  obtain ⟨W0, W, s, ρ, rfl, st, z⟩ := z
  refine (go st z).imp fun x H1 ⟨W1, s1, d1, e1, r1, x1, st1, z1⟩ => ?_
  subst e1
  cases hz : gn d1 with
  | none => rw [hz] at z1; exact z1.elim
  | some d => rw [hz] at z1; exact hv W1 s1 x d1 d Q st1.base r1 hz fun v W' e B rf => z1 v W' e B (rf.mono x1 st1.base)
theorem e_callB {id : String} {x : Str} {p' : Pos} (hc : CallR X (.builtin id) r) (hv : VC X.K X.mg r gn) (hm : X.mg x = none) (ha : PA X (e :: es) (tA X.K X.mg E fs)) (hb : bootBuiltins x = some (.builtin id) := by decide +kernel) (hg : Gl X x := by rfl) (hn : x ≠ "__name__" := by decide) (hdb : (x == ("__debug__" : Str)) = false := by decide)
    (he : starEach (e :: es) X.env = (false, eval e X.env) :: starEach es X.env := by rfl) (hpl : (backTo pos (starEach es X.env)).any (·.1) = false := by rfl) : PE X (.Call (.Name x p') (e :: es) [] pos) (tE X.K X.mg E (eB gn fs)) :=
  PE.mono (pe_callB hc hg hm hb ha hn hdb he hpl) (r_B (ta := tA X.K X.mg E fs) hv)
theorem e_callTy {T : String} {x : Str} {p' : Pos} (hc : CallR X (.type T) r) (hv : VC X.K X.mg r gn) (hm : X.mg x = none) (ha : PA X (e :: es) (tA X.K X.mg E fs)) (hb : bootBuiltins x = some (.type T) := by decide +kernel) (hg : Gl X x := by rfl) (hn : x ≠ "__name__" := by decide) (hdb : (x == ("__debug__" : Str)) = false := by decide)
    (he : starEach (e :: es) X.env = (false, eval e X.env) :: starEach es X.env := by rfl) (hpl : (backTo pos (starEach es X.env)).any (·.1) = false := by rfl) : PE X (.Call (.Name x p') (e :: es) [] pos) (tE X.K X.mg E (eB gn fs)) :=
  PE.mono (pe_callTy hc hg hm hb ha hn hdb he hpl) (r_B (ta := tA X.K X.mg E fs) hv)
theorem f_callTy {T : String} {x : Str} {p' : Pos} (hc : CallR X (.type T) r) (hv : VCF X.K X.mg r gn) (hm : X.mg x = none) (ha : PA X (e :: es) (tA X.K X.mg E fs)) (hb : bootBuiltins x = some (.type T) := by decide +kernel) (hg : Gl X x := by rfl) (hn : x ≠ "__name__" := by decide) (hdb : (x == ("__debug__" : Str)) = false := by decide)
    (he : starEach (e :: es) X.env = (false, eval e X.env) :: starEach es X.env := by rfl) (hpl : (backTo pos (starEach es X.env)).any (·.1) = false := by rfl) : PE X (.Call (.Name x p') (e :: es) [] pos) (tF X.K X.mg E (eB gn fs)) :=
  PE.mono (pe_callTy hc hg hm hb ha hn hdb he hpl) (rF_B (ta := tA X.K X.mg E fs) hv)
end
end DL
namespace DL
open PySem PySem.Spec PyProof.Rows L2
variable [LT : LawT] [TC : TellC]
/-- what a statement comes to -/
inductive Fl where
  | next (ρ : List Sl) (s : S) | ret (d : D) (s : S) | brk (ρ : List Sl) (s : S) | cont (ρ : List Sl) (s : S) | exc (c : Str) (s : S) | bad
abbrev DS := List Sl → S → Fl
/-- how a def hands out what it tells: as data, as a new list of its own, as a pair of data and a new list, or of data and a new dict -/
inductive Fr where
  | no | yes | pl | pd
@[reducible] def Fr.of : Bool → Fr
  | true => .yes
  | false => .no
instance : Coe Bool Fr := ⟨Fr.of⟩
def Fr.own : Fr → Bool
  | .no => false
  | _ => true
/-- a pair of data and a new list -/
def relPl (K : PySem.W.Frag) (mg : Str → Option Value) (W0 W : Hw) (v : V) (d : D) : Prop := ∃ p v1 v2 x y, v = .ref p ∧ d = .tup [x, y] ∧ W.G p = some (.tup [v1, v2]) ∧ Rep K mg W.G W.τ v1 x ∧ relF K mg W0 W v2 y
/-- a pair of data and a new dict keyed by tuples -/
def relPd (K : PySem.W.Frag) (mg : Str → Option Value) (W0 W : Hw) (v : V) (d : D) : Prop := ∃ p v1 a x kvs vs, v = .ref p ∧ d = .tup [x, .fd true ((kvs.map fun p : List Key × V => kT p.1).zip vs)] ∧ W.G p = some (.tup [v1, .ref a]) ∧ Rep K mg W.G W.τ v1 x ∧ OwnAt W0 W a ∧ W.H a = some (.dT kvs) ∧ RepAll K mg W.G W.τ (kvs.map (·.2)) vs
def relR (K : PySem.W.Frag) (mg : Str → Option Value) (fr : Fr) (W0 W : Hw) (v : V) (d : D) : Prop := match fr with
  | .no => Rep K mg W.G W.τ v d
  | .yes => relF K mg W0 W v d
  | .pl => relPl K mg W0 W v d
  | .pd => relPd K mg W0 W v d
def PostS (K : PySem.W.Frag) (mg : Str → Option Value) (E : WX) (fr : Fr) (W0 : Hw) (g : Fl) (T : Ends) : Prop :=
  match g with
  | .next ρ s => ∀ σ W, SSt K mg W0 W s σ ρ → T.nx σ W.H
  | .brk ρ s => ∀ σ W, SSt K mg W0 W s σ ρ → T.bk σ W.H
  | .cont ρ s => ∀ σ W, SSt K mg W0 W s σ ρ → T.ct σ W.H
  | .ret d s => ∀ v W, Ext W0 W → Base K mg W s → relR K mg fr W0 W v d → T.rt v W.H
  | .exc c s => ∀ σ W u, Ext W0 W → Base K mg W s → mg c = some u → E u none σ W.H
  | .bad => False
def tS (K : PySem.W.Frag) (mg : Str → Option Value) (E : WX) (fr : Fr) (g : DS) : TS := fun T σ H =>
  ∃ (W0 W : Hw) (s : S) (ρ : List Sl), W.H = H ∧ SSt K mg W0 W s σ ρ ∧ PostS K mg E fr W0 (g ρ s) T
def Res.thenS {α : Type} (r : Res α) (k : α → S → Fl) : Fl :=
  match r with
  | .ok a s => k a s
  | .exc c s => .exc c s
  | .bad => .bad
section
variable {α β : Type} {K : PySem.W.Frag} {mg : Str → Option Value} {rel : Hw → Hw → β → α → Prop} {E : WX} {fr : Fr} {σ : L2.St} {W W0 : Hw} {s : S} {ρ : List Sl} {T : Ends}
theorem goS {f : List Sl → S → Res α} {k : α → S → Fl} (st : SSt K mg W0 W s σ ρ) (p : PostS K mg E fr W0 ((f ρ s).thenS k) T) :
    tX K mg rel E f σ W.H (fun x H1 => ∃ W1 s1 a, W1.H = H1 ∧ rel W W1 x a ∧ Ext W W1 ∧ SSt K mg W0 W1 s1 σ ρ ∧ PostS K mg E fr W0 (k a s1) T) := by
  refine ⟨W0, W, s, ρ, rfl, st, ?_⟩
  cases hf : f ρ s with
  | ok a s1 =>
    rw [hf] at p
    exact fun x W1 e B r => ⟨W1, s1, a, rfl, r, e, st.step e B, p⟩
  | exc c s1 =>
    rw [hf] at p
    exact fun W1 u e B hu => p σ W1 u (st.ext.trans st.base e) B hu
  | bad =>
    rw [hf] at p
    exact p.elim
/-! ### slots -/
theorem old_none (x : Ext W0 W) (B : Base K mg W s) {a : Addr} (h : W.H a = none) : W0.H a = none := by
  cases q : W0.H a with
  | none => rfl
  | some o =>
    by_cases m : a ∈ W0.τ
    · obtain ⟨l, el⟩ := x.tpre
      exact absurd h (B.tau_some (by rw [← el]; exact List.mem_append_left _ m))
    · exact absurd h (x.dom q m)
theorem own_tracked {W' : Hw} {x : Option V} {y : Sl} (h : SlOk K mg W0 W' x y) (o : y.isOwn = true) : ∃ a, x = some (.ref a) ∧ W'.H a ≠ none := by
  cases h with
  | emp => exact Bool.noConfusion o
  | dat r => exact Bool.noConfusion o
  | own q e r => exact ⟨_, rfl, by rw [e]; exact fun z => nomatch z⟩
  | ownK q e r => exact ⟨_, rfl, by rw [e]; exact fun z => nomatch z⟩
  | ownT q e r => exact ⟨_, rfl, by rw [e]; exact fun z => nomatch z⟩
  | fn _ _ => exact Bool.noConfusion o
/-- an own object is neither a table nor a code object -/
theorem own_plain {W' : Hw} {a : Addr} {y : Sl} (h : SlOk K mg W0 W' (some (.ref a)) y) (o : y.isOwn = true) : ∀ u, W'.H a = some u → (∀ ps, u ≠ .tbl ps) ∧ ∀ q, u ≠ LamX.CodeO a q := fun u hu => by
  cases h with
  | dat r => exact Bool.noConfusion o
  | emp => exact Bool.noConfusion o
  | own q e r => rw [e] at hu; cases hu; exact ⟨(fun _ z => nomatch z), (fun _ z => nomatch z)⟩
  | ownK q e r => rw [e] at hu; cases hu; exact ⟨(fun _ z => nomatch z), (fun _ z => nomatch z)⟩
  | ownT q e r => rw [e] at hu; cases hu; exact ⟨(fun _ z => nomatch z), (fun _ z => nomatch z)⟩
  | fn _ _ => exact Bool.noConfusion o
/-- a slot gets a new object of its own -/
theorem SSt.setOwn {W1 : Hw} {s1 : S} (h0 : SSt K mg W0 W s σ ρ) (h : SSt K mg W0 W1 s1 σ ρ) {a : Addr} {y : Sl} (n : W.H a = none) (r : SlOk K mg W0 W1 (some (.ref a)) y) (i : Nat) :
    SSt K mg W0 W1 s1 (σ.set i (some (.ref a))) (ρ.set i y) := by
  refine ⟨h.ext, h.base, by simp [h.len], fun j x z e1 e2 => ?_, fun j k b y1 z1 ne e1 e2 e3 e4 o1 o2 => ?_⟩
  · by_cases hj : j = i
    · subst hj
      have hl : j < σ.length := by
        by_cases q : j < σ.length
        · exact q
        · rw [List.getElem?_eq_none (by simpa using q)] at e1; cases e1
      rw [List.getElem?_set_self hl] at e1
      rw [List.getElem?_set_self (by rw [← h.len]; exact hl)] at e2
      cases e1; cases e2
      exact r
    · rw [List.getElem?_set_ne (Ne.symm hj)] at e1 e2
      exact h.sl j x z e1 e2
  · have other : ∀ (j : Nat) (b : Addr) (y1 : Sl), j ≠ i → (σ.set i (some (.ref a)))[j]? = some (some (.ref b)) → (ρ.set i y)[j]? = some y1 → y1.isOwn = true → b ≠ a := fun j b y1 nj e1 e3 o1 e => by
      rw [List.getElem?_set_ne (Ne.symm nj)] at e1 e3
      obtain ⟨c, ec, hc⟩ := own_tracked (h0.sl j _ _ e1 e3) o1
      cases ec
      rw [e] at hc
      exact hc n
    have self : ∀ (b : Addr), (σ.set i (some (.ref a)))[i]? = some (some (.ref b)) → b = a := fun b e => by
      rw [List.getElem?_set] at e
      simp only [if_true] at e
      split at e
      · cases e; rfl
      · cases e
    by_cases hj : j = i
    · subst hj
      have := self b e1
      exact other k b z1 (Ne.symm ne) e2 e4 o2 this
    · by_cases hk : k = i
      · subst hk
        have := self b e2
        exact other j b y1 hj e1 e3 o1 this
      · rw [List.getElem?_set_ne (Ne.symm hj)] at e1 e3
        rw [List.getElem?_set_ne (Ne.symm hk)] at e2 e4
        exact h.dist j k b y1 z1 ne e1 e2 e3 e4 o1 o2
/-- the object of a slot's own is changed -/
theorem SSt.mut (h : SSt K mg W0 W s σ ρ) {i : Nat} {a : Addr} {y y' : Sl} {o : HO} (e1 : σ[i]? = some (some (.ref a))) (e2 : ρ[i]? = some y) (ho : y.isOwn = true) (own : OwnAt W0 W a) (no : ∀ vs, o ≠ .tup vs)
    (r : SlOk K mg W0 ⟨upd W.H a o, W.G, W.τ⟩ (some (.ref a)) y') (ho' : y'.isOwn = true)(nt : ∀ ps, o ≠ .tbl ps := by exact fun _ z => nomatch z) : SSt K mg W0 ⟨upd W.H a o, W.G, W.τ⟩ s σ (ρ.set i y') := by
  have B := h.base
  have X0 := h.ext
  have nG : ∀ b x, W.G b = some x → b ≠ a := fun b x e z => by rw [z, own.frz] at e; cases e
  have pl := own_plain (h.sl i _ _ e1 e2) ho
  refine ⟨⟨fun b x e n => ?_, X0.grow, X0.out, X0.tpre, X0.tnew, fun t => tabs_upd pl (X0.tab t)⟩, ⟨fun b x e => ?_, fun b xs e => ?_, B.spc, B.nd, B.len, fun n c b h1 h2 => ?_, B.flt, tabs_upd pl B.tab, B.nog, all_upd nt B.all⟩, by simp [h.len], fun j x z q1 q2 => ?_, fun j k b y1 z1 ne q1 q2 q3 q4 o1 o2 => ?_⟩
  · have nb : b ≠ a := fun z : b = a => by rw [z, own.old] at e; cases e
    rcases X0.keep0 b x e n with z | ⟨ps, ps', z1, z2⟩
    · exact .inl ((upd_ne nb).trans z)
    · exact .inr ⟨ps, ps', z1, (upd_ne nb).trans z2⟩
  · exact (upd_ne (nG b x e)).trans (B.sub b x e)
  · have e' : upd W.H a o b = some (.tup xs) := e
    by_cases hb : b = a
    · rw [hb, upd_same] at e'
      exact absurd (Option.some.inj e') (no xs)
    · rw [upd_ne hb] at e'
      exact B.tupI b xs e'
  · have nb : b ≠ a := fun z => own.spc (z ▸ List.mem_of_getElem? h2)
    have q := B.cel n c b h1 h2
    cases c with
    | l ds =>
      obtain ⟨us, e, r⟩ := q
      exact ⟨us, (upd_ne nb).trans e, r⟩
    | o c fs =>
      obtain ⟨C, dx, us, e0, e, r⟩ := q
      exact ⟨C, dx, us, e0, (upd_ne nb).trans e, r⟩
    | d fs =>
      obtain ⟨us, e, r⟩ := q
      exact ⟨us, (upd_ne nb).trans e, r⟩
    | t fs =>
      obtain ⟨us, e, r⟩ := q
      exact ⟨us, (upd_ne nb).trans e, r⟩
    | b ns =>
      obtain ⟨us, e, r⟩ := q
      exact ⟨us, (upd_ne nb).trans e, r⟩
  · by_cases hj : j = i
    · subst hj
      rw [e1] at q1
      cases q1
      rw [List.getElem?_set_self (List.getElem?_eq_some_iff.mp e2).1] at q2
      cases q2
      exact r
    · rw [List.getElem?_set_ne (Ne.symm hj)] at q2
      have z0 := h.sl j x z q1 q2
      have nd : ∀ b, x = some (.ref b) → z.isOwn = true → b ≠ a := fun b ex oz eb => by
        subst ex eb
        exact h.dist j i b z y hj q1 e1 q2 e2 oz ho
      cases z0 with
      | emp => exact .emp
      | dat r => exact .dat r
      | own q e r => exact .own ⟨q.old, q.frz, q.spc⟩ ((upd_ne (nd _ rfl rfl)).trans e) r
      | ownK q e r => exact .ownK ⟨q.old, q.frz, q.spc⟩ ((upd_ne (nd _ rfl rfl)).trans e) r
      | ownT q e r => exact .ownT ⟨q.old, q.frz, q.spc⟩ ((upd_ne (nd _ rfl rfl)).trans e) r
      | fn h g => exact .fn h (g.upd fun q e => (pl _ e).2 q rfl)
  · have back : ∀ (j : Nat) (y1 : Sl), (ρ.set i y')[j]? = some y1 → y1.isOwn = true → ∃ y2, ρ[j]? = some y2 ∧ y2.isOwn = true := fun j y1 e o1 => by
      by_cases hj : j = i
      · subst hj; exact ⟨y, e2, ho⟩
      · rw [List.getElem?_set_ne (Ne.symm hj)] at e; exact ⟨y1, e, o1⟩
    obtain ⟨y2, f1, f2⟩ := back j y1 q3 o1
    obtain ⟨y3, f3, f4⟩ := back k z1 q4 o2
    exact h.dist j k b y2 y3 ne q1 q2 f1 f3 f2 f4
/-- a slot's own object is taken for data -/
theorem SSt.freeze (h : SSt K mg W0 W s σ ρ) {i : Nat} {a : Addr} {y : Sl} {o : HO} {d : D} (e1 : σ[i]? = some (some (.ref a))) (e2 : ρ[i]? = some y) (ho : y.isOwn = true) (own : OwnAt W0 W a) (no : ∀ vs, o ≠ .tup vs) (hH : W.H a = some o)
    (r : Rep K mg (upd W.G a o) W.τ (.ref a) d) : SSt K mg W0 ⟨W.H, upd W.G a o, W.τ⟩ s σ (ρ.set i (.dat d)) := by
  have B := h.base
  have X0 := h.ext
  have mono : Same W.G (upd W.G a o) := upd_new own.frz
  have pl := own_plain (h.sl i _ _ e1 e2) ho
  refine ⟨⟨X0.keep0, X0.grow.trans mono, fun b e => ?_, X0.tpre, X0.tnew, X0.tab⟩, B.freeze hH own.frz own.spc no (pl _ hH).1, by simp [h.len], fun j x z q1 q2 => ?_, fun j k b y1 z1 ne q1 q2 q3 q4 o1 o2 => ?_⟩
  · exact (upd_ne (fun z : b = a => e (z ▸ own.old))).trans (X0.out b e)
  · by_cases hj : j = i
    · subst hj
      rw [e1] at q1
      cases q1
      rw [List.getElem?_set_self (List.getElem?_eq_some_iff.mp e2).1] at q2
      cases q2
      exact .dat r
    · rw [List.getElem?_set_ne (Ne.symm hj)] at q2
      have z0 := h.sl j x z q1 q2
      have nd : ∀ b, x = some (.ref b) → z.isOwn = true → b ≠ a := fun b ex oz eb => by
        subst ex eb
        exact h.dist j i b z y hj q1 e1 q2 e2 oz ho
      cases z0 with
      | emp => exact .emp
      | dat r => exact .dat (r.mono mono (List.prefix_refl _))
      | own q e r => exact .own ⟨q.old, (upd_ne (nd _ rfl rfl)).trans q.frz, q.spc⟩ e (r.mono mono (List.prefix_refl _))
      | ownK q e r => exact .ownK ⟨q.old, (upd_ne (nd _ rfl rfl)).trans q.frz, q.spc⟩ e (r.mono mono (List.prefix_refl _))
      | ownT q e r => exact .ownT ⟨q.old, (upd_ne (nd _ rfl rfl)).trans q.frz, q.spc⟩ e (r.mono mono (List.prefix_refl _))
      | fn h g => exact .fn h (g.frz mono)
  · have back : ∀ (j : Nat) (y1 : Sl), (ρ.set i (.dat d))[j]? = some y1 → y1.isOwn = true → ρ[j]? = some y1 := fun j y1 e o1 => by
      by_cases hj : j = i
      · subst hj
        rw [List.getElem?_set_self (List.getElem?_eq_some_iff.mp e2).1] at e
        cases e
        exact Bool.noConfusion o1
      · rw [List.getElem?_set_ne (Ne.symm hj)] at e; exact e
    exact h.dist j k b y1 z1 ne q1 q2 (back j y1 q3 o1) (back k z1 q4 o2) o1 o2
end
theorem set_self {α : Type} : ∀ {l : List α} {i : Nat} {x : α}, l[i]? = some x → l.set i x = l
  | [], _, _, h => by simp at h
  | a :: l, 0, x, h => by simp at h; subst h; rfl
  | a :: l, i + 1, x, h => by rw [List.set_cons_succ, set_self (by simpa using h)]
/-- an own slot as data -/
def frzSl : Sl → Sl
  | .own ds => .dat (.lst ds)
  | .ownD _ kvs => .dat (.dct kvs)
  | y => y
def frzAt (i : Nat) (ρ : List Sl) : List Sl := match ρ[i]? with
  | some y => ρ.set i (frzSl y)
  | none => ρ
section
variable {K : PySem.W.Frag} {mg : Str → Option Value} {σ : L2.St} {W W0 : Hw} {s : S} {ρ : List Sl}
/-- the frozen state: the own object's address and what it is -/
theorem SSt.frz (h : SSt K mg W0 W s σ ρ) (i : Nat) : SSt K mg W0 W s σ (frzAt i ρ) ∨ ∃ a o, W.H a = some o ∧ OwnAt W0 W a ∧ (∀ vs, o ≠ .tup vs) ∧ SSt K mg W0 ⟨W.H, upd W.G a o, W.τ⟩ s σ (frzAt i ρ) := by
  unfold frzAt
  cases e2 : ρ[i]? with
  | none => exact .inl h
  | some y =>
    have hl : i < σ.length := by rw [h.len]; exact (List.getElem?_eq_some_iff.mp e2).1
    have e1 : σ[i]? = some σ[i] := List.getElem?_eq_getElem hl
    have z := h.sl i _ _ e1 e2
    cases y with
    | emp =>
      refine .inl ?_
      have : ρ.set i (frzSl .emp) = ρ := by rw [show frzSl .emp = .emp from rfl]; exact set_self e2
      show SSt K mg W0 W s σ (ρ.set i (frzSl .emp))
      rw [this]; exact h
    | dat d =>
      refine .inl ?_
      have : ρ.set i (frzSl (.dat d)) = ρ := set_self e2
      show SSt K mg W0 W s σ (ρ.set i (frzSl (.dat d)))
      rw [this]; exact h
    | fn n tl =>
      refine .inl ?_
      have : ρ.set i (frzSl (.fn n tl)) = ρ := set_self e2
      show SSt K mg W0 W s σ (ρ.set i (frzSl (.fn n tl)))
      rw [this]; exact h
    | own ds =>
      generalize hx : σ[i] = x at e1 z
      cases z with
      | own q e r =>
        refine .inr ⟨_, _, e, q, (fun _ z => nomatch z), h.freeze e1 e2 rfl q (fun _ z => nomatch z) e (.lst upd_same (r.mono (upd_new q.frz) (List.prefix_refl _)))⟩
    | ownD t kvs =>
      generalize hx : σ[i] = x at e1 z
      cases z with
      | ownK q e r => exact .inr ⟨_, _, e, q, (fun _ z => nomatch z), h.freeze e1 e2 rfl q (fun _ z => nomatch z) e (.dK upd_same (r.mono (upd_new q.frz) (List.prefix_refl _)))⟩
      | ownT q e r => exact .inr ⟨_, _, e, q, (fun _ z => nomatch z), h.freeze e1 e2 rfl q (fun _ z => nomatch z) e (.dT upd_same (r.mono (upd_new q.frz) (List.prefix_refl _)))⟩
end
/-! ### statements -/
def sSkip : DS := fun ρ s => .next ρ s
def sSeq (g h : DS) : DS := fun ρ s => match g ρ s with
  | .next ρ1 s1 => h ρ1 s1
  | .ret d s1 => .ret d s1
  | .brk ρ1 s1 => .brk ρ1 s1
  | .cont ρ1 s1 => .cont ρ1 s1
  | .exc c s1 => .exc c s1
  | .bad => .bad
def sSet (i : Nat) (f : DE) : DS := fun ρ s => (f ρ s).thenS fun d s1 => .next (ρ.set i (.dat d)) s1
def sOwn (i : Nat) (f : DE) : DS := fun ρ s => (f ρ s).thenS fun d s1 => match d with
  | .lst ds => .next (ρ.set i (.own ds)) s1
  | _ => .bad
def sRet (f : DE) : DS := fun ρ s => (f ρ s).thenS fun d s1 => .ret d s1
def sExpr (f : DE) : DS := fun ρ s => (f ρ s).thenS fun _ s1 => .next ρ s1
def sIf (c : DT) (g h : DS) : DS := fun ρ s => (c ρ s).thenS fun b s1 => if b then g ρ s1 else h ρ s1
def sBrk : DS := fun ρ s => .brk ρ s
def sCont : DS := fun ρ s => .cont ρ s
/-- ahead of a statement the own object of a slot is taken for data -/
def sFrz (i : Nat) (g : DS) : DS := fun ρ s => g (frzAt i ρ) s
section
variable {X : Cx} {st : Stmt} {rest : List Stmt} {g h : DS} {f : DE} {c : DT} {e : Expr} {E : WX} {fr : Fr} {pos : Pos}
abbrev QS (X : Cx) (E : WX) (fr : Fr) (st : Stmt) (g : DS) : Prop := PS X st (tS X.K X.mg E fr g)
abbrev QSs (X : Cx) (E : WX) (fr : Fr) (st : List Stmt) (g : DS) : Prop := PSs X st (tS X.K X.mg E fr g)
theorem s_nil : QSs X E fr [] sSkip := PSs.mono pss_nil fun σ H T z => by
  obtain ⟨W0, W, s, ρ, rfl, st, z⟩ := z
  exact z σ W st
theorem s_cons (h1 : QS X E fr st g) (h2 : QSs X E fr rest h) : QSs X E fr (st :: rest) (sSeq g h) := PSs.mono (pss_cons h1 h2) fun σ H T z => by
  obtain ⟨W0, W, s, ρ, rfl, st, z⟩ := z
  refine ⟨W0, W, s, ρ, rfl, st, ?_⟩
  unfold sSeq at z
  cases hg : g ρ s with
  | next ρ1 s1 => rw [hg] at z; exact fun σ1 W1 st1 => ⟨W0, W1, s1, ρ1, rfl, st1, z⟩
  | ret d s1 => rw [hg] at z; exact z
  | brk ρ1 s1 => rw [hg] at z; exact z
  | cont ρ1 s1 => rw [hg] at z; exact z
  | exc c s1 => rw [hg] at z; exact z
  | bad => rw [hg] at z; exact z
theorem s_one (h1 : QS X E fr st g) : QSs X E fr [st] g := pss_one h1
theorem s_set {i : Nat} {x : Str} {pos' : Pos} (he : PE X e (tE X.K X.mg E f)) (hN : X.N.Nodup) (hi : X.N[i]? = some x := by rfl) (hx : Loc X.env.scope x := by first | exact Or.inl rfl | exact Or.inr rfl) (hs : swapsWith e (some (.Name x pos')) pos.line X.env = pure false := by rfl)
    (hf : X.fn x = true ∨ X.env.scope.names.lookup x = some .local := by first | exact .inl rfl | exact .inr rfl) : QS X E fr (.Assign [.Name x pos'] e pos) (sSet i f) := PS.mono (ps_set (i := i) hN hi hx he hs hf) fun σ H T z => by
  obtain ⟨W0, W, s, ρ, rfl, st, z⟩ := z
  refine (goS st z).imp fun x H1 ⟨W1, s1, d1, e1, r1, x1, st1, z1⟩ => ?_
  subst e1
  exact z1 _ W1 (st1.setDat r1 i)
theorem s_own {i : Nat} {x : Str} {pos' : Pos} (he : PE X e (tF X.K X.mg E f)) (hN : X.N.Nodup) (hi : X.N[i]? = some x := by rfl) (hx : Loc X.env.scope x := by first | exact Or.inl rfl | exact Or.inr rfl) (hs : swapsWith e (some (.Name x pos')) pos.line X.env = pure false := by rfl)
    (hf : X.fn x = true ∨ X.env.scope.names.lookup x = some .local := by first | exact .inl rfl | exact .inr rfl) : QS X E fr (.Assign [.Name x pos'] e pos) (sOwn i f) := PS.mono (ps_set (i := i) hN hi hx he hs hf) fun σ H T z => by
  obtain ⟨W0, W, s, ρ, rfl, st, z⟩ := z
  refine (goS st z).imp fun x H1 ⟨W1, s1, d1, e1, r1, x1, st1, z1⟩ => ?_
  subst e1
  obtain ⟨a, vs, ds, rfl, rfl, n0, nG, nt, eH, rv⟩ := r1
  exact z1 _ W1 (st.setOwn st1 n0 (.own ⟨old_none st.ext st.base n0, nG, nt⟩ eH rv) i)
theorem s_ret (he : PE X e (tE X.K X.mg E f)) : QS X E false (.Return (some e) pos) (sRet f) := PS.mono (ps_ret he) fun σ H T z => by
  obtain ⟨W0, W, s, ρ, rfl, st, z⟩ := z
  refine (goS st z).imp fun x H1 ⟨W1, s1, d1, e1, r1, x1, st1, z1⟩ => ?_
  subst e1
  exact z1 x W1 st1.ext st1.base r1
/-- return of an own list's name, in a def that hands out new lists -/
def sRetOwn (i : Nat) : DS := fun ρ s => match ρ[i]? with
  | some (.own ds) => .ret (.lst ds) s
  | _ => .bad
theorem s_if {ce : Expr} {a b : List Stmt} (hc : PT X ce (tT X.K X.mg E c)) (ha : QSs X E fr a g) (hb : QSs X E fr b h) : QS X E fr (.If ce a b pos) (sIf c g h) := PS.mono (ps_if hc ha hb) fun σ H T z => by
  obtain ⟨W0, W, s, ρ, rfl, st, z⟩ := z
  refine (goS st z).imp fun x H1 ⟨W1, s1, d1, e1, r1, x1, st1, z1⟩ => ?_
  subst e1
  cases (show x = d1 from r1)
  cases x with
  | true => exact iteT ⟨W0, W1, s1, ρ, rfl, st1, z1⟩
  | false => exact iteF ⟨W0, W1, s1, ρ, rfl, st1, z1⟩
end
end DL
namespace DL
open PySem PySem.Spec PyProof.Rows L2
variable [LT : LawT] [TC : TellC]
/-! ### an own object read within an expression whose result does not hang on it -/
def bor {α : Type} (good : α → Bool) (i : Nat) (f : List Sl → S → Res α) : List Sl → S → Res α := fun ρ s => (f (frzAt i ρ) s).bind fun d s1 => if good d then .ok d s1 else .bad
section
variable {K : PySem.W.Frag} {mg : Str → Option Value} {σ : L2.St} {W W0 W' : Hw} {s s' : S} {ρ : List Sl} {a : Addr} {o : HO}
/-- behind the borrowing -/
theorem unborrow (B : Base K mg W s) (hH : W.H a = some o) (q : OwnAt W0 W a) (no : ∀ vs, o ≠ .tup vs) (nf : ∀ u vs, o ≠ .frz u (.tup vs)) (e : Ext ⟨W.H, upd W.G a o, W.τ⟩ W') (B' : Base K mg W' s') :
    Ext W ⟨W'.H, less W'.G a, W'.τ⟩ ∧ Base K mg ⟨W'.H, less W'.G a, W'.τ⟩ s' ∧ (∀ v d, Rep K mg W'.G W'.τ v d → flat d = true → Rep K mg (less W'.G a) W'.τ v d) ∧ (∀ vs ds, RepAll K mg W'.G W'.τ vs ds → flats ds = true → RepAll K mg (less W'.G a) W'.τ vs ds) := by
  have hG' : W'.G a = some o := e.grow a o upd_same
  have hH' : W'.H a = some o := e.keep a o hH q.spc fun ps z => B'.nog a ps (by rw [hG', z])
  have n : ∀ x, W'.G a = some x → (∀ ys, x ≠ .tup ys) ∧ ∀ u ys, x ≠ .frz u (.tup ys) := fun x hx => by
    rw [hG'] at hx
    cases hx
    exact ⟨no, nf⟩
  have hr : ∀ v d, Rep K mg W'.G W'.τ v d → flat d = true → Rep K mg (less W'.G a) W'.τ v d := fun v d r f => r.less n f
  have hrs : ∀ vs ds, RepAll K mg W'.G W'.τ vs ds → flats ds = true → RepAll K mg (less W'.G a) W'.τ vs ds := fun v d r f => r.less n f
  have ng : ∀ b ps, less W'.G a b ≠ some (.tbl ps) := fun b ps h' => by
    by_cases nb : b = a
    · rw [nb, less_same] at h'; cases h'
    · rw [less_ne nb] at h'; exact B'.nog b ps h'
  refine ⟨⟨e.keep0, fun b x h => ?_, fun b h => ?_, e.tpre, e.tnew, e.tab⟩, ⟨fun b x h => ?_, fun b xs h => ?_, fun b m => ?_, B'.nd, B'.len, fun k c b h1 h2 => ?_, B'.flt, B'.tab, ng, B'.all⟩, hr, hrs⟩
  · have nb : b ≠ a := fun z => by rw [z, q.frz] at h; cases h
    exact (less_ne nb).trans (e.grow b x ((upd_ne nb).trans h))
  · by_cases nb : b = a
    · rw [nb]; exact less_same.trans q.frz.symm
    · exact (less_ne nb).trans ((e.out b h).trans (upd_ne nb))
  · have h' : less W'.G a b = some x := h
    by_cases nb : b = a
    · rw [nb, less_same] at h'; cases h'
    · rw [less_ne nb] at h'; exact B'.sub b x h'
  · have nb : b ≠ a := fun z => by
      have h' : W'.H b = some (.tup xs) := h
      rw [z, hH'] at h'
      exact no xs (Option.some.inj h')
    exact (less_ne nb).trans (B'.tupI b xs h)
  · by_cases nb : b = a
    · rw [nb]; exact less_same
    · exact (less_ne nb).trans (B'.spc b m)
  · have z := B'.cel k c b h1 h2
    have f := B'.flt c (List.mem_of_getElem? h1)
    cases c with
    | l ds =>
      obtain ⟨us, e1, r⟩ := z
      exact ⟨us, e1, hrs _ _ r f⟩
    | o c fs =>
      obtain ⟨C, dx, us, e0, e1, r⟩ := z
      exact ⟨C, dx, us, e0, e1, hrs _ _ r f⟩
    | d fs =>
      obtain ⟨us, e1, r⟩ := z
      exact ⟨us, e1, hrs _ _ r f⟩
    | t fs =>
      obtain ⟨us, e1, r⟩ := z
      exact ⟨us, e1, hrs _ _ r f⟩
    | b ns =>
      obtain ⟨us, e1, r⟩ := z
      exact ⟨us, e1, r⟩
/-- what the frozen object is -/
theorem SSt.frz' (h : SSt K mg W0 W s σ ρ) (i : Nat) : SSt K mg W0 W s σ (frzAt i ρ) ∨ ∃ a o, W.H a = some o ∧ OwnAt W0 W a ∧ (∀ vs, o ≠ .tup vs) ∧ (∀ u vs, o ≠ .frz u (.tup vs)) ∧ SSt K mg W0 ⟨W.H, upd W.G a o, W.τ⟩ s σ (frzAt i ρ) := by
  unfold frzAt
  cases e2 : ρ[i]? with
  | none => exact .inl h
  | some y =>
    have hl : i < σ.length := by rw [h.len]; exact (List.getElem?_eq_some_iff.mp e2).1
    have e1 : σ[i]? = some σ[i] := List.getElem?_eq_getElem hl
    have z := h.sl i _ _ e1 e2
    cases y with
    | emp =>
      refine .inl ?_
      have : ρ.set i (frzSl .emp) = ρ := set_self e2
      show SSt K mg W0 W s σ (ρ.set i (frzSl .emp))
      rw [this]; exact h
    | dat d =>
      refine .inl ?_
      have : ρ.set i (frzSl (.dat d)) = ρ := set_self e2
      show SSt K mg W0 W s σ (ρ.set i (frzSl (.dat d)))
      rw [this]; exact h
    | fn n tl =>
      refine .inl ?_
      have : ρ.set i (frzSl (.fn n tl)) = ρ := set_self e2
      show SSt K mg W0 W s σ (ρ.set i (frzSl (.fn n tl)))
      rw [this]; exact h
    | own ds =>
      generalize hx : σ[i] = x at e1 z
      cases z with
      | own q e r =>
        exact .inr ⟨_, _, e, q, (fun _ z => nomatch z), (fun _ _ z => nomatch z), h.freeze e1 e2 rfl q (fun _ z => nomatch z) e (.lst upd_same (r.mono (upd_new q.frz) (List.prefix_refl _)))⟩
    | ownD t kvs =>
      generalize hx : σ[i] = x at e1 z
      cases z with
      | ownK q e r => exact .inr ⟨_, _, e, q, (fun _ z => nomatch z), (fun _ _ z => nomatch z), h.freeze e1 e2 rfl q (fun _ z => nomatch z) e (.dK upd_same (r.mono (upd_new q.frz) (List.prefix_refl _)))⟩
      | ownT q e r => exact .inr ⟨_, _, e, q, (fun _ z => nomatch z), (fun _ _ z => nomatch z), h.freeze e1 e2 rfl q (fun _ z => nomatch z) e (.dT upd_same (r.mono (upd_new q.frz) (List.prefix_refl _)))⟩
/-- the rule, whatever the relation, if it survives -/
theorem bor_ok {α β : Type} {rel : Hw → Hw → β → α → Prop} {E : WX} {good : α → Bool} {i : Nat} {f : List Sl → S → Res α} {H : Hp} {Q : β → Hp → Prop}
    (keep : ∀ (W W' : Hw) (a : Addr) (o : HO) (G' : Hp) (s : S) x d, W.H a = some o → Ext W ⟨W'.H, less W'.G a, W'.τ⟩ → (∀ v d, Rep K mg W'.G W'.τ v d → flat d = true → Rep K mg (less W'.G a) W'.τ v d) → (∀ vs ds, RepAll K mg W'.G W'.τ vs ds → flats ds = true → RepAll K mg (less W'.G a) W'.τ vs ds) →
      good d = true → rel ⟨W.H, upd W.G a o, W.τ⟩ W' x d → rel W ⟨W'.H, less W'.G a, W'.τ⟩ x d)
    (h : tX K mg rel E (bor good i f) σ H Q) : tX K mg rel E f σ H Q := by
  obtain ⟨W0, W, s, ρ, rfl, st, p⟩ := h
  unfold bor at p
  rcases st.frz' i with st1 | ⟨a, o, hH, own, no, nf, st1⟩
  · refine ⟨W0, W, s, _, rfl, st1, ?_⟩
    cases hf : f (frzAt i ρ) s with
    | ok d s1 =>
      rw [hf] at p
      simp only [Res.bind] at p
      split at p
      · exact p
      · exact p.elim
    | exc c s1 => rw [hf] at p; exact p
    | bad => rw [hf] at p; exact p
  · refine ⟨W0, ⟨W.H, upd W.G a o, W.τ⟩, s, _, rfl, st1, ?_⟩
    cases hf : f (frzAt i ρ) s with
    | ok d s1 =>
      rw [hf] at p
      simp only [Res.bind] at p
      split at p
      · rename_i hg
        intro x W1 e B r
        obtain ⟨e2, B2, hr, hrs⟩ := unborrow st.base hH own no nf e B
        exact p x ⟨W1.H, less W1.G a, W1.τ⟩ e2 B2 (keep W W1 a o W1.G s1 x d hH e2 hr hrs hg r)
      · exact p.elim
    | exc c s1 =>
      rw [hf] at p
      intro W1 u e B hu
      obtain ⟨e2, B2, _, _⟩ := unborrow st.base hH own no nf e B
      exact p ⟨W1.H, less W1.G a, W1.τ⟩ u e2 B2 hu
    | bad => rw [hf] at p; exact p.elim
end
def flatB : Bool → Bool := fun _ => true
section
variable {X : Cx} {e : Expr} {f : DE} {c : DT} {E : WX}
theorem e_bor (i : Nat) (h : PE X e (tE X.K X.mg E f)) : PE X e (tE X.K X.mg E (bor flat i f)) := PE.mono h fun σ H Q z => bor_ok (fun W W' a o G' s x d _ _ hr _ g r => hr _ _ r g) z
end
/-! ### own lists changed -/
def ownAt (i : Nat) (ρ : List Sl) (k : List D → Fl) : Fl := match ρ[i]? with
  | some (.own ds) => k ds
  | _ => .bad
def sApp (i : Nat) (f : DE) : DS := fun ρ s => ownAt i ρ fun ds => (f ρ s).thenS fun d s1 => if ds.length < 16777216 then .next (ρ.set i (.own (ds ++ [d]))) s1 else .bad
def sExt (i : Nat) (f : DE) : DS := fun ρ s => ownAt i ρ fun ds => (f ρ s).thenS fun d s1 => match d with
  | .lst es => if ds.length + es.length ≤ 16777216 then .next (ρ.set i (.own (ds ++ es))) s1 else .bad
  | _ => .bad
def sRev (i : Nat) : DS := fun ρ s => ownAt i ρ fun ds => .next (ρ.set i (.own ds.reverse)) s
def sClr (i : Nat) : DS := fun ρ s => ownAt i ρ fun _ => .next (ρ.set i (.own [])) s
def sPut (i : Nat) (fi fv : DE) : DS := fun ρ s => ownAt i ρ fun ds => (fv ρ s).thenS fun d s1 => (fi ρ s1).thenS fun k s2 => match k with
  | .int z => match ixN ds.length z with
    | some j => .next (ρ.set i (.own (ds.set j d))) s2
    | none => .bad
  | _ => .bad
def dropAt (ds : List D) (z : Int) : Option (D × List D) := match seqIndex? z ds.length with
  | some k => match ds[k]? with
    | some d => some (d, ds.eraseIdx k)
    | none => none
  | none => none
/-- x.pop(e), the value left -/
def sPopI (i : Nat) (f : DE) : DS := fun ρ s => ownAt i ρ fun ds => (f ρ s).thenS fun d s1 => match d with
  | .int z => if -(2 ^ 63) ≤ z ∧ z < 2 ^ 63 then (match dropAt ds z with
    | some (_, es) => .next (ρ.set i (.own es)) s1
    | none => .bad) else .bad
  | _ => .bad
section
variable {K : PySem.W.Frag} {mg : Str → Option Value} {E : WX} {fr : Fr} {σ : L2.St} {W W0 : Hw} {s : S} {ρ : List Sl} {T : Ends}
theorem ownAt_inv {i : Nat} {k : List D → Fl} (st : SSt K mg W0 W s σ ρ) (p : PostS K mg E fr W0 (ownAt i ρ k) T) :
    ∃ a vs ds, σ[i]? = some (some (.ref a)) ∧ ρ[i]? = some (.own ds) ∧ OwnAt W0 W a ∧ W.H a = some (.lst vs) ∧ RepAll K mg W.G W.τ vs ds ∧ PostS K mg E fr W0 (k ds) T := by
  unfold ownAt at p
  cases hr : ρ[i]? with
  | none => rw [hr] at p; exact p.elim
  | some y =>
    rw [hr] at p
    cases y with
    | own ds =>
      have hl : i < σ.length := by rw [st.len]; exact (List.getElem?_eq_some_iff.mp hr).1
      have q := st.sl i _ _ (List.getElem?_eq_getElem hl) hr
      generalize hx : σ[i] = x at q
      cases q with
      | own o e r => exact ⟨_, _, ds, by rw [List.getElem?_eq_getElem hl, hx], rfl, o, e, r, p⟩
    | dat d => exact p.elim
    | emp => exact p.elim
    | ownD t kvs => exact p.elim
    | fn n tl => exact p.elim
/-- the new content -/
theorem SSt.newC (st : SSt K mg W0 W s σ ρ) {i : Nat} {a : Addr} {vs vs' : List V} {ds ds' : List D} (e1 : σ[i]? = some (some (.ref a))) (e2 : ρ[i]? = some (.own ds)) (o : OwnAt W0 W a) (eH : W.H a = some (.lst vs)) (r : RepAll K mg W.G W.τ vs' ds') :
    SSt K mg W0 ⟨upd W.H a (.lst vs'), W.G, W.τ⟩ s σ (ρ.set i (.own ds')) :=
  st.mut e1 e2 rfl o (fun _ z => nomatch z) (.own ⟨o.old, o.frz, o.spc⟩ upd_same r) rfl
end
section
variable {X : Cx} {e : Expr} {f fi fv : DE} {E : WX} {fr : Fr} {pos apos cpos : Pos}
/-- the receiver's facts -/
theorem tyL {W : Hw} {a : Addr} {vs : List V} (h : W.H a = some (.lst vs)) : tyV X.K "list" (.ref a) W.H := Or.inl ⟨rfl, _, .of h⟩
theorem s_app (i : Nat) {x : Str} {p2 : Pos} (he : PE X e (tE X.K X.mg E f)) (hN : X.N[i]? = some x := by rfl) (hv : Vis X.env.scope x := by first | exact Or.inl rfl | exact Or.inr (Or.inl rfl) | exact Or.inr (Or.inr rfl)) (hd : (x == ("__debug__" : Str)) = false := by decide)
    (hcd : (x == ("__classdict__" : Str)) = false := by decide)
    (hbase : attributeBase (.Name x p2) "append" X.env (eval (.Name x p2) X.env) = eval (.Name x p2) X.env := by rfl)
    (hfew : ((backTo cpos (starEach [e] X.env)).all (fun x => !x.1) && (backToKw cpos (keywordEach [] X.env)).all (fun x => x.1.isSome) && decide (([e] : List Expr).length + ([] : List Keyword).length + (if ([] : List Keyword).isEmpty then 0 else 1) < 30)) = true := by rfl)
    (hline : (apos.endLine == cpos.line) = true := by rfl) (hs : starEach [e] X.env = (false, eval e X.env) :: starEach [] X.env := by rfl) (hplain : (backTo cpos (starEach [] X.env)).any (·.1) = false := by rfl)
    (hsw : swapsWith (.Call (.Attribute (.Name x p2) "append" apos) [e] [] cpos) none pos.line X.env = pure false := by rfl) :
    QS X E fr (.Expr (.Call (.Attribute (.Name x p2) "append" apos) [e] [] cpos) pos) (sApp i f) := by
  refine PS.mono (ps_expr (pe_bm PySem.F.plainAttrs_list PySem.F.slot_list_append PySem.F.type_list_append mt_append (pv i hN hv hd hcd) (pa_cons he pa_nil hs) hbase hfew hline hs hplain) hsw) fun σ H T z => ?_
  obtain ⟨W0, W, s, ρ, rfl, st, z⟩ := z
  obtain ⟨a, vs, ds, h1, h2, h3, h4, h5, z⟩ := ownAt_inv st z
  refine ⟨_, h1, tyL h4, (goS st z).imp fun y H1 ⟨W1, s1, d1, e1, r1, x1, st1, z1⟩ => ?_⟩
  subst e1
  have g4 : W1.H a = some (.lst vs) := x1.keep a _ h4 h3.spc
  have g3 : OwnAt W0 W1 a := h3.ext x1 (by rw [h4]; exact fun z => nomatch z)
  have g5 := RepAll.ext x1 h5
  split at z1
  · refine ⟨a, vs, y, rfl, rfl, g4, ?_, z1 σ _ (st1.newC h1 h2 g3 g4 (g5.snoc r1))⟩
    rw [g5.length, sizeLine_eq]; assumption
  · exact z1.elim
end
end DL
namespace DL
open PySem PySem.Spec PyProof.Rows L2
variable [LT : LawT] [TC : TellC]
/-! ### the base moved on within a def -/
section
variable {K : PySem.W.Frag} {mg : Str → Option Value} {E : WX} {fr : Fr} {σ : L2.St} {W W1 W0 : Hw} {s : S} {ρ : List Sl} {T T' : Ends}
abbrev Hw.on (W0 W1 : Hw) : Hw := ⟨W0.H, W1.G, W1.τ⟩
theorem Ext.on (x : Ext W0 W1) (e : Ext (W0.on W1) W) : Ext W0 W := by
  refine ⟨fun b o h n => ?_, x.grow.trans e.grow, fun b h => (e.out b h).trans (x.out b h), x.tpre.trans e.tpre, fun b h n => ?_, e.tab⟩
  · refine e.keep0 b o h fun m => ?_
    have := x.tnew b m n
    rw [h] at this; cases this
  · by_cases m : b ∈ W1.τ
    · exact x.tnew b m n
    · exact e.tnew b h m
theorem SlOk.on {x : Option V} {y : Sl} (h : SlOk K mg W0 W x y) : SlOk K mg (W0.on W1) W x y := by
  cases h with
  | emp => exact .emp
  | dat r => exact .dat r
  | own o e r => exact .own ⟨o.old, o.frz, o.spc⟩ e r
  | ownK o e r => exact .ownK ⟨o.old, o.frz, o.spc⟩ e r
  | ownT o e r => exact .ownT ⟨o.old, o.frz, o.spc⟩ e r
  | fn h g => exact .fn h g
theorem SlOk.off {x : Option V} {y : Sl} (h : SlOk K mg (W0.on W1) W x y) : SlOk K mg W0 W x y := by
  cases h with
  | emp => exact .emp
  | dat r => exact .dat r
  | own o e r => exact .own ⟨o.old, o.frz, o.spc⟩ e r
  | ownK o e r => exact .ownK ⟨o.old, o.frz, o.spc⟩ e r
  | ownT o e r => exact .ownT ⟨o.old, o.frz, o.spc⟩ e r
  | fn h g => exact .fn h g
theorem SSt.on (h : SSt K mg W0 W s σ ρ) : SSt K mg (W0.on W) W s σ ρ := by
  refine ⟨⟨fun b o e n => ?_, fun _ _ e => e, fun _ _ => rfl, List.prefix_refl _, fun _ m n => absurd m n, h.ext.tab⟩, h.base, h.len, fun i x y e1 e2 => (h.sl i x y e1 e2).on, h.dist⟩
  refine h.ext.keep0 b o e fun m => n ?_
  obtain ⟨l, el⟩ := h.ext.tpre
  show b ∈ W.τ
  rw [← el]
  exact List.mem_append_left _ m
theorem SSt.off (x : Ext W0 W1) (h : SSt K mg (W0.on W1) W s σ ρ) : SSt K mg W0 W s σ ρ := ⟨x.on h.ext, h.base, h.len, fun i x y e1 e2 => (h.sl i x y e1 e2).off, h.dist⟩
theorem PostS.on {g : Fl} (x : Ext W0 W1) (p : PostS K mg E fr W0 g T) : PostS K mg E fr (W0.on W1) g T := by
  cases g with
  | next ρ s => exact fun σ W st => p σ W (st.off x)
  | brk ρ s => exact fun σ W st => p σ W (st.off x)
  | cont ρ s => exact fun σ W st => p σ W (st.off x)
  | ret d s =>
    refine fun v W e B r => p v W (x.on e) B ?_
    cases fr with
    | no => exact r
    | yes => exact r
    | pl => exact r
    | pd =>
      obtain ⟨p, v1, a, x1, kvs, vs, h1, h2, h3, h4, o, h5, h6⟩ := r
      exact ⟨p, v1, a, x1, kvs, vs, h1, h2, h3, h4, ⟨o.old, o.frz, o.spc⟩, h5, h6⟩
  | exc c s => exact fun σ W u e B hu => p σ W u (x.on e) B hu
  | bad => exact p
end
/-! ### slots forgotten -/
def wipeD (ρ : List Sl) : List Nat → List Sl
  | [] => ρ
  | v :: vs => (wipeD ρ vs).set v .emp
section
variable {K : PySem.W.Frag} {mg : Str → Option Value} {σ : L2.St} {W W0 : Hw} {s : S} {ρ : List Sl}
theorem SSt.clears (h : SSt K mg W0 W s σ ρ) : ∀ vs : List Nat, SSt K mg W0 W s σ (wipeD ρ vs)
  | [] => h
  | v :: vs => (h.clears vs).clear v
theorem SSt.wipe1 (h : SSt K mg W0 W s σ ρ) (i : Nat) : SSt K mg W0 W s (σ.set i none) (ρ.set i .emp) := by
  refine ⟨h.ext, h.base, by simp [h.len], fun j x y e1 e2 => ?_, fun j k a y z ne e1 e2 e3 e4 o1 o2 => ?_⟩
  · by_cases hj : j = i
    · subst hj
      rw [List.getElem?_set] at e2
      simp only [if_true] at e2
      split at e2
      · cases e2; exact .emp
      · cases e2
    · rw [List.getElem?_set_ne (Ne.symm hj)] at e1 e2
      exact h.sl j x y e1 e2
  · have go : ∀ (j : Nat) y, (ρ.set i .emp)[j]? = some y → y.isOwn = true → j ≠ i := fun j y e o q => by
      subst q
      rw [List.getElem?_set] at e
      simp only [if_true] at e
      split at e
      · cases e; exact Bool.noConfusion o
      · cases e
    have n1 := go j y e3 o1
    have n2 := go k z e4 o2
    rw [List.getElem?_set_ne (Ne.symm n1)] at e1 e3
    rw [List.getElem?_set_ne (Ne.symm n2)] at e2 e4
    exact h.dist j k a y z ne e1 e2 e3 e4 o1 o2
theorem SSt.wipes (h : SSt K mg W0 W s σ ρ) : ∀ vs : List Nat, SSt K mg W0 W s (wipe σ vs) (wipeD ρ vs)
  | [] => h
  | v :: vs => (h.wipes vs).wipe1 v
end
/-! ### targets of names -/
abbrev DG := D → List Sl → Option (List Sl)
def PG' (K : PySem.W.Frag) (mg : Str → Option Value) (vs : List Nat) (g : DG) : TG := fun v σ H Q =>
  ∃ (W0 W : Hw) (s : S) (ρ : List Sl) (d : D) (ρ' : List Sl), W.H = H ∧ SSt K mg W0 W s σ ρ ∧ Rep K mg W.G W.τ v d ∧ g d ρ = some ρ' ∧ ∀ σ', wipe σ' vs = wipe σ vs → SSt K mg W0 W s σ' ρ' → Q σ' W.H
def PGs' (K : PySem.W.Frag) (mg : Str → Option Value) (vs : List Nat) (g : List D → List Sl → Option (List Sl)) : TGs := fun us σ H Q =>
  ∃ (W0 W : Hw) (s : S) (ρ : List Sl) (ds : List D) (ρ' : List Sl), W.H = H ∧ SSt K mg W0 W s σ ρ ∧ RepAll K mg W.G W.τ us ds ∧ g ds ρ = some ρ' ∧ ∀ σ', wipe σ' vs = wipe σ vs → SSt K mg W0 W s σ' ρ' → Q σ' W.H
def gN (i : Nat) : DG := fun d ρ => some (ρ.set i (.dat d))
def gsNil : List D → List Sl → Option (List Sl) := fun ds ρ => match ds with
  | [] => some ρ
  | _ => none
def gsCons (g : DG) (h : List D → List Sl → Option (List Sl)) : List D → List Sl → Option (List Sl) := fun ds ρ => match ds with
  | d :: r => (g d ρ).bind fun ρ1 => h r ρ1
  | [] => none
def gT (n : Nat) (h : List D → List Sl → Option (List Sl)) : DG := fun d ρ => match d with
  | .tup ds => if ds.length = n then h ds ρ else none
  | .ktp ds => if ds.length = n then h ds ρ else none
  | _ => none
theorem wipe_set {σ : L2.St} {i : Nat} {x : Option V} : ∀ {vs : List Nat}, i ∈ vs → wipe (σ.set i x) vs = wipe σ vs
  | v :: vs, h => by
    unfold wipe
    by_cases hv : i ∈ vs
    · rw [wipe_set hv]
    · have e : i = v := by
        rcases List.mem_cons.mp h with e | e
        · exact e
        · exact absurd e hv
      subst e
      have out : ∀ (us : List Nat), i ∉ us → wipe (σ.set i x) us = (wipe σ us).set i x := fun us hu => by
        induction us with
        | nil => rfl
        | cons u us ih =>
          unfold wipe
          rw [ih (fun m => hu (List.mem_cons_of_mem _ m)), List.set_comm _ _ (fun z : i = u => hu (z ▸ List.mem_cons_self))]
      rw [out vs hv, List.set_set]
section
variable {X : Cx} {pos : Pos} {vs : List Nat}
theorem PG.mono {e : Expr} {t t' : TG} (h : PG X e t) (i : ∀ v σ H Q, t' v σ H Q → t v σ H Q) : PG X e t' := ⟨fun pins s σ H v u Q I r q => h.run pins s σ H v u Q I r (i v σ H Q q)⟩
theorem PGs.mono {e : List Expr} {t t' : TGs} (h : PGs X e t) (i : ∀ v σ H Q, t' v σ H Q → t v σ H Q) : PGs X e t' := ⟨fun pins s σ H v u Q I r q => h.run pins s σ H v u Q I r (i v σ H Q q)⟩
theorem g_name (i : Nat) {x : Str} (hN : X.N.Nodup) (hm : i ∈ vs := by decide) (hi : X.N[i]? = some x := by rfl) (hx : Loc X.env.scope x := by first | exact Or.inl rfl | exact Or.inr rfl)
    (hf : X.fn x = true ∨ X.env.scope.names.lookup x = some .local := by first | exact .inl rfl | exact .inr rfl) : PG X (.Name x pos) (PG' X.K X.mg vs (gN i)) := PG.mono (pg_name hN hi hx hf) fun v σ H Q h => by
  obtain ⟨W0, W, s, ρ, d, ρ', rfl, st, r, e, q⟩ := h
  cases e
  exact q _ (wipe_set hm) (st.setDat r i)
theorem gs_nil : PGs X [] (PGs' X.K X.mg vs gsNil) := PGs.mono pgs_nil fun us σ H Q h => by
  obtain ⟨W0, W, s, ρ, ds, ρ', rfl, st, r, e, q⟩ := h
  cases r with
  | nil => cases e; exact ⟨rfl, q σ rfl st⟩
  | cons _ _ => cases e
theorem gs_cons {e : Expr} {es : List Expr} {g : DG} {h : List D → List Sl → Option (List Sl)} (h1 : PG X e (PG' X.K X.mg vs g)) (h2 : PGs X es (PGs' X.K X.mg vs h))
    (hs : (assignEach (e :: es) X.env).map (·.2) = assign e X.env :: (assignEach es X.env).map (·.2) := by rfl) : PGs X (e :: es) (PGs' X.K X.mg vs (gsCons g h)) := PGs.mono (pgs_cons h1 h2 hs) fun us σ H Q z => by
  obtain ⟨W0, W, s, ρ, ds, ρ', rfl, st, r, ez, q⟩ := z
  cases r with
  | nil => cases ez
  | @cons v us d ds r1 r2 =>
    have ez' : (g d ρ).bind (fun ρ1 => h ds ρ1) = some ρ' := ez
    cases hg : g d ρ with
    | none => rw [hg] at ez'; cases ez'
    | some ρ1 =>
      rw [hg] at ez'
      exact ⟨v, us, rfl, W0, W, s, ρ, d, ρ1, rfl, st, r1, hg, fun σ1 w1 st1 => ⟨W0, W, s, ρ1, ds, ρ', rfl, st1, r2, ez', fun σ2 w2 st2 => q σ2 (w2.trans w1) st2⟩⟩
theorem g_tup {es : List Expr} {k n : Nat} {h : List D → List Sl → Option (List Sl)} (hc : X.calm = true) (hs : PGs X es (PGs' X.K X.mg vs h)) (hn : (assignEach es X.env).length = n := by rfl) (hst : (assignEach es X.env).findIdx? (·.1) = none := by rfl) :
    PG X (.Tuple es k pos) (PG' X.K X.mg vs (gT n h)) := PG.mono (pg_tup hc hs hn hst) fun v σ H Q z => by
  obtain ⟨W0, W, s, ρ, d, ρ', rfl, st, r, ez, q⟩ := z
  cases r with
  | tup h1 r1 =>
    have ez' : (if _ = n then h _ ρ else none) = some ρ' := ez
    split at ez'
    · rename_i hl
      exact ⟨_, _, rfl, .of (st.base.sub _ _ h1), r1.length.trans hl, W0, W, s, ρ, _, ρ', rfl, st, r1, ez', q⟩
    · cases ez'
  | ktp h1 r1 =>
    have ez' : (if _ = n then h _ ρ else none) = some ρ' := ez
    split at ez'
    · rename_i hl
      exact ⟨_, _, rfl, seqT st.base.sub h1, r1.length.trans hl, W0, W, s, ρ, _, ρ', rfl, st, r1, ez', q⟩
    · cases ez'
  | _ => cases ez
/-- a tuple's parts to names -/
def sUnp (g : DG) (f : DE) : DS := fun ρ s => (f ρ s).thenS fun d s1 => match g d ρ with
  | some ρ1 => .next ρ1 s1
  | none => .bad
theorem s_unp {E : WX} {fr : Fr} {tg e : Expr} {g : DG} {f : DE} (vs : List Nat) (he : PE X e (tE X.K X.mg E f)) (hg : PG X tg (PG' X.K X.mg vs g)) (hs : swapsWithSole [tg] e pos.line X.env = pure false := by rfl) (hw : swappedStores [tg] e X.env = pure none := by rfl)
    (h1 : (assignEach [tg] X.env).map (·.2) = [assign tg X.env] := by rfl) : QS X E fr (.Assign [tg] e pos) (sUnp g f) := PS.mono (ps_asg he hg hs hw h1) fun σ H T z => by
  obtain ⟨W0, W, s, ρ, rfl, st, z⟩ := z
  refine (goS st z).imp fun x H1 ⟨W1, s1, d1, e1, r1, x1, st1, z1⟩ => ?_
  subst e1
  cases hg : g d1 ρ with
  | none => rw [hg] at z1; exact z1.elim
  | some ρ1 =>
    rw [hg] at z1
    exact ⟨W0, W1, s1, ρ, d1, ρ1, rfl, st1, r1, hg, fun σ2 _ st2 => z1 σ2 W1 st2⟩
/-- a, b = e1, e2 -/
def sPar (i j : Nat) (fs : DA) : DS := fun ρ s => (fs ρ s).thenS fun ds s1 => match ds with
  | [d, e] => .next ((ρ.set i (.dat d)).set j (.dat e)) s1
  | _ => .bad
end
/-! ### what is walked -/
structure Its (K : PySem.W.Frag) (mg : Str → Option Value) (W1 : Hw) (J : It) (ds : List D) (G : Hp → Prop) (Y : Nat → Hp → V → Hp → Prop) : Prop where
  walk : Walk J ds.length G Y
  good : ∀ (W2 : Hw) (s2 : S), Same W1.G W2.G → Base K mg W2 s2 → G W2.H
  item : ∀ (i : Nat) (W2 : Hw) (s2 : S) (x : V) (H' : Hp), Same W1.G W2.G → W1.τ <+: W2.τ → Base K mg W2 s2 → i < ds.length → Y i W2.H x H' → ∃ W3 d, W3.H = H' ∧ ds[i]? = some d ∧ Ext W2 W3 ∧ Base K mg W3 s2 ∧ Rep K mg W3.G W3.τ x d
def relI (K : PySem.W.Frag) (mg : Str → Option Value) : Hw → Hw → It → List D → Prop := fun _ W1 J ds => ∃ G Y, Its K mg W1 J ds G Y
abbrev tI (K : PySem.W.Frag) (mg : Str → Option Value) (E : WX) (f : DA) : TI := tX K mg (relI K mg) E f
theorem PI.mono {X : Cx} {tg e : Expr} {t t' : TI} (h : PI X tg e t) (i : ∀ σ H R, t' σ H R → t σ H R) : PI X tg e t' := ⟨fun pins s σ H R I q => h.run pins s σ H R I (i σ H R q)⟩
theorem PI.or {X : Cx} {tg e : Expr} {t t' : TI} (h : PI X tg e t) (h' : PI X tg e t') : PI X tg e (fun σ H R => t σ H R ∨ t' σ H R) := ⟨fun pins s σ H R I q => q.elim (h.run pins s σ H R I) (h'.run pins s σ H R I)⟩
/-! ### for -/
def loopN (clr : List Nat) (g : DG) (body : DS) : List D → List Sl → S → Fl
  | [], ρ, s => .next ρ s
  | d :: ds, ρ, s => match g d ρ with
    | none => .bad
    | some ρ1 => match body ρ1 s with
      | .next ρ2 s2 => loopN clr g body ds (wipeD ρ2 clr) s2
      | .cont ρ2 s2 => loopN clr g body ds (wipeD ρ2 clr) s2
      | .brk ρ2 s2 => .next (wipeD ρ2 clr) s2
      | .ret d s2 => .ret d s2
      | .exc c s2 => .exc c s2
      | .bad => .bad
def sFor (clr : List Nat) (fi : DA) (g : DG) (body : DS) : DS := fun ρ s => (fi ρ s).thenS fun ds s1 => loopN clr g body ds (wipeD ρ clr) s1
section
variable {X : Cx} {E : WX} {fr : Fr} {pos : Pos} {tg iter : Expr} {body : List Stmt} {fi : DA} {g : DG} {b : DS} {vs : List Nat}
theorem getElem?_drop0 {α : Type} {l : List α} {i : Nat} {x : α} (h : l[i]? = some x) : l.drop i = x :: l.drop (i + 1) := by
  obtain ⟨hi, e⟩ := List.getElem?_eq_some_iff.mp h
  rw [List.drop_eq_getElem_cons hi, e]
theorem s_for (clr : List Nat) (hp : PassesOwn (model X.prog X.w) X.A X.env X.xe) (hc : X.calm = true) (hi : PI X tg iter (tI X.K X.mg E fi)) (hg : PG X tg (PG' X.K X.mg vs g)) (hb : QSs X E fr body b)
    (hs : ∀ x, foldedSetIterable iter X.env x = pure x := by intro _; rfl) : QS X E fr (.For tg iter body [] pos) (sFor clr fi g b) := PS.mono (ps_for hp hc hi hg hb hs) fun σ H T z => by
  obtain ⟨W0, W, s, ρ, rfl, st, z⟩ := z
  refine (goS st z).imp fun J H1 ⟨W1, s1, ds, e1, ⟨G, Y, its⟩, x1, st1, z1⟩ => ?_
  subst e1
  have x01 : Ext W0 W1 := st1.ext
  have z1' := PostS.on x01 z1
  have st1' := (st1.on).clears clr
  refine for_it its.walk (fun i σ2 H2 => ∃ W2 s2 ρ2, W2.H = H2 ∧ SSt X.K X.mg (W0.on W1) W2 s2 σ2 ρ2 ∧ PostS X.K X.mg E fr (W0.on W1) (loopN clr g b (ds.drop i) ρ2 s2) T)
    ⟨W1, s1, _, rfl, st1', by rw [List.drop_zero]; exact z1'⟩ ?_ ?_ ?_
  · rintro i σ2 H2 hi ⟨W2, s2, ρ2, rfl, st2, _⟩
    exact its.good W2 s2 st2.ext.grow st2.base
  · rintro i x σ2 H2 H' hi ⟨W2, s2, ρ2, rfl, st2, p2⟩ hy
    obtain ⟨W3, d, rfl, hd, x3, B3, r3⟩ := its.item i W2 s2 x H' st2.ext.grow st2.ext.tpre st2.base hi hy
    rw [getElem?_drop0 hd] at p2
    have st3 := st2.step x3 B3
    unfold loopN at p2
    cases hgd : g d ρ2 with
    | none => rw [hgd] at p2; exact p2.elim
    | some ρ3 =>
      rw [hgd] at p2
      refine ⟨W0.on W1, W3, s2, ρ2, d, ρ3, rfl, st3, r3, hgd, fun σ4 _ st4 => ⟨W0.on W1, W3, s2, ρ3, rfl, st4, ?_⟩⟩
      simp only at p2
      cases hbd : b ρ3 s2 with
      | next ρ5 s5 => rw [hbd] at p2; exact fun σ5 W5 st5 => ⟨W5, s5, _, rfl, st5.clears clr, p2⟩
      | cont ρ5 s5 => rw [hbd] at p2; exact fun σ5 W5 st5 => ⟨W5, s5, _, rfl, st5.clears clr, p2⟩
      | brk ρ5 s5 => rw [hbd] at p2; exact fun σ5 W5 st5 => p2 σ5 W5 (st5.clears clr)
      | ret v s5 => rw [hbd] at p2; exact p2
      | exc c s5 => rw [hbd] at p2; exact p2
      | bad => rw [hbd] at p2; exact p2.elim
  · rintro σ2 H2 ⟨W2, s2, ρ2, rfl, st2, p2⟩
    rw [List.drop_length] at p2
    exact p2 σ2 W2 st2
/-! ### while -/
def whileN (clr : List Nat) (c : DT) (b : DS) : Nat → List Sl → S → Option Fl
  | 0, _, _ => none
  | n + 1, ρ, s => match c ρ s with
    | .ok true s1 => match b ρ s1 with
      | .next ρ2 s2 => whileN clr c b n (wipeD ρ2 clr) s2
      | .cont ρ2 s2 => whileN clr c b n (wipeD ρ2 clr) s2
      | .brk ρ2 s2 => some (.next ρ2 s2)
      | .ret d s2 => some (.ret d s2)
      | .exc c s2 => some (.exc c s2)
      | .bad => some .bad
    | .ok false s1 => some (.next ρ s1)
    | .exc c s1 => some (.exc c s1)
    | .bad => some .bad
theorem whileN_mono {clr : List Nat} {c : DT} {b : DS} : ∀ {n : Nat} {ρ : List Sl} {s : S} {r : Fl}, whileN clr c b n ρ s = some r → whileN clr c b (n + 1) ρ s = some r
  | 0, _, _, _, h => by cases h
  | n + 1, ρ, s, r, h => by
    rw [whileN]
    rw [whileN] at h
    cases hc : c ρ s with
    | ok k s1 =>
      rw [hc] at h
      cases k with
      | true =>
        simp only at h ⊢
        cases hb : b ρ s1 with
        | next ρ2 s2 => rw [hb] at h; exact whileN_mono h
        | cont ρ2 s2 => rw [hb] at h; exact whileN_mono h
        | brk ρ2 s2 => rw [hb] at h; exact h
        | ret d s2 => rw [hb] at h; exact h
        | exc c s2 => rw [hb] at h; exact h
        | bad => rw [hb] at h; exact h
      | false => exact h
    | exc c s1 => rw [hc] at h; exact h
    | bad => rw [hc] at h; exact h
theorem whileN_le {clr : List Nat} {c : DT} {b : DS} {n m : Nat} {ρ : List Sl} {s : S} {r : Fl} (h : whileN clr c b n ρ s = some r) (k : n ≤ m) : whileN clr c b m ρ s = some r := by
  induction k with
  | refl => exact h
  | step _ ih => exact whileN_mono ih
open Classical in
noncomputable def sWhile (clr : List Nat) (c : DT) (b : DS) : DS := fun ρ s =>
  if h : ∃ n r, whileN clr c b n (wipeD ρ clr) s = some r then Classical.choose (Classical.choose_spec h) else .bad
theorem sWhile_of {clr : List Nat} {c : DT} {b : DS} {n : Nat} {ρ : List Sl} {s : S} {r : Fl} (h : whileN clr c b n (wipeD ρ clr) s = some r) : sWhile clr c b ρ s = r := by
  unfold sWhile
  have hx : ∃ n r, whileN clr c b n (wipeD ρ clr) s = some r := ⟨n, r, h⟩
  rw [dif_pos hx]
  have h2 := Classical.choose_spec (Classical.choose_spec hx)
  have a1 := whileN_le h (Nat.le_max_left n (Classical.choose hx))
  have a2 := whileN_le h2 (Nat.le_max_right n (Classical.choose hx))
  rw [a1] at a2
  exact (Option.some.inj a2).symm
theorem s_while {ce : Expr} {c : DT} (clr : List Nat) (hp : PassesOwn (model X.prog X.w) X.A X.env X.xe) (hc : PT X ce (tT X.K X.mg E c)) (hb : QSs X E fr body b) : QS X E fr (.While ce body [] pos) (sWhile clr c b) := PS.mono (ps_while hp hc hb) fun σ H T z => by
  obtain ⟨W0, W, s, ρ, rfl, st, z⟩ := z
  unfold sWhile at z
  split at z
  · rename_i hx
    have h2 := Classical.choose_spec (Classical.choose_spec hx)
    generalize Classical.choose (Classical.choose_spec hx) = r at z h2
    refine ⟨fun m σ2 H2 => ∃ W2 s2 ρ2, W2.H = H2 ∧ SSt X.K X.mg W0 W2 s2 σ2 ρ2 ∧ whileN clr c b m ρ2 s2 = some r, ⟨_, W, s, _, rfl, st.clears clr, h2⟩, ?_⟩
    rintro m σ2 H2 ⟨W2, s2, ρ2, rfl, st2, hw⟩
    cases m with
    | zero => cases hw
    | succ m =>
      rw [whileN] at hw
      refine ⟨W0, W2, s2, ρ2, rfl, st2, ?_⟩
      cases hc : c ρ2 s2 with
      | ok k s3 =>
        rw [hc] at hw
        intro k' W3 x3 B3 e3
        cases (show k' = k from e3)
        have st3 := st2.step x3 B3
        cases k with
        | true =>
          simp only at hw
          refine iteT ⟨fun σ' H' => ∃ W2 s2 ρ2, W2.H = H' ∧ SSt X.K X.mg W0 W2 s2 σ' ρ2 ∧ whileN clr c b m ρ2 s2 = some r, fun σ' H' h => ⟨m, Nat.lt_succ_self m, h⟩, ⟨W0, W3, s3, ρ2, rfl, st3, ?_⟩⟩
          cases hb : b ρ2 s3 with
          | next ρ4 s4 => rw [hb] at hw; exact fun σ4 W4 st4 => ⟨W4, s4, _, rfl, st4.clears clr, hw⟩
          | cont ρ4 s4 => rw [hb] at hw; exact fun σ4 W4 st4 => ⟨W4, s4, _, rfl, st4.clears clr, hw⟩
          | brk ρ4 s4 => rw [hb] at hw; cases hw; exact z
          | ret d s4 => rw [hb] at hw; cases hw; exact z
          | exc c s4 => rw [hb] at hw; cases hw; exact z
          | bad => rw [hb] at hw; cases hw; exact z.elim
        | false =>
          cases hw
          exact iteF (z σ2 W3 st3)
      | exc c s3 =>
        rw [hc] at hw
        cases hw
        exact fun W3 u x3 B3 hu => z σ2 W3 u (st2.ext.trans st2.base x3) B3 hu
      | bad => rw [hc] at hw; cases hw; exact z.elim
  · exact z.elim
end
/-! ### comprehensions -/
def compN (g : DG) (c : DT) (f : DE) (ρ : List Sl) : List D → S → Res (List D)
  | [], s => .ok [] s
  | d :: ds, s => match g d ρ with
    | none => .bad
    | some ρ1 => (c ρ1 s).bind fun b s1 => if b then (f ρ1 s1).bind fun y s2 => (compN g c f ρ ds s2).bind fun ys s3 => .ok (y :: ys) s3 else compN g c f ρ ds s1
def eComp (vs : List Nat) (fi : DA) (g : DG) (c : DT) (f : DE) : DE := fun ρ s => (fi ρ s).bind fun ds s1 => if ds.length ≤ 16777216 then (match compN g c f (wipeD ρ vs) ds s1 with
  | .ok ys s2 => .ok (.lst ys) s2
  | _ => .bad) else .bad
def tAll : DT := fun _ s => .ok true s
abbrev E0x : WX := fun _ _ _ _ => False
section
variable {X : Cx} {E : WX} {fr : Fr} {tg iter elt : Expr} {ifs : List Expr} {fi : DA} {g : DG} {c : DT} {f : DE} {vs : List Nat}
theorem PTs.mono {t t' : TT} (h : PTs X ifs t) (i : ∀ σ H Q, t' σ H Q → t σ H Q) : PTs X ifs t' := ⟨fun pins s σ H Q I q => h.run pins s σ H Q I (i σ H Q q)⟩
theorem ts_nil : PTs X [] (tT X.K X.mg E0x tAll) := PTs.mono pts_nil fun σ H Q z => by
  obtain ⟨W0, W, s, ρ, rfl, st, z⟩ := z
  exact z.of_ok st.base rfl
theorem r_comp {K : PySem.W.Frag} {mg : Str → Option Value} (vs : List Nat) : ∀ σ H Q, tF K mg E (eComp vs fi g c f) σ H Q → tLc (tI K mg E fi) (PG' K mg vs g) (tT K mg E0x c) (tE K mg E0x f) vs σ H Q := fun σ H Q z => by
  obtain ⟨W0, W, s, ρ, rfl, st, z⟩ := z
  refine (go st z).imp fun J H1 ⟨W1, s1, ds, e1, ⟨G, Y, its⟩, x1, st1, z1⟩ => ?_
  subst e1
  intro D hD
  split at z1
  · rename_i hl
    cases hcmp : compN g c f (wipeD ρ vs) ds s1 with
    | ok ys s9 =>
      rw [hcmp] at z1
      -- the new list, its own
      obtain ⟨B2, x2⟩ := st1.base.newL hD (o := .lst []) (fun _ z => nomatch z)
      have hGD : W1.G D = none := st1.base.frz_none hD
      have htD : D ∉ W1.τ := fun m => st1.base.tau_some m hD
      have x01 : Ext W0 W1 := st1.ext
      -- the state within: the base is W1, the slots wiped
      refine lc_it its.walk (fun i H2 => ∃ W2 s2 acc rest vs', W2.H = H2 ∧ Ext W1 W2 ∧ Base K mg W2 s2 ∧ W2.H D = some (.lst vs') ∧ W2.G D = none ∧ D ∉ W2.τ ∧ RepAll K mg W2.G W2.τ vs' acc ∧ acc.length ≤ i ∧ compN g c f (wipeD ρ vs) (ds.drop i) s2 = .ok rest s9 ∧ ys = acc ++ rest)
        ⟨⟨upd W1.H D (.lst []), W1.G, W1.τ⟩, s1, [], ys, [], rfl, x2, B2, upd_same, hGD, htD, .nil, Nat.le_refl _, by rw [List.drop_zero]; exact hcmp, rfl⟩ ?_ ?_ ?_
      · rintro i H2 hi ⟨W2, s2, acc, rest, vs', rfl, x12, B2, _⟩
        exact its.good W2 s2 x12.grow B2
      · rintro i x H2 H' hi ⟨W2, s2, acc, rest, vs', rfl, x12, B2, eD, gD, tD, rv, ha, hrest, hys⟩ hy
        obtain ⟨W3, d, rfl, hd, x3, B3, r3⟩ := its.item i W2 s2 x H' x12.grow x12.tpre B2 hi hy
        rw [getElem?_drop0 hd] at hrest
        unfold compN at hrest
        have x13 := x12.trans B2 x3
        have st3 : SSt K mg W0 W3 s2 (wipe σ vs) (wipeD ρ vs) := (st1.wipes _).step x13 B3
        have eD3 : W3.H D = some (.lst vs') := x3.keep D _ eD tD
        have gD3 : W3.G D = none := (x3.out D (by rw [eD]; exact fun z => nomatch z)).trans gD
        have tD3 : D ∉ W3.τ := fun m => by have := x3.tnew D m tD; rw [eD] at this; cases this
        cases hgd : g d (wipeD ρ vs) with
        | none => rw [hgd] at hrest; cases hrest
        | some ρ3 =>
          rw [hgd] at hrest
          simp only at hrest
          refine ⟨W0, W3, s2, _, d, ρ3, rfl, st3, r3, hgd, fun σ4 w4 st4 => ⟨?_, ?_⟩⟩
          · rw [w4]
            have : ∀ us : List Nat, ∀ {σ : L2.St}, (∀ v ∈ us, v ∈ vs) → wipe (wipe σ vs) us = wipe σ vs := fun us => by
              induction us with
              | nil => intro σ _; rfl
              | cons u us ih =>
                intro σ hu
                show (wipe (wipe σ vs) us).set u none = wipe σ vs
                rw [ih fun v hv => hu v (List.mem_cons_of_mem _ hv)]
                have hm := hu u List.mem_cons_self
                have key : ∀ ws : List Nat, u ∈ ws → (wipe σ ws).set u none = wipe σ ws := fun ws => by
                  induction ws with
                  | nil => intro h; simp at h
                  | cons w ws ihw =>
                    intro h
                    show ((wipe σ ws).set w none).set u none = (wipe σ ws).set w none
                    by_cases e : u = w
                    · subst e; rw [List.set_set]
                    · rw [List.set_comm _ _ (Ne.symm e), ihw (by rcases List.mem_cons.mp h with z | z; exact absurd z e; exact z)]
                exact key _ hm
            exact this _ fun v hv => hv
          · refine ⟨W0, W3, s2, ρ3, rfl, st4, ?_⟩
            cases hcd : c ρ3 s2 with
            | ok b s5 =>
              rw [hcd] at hrest
              simp only [Res.bind] at hrest
              intro b' W5 x5 B5 e5
              cases (show b' = b from e5)
              have st5 := st4.step x5 B5
              have eD5 : W5.H D = some (.lst vs') := x5.keep D _ eD3 tD3
              have gD5 : W5.G D = none := (x5.out D (by rw [eD3]; exact fun z => nomatch z)).trans gD3
              have tD5 : D ∉ W5.τ := fun m => by have := x5.tnew D m tD3; rw [eD3] at this; cases this
              have x15 := x13.trans B3 x5
              have rv5 := RepAll.ext x5 (RepAll.ext x3 rv)
              cases b with
              | true =>
                simp only [if_true] at hrest ⊢
                refine ⟨W0, W5, s5, ρ3, rfl, st5, ?_⟩
                cases hfd : f ρ3 s5 with
                | ok y s6 =>
                  rw [hfd] at hrest
                  simp only at hrest
                  intro v W6 x6 B6 r6
                  have eD6 : W6.H D = some (.lst vs') := x6.keep D _ eD5 tD5
                  have gD6 : W6.G D = none := (x6.out D (by rw [eD5]; exact fun z => nomatch z)).trans gD5
                  have tD6 : D ∉ W6.τ := fun m => by have := x6.tnew D m tD5; rw [eD5] at this; cases this
                  have x16 := x15.trans B5 x6
                  have rv6 := RepAll.ext x6 rv5
                  refine ⟨vs', eD6, ?_, ?_⟩
                  · rw [rv6.length, sizeLine_eq]; omega
                  · cases hrr : compN g c f (wipeD ρ vs) (ds.drop (i + 1)) s6 with
                    | ok zs s7 =>
                      rw [hrr] at hrest
                      simp only at hrest
                      cases hrest
                      have q : SSt K mg W1 W6 s6 [some (.ref D)] [.own acc] := by
                        refine ⟨x16, B6, rfl, fun k p q e1 e2 => ?_, fun k l a y z ne e1 e2 _ _ _ _ => ?_⟩
                        · cases k with
                          | zero =>
                            have h1 : some (V.ref D) = p := by simpa using e1
                            have h2 : Sl.own acc = q := by simpa using e2
                            subst h1 h2
                            exact .own ⟨hD, gD6, tD6⟩ eD6 rv6
                          | succ k => simp at e1
                        · cases k with
                          | zero => cases l with
                            | zero => exact ne rfl
                            | succ l => simp at e2
                          | succ k => simp at e1
                      have q2 := q.newC (i := 0) (a := D) rfl rfl ⟨hD, gD6, tD6⟩ eD6 (rv6.snoc r6)
                      exact ⟨_, s6, acc ++ [y], zs, vs' ++ [v], rfl, q2.ext, q2.base, upd_same, gD6, tD6, rv6.snoc r6, by rw [List.length_append]; simp; omega, hrr, by rw [hys]; simp⟩
                    | exc _ _ => rw [hrr] at hrest; cases hrest
                    | bad => rw [hrr] at hrest; cases hrest
                | exc _ _ => rw [hfd] at hrest; cases hrest
                | bad => rw [hfd] at hrest; cases hrest
              | false =>
                simp only [Bool.false_eq_true, if_false] at hrest ⊢
                exact ⟨W5, s5, acc, rest, vs', rfl, x15, B5, eD5, gD5, tD5, rv5, by omega, hrest, hys⟩
            | exc _ _ => rw [hcd] at hrest; cases hrest
            | bad => rw [hcd] at hrest; cases hrest
      · rintro H2 ⟨W2, s2, acc, rest, vs', rfl, x12, B2, eD, gD, tD, rv, ha, hrest, hys⟩
        rw [List.drop_length] at hrest
        unfold compN at hrest
        cases hrest
        rw [List.append_nil] at hys
        subst hys
        have hWD : W.H D = none := old_none x1 st1.base hD
        exact z1 (.ref D) W2 x12 B2 ⟨D, vs', _, rfl, rfl, hWD, gD, tD, eD, rv⟩
    | exc _ _ => rw [hcmp] at z1; exact z1.elim
    | bad => rw [hcmp] at z1; exact z1.elim
  · exact z1.elim
theorem f_comp {scope : Scope} {pos : Pos} (own : List (Str × Nat)) (hc : X.calm = true) (hN : X.N.Nodup) (hi : PI X tg iter (tI X.K X.mg E fi)) (ok : BlkOk X.N X.env.scope scope own)
    (hg : ∀ (s : Shared) (H : Hp) (C : Addr) (cl : List (Str × Addr)) (fp : List Addr), PG (X.blk s H scope (compEnvC scope cl C X.env) fp) tg (PG' X.K X.mg (own.map (·.2)) g))
    (ht : ∀ (s : Shared) (H : Hp) (C : Addr) (cl : List (Str × Addr)) (fp : List Addr), PTs (X.blk s H scope (compEnvC scope cl C X.env) fp) ifs (tT X.K X.mg E0x c))
    (he : ∀ (s : Shared) (H : Hp) (C : Addr) (cl : List (Str × Addr)) (fp : List Addr), PE (X.blk s H scope (compEnvC scope cl C X.env) fp) elt (tE X.K X.mg E0x f)) (hs : ∀ x, foldedSetIterable iter X.env x = pure x := by intro _; rfl) :
    PE X (.ListComp elt [⟨tg, iter, ifs, 0⟩] scope pos) (tF X.K X.mg E (eComp (own.map (·.2)) fi g c f)) := PE.mono (pe_lc hc hN hi ok hg ht he hs) (r_comp _)
end
end DL
namespace DL
open PySem PySem.Spec PyProof.Rows L2
variable [LT : LawT] [TC : TellC]
/-! ### sources of loops -/
section
variable {K : PySem.W.Frag} {mg : Str → Option Value} {W1 : Hw}
theorem its_list {a : Addr} {xs : List V} {ds : List D} (h : SqL K W1.G a xs) (r : RepAll K mg W1.G W1.τ xs ds) : ∃ G Y, Its K mg W1 (Itl K a) ds G Y := by
  refine ⟨_, _, by rw [← r.length]; exact walk_list, fun W2 s2 g B => B.sub.seq (g.seq h), fun i W2 s2 x H' g t B hi hy => ?_⟩
  obtain ⟨rfl, hx⟩ := hy
  obtain ⟨d, hd, rd⟩ := (r.mono g t).get hx
  exact ⟨W2, d, rfl, hd, Ext.refl _, B, rd⟩
theorem its_tup {a : Addr} {xs : List V} {ds : List D} (h : SqT K W1.G a xs) (r : RepAll K mg W1.G W1.τ xs ds) : ∃ G Y, Its K mg W1 (Itt K a) ds G Y := by
  refine ⟨_, _, by rw [← r.length]; exact walk_tup, fun W2 s2 g B => seqT B.sub (seqT g h), fun i W2 s2 x H' g t B hi hy => ?_⟩
  obtain ⟨rfl, hx⟩ := hy
  obtain ⟨d, hd, rd⟩ := (r.mono g t).get hx
  exact ⟨W2, d, rfl, hd, Ext.refl _, B, rd⟩
/-- numbers lo, lo + c, .. -/
def rngD (lo c : Int) (n : Nat) : List D := (List.range n).map fun (i : Nat) => .int (lo + (i : Int) * c)
theorem rngD_len (lo c : Int) (n : Nat) : (rngD lo c n).length = n := by simp [rngD]
theorem rngD_get {lo c : Int} {n i : Nat} (h : i < n) : (rngD lo c n)[i]? = some (.int (lo + (i : Int) * c)) := by simp [rngD, h]
theorem its_rng {lo : Int} {n : Nat} : ∃ G Y, Its K mg W1 (Itr lo n) (rngD lo 1 n) G Y := by
  refine ⟨_, _, by rw [rngD_len]; exact walk_range, fun W2 s2 g B => trivial, fun i W2 s2 x H' g t B hi hy => ?_⟩
  obtain ⟨rfl, rfl⟩ := hy
  rw [rngD_len] at hi
  exact ⟨W2, _, rfl, rngD_get hi, Ext.refl _, B, by rw [Int.mul_one]; exact .int _⟩
def strD (z : Str) : List D := z.cps.toList.map fun c => .str ⟨#[c]⟩
theorem its_str {z : Str} : ∃ G Y, Its K mg W1 (L2.Its z) (strD z) G Y := by
  refine ⟨_, _, by rw [show (strD z).length = z.cps.size by simp [strD]]; exact walk_str, fun W2 s2 g B => trivial, fun i W2 s2 x H' g t B hi hy => ?_⟩
  obtain ⟨rfl, c, hc, rfl⟩ := hy
  refine ⟨W2, _, rfl, ?_, Ext.refl _, B, .str _⟩
  have : z.cps.toList[i]? = some c := by rw [Array.getElem?_toList]; exact hc
  simp [strD, this]
end
def dIter : D → Option (List D)
  | .lst ds => some ds
  | .tup ds => some ds
  | .frz ds => some ds
  | .str z => some (strD z)
  | .ktp ds => some ds
  | _ => none
def iVal (f : DE) : DA := fun ρ s => (f ρ s).bind fun d s1 => Res.ofO (dIter d) s1
def iRange1 (fs : DA) : DA := fun ρ s => (fs ρ s).bind fun ds s1 => match ds with
  | [.int j] => if -(2 ^ 62) ≤ j ∧ j < 2 ^ 62 then .ok (rngD 0 1 j.toNat) s1 else .bad
  | _ => .bad
def iRange2 (fs : DA) : DA := fun ρ s => (fs ρ s).bind fun ds s1 => match ds with
  | [.int i, .int j] => if -(2 ^ 62) ≤ i ∧ i < 2 ^ 62 ∧ -(2 ^ 62) ≤ j ∧ j < 2 ^ 62 then .ok (rngD i 1 (j - i).toNat) s1 else .bad
  | _ => .bad
def iRange3 (fs : DA) : DA := fun ρ s => (fs ρ s).bind fun ds s1 => match ds with
  | [.int i, .int j, .int c] => if c = -1 ∧ -(2 ^ 60) ≤ i ∧ i < 2 ^ 60 ∧ -(2 ^ 60) ≤ j ∧ j < 2 ^ 60 then .ok (rngD i c (i - j).toNat) s1 else .bad
  | _ => .bad
section
variable {X : Cx} {E : WX} {tg e a b c : Expr} {f : DE} {fs : DA} {pos p : Pos}
theorem i_val (he : PE X e (tE X.K X.mg E f)) : PI X tg e (tI X.K X.mg E (iVal f)) :=
  PI.mono (PI.or (pi_list he) (PI.or (pi_tup he) (pi_str he))) fun σ H R z => by
    obtain ⟨W0, W, s, ρ, rfl, st, z⟩ := z
    unfold iVal at z
    cases hf : f ρ s with
    | bad => rw [hf] at z; exact z.elim
    | exc c s1 => exact .inl ⟨W0, W, s, ρ, rfl, st, by rw [hf] at z ⊢; exact z⟩
    | ok d s1 =>
      have z' := z
      rw [hf] at z'
      simp only [Res.bind] at z'
      cases d with
      | lst ds =>
        refine .inl ⟨W0, W, s, ρ, rfl, st, ?_⟩
        rw [hf]
        intro x W1 x1 B1 r1
        obtain ⟨a, xs, rfl, h1, rr⟩ := r1.lst_inv
        exact ⟨a, rfl, ⟨xs, .of (B1.sub _ _ h1)⟩, z' (Itl X.K a) W1 x1 B1 (its_list (.of h1) rr)⟩
      | frz ds =>
        refine .inl ⟨W0, W, s, ρ, rfl, st, ?_⟩
        rw [hf]
        intro x W1 x1 B1 r1
        obtain ⟨a, xs, rfl, h1, rr⟩ := r1.frz_inv
        exact ⟨a, rfl, ⟨xs, B1.sub.seq h1⟩, z' (Itl X.K a) W1 x1 B1 (its_list h1 rr)⟩
      | tup ds =>
        refine .inr (.inl ⟨W0, W, s, ρ, rfl, st, ?_⟩)
        rw [hf]
        intro x W1 x1 B1 r1
        obtain ⟨a, xs, rfl, h1, rr⟩ := r1.tup_inv
        exact ⟨a, rfl, ⟨xs, seqT B1.sub h1⟩, z' (Itt X.K a) W1 x1 B1 (its_tup h1 rr)⟩
      | ktp ds =>
        refine .inr (.inl ⟨W0, W, s, ρ, rfl, st, ?_⟩)
        rw [hf]
        intro x W1 x1 B1 r1
        obtain ⟨a, xs, rfl, h1, rr⟩ := r1.ktp_inv
        exact ⟨a, rfl, ⟨xs, seqT B1.sub h1⟩, z' (Itt X.K a) W1 x1 B1 (its_tup h1 rr)⟩
      | str y =>
        refine .inr (.inr ⟨W0, W, s, ρ, rfl, st, ?_⟩)
        rw [hf]
        intro x W1 x1 B1 r1
        cases r1.str_inv
        exact ⟨y, rfl, z' (L2.Its y) W1 x1 B1 its_str⟩
      | _ => exact z'.elim
theorem i_range1 (hm : X.mg "range" = none) (ha : PA X [a] (tA X.K X.mg E fs)) (hg : Gl X "range" := by rfl) (hs : starEach [a] X.env = [(false, eval a X.env)] := by rfl) :
    PI X tg (.Call (.Name "range" p) [a] [] pos) (tI X.K X.mg E (iRange1 fs)) := PI.mono (pi_range1 hg hm ha hs) fun σ H R z => by
  obtain ⟨W0, W, s, ρ, rfl, st, z⟩ := z
  refine (go st z).imp fun x H1 ⟨W1, s1, ds, e1, r1, x1, st1, z1⟩ => ?_
  subst e1
  split at z1
  · split at z1
    · rename_i hj
      obtain ⟨v, rfl, rv⟩ := r1.one_inv
      cases rv.int_inv
      exact ⟨_, rfl, hj.1, hj.2, z1 _ W1 (Ext.refl _) st1.base its_rng⟩
    · exact z1.elim
  · exact z1.elim
end
end DL
namespace DL
open PySem PySem.Spec PyProof.Rows L2
section LTS
variable [LT : LawT] [TC : TellC]
/-! ### a def's promise where no guard is up -/
structure FnG (P : Program) (w : World) (K : PySem.W.Frag) (mg : Str → Option Value) (base : Heap) (k : Nat) (f : Addr) (fd : FuncData) (ps : List Str) (sp : Sp) : Prop where
  len : ∀ vs H Q E, sp vs H Q E → vs.length = ps.length
  run : ∀ (A : Around) (outer : List Env) (s : Shared) (H : Hp) (args : Args) (us : List Value) (vs : List V) (Q : VK) (E : XK),
    Room k A → A.guards = some [] → Env0 P w K mg base A outer s H → BindsTo s fd args (ps.zip us) → Vals vs us → sp vs H Q E →
    codeAny (model P w) A (.call (.ref f) args) (CR (L2.CX P w) outer P w H s Q E) s
theorem guards_deeper {A : Around} {env : Env} (h : A.guards = some []) : (A.deeper env).guards = some [] := by
  first
    | exact h
    | (simp [Around.deeper, h])
    | (show (pushGuards _ _) = _; simp [pushGuards_eq, h])
section
variable {P : Program} {w : World} {K : PySem.W.Frag} {mg : Str → Option Value} {base : Heap}
theorem FnG.okC {x qual : Str} {st : Stmt} {f : Addr} {fd : FuncData} {N ps : List Str} {k : Nat} {sp : Sp} (F : Fun K x qual st f fd) (S : FnScope N ps (defScope st)) (len : ∀ vs H Q E, sp vs H Q E → vs.length = ps.length)
    (body : ∀ (cdv : Value) (A : Around) (outer : List Env) (s : Shared) (H : Hp) (vs : List V) (Q : VK) (E : XK), fd.code = cdv → Room k (A.deeper (envOfC qual (defScope st) s.heap.objs.size f cdv)) → (A.deeper (envOfC qual (defScope st) s.heap.objs.size f cdv)).guards = some [] → sp vs H Q E →
      ∃ t, PSs (cxOf (L2.CX P w) P w K mg base N qual (defScope st) f cdv A outer s H E) (defBody st) t ∧ t { nx := fun _ H' => Q .non H', rt := Q } (L2.start N vs) H) : FnG P w K mg base (k + 1) f fd ps sp := by
  obtain ⟨oc, od, kV, doc, pm, an, cdv, ct, osl, rfl, lk, hcd⟩ := F.ex
  refine ⟨len, fun A outer s H args us vs Q E hr hgd e0 hb r hsp => ?_⟩
  have old := fun b o e => (e0.bs b o e).1
  have inK : K.In s.heap := e0.mod.kin.keeps old
  have noLim : s.heap.NoLimit := e0.mod.nolimit.keeps old
  have kinds : ∀ y ∈ ps.zip us, (defScope st).names.lookup y.1 = some .local ∨ ((defScope st).names.lookup y.1 = some .cell ∧ ((cellsFrom (s.heap.objs.size + 1) (defScope st).names []).lookup y.1).isSome = true) := by
    rintro ⟨n, v⟩ hy
    rcases S.par n (List.of_mem_zip hy).1 with q | q
    · exact .inl q
    · exact .inr ⟨q, PySem.W.cellsFrom_some _ _ _ (.inl q)⟩
  refine codeAny_call_function hr.depth (inK _ _ lk) rfl S.co S.gen rfl (PySem.W.codeRec_of inK hcd) (hb _ _ _ _ ?_)
  refine wpAny_newFunctionEnv_cells S.kind kinds fun env he s1 x => ?_
  subst he
  refine ⟨noLim.keeps x.toInCall.keep, codeAny_func ?_⟩
  obtain ⟨t, ht, hq⟩ := body cdv A outer s H vs Q E rfl (hr.deeper _) (guards_deeper hgd) hsp
  have I : Inv (cxOf (L2.CX P w) P w K mg base N qual (defScope st) f cdv A outer s H E) [] (L2.start N vs) H s1 := inv_start S hr.hd e0 (len _ _ _ _ hsp) r x
  refine wpAny_mono (ht.run [] s1 (L2.start N vs) H _ I hq) (fun fl s' hs => ?_) (fun e s' hs => hs)
  cases fl with
  | ret u =>
    obtain ⟨v, σ', H', J, rv, q⟩ := hs
    exact ⟨v, H', J.os, J.bare, J.base, J.hok, rv, q⟩
  | next =>
    obtain ⟨σ', H', J, q⟩ := hs
    exact ⟨V.non, H', J.os, J.bare, J.base, J.hok, rfl, q⟩
  | brk =>
    obtain ⟨_, _, _, q⟩ := hs
    exact q.elim
  | cont =>
    obtain ⟨_, _, _, q⟩ := hs
    exact q.elim
theorem FnG.ok {x qual : Str} {st : Stmt} {f : Addr} {fd : FuncData} {N ps : List Str} {k : Nat} {sp : Sp} (F : Fun K x qual st f fd) (S : FnScope N ps (defScope st)) (len : ∀ vs H Q E, sp vs H Q E → vs.length = ps.length)
    (body : ∀ (cdv : Value) (A : Around) (outer : List Env) (s : Shared) (H : Hp) (vs : List V) (Q : VK) (E : XK), Room k (A.deeper (envOfC qual (defScope st) s.heap.objs.size f cdv)) → (A.deeper (envOfC qual (defScope st) s.heap.objs.size f cdv)).guards = some [] → sp vs H Q E →
      ∃ t, PSs (cxOf (L2.CX P w) P w K mg base N qual (defScope st) f cdv A outer s H E) (defBody st) t ∧ t { nx := fun _ H' => Q .non H', rt := Q } (L2.start N vs) H) : FnG P w K mg base (k + 1) f fd ps sp := FnG.okC F S len fun cdv A outer s H vs Q E _ => body cdv A outer s H vs Q E
end
section
variable {X : Cx} {pins : List (Addr × Obj)} {σ : L2.St} {H : Hp} {s : Shared} {k : Nat} {f : Addr} {fd : FuncData} {ps : List Str} {sp : Sp} {E : XK} {Q : VK}
theorem run_fnG {us : List Value} {vs : List V} (F : FnG X.prog X.w X.K X.mg X.base k f fd ps sp) (hr : Room k X.A) (hg : X.A.guards = some []) (hb : Binds X.K fd ps []) (hx : PassesAt (L2.CX X.prog X.w) X σ E)
    (I : Inv X pins σ H s) (r : Vals vs us) (h : sp vs H Q E) : wpAny (model X.prog X.w) X.A (call (.ref f) us) (EP X pins σ Q) X.xe s := by
  have many : (us ++ []).length = ps.length := by
    rw [List.append_nil, ← r.length]
    exact F.len _ _ _ _ h
  have bd := hb s us I.kIn many
  rw [List.append_nil] at bd
  refine wpAny_call (codeAny_mono (F.run X.A X.stack s H ⟨us, []⟩ us vs Q E hr hg I.env0 bd r h) ?_)
  intro res s' hq
  match res, hq with
  | .error e, hq => exact hx pins H s e s' I hq
  | .ok (.ret u), hq => exact I.after hq
  | .ok .next, hq => exact False.elim hq
  | .ok .brk, hq => exact False.elim hq
  | .ok .cont, hq => exact False.elim hq
end
/-! ### a def by its denotation -/
abbrev DFun := List D → S → Res D
def spD (K : PySem.W.Frag) (mg : Str → Option Value) (F : DFun) (fr : Fr) (n : Nat) : Sp := fun vs H Q E =>
  vs.length = n ∧ ∃ (W : Hw) (s : S) (ds : List D), W.H = H ∧ Base K mg W s ∧ RepAll K mg W.G W.τ vs ds ∧ Post K mg (relR K mg fr W) E (F ds s) W Q
/-- the def x of n parameters does what F says; fr: it hands out a new list -/
structure DFn (P : Program) (w : World) (K : PySem.W.Frag) (mg : Str → Option Value) (base : Heap) (k : Nat) (x : Str) (n : Nat) (F : DFun) (fr : Fr) : Prop where
  ex : ∃ f fd ps, mg x = some (.ref f) ∧ PySem.W.keepIn K (.ref f) = true ∧ Binds K fd ps [] ∧ FnG P w K mg base k f fd ps (spD K mg F fr n)
  ar : ∀ ds s, ds.length ≠ n → F ds s = .bad
/-- a body's denotation as a def's -/
def defD (N n : Nat) (g : DS) : DFun := fun ds s => if ds.length = n then (match g (ds.map .dat ++ List.replicate (N - n) .emp) s with
  | .ret d s1 => .ok d s1
  | .next _ s1 => .ok .non s1
  | .exc c s1 => .exc c s1
  | _ => .bad) else .bad
theorem start_ok {K : PySem.W.Frag} {mg : Str → Option Value} {W : Hw} {s : S} {N : List Str} {n : Nat} {vs : List V} {ds : List D} (B : Base K mg W s) (r : RepAll K mg W.G W.τ vs ds) (hl : ds.length = n) (hn : n ≤ N.length) :
    SSt K mg W W s (L2.start N vs) (ds.map .dat ++ List.replicate (N.length - n) .emp) := by
  have l1 := r.length
  refine ⟨Ext.refl W, B, by simp [L2.start, l1, hl], fun i x y e1 e2 => ?_, fun i j a y z ne e1 e2 e3 e4 o1 o2 => ?_⟩
  · unfold L2.start at e1
    by_cases hi : i < ds.length
    · rw [List.getElem?_append_left (by simpa using hi)] at e2
      rw [List.getElem?_append_left (by simp; omega)] at e1
      rw [List.getElem?_map] at e1 e2
      cases hd : ds[i]? with
      | none => rw [hd] at e2; cases e2
      | some d =>
        obtain ⟨v, hv, rv⟩ := r.getD hd
        rw [hd] at e2
        rw [hv] at e1
        cases e1; cases e2
        exact .dat rv
    · rw [List.getElem?_append_right (by simp; omega)] at e2
      rw [List.getElem?_replicate] at e2
      split at e2
      · cases e2; exact .emp
      · cases e2
  · have : y.isOwn = false := by
      by_cases hi : i < ds.length
      · rw [List.getElem?_append_left (by simpa using hi), List.getElem?_map] at e3
        cases hd : ds[i]? with
        | none => rw [hd] at e3; cases e3
        | some d => rw [hd] at e3; cases e3; rfl
      · rw [List.getElem?_append_right (by simp; omega), List.getElem?_replicate] at e3
        split at e3
        · cases e3; rfl
        · cases e3
    rw [this] at o1
    exact Bool.noConfusion o1
section
variable {P : Program} {w : World} {K : PySem.W.Frag} {mg : Str → Option Value} {base : Heap}
/-- THE RULE for a def, its code told -/
theorem fnG_mkC {x' qual : Str} {st : Stmt} {f : Addr} {fd : FuncData} {N ps : List Str} {k n : Nat} {g : DS} {fr : Fr} (F : Fun K x' qual st f fd) (S : FnScope N ps (defScope st)) (hn : ps.length = n)
    (body : ∀ (X : Cx) (E : XK), X.K = K → X.mg = mg → (∃ (cdv : Value) (A : Around) (outer : List Env) (s : Shared) (H : Hp), X = cxOf (L2.CX P w) P w K mg base N qual (defScope st) f cdv A outer s H E) → X.env.code = fd.code → Room k X.A → X.A.guards = some [] →
      QSs X (fun u d _ H' => E u d H') fr (defBody st) g) (hng : fr.own = true → ∀ ρ s ρ' s', g ρ s ≠ .next ρ' s') :
    FnG P w K mg base (k + 1) f fd ps (spD K mg (defD N.length n g) fr n) := by
  refine FnG.okC F S (fun vs H Q E h => h.1.trans hn.symm) fun cdv A outer s H vs Q E hc hr hgd h => ⟨_, body _ E rfl rfl ⟨cdv, A, outer, s, H, rfl⟩ hc.symm hr hgd, ?_⟩
  obtain ⟨hl, W, s0, ds, rfl, B, r, p⟩ := h
  have hnN : n ≤ N.length := by
    have := congrArg List.length S.pre
    rw [List.length_take] at this
    omega
  have hd : ds.length = n := r.length.symm.trans hl
  refine ⟨W, W, s0, _, rfl, start_ok B r hd hnN, ?_⟩
  unfold defD at p
  rw [if_pos hd] at p
  cases hg : g (ds.map .dat ++ List.replicate (N.length - n) .emp) s0 with
  | ret d s1 => rw [hg] at p; exact fun v W1 e B1 rv => p v W1 e B1 rv
  | next ρ1 s1 =>
    rw [hg] at p
    intro σ1 W1 st1
    cases fr with
    | no => exact p .non W1 st1.ext st1.base .non
    | yes => exact absurd hg (hng rfl _ _ _ _)
    | pl => exact absurd hg (hng rfl _ _ _ _)
    | pd => exact absurd hg (hng rfl _ _ _ _)
  | exc c s1 => rw [hg] at p; exact fun σ1 W1 u e B1 hu => p W1 u e B1 hu
  | brk ρ1 s1 => rw [hg] at p; exact p.elim
  | cont ρ1 s1 => rw [hg] at p; exact p.elim
  | bad => rw [hg] at p; exact p.elim
/-- THE RULE for a def -/
theorem fnG_mk {x' qual : Str} {st : Stmt} {f : Addr} {fd : FuncData} {N ps : List Str} {k n : Nat} {g : DS} {fr : Fr} (F : Fun K x' qual st f fd) (S : FnScope N ps (defScope st)) (hn : ps.length = n)
    (body : ∀ (X : Cx) (E : XK), X.K = K → X.mg = mg → (∃ (cdv : Value) (A : Around) (outer : List Env) (s : Shared) (H : Hp), X = cxOf (L2.CX P w) P w K mg base N qual (defScope st) f cdv A outer s H E) → Room k X.A → X.A.guards = some [] →
      QSs X (fun u d _ H' => E u d H') fr (defBody st) g) (hng : fr.own = true → ∀ ρ s ρ' s', g ρ s ≠ .next ρ' s') :
    FnG P w K mg base (k + 1) f fd ps (spD K mg (defD N.length n g) fr n) := fnG_mkC F S hn (fun X E h1 h2 h3 _ => body X E h1 h2 h3) hng
theorem DFn.mk' {x x' qual : Str} {st : Stmt} {f : Addr} {fd : FuncData} {N ps : List Str} {k n : Nat} {g : DS} {fr : Fr} (F : Fun K x' qual st f fd) (S : FnScope N ps (defScope st)) (gx : mg x = some (.ref f)) (hb : Binds K fd ps []) (hn : ps.length = n)
    (body : ∀ (X : Cx) (E : XK), X.K = K → X.mg = mg → (∃ (cdv : Value) (A : Around) (outer : List Env) (s : Shared) (H : Hp), X = cxOf (L2.CX P w) P w K mg base N qual (defScope st) f cdv A outer s H E) → Room k X.A → X.A.guards = some [] →
      QSs X (fun u d _ H' => E u d H') fr (defBody st) g) (hng : fr.own = true → ∀ ρ s ρ' s', g ρ s ≠ .next ρ' s') :
    DFn P w K mg base (k + 1) x n (defD N.length n g) fr := ⟨⟨f, fd, ps, gx, F.kp, hb, fnG_mk F S hn body hng⟩, fun ds s h => if_neg h⟩
theorem DFn.mono {k k' n : Nat} {x : Str} {F : DFun} {fr : Fr} (h : DFn P w K mg base k x n F fr) (hk : k ≤ k') : DFn P w K mg base k' x n F fr := by
  obtain ⟨⟨f, fd, ps, h1, h2, h3, h4⟩, ar⟩ := h
  exact ⟨⟨f, fd, ps, h1, h2, h3, h4.len, fun A outer s H args us vs Q E hr => h4.run A outer s H args us vs Q E (hr.mono hk)⟩, ar⟩
end
def eCall (F : DFun) (fs : DA) : DE := fun ρ s => (fs ρ s).bind F
section
variable {X : Cx} {E : WX} {k n : Nat} {x : Str} {F : DFun} {e : Expr} {es : List Expr} {fs : DA} {p pos : Pos} {fr : Fr}
theorem call_any {rel : Hw → Hw → V → D → Prop} (D' : DFn X.prog X.w X.K X.mg X.base k x n F fr) (hr : Room k X.A) (hgd : X.A.guards = some []) (tk : Takes X E) (ha : PA X (e :: es) (tA X.K X.mg E fs))
    (hrel : ∀ (W W1 W2 : Hw) (s1 : S) (v : V) (d : D), Ext W W1 → Base X.K X.mg W1 s1 → relR X.K X.mg fr W1 W2 v d → rel W W2 v d)
    (hg : Gl X x) (hdb : (x == ("__debug__" : Str)) = false) (he : starEach (e :: es) X.env = (false, eval e X.env) :: starEach es X.env) (hpl : (backTo pos (starEach es X.env)).any (·.1) = false) :
    PE X (.Call (.Name x p) (e :: es) [] pos) (tX X.K X.mg rel E (eCall F fs)) := by
  obtain ⟨⟨f, fd, ps, gx, kp, hb, FG⟩, ar⟩ := D'
  refine ⟨fun pins s σ H Q I h => ?_⟩
  obtain ⟨W0, W, s0, ρ, rfl, st, z⟩ := h
  refine wpAny_Call_Name_kw (ld_glob I hg gx ?_ hdb)
  refine PySem.W.callWith_K (h₀ := X.base) I.ok.mod.kin kp (thn (ha.run pos pins s σ W.H _ I (go st z)) ?_) he hpl
  rintro us s2 ⟨vs, H1, I1, r, W1, s1, ds, e1, r1, x1, st1, z1⟩
  subst e1
  refine ⟨I1.kIn, run_fnG FG hr hgd hb (passAt tk σ) I1 r ?_⟩
  have hl : vs.length = n := by
    rw [r1.length]
    by_cases hd : ds.length = n
    · exact hd
    · rw [ar ds s1 hd] at z1; exact z1.elim
  refine ⟨hl, W1, s1, ds, rfl, st1.base, r1, ?_⟩
  cases hF : F ds s1 with
  | ok d s3 => rw [hF] at z1; exact fun v W2 e2 B2 q => z1 v W2 e2 B2 (hrel _ _ _ _ v d x1 st1.base q)
  | exc c s3 => rw [hF] at z1; exact z1
  | bad => rw [hF] at z1; exact z1.elim
theorem e_call (D' : DFn X.prog X.w X.K X.mg X.base k x n F false) (hr : Room k X.A) (hgd : X.A.guards = some []) (tk : Takes X E) (ha : PA X (e :: es) (tA X.K X.mg E fs))
    (hg : Gl X x := by rfl) (hdb : (x == ("__debug__" : Str)) = false := by decide) (he : starEach (e :: es) X.env = (false, eval e X.env) :: starEach es X.env := by rfl) (hpl : (backTo pos (starEach es X.env)).any (·.1) = false := by rfl) :
    PE X (.Call (.Name x p) (e :: es) [] pos) (tE X.K X.mg E (eCall F fs)) := call_any D' hr hgd tk ha (fun _ _ _ _ _ _ _ _ h => h) hg hdb he hpl
end
/-! ### the law -/
section
variable {P : Program} {w : World} {K : PySem.W.Frag} {mg mb : Str → Option Value}
theorem law_callG {k : Nat} {fa a : Addr} {fd : FuncData} {x : Str} {sp : Sp} {t₁ : Shared} {vs : List Value} {ns : List Int}
    (KX : K.In t₁.heap) (hns : t₁.heap.Ns mainGlobals mg) (hb : t₁.heap.Ns builtinsNs mb) (hbb : ∀ x : Str, x ≠ "__name__" → mb x = bootBuiltins x) (hlim : t₁.heap.NoLimit) (hg : t₁.gens = #[])
    (ha : t₁.heap.get? a = some { cls := .type "list", data := .seq vs.toArray }) (hi : IntsAre vs ns) (hl : ns.length ≤ sizeLine) (hr : Room k callerA)
    (F : ∀ base : Heap, K.In base → base.Ns mainGlobals mg → (∀ b o, t₁.heap.get? b = some o → (∀ xs n, o.data ≠ .seq xs n) → base.get? b = some o) → FnG P w K mg base k fa fd [x] sp) (hbind : ∀ (s : Shared) (u : Value), BindsTo s fd ⟨[u], []⟩ [(x, u)])
    (hsp : ∀ H : Hp, Only H → SqL K H a (ns.map V.int) → sp [.ref a] H (fun v _ => v = .bl true) fun _ _ _ => False) :
    codeAny (model P w) callerA (.call (.ref fa) ⟨[.ref a], []⟩) (fun r s' => r = .ok (.ret (.bool true)) ∧ OldK t₁.heap s'.heap ∧ s'.os = t₁.os ∧ AllBare s'.gens) t₁ := by
  have rv := vals_ints hi
  have lenV := hi.length
  have core : ∀ H : Hp, Only H → SqL K H a (ns.map V.int) → HOk P w H t₁.heap → (∀ b, H b ≠ none → b = a) → (H a ≠ none → K.lookup a = none) →
      codeAny (model P w) callerA (.call (.ref fa) ⟨[.ref a], []⟩) (fun r s' => r = .ok (.ret (.bool true)) ∧ OldK t₁.heap s'.heap ∧ s'.os = t₁.os ∧ AllBare s'.gens) t₁ := by
    intro H hO hS hok only notK
    have atA : ∀ {b : Addr}, H b ≠ none → t₁.heap.get? b = some { cls := .type "list", data := .seq vs.toArray } := fun {b} n => by rw [only b n]; exact ha
    have free : ∀ {b : Addr} {o : Obj} {es : Array DictEntry} {ep : Nat}, t₁.heap.get? b = some o → o.data = .dict es ep → H b = none := by
      intro b o es ep e d
      by_cases q : H b = none
      · exact q
      · rw [atA q] at e
        cases e
        exact absurd d (fun z => nomatch z)
    have nsK : ∀ {b : Addr} {m : Str → Option Value}, t₁.heap.Ns b m → (hidT t₁.heap H).Ns b m := by
      rintro b m ⟨o, es, ep, e, d, r⟩
      exact ⟨o, es, ep, hidT_get e (free e d), d, r⟩
    have up : ∀ b o, t₁.heap.get? b = some o → (∀ xs n, o.data ≠ .seq xs n) → (hidT t₁.heap H).get? b = some o := by
      intro b o e n
      refine hidT_get e ?_
      by_cases q : H b = none
      · exact q
      · rw [atA q] at e
        cases e
        exact absurd rfl (n _ _)
    have hKb : K.In (hidT t₁.heap H) := by
      intro b o e
      refine hidT_get (KX b o e) ?_
      by_cases q : H b = none
      · exact q
      · have hba := only b q
        subst hba
        rw [notK q] at e
        cases e
    have hM : Mod K mg (hidT t₁.heap H) := by
      refine ⟨hKb, nsK hns, ⟨mb, nsK hb, hbb⟩, ?_⟩
      obtain ⟨mc, h1, h2⟩ := hlim
      exact ⟨mc, nsK h1, h2⟩
    have e0 : Env0 P w K mg (hidT t₁.heap H) callerA [] t₁ H := by
      refine ⟨rfl, hM, fun b o e => of_hidT e, Nat.le_of_eq (hidT_size _ _), trivial, fun b hb => ?_, hok, .of_eq hg⟩
      exact absurd (show b ∈ ([] : List Addr) from hb) (by simp)
    refine codeAny_mono ((F _ hKb (nsK hns) up).run callerA [] t₁ H ⟨[.ref a], []⟩ [.ref a] [.ref a] _ _ hr rfl e0 (hbind t₁ (.ref a)) (.cons rfl .nil) (hsp H hO hS)) ?_
    intro r s' h
    match r, h with
    | .error e, h =>
      obtain ⟨_, _, _, _, _, _, _, _, _, _, _, _, z⟩ := h
      exact z.elim
    | .ok .next, h => exact False.elim h
    | .ok .brk, h => exact False.elim h
    | .ok .cont, h => exact False.elim h
    | .ok (.ret u), h =>
      obtain ⟨v, H', os, bare, un, hok', r', q⟩ := h
      have hv : v = .bl true := q
      subst hv
      have hu : u = Value.bool true := r'
      subst hu
      refine ⟨rfl, OldK.of_keep ?_, os, bare⟩
      intro b o e
      by_cases q : H b = none
      · exact un.keep b o e q (by intro z; exact absurd (show b ∈ ([] : List Addr) from z) (by simp)) (by simp)
      · rcases hO b with z | ⟨ob, xs, z⟩
        · exact absurd z q
        · have z2 := un.frzs b ob _ z
          obtain ⟨e1, _⟩ := hok b _ z
          obtain ⟨e2, _⟩ := hok' b _ z2
          rw [e] at e1
          cases e1
          exact e2
  cases hk : K.lookup a with
  | some o =>
    have e := KX a o hk
    rw [ha] at e
    cases e
    refine core (fun _ => none) (fun _ => .inl rfl) (.inr ⟨_, vs.toArray, _, hk, rfl, rfl, rfl, ?_, by simpa using rv⟩) (fun b u z => nomatch (show (none : Option HO) = some u from z)) (fun b z => absurd rfl z) (fun z => absurd rfl z)
    rw [List.size_toArray, lenV]
    exact hl
  | none =>
    refine core (fun b => if b = a then some (.frz { cls := .type "list", data := .seq vs.toArray } (.lst (ns.map V.int))) else none) (fun b => ?_) (.inl (.inr ⟨_, if_pos rfl⟩)) (fun b u z => ?_) (fun b z => ?_) (fun _ => hk)
    · by_cases hb : b = a
      · exact .inr ⟨_, _, if_pos hb⟩
      · exact .inl (if_neg hb)
    · by_cases hb : b = a
      · have z' := (if_pos hb).symm.trans z
        cases z'
        subst hb
        refine ⟨ha, ?_, vs, _, rv, ha⟩
        rw [List.length_map]
        exact hl
      · have z' := (if_neg hb).symm.trans z
        cases z'
    · by_cases hb : b = a
      · exact hb
      · exact absurd (if_neg hb) z
end
/-- the law's own claim in plain words -/
def LawOk (F : DFun) : Prop := ∀ ns : List Int, ns.length ≤ 63 → ∃ s, F [.frz (ns.map .int)] [] = .ok (.bl true) s
theorem ints_rep {K : PySem.W.Frag} {mg : Str → Option Value} {G : Hp} {τ : List Addr} : ∀ ns : List Int, RepAll K mg G τ (ns.map V.int) (ns.map D.int)
  | [] => .nil
  | n :: ns => .cons (.int n) (ints_rep ns)
end LTS
/-- no tables -/
instance lawT0 : LawT := ⟨[]⟩
theorem sp_law {K : PySem.W.Frag} {mg : Str → Option Value} {F : DFun} (h : LawOk F) {H : Hp} {a : Addr} {ns : List Int} (hl : ns.length ≤ 63) (hO : Only H) (hS : SqL K H a (ns.map V.int)) :
    spD K mg F false 1 [.ref a] H (fun v _ => v = .bl true) fun _ _ _ => False := by
  obtain ⟨s, e⟩ := h ns hl
  have nt : ∀ b ps, H b ≠ some (.tbl ps) := fun b ps z => by rcases hO b with q | ⟨o, xs, q⟩ <;> rw [z] at q <;> cases q
  refine ⟨rfl, ⟨H, H, []⟩, [], [.frz (ns.map .int)], rfl, ⟨fun _ _ e => e, fun _ _ e => e, fun _ m => absurd m (by simp), List.nodup_nil, rfl, fun n c a e => absurd e (by simp), fun c m => absurd m (by simp), (fun p hp => nomatch hp), nt, fun b ps z => absurd z (nt b ps)⟩, .cons (.frz hS (ints_rep ns)) .nil, ?_⟩
  rw [e]
  exact fun v W1 e B r => Rep.bl_inv r
/-- the end: the law's def by its denotation -/
theorem walk_ofG {l : PySem.W.OpenLaw} {k : Nat} {q : Program} {loose : List Str} {XP : (Str → Option Value) → Heap → Prop} {YP : World → Heap → Prop} {d : DefRec} {K : Params → PySem.W.Frag} {x : Str} {F : DFun}
    (hn : l.most = some 63) (hdf : d.params.defaults = []) (hr : Room k callerA)
    (hY : ∀ (w : World) (h : Heap), YP w h → (K w.params).In h) (hF : LawOk F)
    (hD : ∀ (w : World) (mg : Str → Option Value) (fa : Addr) (h : Heap), (K w.params).In h → h.Ns mainGlobals mg → mg d.name = some (.ref fa) →
      ∃ fd : FuncData, (∀ (s : Shared) (u : Value), BindsTo s fd ⟨[u], []⟩ [(x, u)]) ∧ ∀ base : Heap, (K w.params).In base → base.Ns mainGlobals mg → FnG l.prog w (K w.params) mg base k fa fd [x] (spD (K w.params) mg F false 1)) :
    PySem.W.WalkO q loose XP YP l.row.toRowW d [] (fun f vs => PySem.call f vs) := by
  refine Att.attach_call hn hdf ?_
  intro w s₀ s₁ mg mb fa o pm cd doc a vs ns G Y ho hd hcd hmg hobj hints hlen hg
  have KX := hY w _ Y
  obtain ⟨fd, hb, hF'⟩ := hD w mg fa _ KX G.T.g hmg
  have h63 : ns.length ≤ sizeLine := by
    rw [sizeLine_eq]
    omega
  exact law_callG KX G.T.g G.T.b G.T.builtins G.T.nolimit hg hobj hints h63 hr (fun base h1 h2 _ => hF' base h1 h2) hb (fun H hO hS => sp_law hF hlen hO hS)
end DL
namespace DL
open PySem PySem.Spec PyProof.Rows L2
variable [LT : LawT] [TC : TellC]
/-! ### built-ins, by value -/
def intsOf : List D → Option (List Int)
  | [] => some []
  | .int i :: r => (intsOf r).map (i :: ·)
  | _ => none
def blsOf : List D → Option (List Bool)
  | [] => some []
  | .bl i :: r => (blsOf r).map (i :: ·)
  | _ => none
section
variable {K : PySem.W.Frag} {mg : Str → Option Value} {G : Hp} {τ : List Addr}
theorem bls_inv : ∀ {ds : List D} {vs : List V} {ns : List Bool}, blsOf ds = some ns → RepAll K mg G τ vs ds → vs = ns.map V.bl
  | [], _, _, h, r => by
    cases h
    rw [r.nil_inv]
    rfl
  | d :: ds, _, _, h, r => by
    obtain ⟨v, us, rfl, rv, ru⟩ := r.cons_inv
    cases d with
    | bl i =>
      simp only [blsOf, Option.map_eq_some_iff] at h
      obtain ⟨ns, h, rfl⟩ := h
      rw [bls_inv h ru, rv.bl_inv]
      rfl
    | _ => cases h
theorem Rep.seqL {v : V} {ds : List D} {H : Hp} (hs : Same G H) {d : D} (h : Rep K mg G τ v d) (e : d = .lst ds ∨ d = .frz ds) : ∃ a xs, v = .ref a ∧ SqL K H a xs ∧ RepAll K mg G τ xs ds := by
  rcases e with rfl | rfl
  · obtain ⟨a, xs, rfl, h1, r⟩ := h.lst_inv
    exact ⟨a, xs, rfl, .of (hs _ _ h1), r⟩
  · obtain ⟨a, xs, rfl, h1, r⟩ := h.frz_inv
    exact ⟨a, xs, rfl, hs.seq h1, r⟩
theorem Rep.dct_inv {v : V} {kvs : List (D × D)} (h : Rep K mg G τ v (.dct kvs)) : (∃ a ks us, v = .ref a ∧ G a = some (.dK ks) ∧ RepAll K mg G τ (ks.map (·.2)) us ∧ kvs = (ks.map fun p => kD p.1).zip us) ∨
    ∃ a ks us, v = .ref a ∧ G a = some (.dT ks) ∧ RepAll K mg G τ (ks.map (·.2)) us ∧ kvs = (ks.map fun p => kT p.1).zip us := by
  cases h with
  | dK h r => exact .inl ⟨_, _, _, rfl, h, r, rfl⟩
  | dT h r => exact .inr ⟨_, _, _, rfl, h, r, rfl⟩
end
def dLen : FN := fun ds => match ds with
  | [.str x] => if x.length ≤ 16777216 then some (.int x.length) else none
  | [.tup xs] => some (.int xs.length)
  | [.lst xs] => some (.int xs.length)
  | [.frz xs] => some (.int xs.length)
  | [.ktp xs] => some (.int xs.length)
  | [.dct kvs] => some (.int kvs.length)
  | _ => none
def dAbs : FN := fun ds => match ds with
  | [.int i] => some (.int (if i < 0 then -i else i))
  | _ => none
def dSum : FN := fun ds => match ds with
  | [.lst xs] => (intsOf xs).map fun ns => .int ns.sum
  | _ => none
def dAny : FN := fun ds => match ds with
  | [.lst xs] => (blsOf xs).map fun ns => .bl (ns.any id)
  | _ => none
def dAll : FN := fun ds => match ds with
  | [.lst xs] => (blsOf xs).map fun ns => .bl (ns.all id)
  | _ => none
def maxI : Int → List Int → Int
  | a, [] => a
  | a, b :: r => maxI (if a < b then b else a) r
def minI : Int → List Int → Int
  | a, [] => a
  | a, b :: r => minI (if b < a then b else a) r
def dMax : FN := fun ds => match ds with
  | [.int i, .int j] => some (.int (if j > i then j else i))
  | [.lst xs] => match intsOf xs with
    | some (a :: l) => some (.int (maxI a l))
    | _ => none
  | _ => none
def dMin : FN := fun ds => match ds with
  | [.int i, .int j] => some (.int (if j < i then j else i))
  | [.lst xs] => match intsOf xs with
    | some (a :: l) => some (.int (minI a l))
    | _ => none
  | _ => none
def dInt : FN := fun ds => match ds with
  | [.int i] => some (.int i)
  | [.bl k] => some (.int (if k then 1 else 0))
  | [.str a] => if a.length ≤ 640 then (PySem.intText? a).map .int else none
  | _ => none
def dStr : FN := fun ds => match ds with
  | [.int i] => if i.natAbs.log2 < 1920 then some (.str (toString i)) else none
  | [.str a] => some (.str a)
  | _ => none
def dTupOf : FN := fun ds => match ds with
  | [.lst xs] => some (.tup xs)
  | [.frz xs] => some (.tup xs)
  | [.tup xs] => some (.tup xs)
  | _ => none
def dLstOf : FN := fun ds => match ds with
  | [.lst xs] => some (.lst xs)
  | [.frz xs] => some (.lst xs)
  | [.tup xs] => some (.lst xs)
  | _ => none
section
variable {X : Cx}
def rLenA (K : PySem.W.Frag) : List V → Hp → VK → Prop := fun xs H Q => (∃ x n, xs = [x] ∧ LenV K x H n ∧ Q (.int n) H) ∨ (∃ a kvs, xs = [V.ref a] ∧ H a = some (.dK kvs) ∧ Q (.int kvs.length) H) ∨ rLenT xs H Q
theorem c_len : CallR X (.builtin "len") (rLenA X.K) := call_len.or (call_lenD.or call_len_dT)
def rIntA : List V → Hp → VK → Prop := fun xs H Q => ((∃ i, xs = [.int i] ∧ Q (.int i) H) ∨ ∃ k, xs = [.bl k] ∧ Q (.int (if k then 1 else 0)) H) ∨ ∃ a n, xs = [.str a] ∧ PySem.intText? a = some n ∧ a.length ≤ 640 ∧ Q (.int n) H
theorem c_int : CallR X (.type "int") rIntA := call_int1.or call_int_str
def rStrA : List V → Hp → VK → Prop := fun xs H Q => (∃ i, xs = [.int i] ∧ i.natAbs.log2 < 1920 ∧ Q (.str (toString i)) H) ∨ ∃ a, xs = [.str a] ∧ Q (.str a) H
theorem c_str : CallR X (.type "str") rStrA := call_str_int.or SkE.call_str_str
def rAbs : List V → Hp → VK → Prop := fun xs H Q => ∃ i, xs = [.int i] ∧ Q (.int (if i < 0 then -i else i)) H
theorem c_abs : CallR X (.builtin "abs") rAbs := call_abs
def rLstOf (K : PySem.W.Frag) : List V → Hp → VK → Prop := fun xs H Q => ∃ p ys, xs = [.ref p] ∧ (SqL K H p ys ∨ SqT K H p ys) ∧ ∀ l, H l = none → Q (.ref l) (upd H l (.lst ys))
theorem c_lst : CallR X (.type "list") (rLstOf X.K) := call_list_of
variable {K : PySem.W.Frag} {mg : Str → Option Value}
theorem v_len : VC K mg (rLenA K) dLen := fun W s vs ds z Q B r hz q => by
  unfold dLen at hz
  split at hz
  · split at hz
    · cases hz
      obtain ⟨v, rfl, rv⟩ := r.one_inv
      cases rv.str_inv
      exact .inl ⟨_, _, rfl, ⟨line_le (by assumption), rfl⟩, stay B q (.int _)⟩
    · cases hz
  · cases hz
    obtain ⟨v, rfl, rv⟩ := r.one_inv
    obtain ⟨a, xs, rfl, h, rr⟩ := rv.tup_inv
    exact .inl ⟨_, _, rfl, .inr ⟨xs, seqT B.sub h, rfl⟩, stay B q (by rw [rr.length]; exact .int _)⟩
  · cases hz
    obtain ⟨v, rfl, rv⟩ := r.one_inv
    obtain ⟨a, xs, rfl, h, rr⟩ := rv.seqL B.sub (.inl rfl)
    exact .inl ⟨_, _, rfl, .inl ⟨xs, h, rfl⟩, stay B q (by rw [rr.length]; exact .int _)⟩
  · cases hz
    obtain ⟨v, rfl, rv⟩ := r.one_inv
    obtain ⟨a, xs, rfl, h, rr⟩ := rv.seqL B.sub (.inr rfl)
    exact .inl ⟨_, _, rfl, .inl ⟨xs, h, rfl⟩, stay B q (by rw [rr.length]; exact .int _)⟩
  · cases hz
    obtain ⟨v, rfl, rv⟩ := r.one_inv
    obtain ⟨a, xs, rfl, h, rr⟩ := rv.ktp_inv
    exact .inl ⟨_, _, rfl, .inr ⟨xs, seqT B.sub h, rfl⟩, stay B q (by rw [rr.length]; exact .int _)⟩
  · cases hz
    obtain ⟨v, rfl, rv⟩ := r.one_inv
    rcases rv.dct_inv with ⟨a, ks, us, rfl, h, rr, rfl⟩ | ⟨a, ks, us, rfl, h, rr, rfl⟩
    · refine .inr (.inl ⟨a, ks, rfl, B.sub _ _ h, stay B q ?_⟩)
      have := rr.length
      rw [List.length_map] at this
      rw [List.length_zip, List.length_map, ← this, Nat.min_self]
      exact .int _
    · refine .inr (.inr ⟨a, ks, rfl, B.sub _ _ h, stay B q ?_⟩)
      have := rr.length
      rw [List.length_map] at this
      rw [List.length_zip, List.length_map, ← this, Nat.min_self]
      exact .int _
  · cases hz
theorem v_abs : VC K mg rAbs dAbs := fun W s vs ds z Q B r hz q => by
  unfold dAbs at hz
  split at hz
  · cases hz
    obtain ⟨v, rfl, rv⟩ := r.one_inv
    cases rv.int_inv
    exact ⟨_, rfl, stay B q (.int _)⟩
  · cases hz
theorem v_all : VC K mg (rAll K) dAll := fun W s vs ds z Q B r hz q => by
  unfold dAll at hz
  split at hz
  · obtain ⟨ns, h, rfl⟩ := Option.map_eq_some_iff.mp hz
    obtain ⟨v, rfl, rv⟩ := r.one_inv
    obtain ⟨a, xs, rfl, hl, rr⟩ := rv.seqL B.sub (.inl rfl)
    rw [bls_inv h rr] at hl
    exact ⟨a, ns, rfl, hl, stay B q (.bl _)⟩
  · cases hz
theorem v_int : VC K mg rIntA dInt := fun W s vs ds z Q B r hz q => by
  unfold dInt at hz
  split at hz
  · cases hz
    obtain ⟨v, rfl, rv⟩ := r.one_inv
    cases rv.int_inv
    exact .inl (.inl ⟨_, rfl, stay B q (.int _)⟩)
  · cases hz
    obtain ⟨v, rfl, rv⟩ := r.one_inv
    cases rv.bl_inv
    exact .inl (.inr ⟨_, rfl, stay B q (.int _)⟩)
  · split at hz
    · obtain ⟨n, h, rfl⟩ := Option.map_eq_some_iff.mp hz
      obtain ⟨v, rfl, rv⟩ := r.one_inv
      cases rv.str_inv
      exact .inr ⟨_, _, rfl, h, by assumption, stay B q (.int _)⟩
    · cases hz
  · cases hz
theorem v_str : VC K mg rStrA dStr := fun W s vs ds z Q B r hz q => by
  unfold dStr at hz
  split at hz
  · split at hz
    · cases hz
      obtain ⟨v, rfl, rv⟩ := r.one_inv
      cases rv.int_inv
      exact .inl ⟨_, rfl, by assumption, stay B q (.str _)⟩
    · cases hz
  · cases hz
    obtain ⟨v, rfl, rv⟩ := r.one_inv
    cases rv.str_inv
    exact .inr ⟨_, rfl, stay B q (.str _)⟩
  · cases hz
theorem vF_lst : VCF K mg (rLstOf K) dLstOf := fun W s vs ds z Q B r hz q => by
  unfold dLstOf at hz
  have key : ∀ {xs : List D} {d : D} {p : Addr} {ys : List V}, vs = [.ref p] → (SqL K W.H p ys ∨ SqT K W.H p ys) → RepAll K mg W.G W.τ ys xs → z = .lst xs → rLstOf K vs W.H Q := fun ev hl rr hz => by
    refine ⟨_, _, ev, hl, fun l hl => ?_⟩
    obtain ⟨B2, x2⟩ := B.newL hl (o := .lst _) (fun _ z => nomatch z)
    refine q _ _ x2 B2 ⟨l, _, _, rfl, hz, hl, ?_, ?_, upd_same, RepAll.ext x2 rr⟩
    · exact B.frz_none hl
    · exact fun m => B.tau_some m hl
  split at hz
  · cases hz
    obtain ⟨v, rfl, rv⟩ := r.one_inv
    obtain ⟨p, ys, rfl, hl, rr⟩ := rv.seqL B.sub (.inl rfl)
    exact key (d := .non) rfl (.inl hl) rr rfl
  · cases hz
    obtain ⟨v, rfl, rv⟩ := r.one_inv
    obtain ⟨p, ys, rfl, hl, rr⟩ := rv.seqL B.sub (.inr rfl)
    exact key (d := .non) rfl (.inl hl) rr rfl
  · cases hz
    obtain ⟨v, rfl, rv⟩ := r.one_inv
    obtain ⟨p, ys, rfl, hl, rr⟩ := rv.tup_inv
    exact key (d := .non) rfl (.inr (seqT B.sub hl)) rr rfl
  · cases hz
end
/-! ### types, isinstance -/
def tyD : D → Option String
  | .non => some "NoneType"
  | .bl _ => some "bool"
  | .int _ => some "int"
  | .str _ => some "str"
  | .tup _ => some "tuple"
  | .lst _ => some "list"
  | .frz _ => some "list"
  | .dct _ => some "dict"
  | .ktp _ => some "tuple"
  | _ => none
section
variable {K : PySem.W.Frag} {mg : Str → Option Value} {G H : Hp} {τ : List Addr}
theorem tyx_of (hs : Same G H) {v : V} {d : D} {t : String} (r : Rep K mg G τ v d) (h : tyD d = some t) : TyX K H v (.type t) := by
  have sl : ∀ {a : Addr} {xs : List V}, SqL K G a xs → TyX K H (.ref a) (.type "list") := fun e => by
    rcases hs.seq e with (e | ⟨o, e⟩) | ⟨o, its, n, e, ec, _⟩
    · exact .base (.lst e)
    · exact .base (.frz e)
    · exact .kList e ec
  cases r with
  | non => cases h; exact .base .non
  | bl b => cases h; exact .base (.bl b)
  | int i => cases h; exact .base (.int i)
  | str x => cases h; exact .base (.str x)
  | tup e _ =>
    cases h
    exact .base (.tup (hs _ _ e))
  | lst e _ => cases h; exact .base (.lst (hs _ _ e))
  | frz e _ => cases h; exact sl e
  | dK e _ => cases h; exact .base (.dK (hs _ _ e))
  | dT e _ => cases h; exact .base (.dT (hs _ _ e))
  | fdK e _ => cases h
  | fdT e _ => cases h
  | tok _ => cases h
  | ty _ => cases h
  | glb _ _ => cases h
  | ktp e _ =>
    cases h
    rcases seqT hs e with (e | ⟨o, e⟩) | ⟨o, its, n, e, ec, _⟩
    · exact .base (.tup e)
    · exact .fTuple e
    · exact .kTuple e ec
  | exc _ _ => cases h
end
/-- isinstance of one built-in type -/
def dIsi : FN := fun ds => match ds with
  | [d, .ty n] => match tyD d with
    | some t => (kitB t n).map .bl
    | none => none
  | _ => none
theorem v_isi {K : PySem.W.Frag} {mg : Str → Option Value} : VC K mg (rIsi K) dIsi := fun W s vs ds z Q B r hz q => by
  unfold dIsi at hz
  split at hz
  · split at hz
    · rename_i d n _ t ht
      obtain ⟨b, hb, rfl⟩ := Option.map_eq_some_iff.mp hz
      obtain ⟨v, u, rfl, rv, ru⟩ := r.two_inv
      cases ru.ty_inv
      exact ⟨v, _, _, _, b, rfl, .ty n, tyx_of B.sub rv ht, kit_ty hb, stay B q (.bl b)⟩
    · cases hz
  · cases hz
section
variable {X : Cx} {E : WX} {pos : Pos}
/-- the name of a built-in type as a value -/
theorem e_ty {x : Str} {T : String} (hm : X.mg x = none) (hv : bootBuiltins x = some (.type T) := by decide +kernel) (hg : Gl X x := by rfl) (hn : x ≠ "__name__" := by decide) (hd : (x == ("__debug__" : Str)) = false := by decide) : PE X (.Name x pos) (tE X.K X.mg E (eC (.ty T))) :=
  e_const (pe_bltn (v := .ty T) hg hm hv rfl hn hd) fun _ _ => .ty T
end
end DL
namespace DL
open PySem PySem.Spec PyProof.Rows L2
variable [LT : LawT] [TC : TellC]
/-! ### repr -/
mutual
/-- may be shown: no number of L bits and more, no classes -/
def okR (L : Nat) : D → Bool
  | .non => true
  | .bl _ => true
  | .int i => decide (i.natAbs.log2 < L)
  | .str _ => true
  | .tup xs => okRs L xs
  | .lst xs => okRs L xs
  | .frz xs => okRs L xs
  | .dct kvs => okRk L kvs
  | .tok _ => false
  | .ty _ => false
  | .glb _ => false
  | .ktp xs => okRs L xs
  | .exc _ => false
  | .fd _ _ => false
def okRs (L : Nat) : List D → Bool
  | [] => true
  | x :: xs => okR L x && okRs L xs
def okRk (L : Nat) : List (D × D) → Bool
  | [] => true
  | (k, v) :: r => okR L k && okR L v && okRk L r
end
theorem toPyKv_fst : ∀ l : List (D × D), (toPyKv l).map (·.1) = toPys (l.map (·.1))
  | [] => by simp [toPyKv, toPys]
  | (k, v) :: r => by simp [toPyKv, toPys, toPyKv_fst r]
theorem toPyKv_snd : ∀ l : List (D × D), (toPyKv l).map (·.2) = toPys (l.map (·.2))
  | [] => by simp [toPyKv, toPys]
  | (k, v) :: r => by simp [toPyKv, toPys, toPyKv_snd r]
theorem okRk_fst {L : Nat} : ∀ {l : List (D × D)}, okRk L l = true → okRs L (l.map (·.1)) = true ∧ okRs L (l.map (·.2)) = true
  | [], _ => ⟨by simp [okRs], by simp [okRs]⟩
  | (k, v) :: r, h => by
    simp only [okRk, Bool.and_eq_true] at h
    obtain ⟨h1, h2⟩ := okRk_fst h.2
    simp [okRs, h.1.1, h.1.2, h1, h2]
section
variable {prog : Program} {w : World} {h₀ : Heap}
theorem intL_repr {A : Around} {E : Value → Shared → Prop} {s : Shared} {a : Int} {t : Tok} {Q : Value → Shared → Prop} (hn : s.heap.NoDigits) (ha : a.natAbs.log2 < 12900) (h : Q (.str (toString a) s.toks) { s with toks := s.toks + 1 }) :
    wpAny (model prog w) A (call (.builtin "int.__repr__") [.int a t]) Q E s := by
  have lo : a.natAbs < 10 ^ 4300 := Nat.lt_of_lt_of_le (lt_of_log2 ha) pow_lo
  refine wpAny_call_entry F.slot_int_repr (typeIs_int s a t) F.entry_int_repr ?_ (F.args_int_repr_1 _)
  unfold Builtin.«int.__repr__»
  show wpAny _ _ (do let r ← Builtin.overDigitLimit? a; _) _ _ s
  refine wpAny_bind (overDigitLimit_any hn (fun hlt => ?_) (fun hge => absurd lo (Nat.not_lt.mpr hge)))
  exact wpAny_bind (wpAny_mkStr (wpAny_pure ⟨_, rfl, h⟩) (int_text_fits10 hlt))
theorem reprK_int {as : List Addr} {d : Nat} {a : Int} {t : Tok} {L : Nat} (hL : L ≤ 1920 ∨ (h₀.NoDigits ∧ L ≤ 12900)) (ha : a.natAbs.log2 < L) : ReprK prog w as h₀ d (.int a t) (toString a) := by
  by_cases hs : a.natAbs.log2 < 1920
  · exact .of_is (ReprIs.int t hs) _ _ _
  · rcases hL with hL | ⟨hn, hL⟩
    · omega
    · intro base hb A g E s Q hg hc hu hk hQ
      rw [pyReprUnder_leaf (v := .int a t) (by omega) (fun _ e => nomatch e)]
      unfold pyRepr
      refine wpAny_bind (wpAny_pyReprObj_slot (by omega) (typeIs_int _ a t) F.slot_int_repr.toG (intL_repr (hn.keeps hk) (by omega) ⟨_, _, rfl, ?_⟩))
      exact wpAny_pure (hQ s.heap _ fun _ _ e => e)
/-- what repr asks of a value -/
structure Shw (prog : Program) (w : World) (h₀ : Heap) (u : Value) (d : PyData) (as bs : List Addr) : Prop where
  rd : Reads h₀ u d as
  am : ReadAtMost h₀ d.depth bs
  rk : ReprK prog w bs h₀ d.depth u d.shown
  tp : ∀ a, u = .ref a → d.shown.length ≤ sizeLine → ∃ T idr, SlotG T "__repr__" idr ∧ (∃ o, h₀.get? a = some o ∧ o.cls = .type T) ∧
    ∀ (A : Around) (E : Value → Shared → Prop) (s : Shared) (Q : Value → Shared → Prop), A.guards = some [] → A.units + d.depth < cLine → (∀ b o, h₀.get? b = some o → s.heap.get? b = some o) →
      (∀ h' u tk, (∀ b o, s.heap.get? b = some o → h'.get? b = some o) → Q (.str d.shown u) { s with heap := h', toks := tk }) → wpAny (model prog w) A (call (.builtin idr) [.ref a]) Q E s
structure ShwAll (prog : Program) (w : World) (h₀ : Heap) (us : List Value) (ds : List PyData) (as bs : List Addr) : Prop where
  rd : ReadsAll h₀ us ds as
  am : ReadAtMost h₀ (PyData.depthAll ds) bs
  rk : ReprAllK prog w bs h₀ (PyData.depthAll ds) us (PyData.shownAll ds)
theorem shw_cons {u : Value} {us : List Value} {d : PyData} {ds : List PyData} {as bs cs es : List Addr} (h : Shw prog w h₀ u d as bs) (hs : ShwAll prog w h₀ us ds cs es) : ShwAll prog w h₀ (u :: us) (d :: ds) (as ++ cs) (bs ++ es) := by
  refine ⟨.cons h.rd hs.rd, ?_, ?_⟩
  · intro b hm
    simp only [PyData.depthAll]
    rcases List.mem_append.mp hm with hm | hm
    · obtain ⟨d', as', r', hd'⟩ := h.am b hm
      exact ⟨d', as', r', Nat.le_trans hd' (Nat.le_max_left _ _)⟩
    · obtain ⟨d', as', r', hd'⟩ := hs.am b hm
      exact ⟨d', as', r', Nat.le_trans hd' (Nat.le_max_right _ _)⟩
  · simp only [PyData.depthAll, PyData.shownAll]
    exact .cons ((h.rk.more fun b hb => List.mem_append_left _ hb).level_le (Nat.le_max_left _ _)) (hs.rk.more_le (fun b hb => List.mem_append_right _ hb) (Nat.le_max_right _ _))
theorem shw_nil : ShwAll prog w h₀ [] [] [] [] := ⟨.nil, (fun _ h => nomatch h), by simp only [PyData.shownAll]; exact .nil⟩
theorem shw_tup {a : Addr} {its : List Value} {xs : List PyData} {as bs : List Addr} (p : IsTup h₀ a its.toArray) (h : ShwAll prog w h₀ its xs as bs) : Shw prog w h₀ (.ref a) (.tuple xs) as (a :: bs) := by
  obtain ⟨o, h1, h2, n, h3⟩ := p
  have h4 : ReadsAll h₀ its.toArray.toList xs as := by simpa using h.rd
  have r : Reads h₀ (.ref a) (.tuple xs) as := .tuple h1 h2 h3 h4
  have hna : a ∉ bs := not_mem_of_deeper r (by simp only [PyData.depth]; omega) h.am
  refine ⟨r, ReadAtMost.cons r (by simp only [PyData.depth]; omega) h.am, ?_, ?_⟩
  · simp only [PyData.depth, PyData.shown]
    exact ReprK.tuple h1 h2 h3 hna (by simpa using h.rk)
  · intro b e hz
    cases e
    refine ⟨"tuple", "tuple.__repr__", F.slot_tuple_repr, ⟨o, h1, h2⟩, fun A E s Q hg hu hk0 hQ => ?_⟩
    simp only [PyData.depth] at hu
    simp only [PyData.shown] at hQ hz
    exact call_tuple_reprK h1 h2 h3 hna (by simpa using h.rk) hg (fun b _ => Clear.nil b) hu hk0 hQ hz
theorem shw_lst {a : Addr} {o : Obj} {n : Nat} {its : List Value} {xs : List PyData} {as bs : List Addr} (h1 : h₀.get? a = some o) (h2 : o.cls = .type "list") (h3 : o.data = .seq its.toArray n) (h : ShwAll prog w h₀ its xs as bs) :
    Shw prog w h₀ (.ref a) (.list xs) (a :: as) (a :: bs) := by
  have h4 : ReadsAll h₀ its.toArray.toList xs as := by simpa using h.rd
  have r : Reads h₀ (.ref a) (.list xs) _ := .list h1 h2 h3 h4
  have hna : a ∉ bs := not_mem_of_deeper r (by simp only [PyData.depth]; omega) h.am
  have hk := h.rk
  refine ⟨r, ReadAtMost.cons r (by simp only [PyData.depth]; omega) h.am, ?_, ?_⟩
  · simp only [PyData.depth, PyData.shown]
    cases its with
    | nil =>
      have h4' : ReadsAll h₀ [] xs as := by simpa using h4
      cases h4'
      simp only [PyData.shownAll, listText_nil]
      exact ReprK.listEmpty h1 h2 h3
    | cons x l => exact ReprK.list h1 h2 h3 hna (by simpa using hk.length_eq) (fun i y e => hk.item i y (by simpa using e))
  · intro b e hz
    cases e
    refine ⟨"list", "list.__repr__", F.slot_list_repr.toG, ⟨o, h1, h2⟩, fun A E s Q hg hu hk0 hQ => ?_⟩
    simp only [PyData.depth] at hu
    simp only [PyData.shown] at hQ hz
    cases its with
    | nil =>
      have h4' : ReadsAll h₀ [] xs as := by simpa using h4
      cases h4'
      simp only [PyData.shownAll, listText_nil] at hQ
      exact call_list_repr_empty ⟨o, hk0 _ _ h1, h2⟩ (hk0 _ _ h1) h3 (hQ s.heap _ _ fun _ _ e => e)
    | cons x l => exact call_list_reprK h1 h2 h3 hna (by simpa using hk.length_eq) (fun i y e => hk.item i y (by simpa using e)) hg (fun b _ => Clear.nil b) hu hk0 hQ hz
theorem shw_dct {a : Addr} {o : Obj} {es : Array DictEntry} {n : Nat} {kvs : List (PyData × PyData)} {a1 a2 b1 b2 : List Addr} (h1 : h₀.get? a = some o) (h2 : o.cls = .type "dict") (h3 : o.data = .dict es n) (hsys : (a == sysModules) = false)
    (hk : ShwAll prog w h₀ (es.toList.map (·.key)) (kvs.map (·.1)) a1 b1) (hv : ShwAll prog w h₀ (es.toList.map (·.val)) (kvs.map (·.2)) a2 b2) : Shw prog w h₀ (.ref a) (.dict kvs) (a :: a1 ++ a2) (a :: (b1 ++ b2)) := by
  have r : Reads h₀ (.ref a) (.dict kvs) _ := .dict h1 h2 h3 hk.rd hv.rd
  have hb : ReadAtMost h₀ (PyData.depthKv kvs) (b1 ++ b2) := (hk.am.mono (PyData.depthAll_keys_le kvs)).append (hv.am.mono (PyData.depthAll_vals_le kvs))
  have hna : a ∉ b1 ++ b2 := not_mem_of_deeper r (by simp only [PyData.depth]; omega) hb
  have ent := ReprEntriesK.of_two es.toList _ _
    (hk.rk.more_le (fun b (hb : b ∈ b1) => List.mem_append_left b2 hb) (PyData.depthAll_keys_le kvs)) (hv.rk.more_le (fun b (hb : b ∈ b2) => List.mem_append_right b1 hb) (PyData.depthAll_vals_le kvs))
  refine ⟨r, ReadAtMost.cons r (by simp only [PyData.depth]; omega) hb, ?_, ?_⟩
  · simp only [PyData.depth, PyData.shown, PyData.shownKv_eq]
    exact ReprK.dict h1 h2 h3 hsys hna ent
  · intro b e hz
    cases e
    refine ⟨"dict", "dict.__repr__", F.slot_dict_repr, ⟨o, h1, h2⟩, fun A E s Q hg hu hk0 hQ => ?_⟩
    simp only [PyData.depth] at hu
    simp only [PyData.shown, PyData.shownKv_eq] at hQ hz
    exact call_dict_reprK h1 h2 h3 hsys hna ent hg (fun b _ => Clear.nil b) hu hk0 hQ hz
end
section
variable {X : Cx} {pins : List (Addr × Obj)} {σ : L2.St} {H G : Hp} {τ : List Addr} {s : Shared} {L : Nat}
theorem shw_key {L : Nat} (hL : L ≤ 1920 ∨ (s.heap.NoDigits ∧ L ≤ 12900)) {k : Key} {u : Value} (h : keyIs k u = true) (ok : okR L (kD k) = true) (hz : (toPy (kD k)).shown.length ≤ sizeLine) : Shw X.prog X.w s.heap u (toPy (kD k)) [] [] := by
  rcases keyIs_shape h with ⟨i, t, rfl, rfl⟩ | ⟨x, t, rfl, rfl⟩
  · simp only [kD, toPy]
    refine ⟨.int i t, (fun _ h => nomatch h), ?_, fun _ z => nomatch z⟩
    simp only [PyData.shown]
    exact reprK_int hL (by simpa [kD, okR] using ok)
  · simp only [kD, toPy]
    refine ⟨.str x t, (fun _ h => nomatch h), ?_, fun _ z => nomatch z⟩
    simp only [PyData.shown]
    exact .of_is (ReprIs.str x t (by simpa only [kD, toPy, PyData.shown] using hz)) _ _ _
theorem shw_keys {L : Nat} (hL : L ≤ 1920 ∨ (s.heap.NoDigits ∧ L ≤ 12900)) : ∀ {ks : List Key} {its : List Value}, Vals (ks.map kV) its → okRs L (ks.map kD) = true → (∀ t ∈ PyData.shownAll (toPys (ks.map kD)), t.length ≤ sizeLine) → ShwAll X.prog X.w s.heap its (toPys (ks.map kD)) [] []
  | [], its, r, _, _ => by
    cases r
    simp only [List.map_nil, toPys]
    exact shw_nil
  | k :: ks, its, r, ok, hz => by
    cases r with
    | cons r1 r2 =>
      simp only [List.map_cons, okRs, Bool.and_eq_true] at ok
      simp only [List.map_cons, toPys]
      simp only [List.map_cons, toPys, PyData.shownAll, List.mem_cons] at hz
      exact shw_cons (as := []) (bs := []) (shw_key hL (kV_is (P := X.prog) (w := X.w) r1) ok.1 (hz _ (.inl rfl))) (shw_keys hL r2 ok.2 fun t ht => hz t (.inr ht))
theorem dct_le {kvs : List (PyData × PyData)} (hz : (PyData.dict kvs).shown.length ≤ sizeLine) : (∀ t ∈ PyData.shownAll (kvs.map (·.1)), t.length ≤ sizeLine) ∧ ∀ t ∈ PyData.shownAll (kvs.map (·.2)), t.length ≤ sizeLine := by
  have hz' : (dictText (PyData.shownKv kvs)).length ≤ sizeLine := by simpa only [PyData.shown] using hz
  exact ⟨fun t ht => let ⟨p, hp, hl⟩ := PyData.shownKv_key_le kvs t ht; Nat.le_trans hl (Nat.le_trans (dictText_mem_le hp) hz'),
    fun t ht => let ⟨p, hp, hl⟩ := PyData.shownKv_val_le kvs t ht; Nat.le_trans hl (Nat.le_trans (dictText_mem_le hp) hz')⟩
theorem zip_map1 {α β γ : Type} (f : α → β) : ∀ {l : List α} {m : List γ}, l.length = m.length → ((l.map f).zip m).map (·.1) = l.map f
  | [], [], _ => rfl
  | a :: l, b :: m, h => by simp only [List.map_cons, List.zip_cons_cons, zip_map1 f (by simpa using h : l.length = m.length)]
theorem zip_map2 {α β γ : Type} (f : α → β) : ∀ {l : List α} {m : List γ}, l.length = m.length → ((l.map f).zip m).map (·.2) = m
  | [], [], _ => rfl
  | a :: l, b :: m, h => by simp only [List.map_cons, List.zip_cons_cons, zip_map2 f (by simpa using h : l.length = m.length)]
theorem vals_kv {κ : Type} : ∀ {kvs : List (κ × V)} {vs : List (κ × Value)}, KV kvs vs → Vals (kvs.map (·.2)) (vs.map (·.2))
  | _, _, .nil => .nil
  | _, _, .cons h t => .cons h.2 (vals_kv t)
theorem fst_kv {κ : Type} : ∀ {kvs : List (κ × V)} {vs : List (κ × Value)}, KV kvs vs → kvs.map (·.1) = vs.map (·.1)
  | _, _, .nil => rfl
  | _, _, .cons h t => by rw [List.map_cons, List.map_cons, h.1, fst_kv t]
theorem pairs_val {P : Program} {w : World} : ∀ {es : List DictEntry} {vs : List (Key × Value)}, Pairs (mixKind P w) es vs → es.map (·.val) = vs.map (·.2)
  | _, _, .nil => rfl
  | _, _, .cons _ h t => by rw [List.map_cons, List.map_cons, h, pairs_val t]
theorem pairs_key {P : Program} {w : World} {L : Nat} (hL : L ≤ 1920 ∨ (s.heap.NoDigits ∧ L ≤ 12900)) : ∀ {es : List DictEntry} {vs : List (Key × Value)}, Pairs (mixKind P w) es vs → okRs L (vs.map fun p => kD p.1) = true → (∀ t ∈ PyData.shownAll (toPys (vs.map fun p => kD p.1)), t.length ≤ sizeLine) →
    ShwAll X.prog X.w s.heap (es.map (·.key)) (toPys (vs.map fun p => kD p.1)) [] []
  | _, _, .nil, _, _ => by
    simp only [List.map_nil, toPys]
    exact shw_nil
  | _, _, .cons h _ t, ok, hz => by
    simp only [List.map_cons, okRs, Bool.and_eq_true] at ok
    simp only [List.map_cons, toPys]
    simp only [List.map_cons, toPys, PyData.shownAll, List.mem_cons] at hz
    exact shw_cons (as := []) (bs := []) (shw_key hL h ok.1 (hz _ (.inl rfl))) (pairs_key hL t ok.2 fun t ht => hz t (.inr ht))
theorem kT_all {L : Nat} (hL : L ≤ 1920 ∨ (s.heap.NoDigits ∧ L ≤ 12900)) (I : Inv X pins σ H s) : ∀ {kvs : List (List Key × V)} {xs : List (List Key × Addr × Value)}, Paired (fun (p : List Key × V) (q : List Key × Addr × Value) => p.1 = q.1 ∧ H q.2.1 = some (.tup (p.1.map kV)) ∧ RelV p.2 q.2.2) kvs xs →
    okRs L (kvs.map fun p => kT p.1) = true → (∀ t ∈ PyData.shownAll (toPys (kvs.map fun p => kT p.1)), t.length ≤ sizeLine) → ∃ bs, ShwAll X.prog X.w s.heap (xs.map fun q => Value.ref q.2.1) (toPys (kvs.map fun p => kT p.1)) [] bs
  | _, _, .nil, _, _ => by
    simp only [List.map_nil, toPys]
    exact ⟨[], shw_nil⟩
  | _, _, .cons h t, ok, hz => by
    simp only [List.map_cons, okRs, Bool.and_eq_true] at ok
    simp only [List.map_cons, toPys]
    simp only [List.map_cons, toPys, PyData.shownAll, List.mem_cons] at hz
    obtain ⟨bs, h2⟩ := kT_all hL I t ok.2 fun t ht => hz t (.inr ht)
    obtain ⟨e, ht, rv⟩ := h
    obtain ⟨its, r, p, _⟩ := I.tuple (.of ht)
    have hz1 := hz _ (.inl rfl)
    simp only [kT, toPy, PyData.shown] at hz1
    have h3 := shw_tup p (shw_keys (X := X) hL r (by simpa [kT, okR] using ok.1) fun t ht => Nat.le_trans (tupleText_mem_le ht) hz1)
    have h3' := shw_cons (as := []) (u := Value.ref _) (d := toPy (kT _)) (by simp only [kT, toPy]; exact h3) h2
    exact ⟨_, h3'⟩
theorem vals_kt : ∀ {kvs : List (List Key × V)} {xs : List (List Key × Addr × Value)}, Paired (fun (p : List Key × V) (q : List Key × Addr × Value) => p.1 = q.1 ∧ H q.2.1 = some (.tup (p.1.map kV)) ∧ RelV p.2 q.2.2) kvs xs → Vals (kvs.map (·.2)) (xs.map (·.2.2))
  | _, _, .nil => .nil
  | _, _, .cons h t => .cons h.2.2 (vals_kt t)
mutual
theorem shw_rep (hL : L ≤ 1920 ∨ (s.heap.NoDigits ∧ L ≤ 12900)) (I : Inv X pins σ H s) (hs : Same G H) : ∀ {v : V} {d : D} {u : Value}, Rep X.K X.mg G τ v d → RelV v u → okR L d = true → (toPy d).shown.length ≤ sizeLine → ∃ as bs, Shw X.prog X.w s.heap u (toPy d) as bs
  | _, _, u, .non, r, _, _ => by
    cases r
    exact ⟨[], [], .none, (fun _ h => nomatch h), by simp only [toPy, PyData.shown]; exact .of_is ReprIs.none _ _ _, fun _ z => nomatch z⟩
  | _, _, u, .bl b, r, _, _ => by
    cases r
    exact ⟨[], [], .bool b, (fun _ h => nomatch h), by simp only [toPy, PyData.shown]; exact .of_is (ReprIs.bool b) _ _ _, fun _ z => nomatch z⟩
  | _, _, u, .int i, r, ok, _ => by
    obtain ⟨t, rfl⟩ := r
    exact ⟨[], [], .int i t, (fun _ h => nomatch h), by simp only [toPy, PyData.shown]; exact reprK_int hL (by simpa [okR] using ok), fun _ z => nomatch z⟩
  | _, _, u, .str x, r, _, hz => by
    obtain ⟨t, rfl⟩ := r
    exact ⟨[], [], .str x t, (fun _ h => nomatch h), by simp only [toPy, PyData.shown]; exact .of_is (ReprIs.str x t (by simpa only [toPy, PyData.shown] using hz)) _ _ _, fun _ z => nomatch z⟩
  | _, _, u, .tup (a := a) (xs := xs) (ds := ds) h rs, r, ok, hz => by
    cases (show u = Value.ref a from r)
    obtain ⟨its, rv, p, _⟩ := I.tuple (.of (hs _ _ h))
    have hz' : (tupleText (PyData.shownAll (toPys ds))).length ≤ sizeLine := by simpa only [toPy, PyData.shown] using hz
    obtain ⟨as, bs, q⟩ := shws_rep hL I hs rs rv (by simpa [okR] using ok) (fun t ht => Nat.le_trans (tupleText_mem_le ht) hz')
    simp only [toPy]
    exact ⟨_, _, shw_tup p q⟩
  | _, _, u, .lst (a := a) (xs := xs) (ds := ds) h rs, r, ok, hz => by
    cases (show u = Value.ref a from r)
    obtain ⟨its, rv, p, _⟩ := I.list (.of (hs _ _ h))
    obtain ⟨o, h1, h2, n, h3⟩ := p.isList
    have hz' : (listText (PyData.shownAll (toPys ds))).length ≤ sizeLine := by simpa only [toPy, PyData.shown] using hz
    obtain ⟨as, bs, q⟩ := shws_rep hL I hs rs rv (by simpa [okR] using ok) (fun t ht => Nat.le_trans (listText_mem_le ht) hz')
    simp only [toPy]
    exact ⟨_, _, shw_lst h1 h2 h3 q⟩
  | _, _, u, .frz (a := a) (xs := xs) (ds := ds) h rs, r, ok, hz => by
    cases (show u = Value.ref a from r)
    obtain ⟨its, rv, p, _⟩ := I.list (hs.seq h)
    obtain ⟨o, h1, h2, n, h3⟩ := p.isList
    have hz' : (listText (PyData.shownAll (toPys ds))).length ≤ sizeLine := by simpa only [toPy, PyData.shown] using hz
    obtain ⟨as, bs, q⟩ := shws_rep hL I hs rs rv (by simpa [okR] using ok) (fun t ht => Nat.le_trans (listText_mem_le ht) hz')
    simp only [toPy]
    exact ⟨_, _, shw_lst h1 h2 h3 q⟩
  | _, _, u, .dK (a := a) (kvs := kvs) (vs := vs) h rs, r, ok, hz => by
    cases (show u = Value.ref a from r)
    obtain ⟨_, hd, vals, rel, o, es, ep, h1, h2, h3, _, h5, _⟩ := dk_of I.hok (hs _ _ h)
    have hl : kvs.length = vs.length := by have := rs.length; rwa [List.length_map] at this
    obtain ⟨ok1, ok2⟩ := okRk_fst (show okRk L _ = true by simpa [okR] using ok)
    have e1 := zip_map1 (fun p : Key × V => kD p.1) hl
    have e2 := zip_map2 (fun p : Key × V => kD p.1) hl
    rw [e1] at ok1
    rw [e2] at ok2
    have ef : (kvs.map fun p => kD p.1) = vals.map fun p => kD p.1 := by
      have := congrArg (List.map kD) (fst_kv rel)
      rw [List.map_map, List.map_map] at this
      exact this
    have hz2 : (PyData.dict (toPyKv ((kvs.map fun p => kD p.1).zip vs))).shown.length ≤ sizeLine := by simpa only [toPy] using hz
    obtain ⟨z1, z2⟩ := dct_le hz2
    rw [toPyKv_fst, e1] at z1
    rw [toPyKv_snd, e2] at z2
    obtain ⟨as, bs, q⟩ := shws_rep hL I hs rs (vals_kv rel) ok2 z2
    have k := pairs_key (X := X) hL h5 (by rw [← ef]; exact ok1) (by rw [← ef]; exact z1)
    simp only [toPy]
    refine ⟨_, _, shw_dct (a1 := []) (b1 := []) (a2 := as) (b2 := bs) h1 h2.1 h3 hd ?_ ?_⟩
    · rw [toPyKv_fst, e1, ef]; exact k
    · rw [toPyKv_snd, e2, pairs_val h5]; exact q
  | _, _, u, .dT (a := a) (kvs := kvs) (vs := vs) h rs, r, ok, hz => by
    cases (show u = Value.ref a from r)
    obtain ⟨_, hd, xs, rel, o, es, ep, h1, h2, h3, h4, h5⟩ := (show ObjOk X.prog X.w H s.heap a (.dT kvs) from I.hok a _ (hs _ _ h))
    have hl : kvs.length = vs.length := by have := rs.length; rwa [List.length_map] at this
    obtain ⟨ok1, ok2⟩ := okRk_fst (show okRk L _ = true by simpa [okR] using ok)
    have e1 := zip_map1 (fun p : List Key × V => kT p.1) hl
    have e2 := zip_map2 (fun p : List Key × V => kT p.1) hl
    rw [e1] at ok1
    rw [e2] at ok2
    have hz2 : (PyData.dict (toPyKv ((kvs.map fun p => kT p.1).zip vs))).shown.length ≤ sizeLine := by simpa only [toPy] using hz
    obtain ⟨z1, z2⟩ := dct_le hz2
    rw [toPyKv_fst, e1] at z1
    rw [toPyKv_snd, e2] at z2
    obtain ⟨as, bs, q⟩ := shws_rep hL I hs rs (vals_kt rel) ok2 z2
    obtain ⟨b1, k⟩ := kT_all (X := X) hL I rel ok1 z1
    simp only [toPy]
    refine ⟨_, _, shw_dct (a1 := []) (b1 := b1) (a2 := as) (b2 := bs) h1 h2.1 h3 hd ?_ ?_⟩
    · rw [toPyKv_fst, e1, h4, List.map_map]; exact k
    · rw [toPyKv_snd, e2, h4, List.map_map]; exact q
  | _, _, u, .tok h, r, ok, _ => by simp [okR] at ok
  | _, _, u, .ty n, r, ok, _ => by simp [okR] at ok
  | _, _, u, .glb h h', r, ok, _ => by simp [okR] at ok
  | _, _, u, .exc h h', r, ok, _ => by simp [okR] at ok
  | _, _, u, .fdK h h', r, ok, _ => by simp [okR] at ok
  | _, _, u, .fdT h h', r, ok, _ => by simp [okR] at ok
  | _, _, u, .ktp (a := a) (xs := xs) (ds := ds) h rs, r, ok, hz => by
    cases (show u = Value.ref a from r)
    obtain ⟨its, rv, p, _⟩ := I.tuple (seqT hs h)
    have hz' : (tupleText (PyData.shownAll (toPys ds))).length ≤ sizeLine := by simpa only [toPy, PyData.shown] using hz
    obtain ⟨as, bs, q⟩ := shws_rep hL I hs rs rv (by simpa [okR] using ok) (fun t ht => Nat.le_trans (tupleText_mem_le ht) hz')
    simp only [toPy]
    exact ⟨_, _, shw_tup p q⟩
theorem shws_rep (hL : L ≤ 1920 ∨ (s.heap.NoDigits ∧ L ≤ 12900)) (I : Inv X pins σ H s) (hs : Same G H) : ∀ {vs : List V} {ds : List D} {us : List Value}, RepAll X.K X.mg G τ vs ds → Vals vs us → okRs L ds = true → (∀ t ∈ PyData.shownAll (toPys ds), t.length ≤ sizeLine) → ∃ as bs, ShwAll X.prog X.w s.heap us (toPys ds) as bs
  | _, _, _, .nil, r, _, _ => by
    cases r
    simp only [toPys]
    exact ⟨_, _, shw_nil⟩
  | _, _, _, .cons h t, r, ok, hz => by
    cases r with
    | cons r1 r2 =>
      simp only [okRs, Bool.and_eq_true] at ok
      simp only [toPys, PyData.shownAll, List.mem_cons] at hz
      obtain ⟨as, bs, q⟩ := shw_rep hL I hs h r1 ok.1 (hz _ (.inl rfl))
      obtain ⟨cs, es, q2⟩ := shws_rep hL I hs t r2 ok.2 (fun t ht => hz t (.inr ht))
      simp only [toPys]
      exact ⟨_, _, shw_cons q q2⟩
end
end
def repD (L : Nat) (d : D) : Option D := if okR L d = true ∧ (toPy d).depth ≤ 90 ∧ (toPy d).shown.length ≤ 16777216 then some (.str (toPy d).shown) else none
def dRepr (L : Nat) : FN := fun ds => match ds with
  | [d] => repD L d
  | _ => none
def rRepr (L : Nat) (K : PySem.W.Frag) (mg : Str → Option Value) : List V → Hp → VK → Prop := fun xs H Q => ∃ x d G τ, xs = [x] ∧ Same G H ∧ Rep K mg G τ x d ∧ okR L d = true ∧ (toPy d).depth ≤ 90 ∧ (toPy d).shown.length ≤ 16777216 ∧ Q (.str (toPy d).shown) H
theorem v_repr {L : Nat} {K : PySem.W.Frag} {mg : Str → Option Value} : VC K mg (rRepr L K mg) (dRepr L) := fun W s vs ds z Q B r hz q => by
  unfold dRepr at hz
  split at hz
  · rename_i d
    unfold repD at hz
    split at hz
    · rename_i h
      cases hz
      obtain ⟨v, rfl, rv⟩ := r.one_inv
      exact ⟨v, d, W.G, W.τ, rfl, B.sub, rv, h.1, h.2.1, h.2.2, stay B q (.str _)⟩
    · cases hz
  · cases hz
section
variable {X : Cx}
theorem c_reprL {L : Nat} (hL : L ≤ 1920 ∨ (X.base.NoDigits ∧ L ≤ 12900)) (hg : X.A.guards = some []) (hu : X.A.units + 94 < cLine) : CallR X (.builtin "repr") (rRepr L X.K X.mg) := by
  intro pins s σ H xs us Q I r h
  obtain ⟨x, d, G, τ, rfl, hs, rx, ok, hd, hz, q⟩ := h
  obtain ⟨u, rfl, ru⟩ := vals1 r
  have hz' : (toPy d).shown.length ≤ sizeLine := line_le hz
  have hL' : L ≤ 1920 ∨ (s.heap.NoDigits ∧ L ≤ 12900) := hL.imp id fun z => ⟨z.1.keeps I.bk, z.2⟩
  obtain ⟨as, bs, S⟩ := shw_rep hL' I hs rx ru ok hz'
  have top : ∀ a, u = .ref a → wpAny (model X.prog X.w) X.A (call (.builtin "repr") [u]) (EP X pins σ Q) X.xe s := fun a eu => by
    obtain ⟨T, idr, sl, ⟨o, ho, hc⟩, hcall⟩ := S.tp a eu hz'
    subst eu
    exact call_repr_slot (by omega) ⟨o, ho, hc⟩ sl (hcall X.A.in1 X.xe s _ hg (by show X.A.units + 1 + _ < cLine; omega) (fun _ _ e => e) fun h' t tk hk => ⟨_, t, rfl, ⟨.str _, H, I.kept hk, ⟨_, rfl⟩, q⟩⟩)
  cases rx with
  | non =>
    cases (show u = Value.none from ru)
    simp only [toPy, PyData.shown] at q
    exact PySem.P.repr_of_none ⟨.str _, H, I.tok _, ⟨_, rfl⟩, q⟩
  | bl b =>
    cases (show u = Value.bool b from ru)
    simp only [toPy, PyData.shown] at q
    exact PySem.P.repr_of_bool ⟨.str _, H, I.tok _, ⟨_, rfl⟩, q⟩
  | int i =>
    obtain ⟨t, rfl⟩ := (show ∃ t, u = Value.int i t from ru)
    simp only [toPy, PyData.shown] at q
    have hi : i.natAbs.log2 < L := by simpa [okR] using ok
    by_cases hs : i.natAbs.log2 < 1920
    · exact PySem.P.repr_of_int hs ⟨.str _, H, I.tok _, ⟨_, rfl⟩, q⟩
    · rcases hL' with hL' | ⟨hn, hL'⟩
      · omega
      · exact call_repr_slot (by omega) (typeIs_int s i t) F.slot_int_repr.toG (intL_repr hn (by omega) ⟨_, _, rfl, ⟨.str _, H, I.tok _, ⟨_, rfl⟩, q⟩⟩)
  | str y =>
    obtain ⟨t, rfl⟩ := (show ∃ t, u = Value.str y t from ru)
    simp only [toPy, PyData.shown] at q hz'
    exact PySem.P.repr_of_str ⟨.str _, H, I.tok _, ⟨_, rfl⟩, q⟩ hz'
  | tup _ _ => exact top _ ru
  | lst _ _ => exact top _ ru
  | frz _ _ => exact top _ ru
  | dK _ _ => exact top _ ru
  | dT _ _ => exact top _ ru
  | tok h => simp [okR] at ok
  | ty n => simp [okR] at ok
  | glb h h' => simp [okR] at ok
  | ktp _ _ => exact top _ ru
  | exc h h' => simp [okR] at ok
  | fdK h h' => simp [okR] at ok
  | fdT h h' => simp [okR] at ok
end
end DL
namespace DL
open PySem PySem.Spec PyProof.Rows L2
variable [LT : LawT] [TC : TellC]
/-! ### a new list is published: it becomes a special object -/
def ePub (f : DE) : DE := fun ρ s => (f ρ s).bind fun d s1 => match d with
  | .lst ds => if flats ds = true then .ok (.tok s1.length) (s1 ++ [.l ds]) else .bad
  | _ => .bad
section
variable {K : PySem.W.Frag} {mg : Str → Option Value} {W W0 : Hw} {s : S}
theorem Base.pub (B : Base K mg W s) {a : Addr} {c : Cell} (hG : W.G a = none) (ht : a ∉ W.τ) (hc : CellOk K mg W a c) (hf : flatC c = true) : Base K mg ⟨W.H, W.G, W.τ ++ [a]⟩ (s ++ [c]) := by
  have pre : W.τ <+: W.τ ++ [a] := List.prefix_append _ _
  have mono : ∀ {b : Addr} {c : Cell}, CellOk K mg W b c → CellOk K mg ⟨W.H, W.G, W.τ ++ [a]⟩ b c := fun {b c} q => by
    cases c with
    | l ds =>
      obtain ⟨us, e, r⟩ := q
      exact ⟨us, e, r.mono (Same.refl _) pre⟩
    | o c fs =>
      obtain ⟨C, dx, us, e0, e, r⟩ := q
      exact ⟨C, dx, us, e0, e, r.mono (Same.refl _) pre⟩
    | d fs =>
      obtain ⟨us, e, r⟩ := q
      exact ⟨us, e, r.mono (Same.refl _) pre⟩
    | t fs =>
      obtain ⟨us, e, r⟩ := q
      exact ⟨us, e, r.mono (Same.refl _) pre⟩
    | b ns =>
      obtain ⟨us, e, r⟩ := q
      exact ⟨us, e, r⟩
  refine ⟨B.sub, B.tupI, fun b m => ?_, ?_, by simp [B.len], fun n c' b h1 h2 => ?_, fun c' m => ?_, B.tab, B.nog, B.all⟩
  · rcases List.mem_append.mp m with m | m
    · exact B.spc b m
    · rw [List.mem_singleton.mp m]; exact hG
  · refine List.nodup_append.mpr ⟨B.nd, List.nodup_cons.mpr ⟨by simp, List.nodup_nil⟩, fun x hx y hy e => ?_⟩
    rw [List.mem_singleton.mp hy] at e
    exact ht (e ▸ hx)
  · by_cases hn : n < s.length
    · rw [List.getElem?_append_left hn] at h1
      have hn2 : n < W.τ.length := by rw [← B.len]; exact hn
      have h2' : (W.τ ++ [a])[n]? = some b := h2
      rw [List.getElem?_append_left hn2] at h2'
      exact mono (B.cel n c' b h1 h2')
    · have hn2 : W.τ.length ≤ n := by rw [← B.len]; omega
      have h2' : (W.τ ++ [a])[n]? = some b := h2
      rw [List.getElem?_append_right (by omega)] at h1
      rw [List.getElem?_append_right hn2, ← B.len] at h2'
      by_cases e : n - s.length = 0
      · rw [e] at h1 h2'
        cases h1; cases h2'
        exact mono hc
      · rw [List.getElem?_eq_none (by simp; omega)] at h1
        cases h1
  · rcases List.mem_append.mp m with m | m
    · exact B.flt c' m
    · rw [List.mem_singleton.mp m]; exact hf
end
section
variable {X : Cx} {e a b : Expr} {f h : DE} {pos : Pos} {E : WX} {fs : DA}
theorem e_pub (h : PE X e (tF X.K X.mg E f)) : PE X e (tE X.K X.mg E (ePub f)) := by
  refine PE.mono h fun σ H Q h => ?_
  obtain ⟨W0, W, s, ρ, rfl, st, p⟩ := h
  refine ⟨W0, W, s, ρ, rfl, st, ?_⟩
  unfold ePub at p
  cases hf : f ρ s with
  | exc c s1 => rw [hf] at p; exact p
  | bad => rw [hf] at p; exact p
  | ok d s1 =>
    rw [hf] at p
    refine fun x W1 e B r => ?_
    obtain ⟨a, vs, ds, rfl, rfl, n0, nG, nt, eH, rv⟩ := r
    simp only [Res.bind] at p
    split at p
    · rename_i hfl
      refine p (.ref a) ⟨W1.H, W1.G, W1.τ ++ [a]⟩ ⟨e.keep0, e.grow, e.out, e.tpre.trans (List.prefix_append _ _), fun b m n => ?_, e.tab⟩ (B.pub nG nt ⟨vs, eH, rv⟩ hfl) (.tok ?_)
      · rcases List.mem_append.mp m with m | m
        · exact e.tnew b m n
        · rw [List.mem_singleton.mp m]; exact n0
      · rw [B.len, List.getElem?_append_right (Nat.le_refl _), Nat.sub_self]; rfl
    · exact p.elim
/-! ### reading, with special objects -/
abbrev F2S := S → F2
abbrev V2S (K : PySem.W.Frag) (mg : Str → Option Value) (r : R2) (g : F2S) : Prop :=
  ∀ (W : Hw) (s : S) (x y : V) (d e z : D) (Q : VK), Base K mg W s → Rep K mg W.G W.τ x d → Rep K mg W.G W.τ y e → g s d e = some z → (∀ v W', Ext W W' → Base K mg W' s → Rep K mg W'.G W'.τ v z → Q v W'.H) → r x y W.H Q
def eOp2S (g : F2S) (f h : DE) : DE := fun ρ s => (f ρ s).bind fun a s1 => (h ρ s1).bind fun b s2 => Res.ofO (g s2 a b) s2
theorem r_op2S {r : R2} {g : F2S} (hv : V2S X.K X.mg r g) : ∀ σ H Q, tE X.K X.mg E (eOp2S g f h) σ H Q → tOp r (tE X.K X.mg E f) (tE X.K X.mg E h) σ H Q := fun σ H Q q => by
  obtain ⟨W0, W, s, ρ, rfl, st, p⟩ := q
  refine (go st p).imp fun x H1 ⟨W1, s1, d1, e1, r1, x1, st1, p1⟩ => ?_
  subst e1
  refine (go st1 p1).imp fun y H2 ⟨W2, s2, d2, e2, r2, x2, st2, p2⟩ => ?_
  subst e2
  cases hz : g s2 d1 d2 with
  | none => rw [hz] at p2; exact p2.elim
  | some z =>
    rw [hz] at p2
    exact hv W2 s2 x y d1 d2 z Q st2.base (r1.ext x2) r2 hz p2
/-- what a special list holds -/
def tokL (s : S) (n : Nat) : Option (List D) := match s[n]? with
  | some (.l ds) => some ds
  | _ => none
theorem tok_list {K : PySem.W.Frag} {mg : Str → Option Value} {W : Hw} {s : S} {n : Nat} {v : V} {ds : List D} (B : Base K mg W s) (r : Rep K mg W.G W.τ v (.tok n)) (h : tokL s n = some ds) : ∃ a vs, v = .ref a ∧ W.τ[n]? = some a ∧ W.H a = some (.lst vs) ∧ RepAll K mg W.G W.τ vs ds := by
  cases r with
  | tok ht =>
    unfold tokL at h
    split at h
    · rename_i ds' hs
      cases h
      obtain ⟨vs, e, r⟩ := B.cel n _ _ hs ht
      exact ⟨_, vs, rfl, ht, e, r⟩
    · cases h
/-- x[i] of lists, tuples, texts, special lists -/
def dIxT (s : S) : F2 := fun x y => match x, y with
  | .tok n, .int i => (tokL s n).bind fun ds => atI ds i
  | x, y => dIx x y
theorem v_ixT {K : PySem.W.Frag} {mg : Str → Option Value} : V2S K mg (rIx K) dIxT := fun W s x y d e z Q B rx ry hz q => by
  unfold dIxT at hz
  split at hz
  · obtain ⟨ds, h1, h2⟩ := Option.bind_eq_some_iff.mp hz
    obtain ⟨a, vs, rfl, _, eH, rr⟩ := tok_list B rx h1
    cases ry.int_inv
    obtain ⟨v, hv, rv⟩ := atI_rep rr h2
    exact .inl ⟨a, vs, _, v, rfl, rfl, .of eH, hv, stay B q rv⟩
  · exact v_ix W s x y _ _ z Q B rx ry hz q
theorem e_ixT (ha : PE X a (tE X.K X.mg E f)) (hb : PE X b (tE X.K X.mg E h)) (hs : PlainIx b := by exact fun _ _ => rfl) : PE X (.Subscript a b pos) (tE X.K X.mg E (eOp2S dIxT f h)) :=
  PE.mono (pe_ix ix_seq ha hb hs) (r_op2S v_ixT)
/-- len of special lists too -/
def lenT (s : S) (ds : List D) : Option D := match ds with
  | [.tok n] => (tokL s n).map fun l => .int l.length
  | ds => dLen ds
def eLenT (fs : DA) : DE := fun ρ s => (fs ρ s).bind fun ds s1 => Res.ofO (lenT s1 ds) s1
theorem e_lenT {p' : Pos} {e : Expr} (hm : X.mg "len" = none) (ha : PA X [e] (tA X.K X.mg E fs)) (hg : Gl X "len" := by rfl)
    (he : starEach [e] X.env = (false, eval e X.env) :: starEach [] X.env := by rfl) : PE X (.Call (.Name "len" p') [e] [] pos) (tE X.K X.mg E (eLenT fs)) :=
  PE.mono (pe_callB c_len hg hm (by decide +kernel) ha (by decide) (by decide) he rfl) fun σ H Q z => by
    obtain ⟨W0, W, s, ρ, rfl, st, z⟩ := z
    refine (go st z).imp fun x H1 ⟨W1, s1, d1, e1, r1, x1, st1, z1⟩ => ?_
    subst e1
    cases hz : lenT s1 d1 with
    | none => rw [hz] at z1; exact z1.elim
    | some d =>
      rw [hz] at z1
      unfold lenT at hz
      split at hz
      · rename_i n
        obtain ⟨ds, hd, rfl⟩ := Option.map_eq_some_iff.mp hz
        obtain ⟨v, rfl, rv⟩ := RepAll.one_inv r1
        obtain ⟨p, vs, rfl, _, eH, rr⟩ := tok_list st1.base rv hd
        exact .inl ⟨_, _, rfl, .inl ⟨vs, .of eH, rfl⟩, stay st1.base z1 (by rw [rr.length]; exact .int _)⟩
      · exact v_len W1 s1 x _ d Q st1.base r1 hz z1
end
/-! ### != of special lists -/
def dNeT (s : S) : F2 := fun x y => match x with
  | .tok n => (tokL s n).bind fun ds => dNe (.lst ds) y
  | x => dNe x y
section
variable {X : Cx} {a b : Expr} {f h : DE} {pos : Pos} {E : WX} {r : R2} {g : F2S}
theorem t_cmpS {op : CmpOp} (ho : OpR X (compareOp op) r) (hv : V2S X.K X.mg r g) (ha : PE X a (tE X.K X.mg E f)) (hb : PE X b (tE X.K X.mg E h)) (hm : behindInMarks op b = false) : PT X (.Compare a [op] [b] pos) (tT X.K X.mg E (tBl (eOp2S g f h))) :=
  PT.mono (pt_cmpR ho ha hb hm) (r_bl (r_op2S hv))
end
/-! ### a store into a special object -/
section
variable {K : PySem.W.Frag} {mg : Str → Option Value} {W W0 : Hw} {s : S} {σ : L2.St} {ρ : List Sl}
theorem nodup_at {α : Type} {l : List α} {i j : Nat} {x : α} (h : l.Nodup) (h1 : l[i]? = some x) (h2 : l[j]? = some x) : i = j := by
  obtain ⟨hi, e1⟩ := List.getElem?_eq_some_iff.mp h1
  obtain ⟨hj, e2⟩ := List.getElem?_eq_some_iff.mp h2
  exact (List.getElem_inj h).mp (e1.trans e2.symm)
theorem SSt.cellPut (h : SSt K mg W0 W s σ ρ) {n : Nat} {a : Addr} {o : HO} {c : Cell} (hτ : W.τ[n]? = some a) (no : ∀ vs, o ≠ .tup vs) (hc : CellOk K mg ⟨upd W.H a o, W.G, W.τ⟩ a c) (hf : flatC c = true) (nt : ∀ ps, o ≠ .tbl ps := by exact fun _ z => nomatch z) :
    SSt K mg W0 ⟨upd W.H a o, W.G, W.τ⟩ (s.set n c) σ ρ := by
  have B := h.base
  have X0 := h.ext
  have ma : a ∈ W.τ := List.mem_of_getElem? hτ
  have ga : W.G a = none := B.spc a ma
  have nG : ∀ b x, W.G b = some x → b ≠ a := fun b x e z => by rw [z, ga] at e; cases e
  have pl := B.tau_plain ma
  refine ⟨⟨fun b x e n => ?_, X0.grow, X0.out, X0.tpre, X0.tnew, fun t => tabs_upd pl (X0.tab t)⟩, ⟨fun b x e => ?_, fun b xs e => ?_, B.spc, B.nd, by simp [B.len], fun m c' b h1 h2 => ?_, fun c' m => ?_, tabs_upd pl B.tab, B.nog, all_upd nt B.all⟩, h.len, fun j x z q1 q2 => ?_, h.dist⟩
  · by_cases hb : b = a
    · subst hb
      have := X0.tnew b ma n
      rw [this] at e; cases e
    · rcases X0.keep0 b x e n with z | ⟨ps, ps', z1, z2⟩
      · exact .inl ((upd_ne hb).trans z)
      · exact .inr ⟨ps, ps', z1, (upd_ne hb).trans z2⟩
  · exact (upd_ne (nG b x e)).trans (B.sub b x e)
  · have e' : upd W.H a o b = some (.tup xs) := e
    by_cases hb : b = a
    · rw [hb, upd_same] at e'
      exact absurd (Option.some.inj e') (no xs)
    · rw [upd_ne hb] at e'
      exact B.tupI b xs e'
  · by_cases hm : m = n
    · subst hm
      rw [hτ] at h2
      cases h2
      rw [List.getElem?_set] at h1
      simp only [if_true] at h1
      split at h1
      · cases h1; exact hc
      · cases h1
    · rw [List.getElem?_set_ne (Ne.symm hm)] at h1
      have nb : b ≠ a := fun z => hm (nodup_at B.nd (z ▸ h2) hτ)
      have q := B.cel m c' b h1 h2
      cases c' with
      | l ds =>
        obtain ⟨us, e, r⟩ := q
        exact ⟨us, (upd_ne nb).trans e, r⟩
      | o c fs =>
        obtain ⟨C, dx, us, e0, e, r⟩ := q
        exact ⟨C, dx, us, e0, (upd_ne nb).trans e, r⟩
      | d fs =>
        obtain ⟨us, e, r⟩ := q
        exact ⟨us, (upd_ne nb).trans e, r⟩
      | t fs =>
        obtain ⟨us, e, r⟩ := q
        exact ⟨us, (upd_ne nb).trans e, r⟩
      | b ns =>
        obtain ⟨us, e, r⟩ := q
        exact ⟨us, (upd_ne nb).trans e, r⟩
  · rcases List.mem_or_eq_of_mem_set m with m | m
    · exact B.flt c' m
    · rw [m]; exact hf
  · have z0 := h.sl j x z q1 q2
    have ne : ∀ {b : Addr}, b ∉ W.τ → b ≠ a := fun nb z => nb (z ▸ ma)
    cases z0 with
    | emp => exact .emp
    | dat r => exact .dat r
    | own q e r => exact .own ⟨q.old, q.frz, q.spc⟩ ((upd_ne (ne q.spc)).trans e) r
    | ownK q e r => exact .ownK ⟨q.old, q.frz, q.spc⟩ ((upd_ne (ne q.spc)).trans e) r
    | ownT q e r => exact .ownT ⟨q.old, q.frz, q.spc⟩ ((upd_ne (ne q.spc)).trans e) r
    | fn h g => exact .fn h (g.upd fun q e => (B.tau_plain ma _ e).2 q rfl)
end
def sPutT (f fi fv : DE) : DS := fun ρ s => (fv ρ s).thenS fun d s1 => (f ρ s1).thenS fun t s2 => (fi ρ s2).thenS fun k s3 => match t, k with
  | .tok n, .int k => match tokL s3 n with
    | some ds => match ixN ds.length k with
      | some j => if flat d = true then .next ρ (s3.set n (.l (ds.set j d))) else .bad
      | none => .bad
    | none => .bad
  | _, _ => .bad
theorem flats_set : ∀ {ds : List D} {j : Nat} {d : D}, flats ds = true → flat d = true → flats (ds.set j d) = true
  | [], _, _, h, _ => h
  | x :: xs, 0, d, h, hd => by simp [flats] at h ⊢; exact ⟨hd, h.2⟩
  | x :: xs, j + 1, d, h, hd => by simp [flats] at h ⊢; exact ⟨h.1, flats_set h.2 hd⟩
section
variable {X : Cx} {E : WX} {fr : Fr} {pos : Pos} {f fi fv : DE} {o : Expr}
theorem s_putT {sp : Pos} {v k : Expr} (hv' : PE X v (tE X.K X.mg E fv)) (ho : PE X o (tE X.K X.mg E f)) (hk : PE X k (tE X.K X.mg E fi))
    (ha : ∀ v, assign (.Subscript o k sp) X.env v = (do
      let ov ← holding [v] (eval o X.env)
      let iv ← holding [v, ov] (eval k X.env)
      standAt sp
      holding [v, ov, iv] (setItem ov iv v)
      release [v, ov, iv] []) := by intro _; rfl)
    (hs : swapsWithSole [.Subscript o k sp] v pos.line X.env = pure false := by rfl) (hw : swappedStores [.Subscript o k sp] v X.env = pure none := by rfl)
    (h1 : (assignEach [.Subscript o k sp] X.env).map (·.2) = [assign (.Subscript o k sp) X.env] := by rfl) :
    QS X E fr (.Assign [.Subscript o k sp] v pos) (sPutT f fi fv) := by
  refine PS.mono (ps_asg hv' (pg_sub ho hk set_list ha) hs hw h1) fun σ H T z => ?_
  obtain ⟨W0, W, s, ρ, rfl, st, z⟩ := z
  refine (goS st z).imp fun y H1 ⟨W1, s1, d1, e1, r1, x1, st1, z1⟩ => ?_
  subst e1
  refine (goS st1 z1).imp fun t H2 ⟨W2, s2, d2, e2, r2, x2, st2, z2⟩ => ?_
  subst e2
  refine (goS st2 z2).imp fun kk H3 ⟨W3, s3, d3, e3, r3, x3, st3, z3⟩ => ?_
  subst e3
  cases d2 with
  | tok n =>
    cases d3 with
    | int i =>
      simp only at z3
      cases hd : tokL s3 n with
      | none => rw [hd] at z3; exact z3.elim
      | some ds =>
        rw [hd] at z3
        simp only at z3
        cases hj : ixN ds.length i with
        | none => rw [hj] at z3; exact z3.elim
        | some j =>
          rw [hj] at z3
          simp only at z3
          split at z3
          · rename_i hf
            obtain ⟨p, vs, rfl, hτ, eH, rr⟩ := tok_list st3.base (r2.ext x3) hd
            cases r3.int_inv
            refine ⟨p, vs, i, j, rfl, rfl, eH, by rw [rr.length]; exact hj, ?_⟩
            have hfl : flats ds = true := by
              unfold tokL at hd
              split at hd
              · rename_i ds' hds
                cases hd
                exact st3.base.flt _ (List.mem_of_getElem? hds)
              · cases hd
            exact z3 σ _ (st3.cellPut hτ (fun _ z => nomatch (z : HO.lst _ = HO.tup _)) ⟨_, upd_same, rr.set ((r1.ext x2).ext x3) j⟩ (flats_set hfl hf))
          · exact z3.elim
    | _ => exact z3.elim
  | _ => exact z3.elim
end
end DL
namespace DL
open PySem PySem.Spec PyProof.Rows L2
variable [LT : LawT] [TC : TellC]
/-! ### dicts as lists of pairs -/
def dk : D → Option Key
  | .int i => some (.inl i)
  | .str x => some (.inr x)
  | _ => none
def dks : List D → Option (List Key)
  | [] => some []
  | d :: r => (dk d).bind fun k => (dks r).map (k :: ·)
def dkT : D → Option (List Key)
  | .tup xs => dks xs
  | _ => none
theorem dk_kD (k : Key) : dk (kD k) = some k := by cases k <;> rfl
theorem dks_kD : ∀ ks : List Key, dks (ks.map kD) = some ks
  | [] => rfl
  | k :: ks => by simp only [List.map_cons, dks, dk_kD, dks_kD ks]; rfl
theorem dkT_kT (k : List Key) : dkT (kT k) = some k := dks_kD k
theorem kD_of {d : D} {k : Key} (h : dk d = some k) : d = kD k := by
  cases d <;> simp [dk] at h <;> subst h <;> rfl
theorem kDs_of : ∀ {ds : List D} {ks : List Key}, dks ds = some ks → ds = ks.map kD
  | [], _, h => by cases h; rfl
  | d :: r, ks, h => by
    simp only [dks, Option.bind_eq_some_iff, Option.map_eq_some_iff] at h
    obtain ⟨k, h1, ks', h2, rfl⟩ := h
    rw [kD_of h1, kDs_of h2]; rfl
theorem kT_of {d : D} {k : List Key} (h : dkT d = some k) : d = kT k := by
  cases d with
  | tup xs => exact congrArg D.tup (kDs_of h)
  | _ => cases h
inductive PK {κ : Type} (R : V → D → Prop) (f : κ → D) : List (κ × V) → List (D × D) → Prop
  | nil : PK R f [] []
  | cons {k : κ} {v : V} {d : D} {l : List (κ × V)} {m : List (D × D)} : R v d → PK R f l m → PK R f ((k, v) :: l) ((f k, d) :: m)
def getD {κ : Type} [DecidableEq κ] (g : D → Option κ) (l : List (D × D)) (k : κ) : Option D := (l.find? fun p => decide (g p.1 = some k)).map (·.2)
def putD {κ : Type} [DecidableEq κ] (g : D → Option κ) (f : κ → D) (l : List (D × D)) (k : κ) (d : D) : List (D × D) :=
  if (l.any fun p => decide (g p.1 = some k)) = true then l.map (fun p => if g p.1 = some k then (p.1, d) else p) else l ++ [(f k, d)]
section
variable {κ : Type} [DecidableEq κ] {R : V → D → Prop} {f : κ → D} {g : D → Option κ} {l : List (κ × V)} {m : List (D × D)}
theorem PK.get (h : PK R f l m) (hg : ∀ k, g (f k) = some k) (k : κ) : (valV l k = none ∧ getD g m k = none) ∨ ∃ v d, valV l k = some v ∧ getD g m k = some d ∧ R v d := by
  induction h with
  | nil => exact .inl ⟨rfl, rfl⟩
  | @cons k' v d l m r t ih =>
    by_cases e : k' = k
    · subst e
      exact .inr ⟨v, d, by simp [valV], by simp [getD, hg], r⟩
    · have e2 : ¬ g (f k') = some k := by rw [hg]; exact fun z => e (Option.some.inj z)
      rcases ih with ⟨a, b⟩ | ⟨v', d', a, b, r'⟩
      · exact .inl ⟨(valV_neg e).trans a, by unfold getD at b ⊢; rw [List.find?_cons_of_neg (by simpa using e2)]; exact b⟩
      · exact .inr ⟨v', d', (valV_neg e).trans a, by unfold getD at b ⊢; rw [List.find?_cons_of_neg (by simpa using e2)]; exact b, r'⟩
theorem PK.any (h : PK R f l m) (hg : ∀ k, g (f k) = some k) (k : κ) : (l.any fun kv => decide (kv.1 = k)) = (m.any fun p => decide (g p.1 = some k)) := by
  induction h with
  | nil => rfl
  | @cons k' v d l m r t ih =>
    rw [List.any_cons, List.any_cons, ih, hg]
    simp only [Option.some.injEq]
theorem PK.snoc (h : PK R f l m) {v : V} {d : D} (r : R v d) (k : κ) : PK R f (l ++ [(k, v)]) (m ++ [(f k, d)]) := by
  induction h with
  | nil => exact .cons r .nil
  | cons q t ih => exact .cons q ih
theorem PK.upd (h : PK R f l m) (hg : ∀ k, g (f k) = some k) {v : V} {d : D} (r : R v d) (k : κ) : PK R f (l.map (fun kv => if kv.1 = k then (kv.1, v) else kv)) (m.map (fun p => if g p.1 = some k then (p.1, d) else p)) := by
  induction h with
  | nil => exact .nil
  | @cons k' v' d' l m q t ih =>
    simp only [List.map_cons, hg, Option.some.injEq]
    by_cases e : k' = k
    · rw [if_pos e, if_pos e]; exact .cons r ih
    · rw [if_neg e, if_neg e]; exact .cons q ih
theorem PK.put (h : PK R f l m) (hg : ∀ k, g (f k) = some k) {v : V} {d : D} (r : R v d) (k : κ) : PK R f (putK l k v) (putD g f m k d) := by
  unfold putK putD
  rw [h.any hg k]
  split
  · exact h.upd hg r k
  · exact h.snoc r k
theorem PK.len (h : PK R f l m) : l.length = m.length := by
  induction h with
  | nil => rfl
  | cons _ _ ih => rw [List.length_cons, List.length_cons, ih]
theorem PK.imp {R' : V → D → Prop} (h : PK R f l m) (i : ∀ v d, R v d → R' v d) : PK R' f l m := by
  induction h with
  | nil => exact .nil
  | cons q t ih => exact .cons (i _ _ q) ih
end
section
variable {κ : Type} {K : PySem.W.Frag} {mg : Str → Option Value} {G : Hp} {τ : List Addr} {f : κ → D}
theorem pk_of : ∀ {kvs : List (κ × V)} {vs : List D}, RepAll K mg G τ (kvs.map (·.2)) vs → PK (Rep K mg G τ) f kvs ((kvs.map fun p => f p.1).zip vs)
  | [], _, h => by
    cases h
    exact .nil
  | p :: kvs, _, h => by
    rw [List.map_cons] at h
    obtain ⟨p1, p2⟩ := p
    cases h with
    | cons r t => exact .cons r (pk_of t)
theorem pk_to {kvs : List (κ × V)} {l : List (D × D)} (h : PK (Rep K mg G τ) f kvs l) : ∃ vs, RepAll K mg G τ (kvs.map (·.2)) vs ∧ l = (kvs.map fun p => f p.1).zip vs := by
  induction h with
  | nil => exact ⟨[], .nil, rfl⟩
  | cons r t ih =>
    obtain ⟨vs, h1, rfl⟩ := ih
    exact ⟨_ :: vs, .cons r h1, rfl⟩
theorem rep_dK {a : Addr} {kvs : List (Key × V)} {l : List (D × D)} (h : G a = some (.dK kvs)) (p : PK (Rep K mg G τ) kD kvs l) : Rep K mg G τ (.ref a) (.dct l) := by
  obtain ⟨vs, h1, rfl⟩ := pk_to p
  exact .dK h h1
theorem Rep.dct_inv' {v : V} {l : List (D × D)} (h : Rep K mg G τ v (.dct l)) : (∃ a ks, v = .ref a ∧ G a = some (.dK ks) ∧ PK (Rep K mg G τ) kD ks l) ∨ ∃ a ks, v = .ref a ∧ G a = some (.dT ks) ∧ PK (Rep K mg G τ) kT ks l := by
  rcases h.dct_inv with ⟨a, ks, us, rfl, h1, r, rfl⟩ | ⟨a, ks, us, rfl, h1, r, rfl⟩
  · exact .inl ⟨a, ks, rfl, h1, pk_of r⟩
  · exact .inr ⟨a, ks, rfl, h1, pk_of r⟩
end
/-! ### displays with keys ints and texts -/
def evPairs : List (DE × DE) → List Sl → S → Res (List (Key × D))
  | [], _, s => .ok [] s
  | (f, g) :: r, ρ, s => (f ρ s).bind fun k s1 => (g ρ s1).bind fun d s2 => match dk k with
    | some k => (evPairs r ρ s2).bind fun ps s3 => .ok ((k, d) :: ps) s3
    | none => .bad
def mergeD (l : List (Key × D)) : List (D × D) := l.foldl (fun acc kv => putD dk kD acc kv.1 kv.2) []
def eDisp (ps : List (DE × DE)) : DE := fun ρ s => (evPairs ps ρ s).bind fun l s1 => .ok (.dct (mergeD l)) s1
section
variable {X : Cx} {E : WX} {pos : Pos} {keys : List (Option Expr)} {values : List Expr}
structure DPs (X : Cx) (E : WX) (pos : Pos) (keys : List (Option Expr)) (values : List Expr) (ps : List (DE × DE)) : Prop where
  run : PPs X pos keys values (ps.map fun p => (tE X.K X.mg E p.1, tE X.K X.mg E p.2))
theorem ps_nil : DPs X E pos [] [] [] := ⟨pps_nil⟩
theorem ps_cons {k v : Expr} {f g : DE} {ps : List (DE × DE)} (hk : PE X k (tE X.K X.mg E f)) (hv : PE X v (tE X.K X.mg E g)) (hr : DPs X E pos keys values ps) : DPs X E pos (some k :: keys) (v :: values) ((f, g) :: ps) := ⟨pps_cons hk hv hr.run⟩
theorem merge_pk {R : V → D → Prop} : ∀ {kvs : List (Key × V)} {l : List (Key × D)} {acc : List (Key × V)} {m : List (D × D)}, Paired (fun (p : Key × V) (q : Key × D) => p.1 = q.1 ∧ R p.2 q.2) kvs l → PK R kD acc m → PK R kD (mergeK acc kvs) (l.foldl (fun acc kv => putD dk kD acc kv.1 kv.2) m)
  | _, _, acc, m, .nil, h => h
  | _, _, acc, m, .cons (a := a) (b := b) q t, h => merge_pk (acc := putK acc a.1 a.2) (m := putD dk kD m b.1 b.2) t (by rw [q.1]; exact h.put dk_kD q.2 _)
theorem tPairs_ok {W0 : Hw} {σ : L2.St} {ρ : List Sl} : ∀ {ps : List (DE × DE)} {W : Hw} {s : S} {Q : List (V × V) → Hp → Prop}, SSt X.K X.mg W0 W s σ ρ →
    Post X.K X.mg (fun (W' : Hw) (vs : List (V × V)) (l : List (Key × D)) => ∃ kvs : List (Key × V), vs = kvs.map (fun kv => (kV kv.1, kv.2)) ∧ Paired (fun (p : Key × V) (q : Key × D) => p.1 = q.1 ∧ Rep X.K X.mg W'.G W'.τ p.2 q.2) kvs l) (fun u d H' => E u d σ H') (evPairs ps ρ s) W Q →
    tPairs (ps.map fun p => (tE X.K X.mg E p.1, tE X.K X.mg E p.2)) σ W.H Q
  | [], W, s, Q, st, z => z.of_ok st.base ⟨[], rfl, .nil⟩
  | (f, g) :: ps, W, s, Q, st, z => by
    refine (go st z).imp fun x H1 ⟨W1, s1, d1, e1, r1, x1, st1, z1⟩ => ?_
    subst e1
    refine (go st1 z1).imp fun y H2 ⟨W2, s2, d2, e2, r2, x2, st2, z2⟩ => ?_
    subst e2
    cases hk : dk d1 with
    | none => rw [hk] at z2; exact z2.elim
    | some k =>
      rw [hk] at z2
      simp only at z2
      have hx : x = kV k := by
        rw [kD_of hk] at r1
        cases k with
        | inl i => exact r1.int_inv
        | inr t => exact r1.str_inv
      refine tPairs_ok (ps := ps) st2 ?_
      cases hp : evPairs ps ρ s2 with
      | bad => rw [hp] at z2; exact z2
      | exc c s3 => rw [hp] at z2; exact z2
      | ok l s3 =>
        rw [hp] at z2
        refine fun vs W3 x3 B3 ⟨kvs, e3, r3⟩ => z2 _ W3 x3 B3 ⟨(k, y) :: kvs, by rw [e3, hx]; rfl, .cons ⟨rfl, r2.ext x3⟩ r3⟩
theorem e_disp {ps : List (DE × DE)} (h : DPs X E pos keys values ps) (hall : keys.all (·.isSome) = true := by rfl) (hl : keys.length = values.length := by rfl) (h0 : keys ≠ [] := by exact fun z => nomatch z)
    (h15 : keys.length ≤ 15 := by decide) (hps : ps.length ≤ 15 := by decide) : PE X (.Dict keys values pos) (tE X.K X.mg E (eDisp ps)) := PE.mono (pe_disp h.run hall hl h0 h15) fun σ H Q z => by
  obtain ⟨W0, W, s, ρ, rfl, st, z⟩ := z
  intro p hp
  obtain ⟨B2, x2⟩ := st.base.newL hp (o := .dK []) (fun _ z => nomatch z)
  have st2 := st.step x2 B2
  have hG : W.G p = none := st.base.frz_none hp
  have ht : p ∉ W.τ := fun m => st.base.tau_some m hp
  refine tPairs_ok (W := ⟨upd W.H p (.dK []), W.G, W.τ⟩) st2 ?_
  unfold eDisp at z
  have hlen : ∀ {ps : List (DE × DE)} {s s' : S} {l : List (Key × D)}, evPairs ps ρ s = .ok l s' → l.length = ps.length := fun {ps} => by
    induction ps with
    | nil => intro s s' l e; unfold evPairs at e; cases e; rfl
    | cons q ps ih =>
      intro s s' l e
      obtain ⟨f, g⟩ := q
      unfold evPairs at e
      cases hf : f ρ s with
      | ok k s1 =>
        rw [hf] at e
        simp only [Res.bind] at e
        cases hg : g ρ s1 with
        | ok d s2 =>
          rw [hg] at e
          simp only at e
          cases hk : dk k with
          | none => rw [hk] at e; cases e
          | some k =>
            rw [hk] at e
            simp only at e
            cases hr : evPairs ps ρ s2 with
            | ok l2 s3 =>
              rw [hr] at e
              cases e
              rw [List.length_cons, List.length_cons, ih hr]
            | exc _ _ => rw [hr] at e; cases e
            | bad => rw [hr] at e; cases e
        | exc _ _ => rw [hg] at e; cases e
        | bad => rw [hg] at e; cases e
      | exc _ _ => rw [hf] at e; cases e
      | bad => rw [hf] at e; cases e
  cases he : evPairs ps ρ s with
  | bad => rw [he] at z; exact z.elim
  | exc c s1 =>
    rw [he] at z
    exact fun W' u e' B' hu => z W' u (x2.trans B2 e') B' hu
  | ok l s1 =>
    rw [he] at z
    refine fun vs W3 x3 B3 ⟨kvs, e3, r3⟩ => ?_
    have h3 : W3.H p = some (.dK []) := x3.keep p _ upd_same ht
    refine ⟨h3, kvs, e3, ?_, ?_⟩
    · rw [Paired.length r3, hlen he]; exact hps
    have g3 : W3.G p = none := (x3.out p (by show upd W.H p _ p ≠ none; rw [upd_same]; exact fun z => nomatch z)).trans hG
    have t3 : p ∉ W3.τ := fun m => by
      have := x3.tnew p m ht
      have e : upd W.H p (.dK []) p = none := this
      rw [upd_same] at e; cases e
    have pk := merge_pk (acc := []) (m := []) r3 .nil
    -- the heap behind: p is written and frozen
    have q : SSt X.K X.mg (⟨upd W.H p (.dK []), W.G, W.τ⟩ : Hw) W3 s1 [] [] := ⟨x3, B3, rfl, fun i x y e => by simp at e, fun i j a y z _ e => by simp at e⟩
    have mono : Same W3.G (upd W3.G p (.dK (mergeK [] kvs))) := upd_new g3
    have pl : ∀ u, W3.H p = some u → (∀ ps, u ≠ .tbl ps) ∧ ∀ q, u ≠ LamX.CodeO p q := fun u hu => by rw [h3] at hu; cases hu; exact ⟨(fun _ z => nomatch z), (fun _ z => nomatch z)⟩
    refine z (.ref p) ⟨upd W3.H p (.dK (mergeK [] kvs)), upd W3.G p (.dK (mergeK [] kvs)), W3.τ⟩ ⟨fun b o e n => ?_, fun b o e => ?_, fun b e => ?_, x2.tpre.trans x3.tpre, fun b m n => ?_, fun t => tabs_upd pl (x3.tab (tabs_new hp t))⟩ ⟨fun b o e => ?_, fun b xs e => ?_, fun b m => ?_, B3.nd, B3.len, fun n c b h1 h2 => ?_, B3.flt, tabs_upd pl B3.tab, nog_upd (fun _ z => nomatch z) B3.nog, all_upd (fun _ z => nomatch z) B3.all⟩ (rep_dK upd_same (pk.imp fun v d r => r.mono mono (List.prefix_refl _)))
    · have nb : b ≠ p := fun z => by rw [z, hp] at e; cases e
      rcases x3.keep0 b o ((upd_ne nb).trans e) n with z | ⟨ps, ps', z1, z2⟩
      · exact .inl ((upd_ne nb).trans z)
      · exact .inr ⟨ps, ps', z1, (upd_ne nb).trans z2⟩
    · exact mono _ _ (x3.grow _ _ e)
    · have nb : b ≠ p := fun z => e (z ▸ hp)
      exact (upd_ne nb).trans (x3.out b (by show upd W.H p _ b ≠ none; rw [upd_ne nb]; exact e))
    · have := x3.tnew b m n
      have e : upd W.H p (.dK []) b = none := this
      by_cases hb : b = p
      · rw [hb, upd_same] at e; cases e
      · rw [upd_ne hb] at e; exact e
    · dsimp only at e ⊢
      by_cases hb : b = p
      · subst hb; rw [upd_same] at e ⊢; exact e
      · rw [upd_ne hb] at e ⊢; exact B3.sub b o e
    · dsimp only at e ⊢
      by_cases hb : b = p
      · subst hb; rw [upd_same] at e; cases e
      · rw [upd_ne hb] at e ⊢; exact B3.tupI b xs e
    · show upd W3.G p _ b = none
      rw [upd_ne (fun z : b = p => t3 (z ▸ m))]
      exact B3.spc b m
    · have nb : b ≠ p := fun z => t3 (z ▸ List.mem_of_getElem? h2)
      have q := B3.cel n c b h1 h2
      cases c with
      | l ds =>
        obtain ⟨us, e, r⟩ := q
        exact ⟨us, (upd_ne nb).trans e, r.mono mono (List.prefix_refl _)⟩
      | o c fs =>
        obtain ⟨C, dx, us, e0, e, r⟩ := q
        exact ⟨C, dx, us, e0, (upd_ne nb).trans e, r.mono mono (List.prefix_refl _)⟩
      | d fs =>
        obtain ⟨us, e, r⟩ := q
        exact ⟨us, (upd_ne nb).trans e, r.mono mono (List.prefix_refl _)⟩
      | t fs =>
        obtain ⟨us, e, r⟩ := q
        exact ⟨us, (upd_ne nb).trans e, r.mono mono (List.prefix_refl _)⟩
      | b ns =>
        obtain ⟨us, e, r⟩ := q
        exact ⟨us, (upd_ne nb).trans e, r⟩
end
end DL
namespace DL
open PySem PySem.Spec PyProof.Rows L2
variable [LT : LawT] [TC : TellC]
/-! ### sep.join -/
def strsOf : List D → Option (List Str)
  | [] => some []
  | .str i :: r => (strsOf r).map (i :: ·)
  | _ => none
theorem strs_inv {K : PySem.W.Frag} {mg : Str → Option Value} {G : Hp} {τ : List Addr} : ∀ {ds : List D} {vs : List V} {ns : List Str}, strsOf ds = some ns → RepAll K mg G τ vs ds → vs = ns.map V.str
  | [], _, _, h, r => by
    cases h
    rw [r.nil_inv]
    rfl
  | d :: ds, _, _, h, r => by
    obtain ⟨v, us, rfl, rv, ru⟩ := r.cons_inv
    cases d with
    | str i =>
      simp only [strsOf, Option.map_eq_some_iff] at h
      obtain ⟨ns, h, rfl⟩ := h
      rw [strs_inv h ru, rv.str_inv]
      rfl
    | _ => cases h
def dSeq : D → Option (List D)
  | .lst xs => some xs
  | .frz xs => some xs
  | .tup xs => some xs
  | .ktp xs => some xs
  | _ => none
theorem seq_inv {K : PySem.W.Frag} {mg : Str → Option Value} {W : Hw} {s : S} {v : V} {d : D} {ds : List D} (B : Base K mg W s) (r : Rep K mg W.G W.τ v d) (h : dSeq d = some ds) : ∃ a xs, v = .ref a ∧ (SqL K W.H a xs ∨ SqT K W.H a xs) ∧ RepAll K mg W.G W.τ xs ds := by
  cases d with
  | lst xs => cases h; obtain ⟨a, ys, rfl, hl, rr⟩ := r.seqL B.sub (.inl rfl); exact ⟨a, ys, rfl, .inl hl, rr⟩
  | frz xs => cases h; obtain ⟨a, ys, rfl, hl, rr⟩ := r.seqL B.sub (.inr rfl); exact ⟨a, ys, rfl, .inl hl, rr⟩
  | tup xs => cases h; obtain ⟨a, ys, rfl, hl, rr⟩ := r.tup_inv; exact ⟨a, ys, rfl, .inr (seqT B.sub hl), rr⟩
  | ktp xs => cases h; obtain ⟨a, ys, rfl, hl, rr⟩ := r.ktp_inv; exact ⟨a, ys, rfl, .inr (seqT B.sub hl), rr⟩
  | _ => cases h
/-- a text's method of one argument -/
def eMs1 (g : Str → D → Option D) (f h : DE) : DE := fun ρ s => (f ρ s).bind fun x s1 => match x with
  | .str a => (h ρ s1).bind fun y s2 => Res.ofO (g a y) s2
  | _ => .bad
def eMs0 (g : Str → Option D) (f : DE) : DE := fun ρ s => (f ρ s).bind fun x s1 => match x with
  | .str a => Res.ofO (g a) s1
  | _ => .bad
def VM1 (K : PySem.W.Frag) (mg : Str → Option Value) (r : V → List V → Hp → VK → Prop) (g : Str → D → Option D) : Prop :=
  ∀ (W : Hw) (s : S) (a : Str) (y : V) (d z : D) (Q : VK), Base K mg W s → Rep K mg W.G W.τ y d → g a d = some z → (∀ v W', Ext W W' → Base K mg W' s → Rep K mg W'.G W'.τ v z → Q v W'.H) → r (.str a) [y] W.H Q
section
variable {X : Cx} {o e : Expr} {f h : DE} {E : WX} {id : String} {name : Str} {r : V → List V → Hp → VK → Prop} {apos pos : Pos}
theorem e_ms1 {g : Str → D → Option D} (slot : Slot "str" name id) (ty : typeOf (.builtin id) = pure (.type "method_descriptor")) (rule : MtR X id r) (hv : VM1 X.K X.mg r g) (ho : PE X o (tE X.K X.mg E f)) (he : PE X e (tE X.K X.mg E h))
    (hs : starEach [e] X.env = [(false, eval e X.env)] := by rfl) (hbase : attributeBase o name X.env (eval o X.env) = eval o X.env := by rfl) (hline : (apos.endLine == pos.line) = true := by rfl) :
    PE X (.Call (.Attribute o name apos) [e] [] pos) (tE X.K X.mg E (eMs1 g f h)) := PE.mono (pe_m1 slot ty rule ho he hs hbase hline) fun σ H Q z => by
  obtain ⟨W0, W, s, ρ, rfl, st, z⟩ := z
  refine (go st z).imp fun x H1 ⟨W1, s1, d1, e1, r1, x1, st1, z1⟩ => ?_
  subst e1
  cases d1 with
  | str a =>
    cases r1.str_inv
    refine ⟨⟨a, rfl⟩, (go st1 z1).imp fun y H2 ⟨W2, s2, d2, e2, r2, x2, st2, z2⟩ => ?_⟩
    subst e2
    cases hz : g a d2 with
    | none => rw [hz] at z2; exact z2.elim
    | some d => rw [hz] at z2; exact hv W2 s2 a y d2 d Q st2.base r2 hz z2
  | _ => exact z1.elim
end
def dJoin (a : Str) (y : D) : Option D := match dSeq y with
  | some l => match strsOf l with
    | some ys => if (ys.map (·.length)).sum + ys.length * a.length ≤ 16777216 then some (.str (Txt.join a ys)) else none
    | none => none
  | none => none
def rJoin (K : PySem.W.Frag) : V → List V → Hp → VK → Prop := fun x xs H Q => ∃ a p, ∃ ys : List Str, x = .str a ∧ xs = [.ref p] ∧ (SqL K H p (ys.map V.str) ∨ SqT K H p (ys.map V.str)) ∧
    (ys.map (·.length)).sum + ys.length * a.length ≤ 16777216 ∧ Q (.str (Txt.join a ys)) H
theorem v_join {K : PySem.W.Frag} {mg : Str → Option Value} : VM1 K mg (rJoin K) dJoin := fun W s a y d z Q B ry hz q => by
  unfold dJoin at hz
  split at hz
  · rename_i l hl
    split at hz
    · rename_i ys hys
      split at hz
      · cases hz
        obtain ⟨p, xs, rfl, hq, rr⟩ := seq_inv B ry hl
        rw [strs_inv hys rr] at hq
        exact ⟨a, p, ys, rfl, rfl, hq, by assumption, stay B q (.str _)⟩
      · cases hz
    · cases hz
  · cases hz
section
variable {X : Cx} {o e : Expr} {f h : DE} {E : WX} {apos pos : Pos}
theorem e_join (ho : PE X o (tE X.K X.mg E f)) (he : PE X e (tE X.K X.mg E h)) (hs : starEach [e] X.env = [(false, eval e X.env)] := by rfl) (hbase : attributeBase o "join" X.env (eval o X.env) = eval o X.env := by rfl)
    (hline : (apos.endLine == pos.line) = true := by rfl) : PE X (.Call (.Attribute o "join" apos) [e] [] pos) (tE X.K X.mg E (eMs1 dJoin f h)) :=
  e_ms1 F.slot_str_join F.type_str_join mt_join v_join ho he hs hbase hline
end
/-! ### what the module's names hold -/
/-- the module's name x holds the plain value d -/
def KVal (K : PySem.W.Frag) (mg : Str → Option Value) (x : Str) (d : D) : Prop := ∃ v u, mg x = some u ∧ RelV v u ∧ ∀ G τ, Rep K mg G τ v d
/-- the module's name x holds the def st -/
def FnAt (K : PySem.W.Frag) (mg : Str → Option Value) (x : Str) (st : Stmt) : Prop := ∃ f fd, Fun K x x st f fd ∧ mg x = some (.ref f)
section
variable {K : PySem.W.Frag} {mg : Str → Option Value} {h : Heap} {x : Str}
theorem mkF {st : Stmt} {f : Addr} {oc kV dc pm cd ct : Value} {od an : Option Addr} {sl : Array (Option Value)} (X : K.In h) (G : h.Ns mainGlobals mg) (a : PySem.W.nsIn K mainGlobals x = some (some (.ref f)))
    (l : K.lookup f = some ⟨oc, od, .func (PySem.W.fnOf x x (defArgs st) (defBody st) (defScope st) .none kV dc pm an cd ct), sl⟩) (c : PySem.W.codeIn K cd x = true) (k : PySem.W.keepIn K (.ref f) = true) : FnAt K mg x st :=
  ⟨f, _, fun_mk l c k, PySem.W.mg_of X G a⟩
theorem mkI {i : Int} {t : Tok} (X : K.In h) (G : h.Ns mainGlobals mg) (a : PySem.W.nsIn K mainGlobals x = some (some (.int i t))) : KVal K mg x (.int i) := ⟨.int i, .int i t, PySem.W.mg_of X G a, ⟨t, rfl⟩, fun _ _ => .int i⟩
theorem mkS {i : Str} {t : Tok} (X : K.In h) (G : h.Ns mainGlobals mg) (a : PySem.W.nsIn K mainGlobals x = some (some (.str i t))) : KVal K mg x (.str i) := ⟨.str i, .str i t, PySem.W.mg_of X G a, ⟨t, rfl⟩, fun _ _ => .str i⟩
theorem mkN (X : K.In h) (G : h.Ns mainGlobals mg) (a : PySem.W.nsIn K mainGlobals x = some none) : mg x = none := PySem.W.mg_none_of X G a
end
section
variable {X : Cx} {E : WX} {pos : Pos}
theorem e_kst {x : Str} {d : D} (h : KVal X.K X.mg x d) (hg : Gl X x := by rfl) (hd : (x == ("__debug__" : Str)) = false := by decide) : PE X (.Name x pos) (tE X.K X.mg E (eC d)) := by
  obtain ⟨v, u, hm, rv, r⟩ := h
  exact e_const (pe_glob hg hm rv hd) r
theorem hu64 {k : Nat} {A : Around} (hr : Room k A) : A.units + 64 < cLine := by have := hr.un; omega
theorem hu94 {k : Nat} {A : Around} (hr : Room k A) : A.units + 94 < cLine := by have := hr.un; omega
theorem hu65 {k : Nat} {A : Around} (hr : Room k A) : A.units + 65 < cLine := by have := hr.un; omega
end
end DL
namespace DL
open PySem PySem.Spec PyProof.Rows L2
variable [LT : LawT] [TC : TellC]
/-! ### bodies that always end with return -/
/-! ### name = [.. for ..] -/
section
variable {X : Cx} {E : WX} {fr : Fr} {tg iter elt : Expr} {ifs : List Expr} {fi : DA} {g : DG} {c : DT} {f : DE}
theorem s_setC {i : Nat} {y : Str} {py pos spos : Pos} {scope : Scope} (own : List (Str × Nat)) (hc : X.calm = true) (hN : X.N.Nodup) (hi : PI X tg iter (tI X.K X.mg E fi)) (ok : BlkOk X.N X.env.scope scope own)
    (hg : ∀ (s : Shared) (H : Hp) (C : Addr) (cl : List (Str × Addr)) (fp : List Addr), PG (X.blk s H scope (compEnvC scope cl C X.env) fp) tg (PG' X.K X.mg (own.map (·.2)) g))
    (ht : ∀ (s : Shared) (H : Hp) (C : Addr) (cl : List (Str × Addr)) (fp : List Addr), PTs (X.blk s H scope (compEnvC scope cl C X.env) fp) ifs (tT X.K X.mg E0x c))
    (he : ∀ (s : Shared) (H : Hp) (C : Addr) (cl : List (Str × Addr)) (fp : List Addr), PE (X.blk s H scope (compEnvC scope cl C X.env) fp) elt (tE X.K X.mg E0x f)) (hs : ∀ x, foldedSetIterable iter X.env x = pure x := by intro _; rfl)
    (hy : X.N[i]? = some y := by rfl) (hyl : X.env.scope.names.lookup y = some .local := by rfl) (hsw : swapsWith (.ListComp elt [⟨tg, iter, ifs, 0⟩] scope pos) (some (.Name y py)) spos.line X.env = pure true := by rfl) :
    QS X E fr (.Assign [.Name y py] (.ListComp elt [⟨tg, iter, ifs, 0⟩] scope pos) spos) (sSet i (eComp (own.map (·.2)) fi g c f)) := PS.mono (ps_setLc hc hN hy hyl hsw hi ok hg ht he hs) fun σ H T z => by
  obtain ⟨W0, W, s, ρ, rfl, st, z⟩ := z
  refine r_comp (E := E) _ _ _ _ (r_ofF _ _ _ ((goS st z).imp fun x H1 ⟨W1, s1, d1, e1, r1, x1, st1, z1⟩ => ?_))
  subst e1
  exact z1 _ W1 (st1.setDat r1 i)
end
end DL
namespace DL
open PySem PySem.Spec PyProof.Rows L2
variable [LT : LawT] [TC : TellC]
/-! ### x[::-1] -/
section
variable {prog : Program} {w : World} {A : Around} {E : Value → Shared → Prop} {s : Shared}
theorem sliceApplied_rev {sl : Addr} {vl vu vs : Value} {n : Nat} {Q : Int × Int × Nat → Shared → Prop} (hs : s.heap.IsSliceOf sl vl vu vs) (pl : IsPart vl none) (pu : IsPart vu none) (ps : IsPart vs (some (-1)))
    (h : Q ((n : Int) - 1, -1, n) s) : wpAny (model prog w) A (Builtin.Slice.sliceApplied (.ref sl) (pure (n : Int))) Q E s := by
  obtain ⟨os, hos, hcs, hds⟩ := id hs
  unfold Builtin.Slice.sliceApplied Builtin.Slice.sliceFields
  refine wpAny_bind (wpAny_bind (wpAny_field hos hds (x := vl) rfl (wpAny_bind (wpAny_field hos hds (x := vu) rfl (wpAny_bind (wpAny_field hos hds (x := vs) rfl (wpAny_pure ?_)))))))
  refine wpAny_bind (HT.slicePart_ ps ?_)
  show wpAny _ _ (if ((-1 : Int) == 0) = true then _ else _) _ _ s
  rw [if_neg (by decide)]
  refine wpAny_bind (HT.slicePart_ pl (wpAny_bind (HT.slicePart_ pu (wpAny_bind (wpAny_pure ?_)))))
  have e1 : Builtin.Slice.sliceAdjust none none (-1) (n : Int) = ((n : Int) - 1, -1) := rfl
  have e2 : Builtin.Slice.slicePlaces ((n : Int) - 1) (-1) (-1) = n := by
    unfold Builtin.Slice.slicePlaces
    rw [if_neg (by decide)]
    by_cases hn : (n : Int) - 1 > -1
    · rw [if_pos hn]
      have : ((n : Int) - 1 - -1 - 1) / (- -1) + 1 = n := by
        rw [show (- -1 : Int) = 1 by decide, Int.ediv_one]
        omega
      rw [this]
      exact Int.toNat_natCast n
    · rw [if_neg hn]
      have : n = 0 := by omega
      rw [this]
      rfl
  show wpAny _ _ (match Builtin.Slice.sliceAdjust none none (-1) (n : Int) with | (lo, hi) => pure (lo, (-1 : Int), Builtin.Slice.slicePlaces lo hi (-1))) _ _ s
  rw [e1]
  show wpAny _ _ (pure ((n : Int) - 1, (-1 : Int), Builtin.Slice.slicePlaces ((n : Int) - 1) (-1) (-1))) _ _ s
  rw [e2]
  exact wpAny_pure h
theorem pick_rev (xs : Array Value) : ((List.range xs.size).filterMap fun (k : Nat) => xs[((xs.size : Int) - 1 + (k : Int) * -1).toNat]?) = xs.toList.reverse := by
  refine List.ext_getElem? fun i => ?_
  have key : ∀ n, n ≤ xs.size → ((List.range n).filterMap fun (k : Nat) => xs[((xs.size : Int) - 1 + (k : Int) * -1).toNat]?) = xs.toList.reverse.take n := by
    intro n
    induction n with
    | zero => intro _; rfl
    | succ n ih =>
      intro hn
      rw [List.range_succ, List.filterMap_append, ih (by omega), List.take_add_one]
      congr 1
      have e : ((xs.size : Int) - 1 + (n : Int) * -1).toNat = xs.size - 1 - n := by omega
      have h2 : xs.size - 1 - n < xs.size := by omega
      simp only [List.filterMap_cons, List.filterMap_nil, e]
      rw [Array.getElem?_eq_getElem h2]
      rw [List.getElem?_reverse (by rw [Array.length_toList]; exact hn)]
      simp [h2]
  rw [key _ (Nat.le_refl _)]
  rw [List.take_of_length_le (by simp)]
theorem getItem_tuple_rev {t sl : Addr} {items : Array Value} {vl vu vs : Value} {Q : Value → Shared → Prop} (ht : IsTup s.heap t items) (hs : s.heap.IsSliceOf sl vl vu vs) (pl : IsPart vl none) (pu : IsPart vu none) (ps : IsPart vs (some (-1)))
    (h : Q (.ref s.heap.objs.size) { s with heap := s.heap.push { cls := .type "tuple", data := .seq items.toList.reverse.toArray } }) (hsz : items.size ≤ sizeLine) : wpAny (model prog w) A (getItem (.ref t) (.ref sl)) Q E s := by
  have htake : sizeOk (.seq items.toList.reverse.toArray) := by
    show items.toList.reverse.toArray.size ≤ sizeLine
    rw [List.size_toArray, List.length_reverse, Array.length_toList]
    exact hsz
  obtain ⟨os, hos, hcs, hds⟩ := id hs
  have hTs : s.TypeIs (.ref sl) "slice" := ⟨os, hos, hcs⟩
  unfold getItem
  try with_reducible refine wpAny_holding ?_
  first | refine wpAny_bind (wpAny_pure ?_) | skip
  refine wpAny_bind (wpAny_sequenceKey ht.typeIs (by decide) ?_)
  refine wpAny_bind (wpAny_callSpecial?_slot (name := Str.ofString "__getitem__") ht.typeIs PyProof.Rows.slot_tuple_getitem
    (wpAny_call_entry PyProof.Rows.slot_tuple_getitem ht.typeIs entry_tuple_getitem ?_ (args_tuple_getitem _ _)))
  show wpAny _ _ (Builtin.Tuple.tupleItemsOf (.ref t) >>= _) _ _ s
  refine wpAny_bind (tupleItemsOf_ ht ?_)
  refine wpAny_bind (wpAny_typeOf hTs ?_)
  rw [if_pos (by decide)]
  refine wpAny_bind (sliceApplied_rev hs pl pu ps ?_)
  show wpAny _ _ (if (((items.size : Int) - 1) == 0 && (-1 : Int) == 1 && items.size == items.size) = true then _ else _) _ _ s
  rw [if_neg (by simp), pick_rev]
  first
    | exact wpAny_bind (m := Builtin.Tuple.tupleExact _) (wpAny_newObj_type (wpAny_pure ⟨_, rfl, wpAny_pure h⟩) htake)
    | exact wpAny_bind (m := Builtin.Tuple.tupleExact _) (wpAny_newObj_type (wpAny_bind (wpAny_pure (wpAny_pure ⟨_, rfl, wpAny_pure h⟩))) htake)
    | exact wpAny_bind (wpAny_bind (m := Builtin.Tuple.tupleExact _) (wpAny_newObj_type (wpAny_pure (wpAny_pure ⟨_, rfl, wpAny_pure h⟩)) htake))
    | exact wpAny_bind (wpAny_bind (m := Builtin.Tuple.tupleExact _) (wpAny_newObj_type (wpAny_pure ⟨_, rfl, wpAny_pure h⟩) htake))
end
section
variable {X : Cx}
def tRevT (K : PySem.W.Frag) (te : TE) : TE := fun σ H Q => te σ H fun x H1 => ∃ a xs, x = .ref a ∧ SqT K H1 a xs ∧ ∀ p, H1 p = none → Q (.ref p) (upd H1 p (.tup xs.reverse))
theorem pe_revT {e : Expr} {te : TE} {k : Nat} {p1 p2 p3 pos : Pos} (he : PE X e te) : PE X (.Subscript e (.Slice none none (some (.UnaryOp .USub (.Constant (.int 1) k p1) p2)) p3) pos) (tRevT X.K te) := by
  refine ⟨fun pins s σ H Q I h => ?_⟩
  refine Subscript_ (thn (he.run pins s σ H _ I h) fun v s1 ⟨x, H1, I1, r1, q1⟩ => ?_)
  obtain ⟨a, xs, ex, hx, q⟩ := q1
  subst ex
  cases r1
  have hst : PO X (some (.UnaryOp .USub (.Constant (.int 1) k p1) p2)) (tPart (tUn (rU fun i => .int (-i)) (tC (.int 1)))) := po_some (pe_un un_neg pe_int)
  refine wpAny_Slice (thn (po_none.run pins s1 σ H1 (fun o H2 => o = none ∧ H2 = H1) I1 ⟨rfl, rfl⟩) fun vl s2 ⟨l, H2, I2, pl, el, e2⟩ => ?_)
  subst el e2
  refine thn (po_none.run pins s2 σ H2 (fun o H3 => o = none ∧ H3 = H2) I2 ⟨rfl, rfl⟩) fun vu s3 ⟨u, H3, I3, pu, eu, e3⟩ => ?_
  subst eu e3
  refine thn (hst.run pins s3 σ H3 (fun o H4 => o = some (-1) ∧ H4 = H3) I3 ⟨1, rfl, -1, rfl, rfl, rfl⟩) fun vs s4 ⟨o, H4, I4, ps, eo, e4⟩ => ?_
  subst eo e4
  have I5 : Inv X pins σ H4 { s4 with heap := s4.heap.push { cls := .type "slice", data := .fields #[vl, vu, vs] } } := I4.kept (t' := s4.toks) fun b ob q => Heap.get?_push_of_some _ q
  obtain ⟨its, r, ht, hz⟩ := I5.tuple hx
  have hlen := r.length
  show wpAny (model X.prog X.w) X.A (subscriptTail e (.Slice none none (some (.UnaryOp .USub (.Constant (.int 1) k p1) p2)) p3) (.ref a) (.ref s4.heap.objs.size)) (EP X pins σ Q) X.xe { s4 with heap := s4.heap.push { cls := .type "slice", data := .fields #[vl, vu, vs] } }
  refine tail_any (ops := [.ref a, .ref s4.heap.objs.size]) ht.typeIs (PyProof.Rows.slot_tuple_getitem.lookup) ?_ (by with_unfolding_all rfl)
  refine getItem_tuple_rev ht (Heap.IsSliceOf.new _ vl vu vs) pl pu ps ?_ (by rw [List.size_toArray]; omega)
  rw [List.toList_toArray]
  refine ⟨.ref _, _, I5.laid (t' := s4.toks) (o := .tup xs.reverse) (fun b ob q => Heap.get?_push_of_some _ q) (Nat.le_refl _) ?_, rfl, q _ (I5.hok.fresh (Nat.le_refl _))⟩
  exact ⟨by rw [List.length_reverse]; exact hz, _, r.reverse, IsTup.new _ _⟩
def dRevS : D → Option D
  | .tup xs => some (.tup xs.reverse)
  | .lst xs => some (.lst xs.reverse)
  | _ => none
def eRevS (f : DE) : DE := fun ρ s => (f ρ s).bind fun d s1 => Res.ofO (dRevS d) s1
theorem e_revS {e : Expr} {f : DE} {E : WX} {k : Nat} {p1 p2 p3 pos : Pos} (he : PE X e (tE X.K X.mg E f)) : PE X (.Subscript e (.Slice none none (some (.UnaryOp .USub (.Constant (.int 1) k p1) p2)) p3) pos) (tE X.K X.mg E (eRevS f)) :=
  PE.mono (PE.or (pe_revT he) (pe_revL he)) fun σ H Q z => by
    obtain ⟨W0, W, s, ρ, rfl, st, z⟩ := z
    unfold eRevS at z
    cases hf : f ρ s with
    | bad => rw [hf] at z; exact z.elim
    | exc c s1 => exact .inl ⟨W0, W, s, ρ, rfl, st, by rw [hf] at z ⊢; exact z⟩
    | ok d s1 =>
      have z' := z
      rw [hf] at z'
      simp only [Res.bind] at z'
      cases d with
      | tup ds =>
        refine .inl ⟨W0, W, s, ρ, rfl, st, ?_⟩
        rw [hf]
        intro x W1 x1 B1 r1
        obtain ⟨a, xs, rfl, h1, rr⟩ := r1.tup_inv
        refine ⟨a, xs, rfl, seqT B1.sub h1, fun p hp => ?_⟩
        exact newFrz B1 hp _ (fun v W' e' B' r' => z' v W' (x1.trans B1 e') B' r') fun W' E' e' => .tup e' (RepAll.ext E' rr.reverse)
      | lst ds =>
        refine .inr ⟨W0, W, s, ρ, rfl, st, ?_⟩
        rw [hf]
        intro x W1 x1 B1 r1
        obtain ⟨a, xs, rfl, h1, rr⟩ := r1.lst_inv
        refine ⟨a, xs, rfl, .of (B1.sub _ _ h1), fun p hp => ?_⟩
        exact newFrz B1 hp _ (fun v W' e' B' r' => z' v W' (x1.trans B1 e') B' r') fun W' E' e' => .lst e' (RepAll.ext E' rr.reverse)
      | _ => exact z'.elim
end
/-! ### xs.insert(i, y) of an own list -/
def sIns (i : Nat) (fk f : DE) : DS := fun ρ s => ownAt i ρ fun ds => (aCons fk (aCons f aNil) ρ s).thenS fun l s1 => match l with
  | [.int k, d] => if ds.length < 16777216 ∧ 0 ≤ k ∧ k < 2 ^ 63 then .next (ρ.set i (.own (ds.take k.toNat ++ [d] ++ ds.drop k.toNat))) s1 else .bad
  | _ => .bad
end DL
namespace DL
open PySem PySem.Spec PyProof.Rows L2
variable [LT : LawT] [TC : TellC]
/-! ### own classes of exceptions -/
/-- what is asked of a class C over ValueError that is raised with a text -/
structure XCls (K : PySem.W.Frag) (mg : Str → Option Value) (x : Str) : Prop where
  ex : ∃ C : Addr, mg x = some (.ref C) ∧ PySem.W.excIn K C [.type "ValueError", .type "Exception", .type "BaseException", .type "object"] "ValueError.__new__" = true ∧ PySem.W.keepIn K (.ref C) = true ∧
    PySem.W.subIn K (.ref C) (.type "BaseException") = some true ∧ PySem.W.typeIn K (.ref C) = some (.type "type") ∧ ExcC K C
def sRaise (c : Str) : DS := fun _ s => .exc c s
section
variable {X : Cx} {E : WX} {fr : Fr}
theorem s_raise {c m : Str} {j : Nat} {p p2 p3 p4 : Pos} (hx : XCls X.K X.mg c) (hc : X.calm = true) (tk : Takes X E) (hg : Gl X c := by rfl) (hdb : (c == ("__debug__" : Str)) = false := by decide) :
    QS X E fr (.Raise (some (.Call (.Name c p) [.Constant (.str m) j p2] [] p3)) none p4) (sRaise c) := by
  obtain ⟨C, gC, xC, kC, bC, tC, _⟩ := hx
  refine PS.mono (ps_raise hc tk (pmk_own PySem.F.excBase_ValueError xC gC kC (raises_own bC tC) hg hdb)) fun σ H T h => ?_
  obtain ⟨W0, W, s, ρ, rfl, st, z⟩ := h
  exact z σ W (.ref C) st.ext st.base gC
end
/-! ### a caught exception is kept -/
end DL
namespace DL
open PySem PySem.Spec PyProof.Rows L2
variable [LT : LawT] [TC : TellC]
/-! ### which class is below which -/
abbrev XTb := List (Str × Str × Bool)
def isX (tb : XTb) (x y : Str) : Option Bool := (tb.find? fun p => decide (p.1 = x ∧ p.2.1 = y)).map (·.2.2)
/-- the class that the name y stands for -/
def ClsN (mg : Str → Option Value) (y : Str) (cv : Value) : Prop := (∃ C : Addr, cv = .ref C ∧ mg y = some cv) ∨ (mg y = none ∧ bootBuiltins y = some cv ∧ y ≠ "__name__" ∧ ∃ T : String, cv = .type T ∧ y = (T : Str))
def XRel (K : PySem.W.Frag) (mg : Str → Option Value) (x y : Str) (b : Bool) : Prop := ∃ (C : Addr) (cv : Value), mg x = some (.ref C) ∧ ExcC K C ∧ ClsN mg y cv ∧ PySem.W.kitOne K (.ref C) cv = some b ∧ PySem.W.exmOne K (.ref C) cv = some b
def XTab (K : PySem.W.Frag) (mg : Str → Option Value) (tb : XTb) : Prop := ∀ p ∈ tb, XRel K mg p.1 p.2.1 p.2.2
theorem XTab.get {K : PySem.W.Frag} {mg : Str → Option Value} {tb : XTb} (h : XTab K mg tb) {x y : Str} {b : Bool} (e : isX tb x y = some b) : XRel K mg x y b := by
  unfold isX at e
  obtain ⟨p, hp, rfl⟩ := Option.map_eq_some_iff.mp e
  have hm := List.mem_of_find?_eq_some hp
  have hq := List.find?_some hp
  simp only [decide_eq_true_eq] at hq
  have := h p hm
  rw [hq.1, hq.2] at this
  exact this
section
variable {K : PySem.W.Frag} {mg : Str → Option Value}
def isXs (tb : XTb) (x : Str) : List D → Option Bool
  | [] => some false
  | .glb y :: r => match isX tb x y, isXs tb x r with
    | some b, some c => some (b || c)
    | _, _ => none
  | _ => none
/-- isinstance of a kept exception -/
def dIsX (tb : XTb) : FN := fun ds => match ds with
  | [.exc x, .glb y] => (isX tb x y).map .bl
  | [.exc x, .ty T] => if T = "ValueError" then (isX tb x "ValueError").map .bl else none
  | [.exc x, .tup (.glb y :: cs)] => (isXs tb x (.glb y :: cs)).map .bl
  | _ => none
end
end DL
namespace DL
open PySem PySem.Spec PyProof.Rows L2
variable [LT : LawT] [TC : TellC]
/-! ### try: f; except c as n: y = n -/
def sTryE (tb : XTb) (c : Str) (i j : Nat) (f : DE) : DS := fun ρ s => match f ρ s with
  | .ok _ s1 => .next ρ s1
  | .exc x s1 => match isX tb x c with
    | some true => .next ((ρ.set j (.dat (.exc x))).set i .emp) s1
    | some false => .exc x s1
    | none => .bad
  | .bad => .bad
/-- .. with k = f -/
def sTryA (tb : XTb) (c : Str) (i j k : Nat) (f : DE) : DS := fun ρ s => match f ρ s with
  | .ok d s1 => .next (ρ.set k (.dat d)) s1
  | .exc x s1 => match isX tb x c with
    | some true => .next ((ρ.set j (.dat (.exc x))).set i .emp) s1
    | some false => .exc x s1
    | none => .bad
  | .bad => .bad
/-! ### the facts of a law -/
section
variable {K : PySem.W.Frag} {mg : Str → Option Value} {h : Heap} {x y : Str} {C C2 : Addr} {b : Bool}
theorem mkXC (X : K.In h) (G : h.Ns mainGlobals mg) (a : PySem.W.nsIn K mainGlobals x = some (some (.ref C))) (xC : PySem.W.excIn K C [.type "ValueError", .type "Exception", .type "BaseException", .type "object"] "ValueError.__new__" = true)
    (kC : PySem.W.keepIn K (.ref C) = true) (bC : PySem.W.subIn K (.ref C) (.type "BaseException") = some true) (tC : PySem.W.typeIn K (.ref C) = some (.type "type")) (e : ExcC K C) : XCls K mg x := ⟨C, PySem.W.mg_of X G a, xC, kC, bC, tC, e⟩
end
/-! ### repr of long numbers -/
end DL
namespace DL
open PySem PySem.Spec PyProof.Rows L2 RT RZ
variable [LT : LawT] [TC : TellC]
/-! ### enumerate, zip, reversed -/
section
variable {K : PySem.W.Frag} {mg : Str → Option Value} {W1 : Hw}
def enumD (ds : List D) : List D := ds.mapIdx fun i d => .tup [.int (i : Int), d]
def zipD (as bs : List D) : List D := List.zipWith (fun a b => .tup [a, b]) as bs
/-- a new pair -/
theorem pair_new {W2 : Hw} {s2 : S} (B : Base K mg W2 s2) {T : Addr} {x y : V} {d e : D} (hT : W2.H T = none) (rx : Rep K mg W2.G W2.τ x d) (ry : Rep K mg W2.G W2.τ y e) :
    ∃ W3, W3.H = upd W2.H T (.tup [x, y]) ∧ Ext W2 W3 ∧ Base K mg W3 s2 ∧ Rep K mg W3.G W3.τ (.ref T) (.tup [d, e]) := by
  obtain ⟨B1, E1⟩ := B.newO hT (.tup [x, y])
  exact ⟨_, rfl, E1, B1, .tup upd_same (.cons (rx.ext E1) (.cons (ry.ext E1) .nil))⟩
end
/-- what stands in a list or tuple -/
def sqOf : D → Option (List D)
  | .lst ds => some ds
  | .tup ds => some ds
  | .frz ds => some ds
  | .ktp ds => some ds
  | _ => none
def iEnum (fs : DA) : DA := fun ρ s => (fs ρ s).bind fun ds s1 => match ds with
  | [d] => Res.ofO ((sqOf d).map enumD) s1
  | _ => .bad
def iRev (fs : DE) : DA := fun ρ s => (fs ρ s).bind fun d s1 => Res.ofO ((sqOf d).map List.reverse) s1
def isTu : D → Bool
  | .tup _ => true
  | .ktp _ => true
  | _ => false
def iZip (fs : DA) : DA := fun ρ s => (fs ρ s).bind fun ds s1 => match ds with
  | [d, e] => if isTu d = isTu e then (match sqOf d, sqOf e with
    | some as, some bs => .ok (zipD as bs) s1
    | _, _ => .bad) else .bad
  | _ => .bad
end DL
namespace DL
open PySem PySem.Spec PyProof.Rows L2
variable [LT : LawT] [TC : TellC]
/-! ### special lists of a def's own, forgotten behind it -/
mutual
/-- all special objects in it are among the first n -/
def tokLt (n : Nat) : D → Bool
  | .tok k => decide (k < n)
  | .tup xs => tokLts n xs
  | .lst xs => tokLts n xs
  | .frz xs => tokLts n xs
  | .ktp xs => tokLts n xs
  | .dct kvs => tokLtk n kvs
  | .fd _ kvs => tokLtk n kvs
  | _ => true
def tokLts (n : Nat) : List D → Bool
  | [] => true
  | x :: xs => tokLt n x && tokLts n xs
def tokLtk (n : Nat) : List (D × D) → Bool
  | [] => true
  | (_, v) :: kvs => tokLt n v && tokLtk n kvs
end
section
variable {K : PySem.W.Frag} {mg : Str → Option Value} {G : Hp} {τ : List Addr} {n : Nat}
theorem tokLtk_zip : ∀ {ks vs : List D}, ks.length = vs.length → tokLtk n (ks.zip vs) = tokLts n vs
  | [], [], _ => rfl
  | k :: ks, v :: vs, h => by
    simp only [List.zip_cons_cons, tokLtk, tokLts]
    rw [tokLtk_zip (by simpa using h)]
  | [], _ :: _, h => by simp at h
  | _ :: _, [], h => by simp at h
mutual
theorem Rep.toks : ∀ {v : V} {d : D}, Rep K mg G τ v d → tokLt τ.length d = true
  | _, _, .non => rfl
  | _, _, .bl b => rfl
  | _, _, .int i => rfl
  | _, _, .str x => rfl
  | _, _, .tup _ r => by simpa [tokLt] using RepAll.toks r
  | _, _, .lst _ r => by simpa [tokLt] using RepAll.toks r
  | _, _, .frz _ r => by simpa [tokLt] using RepAll.toks r
  | _, _, .fdK (kvs := kvs) _ r => by
    have h := RepAll.toks r
    have l := r.length
    simp only [tokLt]
    rw [tokLtk_zip (by simpa using l)]
    exact h
  | _, _, .dK (kvs := kvs) _ r => by
    have h := RepAll.toks r
    have l := r.length
    simp only [tokLt]
    rw [tokLtk_zip (by simpa using l)]
    exact h
  | _, _, .fdT (kvs := kvs) _ r => by
    have h := RepAll.toks r
    have l := r.length
    simp only [tokLt]
    rw [tokLtk_zip (by simpa using l)]
    exact h
  | _, _, .dT (kvs := kvs) _ r => by
    have h := RepAll.toks r
    have l := r.length
    simp only [tokLt]
    rw [tokLtk_zip (by simpa using l)]
    exact h
  | _, _, .tok h => by simpa [tokLt] using (List.getElem?_eq_some_iff.mp h).1
  | _, _, .ty n => rfl
  | _, _, .glb _ _ => rfl
  | _, _, .ktp _ r => by simpa [tokLt] using RepAll.toks r
  | _, _, .exc _ _ => rfl
theorem RepAll.toks : ∀ {vs : List V} {ds : List D}, RepAll K mg G τ vs ds → tokLts τ.length ds = true
  | _, _, .nil => rfl
  | _, _, .cons h r => by simp [tokLts, Rep.toks h, RepAll.toks r]
end
mutual
theorem Rep.cut : ∀ {v : V} {d : D}, Rep K mg G τ v d → tokLt n d = true → Rep K mg G (τ.take n) v d
  | _, _, .non, _ => .non
  | _, _, .bl b, _ => .bl b
  | _, _, .int i, _ => .int i
  | _, _, .str x, _ => .str x
  | _, _, .tup h r, f => .tup h (RepAll.cut r (by simpa [tokLt] using f))
  | _, _, .lst h r, f => .lst h (RepAll.cut r (by simpa [tokLt] using f))
  | _, _, .frz h r, f => .frz h (RepAll.cut r (by simpa [tokLt] using f))
  | _, _, .fdK h r, f => .fdK h (RepAll.cut r (by
      have l := r.length
      simp only [tokLt] at f
      rw [tokLtk_zip (by simpa using l)] at f
      exact f))
  | _, _, .dK h r, f => .dK h (RepAll.cut r (by
      have l := r.length
      simp only [tokLt] at f
      rw [tokLtk_zip (by simpa using l)] at f
      exact f))
  | _, _, .fdT h r, f => .fdT h (RepAll.cut r (by
      have l := r.length
      simp only [tokLt] at f
      rw [tokLtk_zip (by simpa using l)] at f
      exact f))
  | _, _, .dT h r, f => .dT h (RepAll.cut r (by
      have l := r.length
      simp only [tokLt] at f
      rw [tokLtk_zip (by simpa using l)] at f
      exact f))
  | _, _, .tok h, f => .tok (by
      simp only [tokLt, decide_eq_true_eq] at f
      rw [List.getElem?_take, if_pos f]
      exact h)
  | _, _, .ty n, _ => .ty n
  | _, _, .glb h r, _ => .glb h r
  | _, _, .ktp h r, f => .ktp h (RepAll.cut r (by simpa [tokLt] using f))
  | _, _, .exc h r, _ => .exc h r
theorem RepAll.cut : ∀ {vs : List V} {ds : List D}, RepAll K mg G τ vs ds → tokLts n ds = true → RepAll K mg G (τ.take n) vs ds
  | _, _, .nil, _ => .nil
  | _, _, .cons h r, f => .cons (Rep.cut h (by simp [tokLts] at f; exact f.1)) (RepAll.cut r (by simp [tokLts] at f; exact f.2))
end
end
open Classical in
/-- a def of which new special lists are forgotten -/
noncomputable def scopeD (F : DFun) : DFun := fun ds s => match F ds s with
  | .ok d s' => if (∃ g, s' = s ++ g) ∧ tokLt s.length d = true then .ok d s else .bad
  | .exc c s' => if ∃ g, s' = s ++ g then .exc c s else .bad
  | .bad => .bad
section
variable {K : PySem.W.Frag} {mg : Str → Option Value} {W W' : Hw} {s : S}
theorem cut_base (B : Base K mg W s) (e : Ext W W') {g : S} (B' : Base K mg W' (s ++ g)) : Base K mg ⟨W'.H, W'.G, W.τ⟩ s ∧ Ext W ⟨W'.H, W'.G, W.τ⟩ ∧ W'.τ.take s.length = W.τ := by
  obtain ⟨t, ht⟩ := e.tpre
  have tk : W'.τ.take s.length = W.τ := by rw [← ht, B.len, List.take_left']; rfl
  have mem : ∀ b ∈ W.τ, b ∈ W'.τ := fun b hb => by rw [← ht]; exact List.mem_append_left _ hb
  refine ⟨⟨B'.sub, B'.tupI, fun b hb => B'.spc b (mem b hb), B.nd, B.len, fun n c a h1 h2 => ?_, fun c hc => B'.flt c (List.mem_append_left _ hc), B'.tab, B'.nog, B'.all⟩, ⟨e.keep0, e.grow, e.out, List.prefix_refl _, fun b h1 h2 => absurd h1 h2, e.tab⟩, tk⟩
  have hn := (List.getElem?_eq_some_iff.mp h1).1
  have q := B'.cel n c a (by rw [List.getElem?_append_left hn]; exact h1) (by rw [← ht, List.getElem?_append_left (by rw [← B.len]; exact hn)]; exact h2)
  have q0 := B.cel n c a h1 h2
  cases c with
  | l ds =>
    obtain ⟨vs0, _, r0⟩ := q0
    obtain ⟨vs, e1, r⟩ := q
    refine ⟨vs, e1, ?_⟩
    have := RepAll.cut r (n := s.length) (by rw [B.len]; exact r0.toks)
    rwa [tk] at this
  | o c fs =>
    obtain ⟨C0, dx0, vs0, _, _, r0⟩ := q0
    obtain ⟨C, dx, vs, e0, e1, r⟩ := q
    refine ⟨C, dx, vs, e0, e1, ?_⟩
    have := RepAll.cut r (n := s.length) (by rw [B.len]; exact r0.toks)
    rwa [tk] at this
  | d fs =>
    obtain ⟨vs0, _, r0⟩ := q0
    obtain ⟨vs, e1, r⟩ := q
    refine ⟨vs, e1, ?_⟩
    have := RepAll.cut r (n := s.length) (by rw [B.len]; exact r0.toks)
    rwa [tk] at this
  | t fs =>
    obtain ⟨vs0, _, r0⟩ := q0
    obtain ⟨vs, e1, r⟩ := q
    refine ⟨vs, e1, ?_⟩
    have := RepAll.cut r (n := s.length) (by rw [B.len]; exact r0.toks)
    rwa [tk] at this
  | b ns => exact q
theorem sp_scope {F : DFun} {n : Nat} {vs : List V} {H : Hp} {Q : VK} {E : XK} (h : spD K mg (scopeD F) false n vs H Q E) : spD K mg F false n vs H Q E := by
  obtain ⟨hl, W, s, ds, rfl, B, r, p⟩ := h
  refine ⟨hl, W, s, ds, rfl, B, r, ?_⟩
  unfold scopeD at p
  cases hF : F ds s with
  | bad => rw [hF] at p; exact p
  | ok d s' =>
    rw [hF] at p
    dsimp only at p
    split at p
    · rename_i hc
      obtain ⟨⟨g, rfl⟩, ht⟩ := hc
      intro x W' e B' rr
      obtain ⟨B2, e2, tk⟩ := cut_base B e B'
      have rr' : Rep K mg W'.G W'.τ x d := rr
      have := rr'.cut ht
      rw [tk] at this
      exact p x ⟨W'.H, W'.G, W.τ⟩ e2 B2 this
    · exact p.elim
  | exc c s' =>
    rw [hF] at p
    dsimp only at p
    split at p
    · rename_i hc
      obtain ⟨g, rfl⟩ := hc
      intro W' u e B' hu
      obtain ⟨B2, e2, tk⟩ := cut_base B e B'
      exact p ⟨W'.H, W'.G, W.τ⟩ u e2 B2 hu
    · exact p.elim
end
theorem DFn.scope {P : Program} {w : World} {K : PySem.W.Frag} {mg : Str → Option Value} {base : Heap} {k n : Nat} {x : Str} {F : DFun} (h : DFn P w K mg base k x n F false) : DFn P w K mg base k x n (scopeD F) false := by
  obtain ⟨⟨f, fd, ps, h1, h2, h3, h4⟩, ar⟩ := h
  refine ⟨⟨f, fd, ps, h1, h2, h3, ⟨fun vs H Q E q => h4.len vs H Q E (sp_scope q), ?_⟩⟩, fun ds s hn => ?_⟩
  · intro A outer s H args us vs Q E hr
    intro hg I hb r hs
    exact h4.run A outer s H args us vs Q E hr hg I hb r (sp_scope hs)
  · unfold scopeD
    rw [ar ds s hn]
/-! ### tuple(x), x a special list too -/
def tupT (s : S) (ds : List D) : Option D := match ds with
  | [.tok n] => (tokL s n).map .tup
  | _ => dTupOf ds
def eTupT (fs : DA) : DE := fun ρ s => (fs ρ s).bind fun ds s1 => Res.ofO (tupT s1 ds) s1
end DL
namespace DL
open PySem PySem.Spec PyProof.Rows L2
variable [LT : LawT] [TC : TellC]
/-! ### x[i], x a list of its own -/
def eIxO (i : Nat) (h : DE) : DE := fun ρ s => match ρ[i]? with
  | some (.own ds) => (h ρ s).bind fun k s1 => (match k with
    | .int z => Res.ofO (atI ds z) s1
    | _ => .bad)
  | _ => .bad
end DL
namespace DL
open PySem PySem.Spec PyProof.Rows L2
variable [LT : LawT] [TC : TellC]
/-! ### reversed(range(..)), list(range(..)) -/
def iRevR1 (f : DE) : DA := fun ρ s => (f ρ s).bind fun d s1 => match d with
  | .int j => if -(2 ^ 62) ≤ j ∧ j < 2 ^ 62 then .ok (rngD ((j.toNat : Int) - 1) (-1) j.toNat) s1 else .bad
  | _ => .bad
def iRevR2 (f g : DE) : DA := fun ρ s => (f ρ s).bind fun d s1 => (g ρ s1).bind fun e s2 => match d, e with
  | .int i, .int j => if -(2 ^ 62) ≤ i ∧ i < 2 ^ 62 ∧ -(2 ^ 62) ≤ j ∧ j < 2 ^ 62 then .ok (rngD (i + ((j - i).toNat : Int) - 1) (-1) (j - i).toNat) s2 else .bad
  | _, _ => .bad
def eLstR1 (f : DE) : DE := fun ρ s => (f ρ s).bind fun d s1 => match d with
  | .int j => if -(2 ^ 62) ≤ j ∧ j ≤ 2 ^ 24 then .ok (.lst (rngD 0 1 j.toNat)) s1 else .bad
  | _ => .bad
def eLstR2 (f g : DE) : DE := fun ρ s => (f ρ s).bind fun d s1 => (g ρ s1).bind fun e s2 => match d, e with
  | .int i, .int j => if -(2 ^ 62) ≤ i ∧ i < 2 ^ 62 ∧ -(2 ^ 62) ≤ j ∧ j < 2 ^ 62 ∧ (j - i).toNat ≤ 2 ^ 24 then .ok (.lst (rngD i 1 (j - i).toNat)) s2 else .bad
  | _, _ => .bad
end DL
namespace DL
open PySem PySem.Spec PyProof.Rows L2
variable [LT : LawT] [TC : TellC]
/-! ### dicts as special objects -/
def tokK (s : S) (n : Nat) : Option (List (Key × D)) := match s[n]? with
  | some (.d l) => some l
  | _ => none
def tokT (s : S) (n : Nat) : Option (List (List Key × D)) := match s[n]? with
  | some (.t l) => some l
  | _ => none
def look {κ : Type} [DecidableEq κ] (l : List (κ × D)) (k : κ) : Option D := (l.find? fun p => decide (p.1 = k)).map (·.2)
def putC {κ : Type} [DecidableEq κ] (l : List (κ × D)) (k : κ) (d : D) : List (κ × D) :=
  if (l.any fun p => decide (p.1 = k)) = true then l.map (fun p => if p.1 = k then (p.1, d) else p) else l ++ [(k, d)]
section
variable {κ : Type} [DecidableEq κ] {R : V → D → Prop}
/-- pairs of the heap and pairs of data -/
inductive PC (R : V → D → Prop) : List (κ × V) → List (κ × D) → Prop
  | nil : PC R [] []
  | cons {k : κ} {v : V} {d : D} {l : List (κ × V)} {m : List (κ × D)} : R v d → PC R l m → PC R ((k, v) :: l) ((k, d) :: m)
variable {l : List (κ × V)} {m : List (κ × D)}
theorem PC.get (h : PC R l m) (k : κ) : (valV l k = none ∧ look m k = none) ∨ ∃ v d, valV l k = some v ∧ look m k = some d ∧ R v d := by
  induction h with
  | nil => exact .inl ⟨rfl, rfl⟩
  | @cons k' v d l m r t ih =>
    by_cases e : k' = k
    · subst e
      exact .inr ⟨v, d, by simp [valV], by simp [look], r⟩
    · rcases ih with ⟨a, b⟩ | ⟨v', d', a, b, r'⟩
      · exact .inl ⟨(valV_neg e).trans a, by unfold look at b ⊢; rw [List.find?_cons_of_neg (by simpa using e)]; exact b⟩
      · exact .inr ⟨v', d', (valV_neg e).trans a, by unfold look at b ⊢; rw [List.find?_cons_of_neg (by simpa using e)]; exact b, r'⟩
theorem PC.any (h : PC R l m) (k : κ) : (l.any fun kv => decide (kv.1 = k)) = (m.any fun p => decide (p.1 = k)) := by
  induction h with
  | nil => rfl
  | @cons k' v d l m r t ih => rw [List.any_cons, List.any_cons, ih]
theorem PC.snoc (h : PC R l m) {v : V} {d : D} (r : R v d) (k : κ) : PC R (l ++ [(k, v)]) (m ++ [(k, d)]) := by
  induction h with
  | nil => exact .cons r .nil
  | cons q t ih => exact .cons q ih
theorem PC.upd (h : PC R l m) {v : V} {d : D} (r : R v d) (k : κ) : PC R (l.map (fun kv => if kv.1 = k then (kv.1, v) else kv)) (m.map (fun p => if p.1 = k then (p.1, d) else p)) := by
  induction h with
  | nil => exact .nil
  | @cons k' v' d' l m q t ih =>
    simp only [List.map_cons]
    by_cases e : k' = k
    · rw [if_pos e, if_pos e]; exact .cons r ih
    · rw [if_neg e, if_neg e]; exact .cons q ih
theorem PC.put (h : PC R l m) {v : V} {d : D} (r : R v d) (k : κ) : PC R (putK l k v) (putC m k d) := by
  unfold putK putC
  rw [h.any k]
  split
  · exact h.upd r k
  · exact h.snoc r k
theorem PC.len (h : PC R l m) : l.length = m.length := by
  induction h with
  | nil => rfl
  | cons _ _ ih => rw [List.length_cons, List.length_cons, ih]
theorem PC.imp {R' : V → D → Prop} (h : PC R l m) (i : ∀ v d, R v d → R' v d) : PC R' l m := by
  induction h with
  | nil => exact .nil
  | cons q t ih => exact .cons (i _ _ q) ih
end
section
variable {κ : Type} {K : PySem.W.Frag} {mg : Str → Option Value} {G : Hp} {τ : List Addr}
theorem pc_of : ∀ {fs : List (κ × D)} {vs : List V}, RepAll K mg G τ vs (fs.map (·.2)) → PC (Rep K mg G τ) ((fs.map (·.1)).zip vs) fs
  | [], _, h => by
    cases h
    exact .nil
  | p :: fs, _, h => by
    rw [List.map_cons] at h
    obtain ⟨p1, p2⟩ := p
    cases h with
    | cons r t => exact .cons r (pc_of t)
theorem tok_dict {W : Hw} {s : S} {n : Nat} {v : V} {l : List (Key × D)} (B : Base K mg W s) (r : Rep K mg W.G W.τ v (.tok n)) (h : tokK s n = some l) : ∃ a ks, v = .ref a ∧ W.τ[n]? = some a ∧ W.H a = some (.dK ks) ∧ PC (Rep K mg W.G W.τ) ks l := by
  cases r with
  | tok ht =>
    unfold tokK at h
    split at h
    · rename_i l' hs
      cases h
      obtain ⟨vs, e, r⟩ := B.cel n _ _ hs ht
      exact ⟨_, _, rfl, ht, e, pc_of r⟩
    · cases h
theorem tok_dictT {W : Hw} {s : S} {n : Nat} {v : V} {l : List (List Key × D)} (B : Base K mg W s) (r : Rep K mg W.G W.τ v (.tok n)) (h : tokT s n = some l) : ∃ a ks, v = .ref a ∧ W.τ[n]? = some a ∧ W.H a = some (.dT ks) ∧ PC (Rep K mg W.G W.τ) ks l := by
  cases r with
  | tok ht =>
    unfold tokT at h
    split at h
    · rename_i l' hs
      cases h
      obtain ⟨vs, e, r⟩ := B.cel n _ _ hs ht
      exact ⟨_, _, rfl, ht, e, pc_of r⟩
    · cases h
/-- a key of the heap -/
theorem rep_key {W : Hw} {v : V} {d : D} {k : Key} (r : Rep K mg W.G W.τ v d) (h : dk d = some k) : v = kV k := by
  rw [kD_of h] at r
  cases k with
  | inl i => exact r.int_inv
  | inr t => exact r.str_inv
theorem rep_keys {G : Hp} {τ : List Addr} : ∀ {ks : List Key} {vs : List V}, RepAll K mg G τ vs (ks.map kD) → vs = ks.map kV
  | [], _, h => by cases h; rfl
  | k :: ks, _, h => by
    rw [List.map_cons] at h
    cases h with
    | cons r t =>
      rw [rep_keys t]
      congr 1
      cases k with
      | inl i => exact r.int_inv
      | inr t => exact r.str_inv
theorem rep_keyT {W : Hw} {v : V} {d : D} {k : List Key} (r : Rep K mg W.G W.τ v d) (h : dkT d = some k) : ∃ b, v = .ref b ∧ W.G b = some (.tup (k.map kV)) := by
  rw [kT_of h] at r
  obtain ⟨a, xs, rfl, h1, h2⟩ := Rep.tup_inv' (show Rep K mg W.G W.τ v (.tup (k.map kD)) from r)
  rw [rep_keys h2] at h1
  exact ⟨a, rfl, h1⟩
end
/-! ### reading -/
/-- d[k] of a dict told by pairs, none where there is none -/
def getO (t : Bool) (l : List (D × D)) (y : D) : Option (Option D) := match t with
  | false => (dk y).map fun k => DL.getD dk l k
  | true => (dkT y).map fun k => DL.getD dkT l k
theorem getO_false {l : List (D × D)} {y : D} {o : Option D} (h : getO false l y = some o) : ∃ k, dk y = some k ∧ o = DL.getD dk l k := by
  obtain ⟨k, h1, h2⟩ := Option.map_eq_some_iff.mp h
  exact ⟨k, h1, h2.symm⟩
theorem getO_true {l : List (D × D)} {y : D} {o : Option D} (h : getO true l y = some o) : ∃ k, dkT y = some k ∧ o = DL.getD dkT l k := by
  obtain ⟨k, h1, h2⟩ := Option.map_eq_some_iff.mp h
  exact ⟨k, h1, h2.symm⟩
/-- d[k], none where there is none -/
def getC (s : S) : D → D → Option (Option D)
  | .tok n, y => match tokK s n, tokT s n, dk y, dkT y with
    | some l, _, some k, _ => some (look l k)
    | _, some l, _, some k => some (look l k)
    | _, _, _, _ => none
  | .dct l, y => match dk y, dkT y with
    | some k, _ => if (l.all fun p => (dk p.1).isSome) = true ∧ l ≠ [] then some (DL.getD dk l k) else none
    | _, some k => if (l.all fun p => (dkT p.1).isSome) = true ∧ l ≠ [] then some (DL.getD dkT l k) else none
    | _, _ => none
  | .fd t l, y => getO t l y
  | _, _ => none
section
variable {K : PySem.W.Frag} {mg : Str → Option Value}
theorem pk_dk {R : V → D → Prop} {ks : List (Key × V)} {l : List (D × D)} (h : PK R kD ks l) (e : (l.all fun p => (dkT p.1).isSome) = true) (ne : l ≠ []) : False := by
  cases h with
  | nil => exact ne rfl
  | @cons k v d l m r t =>
    rw [List.all_cons, Bool.and_eq_true] at e
    have := e.1
    cases k <;> simp [kD, dkT] at this
theorem pk_dT {R : V → D → Prop} {ks : List (List Key × V)} {l : List (D × D)} (h : PK R kT ks l) (e : (l.all fun p => (dk p.1).isSome) = true) (ne : l ≠ []) : False := by
  cases h with
  | nil => exact ne rfl
  | @cons k v d l m r t =>
    rw [List.all_cons, Bool.and_eq_true] at e
    have := e.1
    simp [kT, dk] at this
theorem _root_.DL.Rep.fd_inv {G : Hp} {τ : List Addr} {v : V} {t : Bool} {l : List (D × D)} (h : Rep K mg G τ v (.fd t l)) : (t = false ∧ ∃ a o ks, v = .ref a ∧ G a = some (.frz o (.dK ks)) ∧ PK (Rep K mg G τ) kD ks l) ∨ (t = true ∧ ∃ a o ks, v = .ref a ∧ G a = some (.frz o (.dT ks)) ∧ PK (Rep K mg G τ) kT ks l) := by
  cases h with
  | fdK h r => exact .inl ⟨rfl, _, _, _, rfl, h, pk_of r⟩
  | fdT h r => exact .inr ⟨rfl, _, _, _, rfl, h, pk_of r⟩
theorem getC_ok {W : Hw} {s : S} {x y : V} {d e : D} {o : Option D} (B : Base K mg W s) (rx : Rep K mg W.G W.τ x d) (ry : Rep K mg W.G W.τ y e) (h : getC s d e = some o) :
    ∃ a ov, x = .ref a ∧ DGet W.H a y ov ∧ IsD W.H a ∧ ((ov = none ∧ o = none) ∨ ∃ v z, ov = some v ∧ o = some z ∧ Rep K mg W.G W.τ v z) := by
  unfold getC at h
  split at h
  · split at h
    · rename_i l k hl hk
      cases h
      obtain ⟨a, ks, rfl, hτ, eH, pc⟩ := tok_dict B rx hl
      rw [rep_key ry hk]
      exact ⟨a, _, rfl, .k eH, .inl ⟨_, .inl eH⟩, pc.get k⟩
    · rename_i l k hl hk _
      cases h
      obtain ⟨a, ks, rfl, hτ, eH, pc⟩ := tok_dictT B rx hl
      obtain ⟨b, rfl, hb⟩ := rep_keyT ry hk
      exact ⟨a, _, rfl, .t eH (B.sub _ _ hb), .inr ⟨_, .inl eH⟩, pc.get k⟩
    · cases h
  · rename_i l
    split at h
    · rename_i k hk
      split at h
      · rename_i hc
        cases h
        rw [rep_key ry hk]
        rcases rx.dct_inv' with ⟨a, ks, rfl, h1, pk⟩ | ⟨a, ks, rfl, h1, pk⟩
        · exact ⟨a, _, rfl, .k (B.sub _ _ h1), .inl ⟨_, .inl (B.sub _ _ h1)⟩, pk.get dk_kD k⟩
        · exact (pk_dT pk hc.1 hc.2).elim
      · cases h
    · rename_i k hk hn
      split at h
      · rename_i hc
        cases h
        obtain ⟨b, rfl, hb⟩ := rep_keyT ry hk
        rcases rx.dct_inv' with ⟨a, ks, rfl, h1, pk⟩ | ⟨a, ks, rfl, h1, pk⟩
        · exact (pk_dk pk hc.1 hc.2).elim
        · exact ⟨a, _, rfl, .t (B.sub _ _ h1) (B.sub _ _ hb), .inr ⟨_, .inl (B.sub _ _ h1)⟩, pk.get dkT_kT k⟩
      · cases h
    · cases h
  · rename_i t l
    rcases rx.fd_inv with ⟨rfl, a, ob, ks, rfl, h1, pk⟩ | ⟨rfl, a, ob, ks, rfl, h1, pk⟩
    · obtain ⟨k, hk, rfl⟩ := getO_false h
      rw [rep_key ry hk]
      exact ⟨a, _, rfl, .inl ⟨ks, k, .inr ⟨ob, B.sub _ _ h1⟩, rfl, rfl⟩, .inl ⟨_, .inr ⟨ob, B.sub _ _ h1⟩⟩, pk.get dk_kD k⟩
    · obtain ⟨k, hk, rfl⟩ := getO_true h
      obtain ⟨b, rfl, hb⟩ := rep_keyT ry hk
      exact ⟨a, _, rfl, .inr ⟨ks, k, b, .inr ⟨ob, B.sub _ _ h1⟩, rfl, B.sub _ _ hb, rfl⟩, .inr ⟨_, .inr ⟨ob, B.sub _ _ h1⟩⟩, pk.get dkT_kT k⟩
  · cases h
end
/-- d[k] -/
def dIxC (s : S) : F2 := fun x y => (getC s x y).bind id
section
variable {X : Cx} {E : WX} {a b c : Expr} {f g h : DE} {pos : Pos}
theorem e_ixC (ha : PE X a (tE X.K X.mg E f)) (hb : PE X b (tE X.K X.mg E h)) (hu : X.A.units + 64 < cLine) (hs : NoSl b := by exact fun _ _ => rfl) : PE X (.Subscript a b pos) (tE X.K X.mg E (eOp2S dIxC f h)) :=
  PE.mono (pe_dget (by omega) ha hb hs) fun σ H Q z => by
    obtain ⟨W0, W, s, ρ, rfl, st, z⟩ := z
    refine (go st z).imp fun x H1 ⟨W1, s1, d1, e1, r1, x1, st1, z1⟩ => ?_
    subst e1
    refine (go st1 z1).imp fun y H2 ⟨W2, s2, d2, e2, r2, x2, st2, z2⟩ => ?_
    subst e2
    unfold dIxC at z2
    cases hg : getC s2 d1 d2 with
    | none => rw [hg] at z2; exact z2.elim
    | some o =>
      rw [hg] at z2
      obtain ⟨p, ov, rfl, dg, _, q⟩ := getC_ok st2.base (r1.ext x2) r2 hg
      cases o with
      | none => exact z2.elim
      | some u =>
        rcases q with ⟨_, e⟩ | ⟨v, w, rfl, e, rv⟩
        · cases e
        · cases e
          exact ⟨p, v, rfl, dg, z2.of_ok st2.base rv⟩
end
/-! d.get(k, e) and d[k] = e -/
/-- d[k] = e -/
def sPutC (f fi fv : DE) : DS := fun ρ s => (fv ρ s).thenS fun d s1 => (f ρ s1).thenS fun t s2 => (fi ρ s2).thenS fun k s3 => match t with
  | .tok n => match tokK s3 n, tokT s3 n, dk k, dkT k with
    | some l, _, some k, _ => if flat d = true ∧ l.length < 16777216 then .next ρ (s3.set n (.d (putC l k d))) else .bad
    | _, some l, _, some k => if flat d = true ∧ l.length < 16777216 then .next ρ (s3.set n (.t (putC l k d))) else .bad
    | _, _, _, _ => .bad
  | _ => .bad
section
variable {X : Cx} {E : WX} {fr : Fr} {a b c o : Expr} {f g h fi fv : DE} {pos : Pos}
/-- a thing that is a dict -/
def isDct (s : S) : D → Bool
  | .tok n => (tokK s n).isSome || (tokT s n).isSome
  | .dct _ => true
  | .fd _ _ => true
  | _ => false
def eGet2 (f h g : DE) : DE := fun ρ s => (f ρ s).bind fun a s1 => if isDct s1 a = true then (h ρ s1).bind fun y s2 => (g ρ s2).bind fun z s3 => Res.ofO ((getC s3 a y).map fun o => o.getD z) s3 else .bad
/-! ### new ones -/
def eNewK : DE := fun _ s => .ok (.tok s.length) (s ++ [.d []])
def eNewT : DE := fun _ s => .ok (.tok s.length) (s ++ [.t []])
end
end DL
namespace DL
open PySem PySem.Spec PyProof.Rows L2
variable [LT : LawT] [TC : TellC]
/-! ### displays that become special objects -/
section
variable {K : PySem.W.Frag} {mg : Str → Option Value} {W : Hw} {s : S} {p : Addr} {o : HO}
theorem Base.put (B : Base K mg W s) (hG : W.G p = none) (ht : p ∉ W.τ) (no : ∀ vs, o ≠ .tup vs) (pl : ∀ u, W.H p = some u → (∀ ps, u ≠ .tbl ps) ∧ ∀ q, u ≠ LamX.CodeO p q) (nt : ∀ ps, o ≠ .tbl ps := by exact fun _ z => nomatch z) : Base K mg ⟨upd W.H p o, W.G, W.τ⟩ s := by
  have nG : ∀ b x, W.G b = some x → b ≠ p := fun b x e z => by rw [z, hG] at e; cases e
  refine ⟨fun b x e => (upd_ne (nG b x e)).trans (B.sub b x e), fun b xs e => ?_, B.spc, B.nd, B.len, fun m c b h1 h2 => ?_, B.flt, tabs_upd pl B.tab, B.nog, all_upd nt B.all⟩
  · have e' : upd W.H p o b = some (.tup xs) := e
    by_cases hb : b = p
    · rw [hb, upd_same] at e'
      exact absurd (Option.some.inj e') (no xs)
    · rw [upd_ne hb] at e'
      exact B.tupI b xs e'
  · have nb : b ≠ p := fun z => ht (z ▸ List.mem_of_getElem? h2)
    have q := B.cel m c b h1 h2
    cases c with
    | l ds =>
      obtain ⟨us, e, r⟩ := q
      exact ⟨us, (upd_ne nb).trans e, r⟩
    | o c fs =>
      obtain ⟨C, dx, us, e0, e, r⟩ := q
      exact ⟨C, dx, us, e0, (upd_ne nb).trans e, r⟩
    | d fs =>
      obtain ⟨us, e, r⟩ := q
      exact ⟨us, (upd_ne nb).trans e, r⟩
    | t fs =>
      obtain ⟨us, e, r⟩ := q
      exact ⟨us, (upd_ne nb).trans e, r⟩
    | b ns =>
      obtain ⟨us, e, r⟩ := q
      exact ⟨us, (upd_ne nb).trans e, r⟩
end
def mergeC (l : List (Key × D)) : List (Key × D) := l.foldl (fun acc kv => putC acc kv.1 kv.2) []
def eDispK (ps : List (DE × DE)) : DE := fun ρ s => (evPairs ps ρ s).bind fun l s1 => if flats ((mergeC l).map (·.2)) = true then .ok (.tok s1.length) (s1 ++ [.d (mergeC l)]) else .bad
section
variable {X : Cx} {E : WX} {pos : Pos} {keys : List (Option Expr)} {values : List Expr}
/-! ### {t: e}, t a tuple -/
def eDispT (f g : DE) : DE := fun ρ s => (f ρ s).bind fun k s1 => (g ρ s1).bind fun d s2 => match dkT k with
  | some k => if flat d = true then .ok (.tok s2.length) (s2 ++ [.t [(k, d)]]) else .bad
  | none => .bad
end
end DL
namespace DL
open PySem PySem.Spec PyProof.Rows L2
variable [LT : LawT] [TC : TellC]
/-! ### zip of a list and a tuple -/
structure ZA (z TI TO i1 i2 a b : Addr) : Prop where
  sep : ZipSep2 z TI TO i1 i2 [i1, a] [i2, b]
  az : a ≠ i1
  bz : b ≠ i2
def iZipM (fs : DA) : DA := fun ρ s => (fs ρ s).bind fun ds s1 => match ds with
  | [d, e] => if isTu d = false ∧ isTu e = true then (match sqOf d, sqOf e with
    | some as, some bs => .ok (zipD as bs) s1
    | _, _ => .bad) else .bad
  | _ => .bad
end DL
namespace DL
open PySem PySem.Spec PyProof.Rows L2
variable [LT : LawT] [TC : TellC]
/-! ### an own list gets another name -/
def sMove (i j : Nat) : DS := fun ρ s => ownAt j ρ fun ds => .next ((ρ.set j .emp).set i (.own ds)) s
/-! ### expressions that change an own list -/
abbrev DY := List Sl → S → Res (D × List Sl)
def yPop (i : Nat) : DY := fun ρ s => match ρ[i]? with
  | some (.own ds) => match ds.getLast? with
    | some d => .ok (d, ρ.set i (.own ds.dropLast)) s
    | none => .bad
  | _ => .bad
def yPopI (i : Nat) (f : DE) : DY := fun ρ s => match ρ[i]? with
  | some (.own ds) => (f ρ s).bind fun k s1 => (match k with
    | .int z => if -(2 ^ 63) ≤ z ∧ z < 2 ^ 63 then (match dropAt ds z with
      | some (d, es) => .ok (d, ρ.set i (.own es)) s1
      | none => .bad) else .bad
    | _ => .bad)
  | _ => .bad
def yOp2 (g : F2) (f : DY) (h : DE) : DY := fun ρ s => (f ρ s).bind fun p s1 => (h p.2 s1).bind fun b s2 => match g p.1 b with
  | some d => .ok (d, p.2) s2
  | none => .bad
section
variable {X : Cx} {E : WX} {fr : Fr} {pos apos cpos : Pos}
/-- x.append(e), e changes an own list too -/
def sAppY (i : Nat) (f : DY) : DS := fun ρ s => ownAt i ρ fun _ => (f ρ s).thenS fun p s1 => ownAt i p.2 fun ds => if ds.length < 16777216 then .next (p.2.set i (.own (ds ++ [p.1]))) s1 else .bad
end
end DL
namespace DL
open PySem PySem.Spec PyProof.Rows L2
variable [LT : LawT] [TC : TellC]
/-! ### texts put together of parts -/
def eFmt (f : DE) : DE := fun ρ s => (f ρ s).bind fun d s1 => match d with
  | .int i => if i.natAbs.log2 < 1920 then .ok (.str (toString i)) s1 else .bad
  | .str y => if y.length ≤ 16777216 then .ok (.str y) s1 else .bad
  | _ => .bad
def jsD : List DE → Str → List Sl → S → Res D
  | [], acc, _, s => .ok (.str acc) s
  | f :: fs, acc, ρ, s => (f ρ s).bind fun d s1 => match d with
    | .str y => if (acc ++ y).length ≤ 16777216 then jsD fs (acc ++ y) ρ s1 else .bad
    | _ => .bad
def eJs (fs : List DE) : DE := fun ρ s => jsD fs Str.empty ρ s
section
variable {X : Cx} {E : WX} {pos : Pos}
theorem e_fmt {e : Expr} {f : DE} (he : PE X e (tE X.K X.mg E f)) : PE X (.FormattedValue e (-1) none pos) (tE X.K X.mg E (eFmt f)) := PE.mono (pe_fmt he) fun σ H Q z => by
  obtain ⟨W0, W, s, ρ, rfl, st, z⟩ := z
  refine (go st z).imp fun x H1 ⟨W1, s1, d, e1, r1, x1, st1, z1⟩ => ?_
  subst e1
  cases d with
  | int i =>
    cases r1.int_inv
    simp only at z1
    split at z1
    · rename_i h
      exact .inr ⟨i, rfl, h, stay st1.base z1 (.str _)⟩
    · exact z1.elim
  | str y =>
    cases r1.str_inv
    simp only at z1
    split at z1
    · rename_i h
      exact .inl ⟨y, rfl, line_le h, stay st1.base z1 (.str _)⟩
    · exact z1.elim
  | _ => exact z1.elim
inductive PJD (X : Cx) (E : WX) : List Expr → List DE → Prop where
  | nil : PJD X E [] []
  | cons {e : Expr} {f : DE} {es : List Expr} {fs : List DE} (h : PE X e (tE X.K X.mg E f)) (r : PJD X E es fs) : PJD X E (e :: es) (f :: fs)
theorem PJD.pj {es : List Expr} {fs : List DE} (h : PJD X E es fs) : PJ X es (fs.map fun f => tE X.K X.mg E f) := by
  induction h with
  | nil => exact .nil
  | cons h r ih => exact .cons h ih
theorem js_run {fs : List DE} : ∀ {acc : Str} {σ : L2.St} {W0 W : Hw} {s : S} {ρ : List Sl} {Q : VK}, SSt X.K X.mg W0 W s σ ρ → Post X.K X.mg (relE X.K X.mg) (fun u d H' => E u d σ H') (jsD fs acc ρ s) W Q →
    tJs (fs.map fun f => tE X.K X.mg E f) acc σ W.H fun out H1 => Q (.str out) H1 := by
  induction fs with
  | nil =>
    intro acc σ W0 W s ρ Q st z
    exact z _ W (Ext.refl W) st.base (.str _)
  | cons f fs ih =>
    intro acc σ W0 W s ρ Q st z
    refine (go st z).imp fun x H1 ⟨W1, s1, d, e1, r1, x1, st1, z1⟩ => ?_
    subst e1
    cases d with
    | str y =>
      cases r1.str_inv
      simp only at z1
      split at z1
      · rename_i h
        exact ⟨y, rfl, line_le h, ih st1 z1⟩
      · exact z1.elim
    | _ => exact z1.elim
theorem e_joined {v1 v2 : Expr} {rest : List Expr} {fs : List DE} (h : PJD X E (v1 :: v2 :: rest) fs) : PE X (.JoinedStr (v1 :: v2 :: rest) pos) (tE X.K X.mg E (eJs fs)) := PE.mono (pe_joined h.pj) fun σ H Q z => by
  obtain ⟨W0, W, s, ρ, rfl, st, z⟩ := z
  exact js_run st z
end
/-! ### divmod -/
def dDivmod : FN := fun ds => match ds with
  | [.int i, .int j] => if 0 < j ∧ j < 1073741824 then some (.tup [.int (i / j), .int (i % j)]) else none
  | _ => none
/-! ### x.append(e), x whatever is a special list -/
def isTokL (s : S) : D → Bool
  | .tok n => (tokL s n).isSome
  | _ => false
def appS (s : S) (t d : D) : Option S := match t with
  | .tok n => match tokL s n with
    | some ds => if flat d = true ∧ ds.length < 16777216 then some (s.set n (.l (ds ++ [d]))) else none
    | none => none
  | _ => none
def sAppT (f fv : DE) : DS := fun ρ s => (f ρ s).thenS fun t s1 => if isTokL s1 t = true then (fv ρ s1).thenS fun d s2 => (match appS s2 t d with
    | some s3 => .next ρ s3
    | none => .bad) else .bad
section
variable {X : Cx} {E : WX} {fr : Fr} {pos apos cpos : Pos} {f fv : DE} {o e : Expr}
theorem flats_ap1 {d : D} (hd : flat d = true) : ∀ {ds : List D}, flats ds = true → flats (ds ++ [d]) = true
  | [], _ => by simp [flats, hd]
  | x :: xs, h => by simp [flats] at h ⊢; exact ⟨h.1, flats_ap1 hd h.2⟩
theorem s_appT (ho : PE X o (tE X.K X.mg E f)) (he : PE X e (tE X.K X.mg E fv))
    (hbase : attributeBase o "append" X.env (eval o X.env) = eval o X.env := by rfl)
    (hfew : ((backTo cpos (starEach [e] X.env)).all (fun x => !x.1) && (backToKw cpos (keywordEach [] X.env)).all (fun x => x.1.isSome) && decide (([e] : List Expr).length + ([] : List Keyword).length + (if ([] : List Keyword).isEmpty then 0 else 1) < 30)) = true := by rfl)
    (hline : (apos.endLine == cpos.line) = true := by rfl) (hs : starEach [e] X.env = (false, eval e X.env) :: starEach [] X.env := by rfl) (hplain : (backTo cpos (starEach [] X.env)).any (·.1) = false := by rfl)
    (hsw : swapsWith (.Call (.Attribute o "append" apos) [e] [] cpos) none pos.line X.env = pure false := by rfl) :
    QS X E fr (.Expr (.Call (.Attribute o "append" apos) [e] [] cpos) pos) (sAppT f fv) := by
  refine PS.mono (ps_expr (pe_bm PySem.F.plainAttrs_list PySem.F.slot_list_append PySem.F.type_list_append mt_append ho (pa_cons he pa_nil hs) hbase hfew hline hs hplain) hsw) fun σ H T z => ?_
  obtain ⟨W0, W, s, ρ, rfl, st, z⟩ := z
  refine (goS st z).imp fun t H1 ⟨W1, s1, d1, e1, r1, x1, st1, z1⟩ => ?_
  subst e1
  have tL : ∀ {W' : Hw} {s' : S} {v : V} {n : Nat} {ds : List D}, Base X.K X.mg W' s' → Rep X.K X.mg W'.G W'.τ v (.tok n) → tokL s' n = some ds → tyV X.K "list" v W'.H := fun B r h => by
    obtain ⟨p, vs, rfl, hτ, eH, rr⟩ := tok_list B r h
    exact tyL eH
  split at z1
  · rename_i ht
    refine ⟨?_, (goS st1 z1).imp fun y H2 ⟨W2, s2, d2, e2, r2, x2, st2, z2⟩ => ?_⟩
    · cases d1 with
      | tok n =>
        cases hd : tokL s1 n with
        | none => simp [isTokL, hd] at ht
        | some ds => exact tL st1.base r1 hd
      | _ => simp [isTokL] at ht
    · subst e2
      cases ha : appS s2 d1 d2 with
      | none => rw [ha] at z2; exact z2.elim
      | some s3 =>
        rw [ha] at z2
        unfold appS at ha
        split at ha
        · rename_i n
          split at ha
          · rename_i ds hd
            split at ha
            · rename_i hf
              cases ha
              obtain ⟨p, vs, rfl, hτ, eH, rr⟩ := tok_list st2.base (r1.ext x2) hd
              refine ⟨p, vs, y, rfl, rfl, eH, by rw [rr.length, sizeLine_eq]; exact hf.2, ?_⟩
              have hfl : flats ds = true := by
                unfold tokL at hd
                split at hd
                · rename_i ds' hds
                  cases hd
                  exact st2.base.flt _ (List.mem_of_getElem? hds)
                · cases hd
              exact z2 σ _ (st2.cellPut hτ (fun _ z => nomatch (z : HO.lst _ = HO.tup _)) ⟨_, upd_same, rr.snoc r2⟩ (flats_ap1 hf.1 hfl))
            · cases ha
          · cases ha
        · cases ha
  · exact z1.elim
end
/-! ### a < b < c < d -/
def eChain3 (g g' g'' : F2) (f h k l : DE) : DE := fun ρ s => (f ρ s).bind fun x s1 => (h ρ s1).bind fun y s2 => match g x y with
  | some (.bl b) => if b then (k ρ s2).bind fun z s3 => (match g' y z with
    | some (.bl c) => if c then (l ρ s3).bind fun u s4 => Res.ofO (g'' z u) s4 else .ok (.bl false) s3
    | _ => .bad) else .ok (.bl false) s2
  | _ => .bad
/-! ### a def that calls itself -/
section
variable {P : Program} {w : World} {K : PySem.W.Frag} {mg : Str → Option Value} {base : Heap}
theorem DFn.zero {x x' qual : Str} {st : Stmt} {f : Addr} {fd : FuncData} {N ps : List Str} {n k : Nat} {fr : Fr} (F : Fun K x' qual st f fd) (S : FnScope N ps (defScope st)) (gx : mg x = some (.ref f)) (hb : Binds K fd ps []) (hn : ps.length = n) :
    DFn P w K mg base k x n (fun _ _ => .bad) fr := by
  refine ⟨⟨f, fd, ps, gx, F.kp, hb, ⟨fun vs H Q E h => h.1.trans hn.symm, ?_⟩⟩, fun _ _ _ => rfl⟩
  intro A outer s H args us vs Q E hr hg I hbd r h
  obtain ⟨_, W, s', ds, _, _, _, p⟩ := h
  exact p.elim
end
end DL
namespace DL
open PySem PySem.Spec PyProof.Rows L2
variable [LT : LawT] [TC : TellC]
/-! ### two places of an own list at once -/
def sSwap (i : Nat) (fe gi gj : DE) : DS := fun ρ s => (fe ρ s).thenS fun v s1 => match v with
  | .tup [d, e] => ownAt i ρ fun ds => (gi ρ s1).thenS fun k s2 => match k with
    | .int z => match ixN ds.length z with
      | some j => (gj (ρ.set i (.own (ds.set j d))) s2).thenS fun k' s3 => match k' with
        | .int z' => match ixN ds.length z' with
          | some j' => .next (ρ.set i (.own ((ds.set j d).set j' e))) s3
          | none => .bad
        | _ => .bad
      | none => .bad
    | _ => .bad
  | _ => .bad
end DL
namespace DL
open PySem PySem.Spec PyProof.Rows L2
variable [LT : LawT] [TC : TellC]
/-! ### index of a list -/
def dIdx (ds : List D) (y : D) : Option D := if ready y && ready (.lst ds) then (ds.findIdx? fun z => eqB z y).map fun j => .int (j : Nat) else none
def eIdx (f h : DE) : DE := fun ρ s => (f ρ s).bind fun x s1 => match x with
  | .lst ds => (h ρ s1).bind fun y s2 => Res.ofO (dIdx ds y) s2
  | _ => .bad
end DL
namespace DL
open PySem PySem.Spec PyProof.Rows L2
variable [LT : LawT] [TC : TellC]
/-! ### zip of three lists -/
def zip3D (as bs cs : List D) : List D := List.zipWith (fun a p => match p with
  | .tup [b, c] => .tup [a, b, c]
  | _ => a) as (zipD bs cs)
def zp3Of (ds : List D) : Option (List D) := match ds with
  | [.lst as, .lst bs, .lst cs] => some (zip3D as bs cs)
  | _ => none
def iZip3 (fs : DA) : DA := fun ρ s => (fs ρ s).bind fun ds s1 => Res.ofO (zp3Of ds) s1
end DL
namespace DL
open PySem PySem.Spec PyProof.Rows L2
variable [LT : LawT] [TC : TellC]
/-! ### len of an own dict -/
def lenC (s : S) (ds : List D) : Option D := match ds with
  | [.tok n] => match tokT s n, tokK s n with
    | some l, _ => some (.int l.length)
    | none, some l => some (.int l.length)
    | none, none => none
  | _ => none
def eLenC (fs : DA) : DE := fun ρ s => (fs ρ s).bind fun ds s1 => Res.ofO (lenC s1 ds) s1
end DL
namespace DL
open PySem PySem.Spec PyProof.Rows L2
variable [LT : LawT] [TC : TellC]
/-! ### zip of a tuple, a list and a tuple -/
def zp3OfX (ds : List D) : Option (List D) := match ds with
  | [.tup as, .lst bs, .tup cs] => some (zip3D as bs cs)
  | _ => none
def iZip3X (fs : DA) : DA := fun ρ s => (fs ρ s).bind fun ds s1 => Res.ofO (zp3OfX ds) s1
end DL
namespace DL
open PySem PySem.Spec PyProof.Rows L2
variable [LT : LawT] [TC : TellC]
/-! ### a def that calls what it is handed, once, within a try -/
def finD (x : Fl) : Res D := match x with
  | .ret d s1 => .ok d s1
  | .next _ s1 => .ok .non s1
  | .exc c s1 => .exc c s1
  | _ => .bad
/-! ### x(lambda: e) -/
end DL
namespace DL
open PySem PySem.Spec PyProof.Rows L2
section
variable [LT : LawT] [TC : TellC]
/-! ### count of truths in a list -/
def trsOf : List D → Option (List Bool)
  | [] => some []
  | .bl b :: ds => (trsOf ds).map fun l => b :: l
  | _ => none
def dCnt (ds : List D) (y : D) : Option D := match y with
  | .bl k => (trsOf ds).map fun l => .int (l.count k : Nat)
  | _ => none
def eCnt (f h : DE) : DE := fun ρ s => (f ρ s).bind fun x s1 => match x with
  | .lst ds => (h ρ s1).bind fun y s2 => Res.ofO (dCnt ds y) s2
  | _ => .bad
variable {X : Cx} {E : WX} {apos pos : Pos} {o e : Expr} {f h : DE}
end
end DL
namespace DL
open PySem PySem.Spec PyProof.Rows L2
variable [LT : LawT] [TC : TellC]
/-! ### x.pop(e), x a special list, the value taken -/
def popS (s : S) (t d : D) : Option (D × S) := match t, d with
  | .tok n, .int k => match tokL s n with
    | some ds => if -(2 ^ 63) ≤ k ∧ k < 2 ^ 63 then (match dropAt ds k with
      | some p => some (p.1, s.set n (.l p.2))
      | none => none) else none
    | none => none
  | _, _ => none
def ePopT (f fv : DE) : DE := fun ρ s => (f ρ s).bind fun t s1 => if isTokL s1 t = true then (fv ρ s1).bind fun d s2 => (match popS s2 t d with
    | some p => .ok p.1 p.2
    | none => .bad) else .bad
end DL
namespace DL
open PySem PySem.Spec PyProof.Rows L2
variable [LT : LawT] [TC : TellC]
/-! ### dicts that stand still for good -/
theorem PS.or {X : Cx} {st : Stmt} {t t' : TS} (h : PS X st t) (h' : PS X st t') : PS X st (fun T σ H => t T σ H ∨ t' T σ H) := ⟨fun pins s σ H T I q => q.elim (h.run pins s σ H T I) (h'.run pins s σ H T I)⟩
section
variable {K : PySem.W.Frag} {mg : Str → Option Value} {σ : L2.St} {W W0 W' : Hw} {s s' : S} {ρ : List Sl}
/-- what an own dict's slot tells -/
theorem SSt.ownD (h : SSt K mg W0 W s σ ρ) {i : Nat} {t : Bool} {l : List (D × D)} (hr : ρ[i]? = some (.ownD t l)) :
    ∃ a, σ[i]? = some (some (.ref a)) ∧ OwnAt W0 W a ∧ ((t = false ∧ ∃ ks, W.H a = some (.dK ks) ∧ PK (Rep K mg W.G W.τ) kD ks l) ∨ (t = true ∧ ∃ ks, W.H a = some (.dT ks) ∧ PK (Rep K mg W.G W.τ) kT ks l)) := by
  have hl : i < σ.length := by rw [h.len]; exact (List.getElem?_eq_some_iff.mp hr).1
  have q := h.sl i _ _ (List.getElem?_eq_getElem hl) hr
  generalize hx : σ[i] = x at q
  cases q with
  | ownK o e r => exact ⟨_, by rw [List.getElem?_eq_getElem hl, hx], o, .inl ⟨rfl, _, e, pk_of r⟩⟩
  | ownT o e r => exact ⟨_, by rw [List.getElem?_eq_getElem hl, hx], o, .inr ⟨rfl, _, e, pk_of r⟩⟩
end
/-- ahead of a statement a slot's own dict is locked for good, and data from now on -/
def sLk (i : Nat) (g : DS) : DS := fun ρ s => match ρ[i]? with
  | some (.ownD t l) => g (ρ.set i (.dat (.fd t l))) s
  | some (.dat _) => g ρ s
  | _ => .bad
/-- x = {} -/
def sNewD (i : Nat) (t : Bool) : DS := fun ρ s => .next (ρ.set i (.ownD t [])) s
/-- the dict with a thing put in -/
def putO (t : Bool) (l : List (D × D)) (k d : D) : Option (List (D × D)) := match t with
  | false => (dk k).map fun k => putD dk kD l k d
  | true => (dkT k).map fun k => putD dkT kT l k d
/-- x[k] = e -/
def sPutO (i : Nat) (fi fv : DE) : DS := fun ρ s => match ρ[i]? with
  | some (.ownD t l) => (fv ρ s).thenS fun d s1 => (fi ρ s1).thenS fun k s2 => (match putO t l k d with
    | some l' => if l.length < 16777216 then .next (ρ.set i (.ownD t l')) s2 else .bad
    | none => .bad)
  | _ => .bad
/-- x.get(k, e) -/
def eGetO (i : Nat) (fk fe : DE) : DE := fun ρ s => match ρ[i]? with
  | some (.ownD t l) => (fk ρ s).bind fun y s1 => (fe ρ s1).bind fun z s2 => Res.ofO ((getO t l y).map fun o => o.getD z) s2
  | _ => .bad
/-- x[k] -/
def eIxD (i : Nat) (fk : DE) : DE := fun ρ s => match ρ[i]? with
  | some (.ownD t l) => (fk ρ s).bind fun y s1 => Res.ofO ((getO t l y).bind id) s1
  | _ => .bad
/-! ### a locked dict, key by key -/
def iKeysF (f : DE) : DA := fun ρ s => (f ρ s).bind fun d s1 => match d with
  | .fd _ l => .ok (l.map (·.1)) s1
  | _ => .bad
end DL
namespace DL
open PySem PySem.Spec PyProof.Rows L2
variable [LT : LawT] [TC : TellC]
/-! ### x = {k: v}, a dict of its own, k a tuple -/
def sDispO (i : Nat) (f g : DE) : DS := fun ρ s => (f ρ s).thenS fun k s1 => (g ρ s1).thenS fun d s2 => match dkT k with
  | some k => .next (ρ.set i (.ownD true [(kT k, d)])) s2
  | none => .bad
end DL
namespace DL
open PySem PySem.Spec PyProof.Rows L2
variable [LT : LawT] [TC : TellC]
/-! ### dict(pairs), keys that are tuples: a dict that stands still -/
/-- pairs told by a list of tuples -/
def pairsD : List D → Option (List (List Key × D))
  | [] => some []
  | .tup [k, v] :: r => (dkT k).bind fun k => (pairsD r).map ((k, v) :: ·)
  | _ => none
def mergeT (l : List (List Key × D)) : List (D × D) := l.foldl (fun acc kv => putD dkT kT acc kv.1 kv.2) []
/-! ### {k: v}, k a tuple: a dict that stands still -/
def eDispF (f g : DE) : DE := fun ρ s => (f ρ s).bind fun k s1 => (g ρ s1).bind fun d s2 => match dkT k with
  | some k => .ok (.fd true [(kT k, d)]) s2
  | none => .bad
/-! ### list(d) of a dict that stands still -/
def dLstF : FN := fun ds => match ds with
  | [.fd true l] => some (.lst (l.map (·.1)))
  | _ => none
/-! ### k in d, k not in d, d a dict of a def's own -/
def eInO (b : Bool) (i : Nat) (fk : DE) : DE := fun ρ s => (fk ρ s).bind fun y s1 => match ρ[i]? with
  | some (.ownD t l) => Res.ofO ((getO t l y).map fun o => .bl (o.isSome == b)) s1
  | _ => .bad
end DL
namespace DL
open PySem PySem.Spec PyProof.Rows L2
variable [LT : LawT] [TC : TellC]
/-! ### d.values(), d.items(), d a dict that stands still, keyed by tuples -/
def iValsF (f : DE) : DA := fun ρ s => (f ρ s).bind fun d s1 => match d with
  | .fd true l => .ok (l.map (·.2)) s1
  | _ => .bad
def iItmsF (f : DE) : DA := fun ρ s => (f ρ s).bind fun d s1 => match d with
  | .fd true l => .ok (l.map fun p => .tup [p.1, p.2]) s1
  | _ => .bad
end DL
namespace DL
open PySem PySem.Spec PyProof.Rows L2
variable [LT : LawT] [TC : TellC]
/-! ### what a def is handed that it may call with data -/
def datOnly : Sl → Sl
  | .dat d => .dat d
  | _ => .emp
end DL
namespace DL
open PySem PySem.Spec PyProof.Rows L2
abbrev TL := List D → S → Res D
abbrev PFun := List D → TL → List D → S → Res D
/-! ### functions in slots -/
section
variable [LT : LawT] [TC : TellC]
inductive At : Nat → Prop
  | mk (i : Nat) : At i
def eTell (i : Nat) (fs : DA) : DE := fun ρ s => match ρ[i]? with
  | some (.fn n tl) => (fs ρ s).bind fun ds s1 => if ds.length = n then tl ds s1 else .bad
  | _ => .bad
/-! ### arguments with a function among them -/
def aFn (f : DE) (F : List Sl → S → Res (List D × TL × List D)) : List Sl → S → Res (List D × TL × List D) := fun ρ s => (f ρ s).bind fun d s1 => (F ρ s1).bind fun q s2 => .ok (d :: q.1, q.2) s2
def aLam (fb : DE) (fs : DA) : List Sl → S → Res (List D × TL × List D) := fun ρ s => (fs ρ s).bind fun d2 s2 => .ok ([], (fun ds s1 => fb (ρ.map datOnly ++ ds.map .dat) s1), d2) s2
def aSl (n i : Nat) (fs : DA) : List Sl → S → Res (List D × TL × List D) := fun ρ s => match ρ[i]? with
  | some (.fn m tl) => if m = n then (fs ρ s).bind fun d2 s2 => .ok ([], tl, d2) s2 else .bad
  | _ => .bad
end
/-! ### a def that is handed a function -/
section
variable [LT : LawT]
def eCallP (F : PFun) (fa : List Sl → S → Res (List D × TL × List D)) : DE := fun ρ s => (fa ρ s).bind fun q s1 => F q.1 q.2.1 q.2.2 s1
end
section
variable [LT : LawT] [TC : TellC]
inductive SlAll (K : PySem.W.Frag) (mg : Str → Option Value) (W0 W : Hw) : List V → List Sl → Prop
  | nil : SlAll K mg W0 W [] []
  | cons {v : V} {y : Sl} {vs : List V} {ys : List Sl} : SlOk K mg W0 W (some v) y → y.isOwn = false → SlAll K mg W0 W vs ys → SlAll K mg W0 W (v :: vs) (y :: ys)
section
variable {K : PySem.W.Frag} {mg : Str → Option Value} {W0 W : Hw} {s : S}
theorem SlAll.dat : ∀ {vs : List V} {ds : List D}, RepAll K mg W.G W.τ vs ds → SlAll K mg W0 W vs (ds.map .dat)
  | _, _, .nil => .nil
  | _, _, .cons r t => .cons (.dat r) rfl (SlAll.dat t)
theorem SlAll.append : ∀ {vs us : List V} {ys zs : List Sl}, SlAll K mg W0 W vs ys → SlAll K mg W0 W us zs → SlAll K mg W0 W (vs ++ us) (ys ++ zs)
  | _, _, _, _, .nil, h => h
  | _, _, _, _, .cons r o t, h => .cons r o (t.append h)
theorem SlAll.length : ∀ {vs : List V} {ys : List Sl}, SlAll K mg W0 W vs ys → vs.length = ys.length
  | _, _, .nil => rfl
  | _, _, .cons _ _ t => congrArg (· + 1) t.length
theorem SlAll.get : ∀ {vs : List V} {ys : List Sl} {i : Nat} {y : Sl}, SlAll K mg W0 W vs ys → ys[i]? = some y → y.isOwn = false ∧ ∃ v, vs[i]? = some v ∧ SlOk K mg W0 W (some v) y
  | _, _, _, _, .nil, e => by simp at e
  | _, _, 0, _, .cons r o t, e => by
    cases (show some _ = some _ from e)
    exact ⟨o, _, rfl, r⟩
  | _, _, i + 1, _, .cons r o t, e => SlAll.get (i := i) t e
end
end
end DL
namespace DL
open PySem PySem.Spec PyProof.Rows L2
variable [LT : LawT] [TC : TellC]
def eSumV (f : DE) : DE := fun ρ s => (f ρ s).bind fun d s1 => match d with
  | .fd true l => Res.ofO ((intsOf (l.map (·.2))).map fun ns => .int ns.sum) s1
  | _ => .bad
end DL
namespace DL
open PySem PySem.Spec PyProof.Rows L2
variable [LT : LawT] [TC : TellC]
/-! ### x = dict(pairs), a dict of its own, keyed by tuples -/
def sDictO (i : Nat) (f : DE) : DS := fun ρ s => (f ρ s).thenS fun d s1 => match d with
  | .lst ps => (match pairsD ps with
    | some l => .next (ρ.set i (.ownD true (mergeT l))) s1
    | none => .bad)
  | _ => .bad
/-! ### x.pop()[:k] -/
def ySlN (f : DY) (k : Int) : DY := fun ρ s => (f ρ s).bind fun p s1 => match p.1 with
  | .tup ds => .ok (.tup (cutL ds none (some k)), p.2) s1
  | _ => .bad
/-! ### e, as a statement, e changes an own list -/
def sExprY (f : DY) : DS := fun ρ s => (f ρ s).thenS fun p s1 => .next p.2 s1
end DL
namespace DL
open PySem PySem.Spec PyProof.Rows L2
variable [LT : LawT] [TC : TellC]
/-! ### dict(enumerate(t)), t a tuple of four things -/
/-- dict(enumerate(t)) -/
def dDictEn : F1 := fun d => match d with
  | .tup [a, b, c, d] => some (.dct [(.int 0, a), (.int 1, b), (.int 2, c), (.int 3, d)])
  | _ => none
end DL
namespace DL
open PySem PySem.Spec PyProof.Rows L2
/-! ### a division of numbers of any size: what it wants of the ground -/
def dFdivP : F2 := fun x y => match x, y with
  | .int i, .int j => if j ≠ 0 then some (.int (i.fdiv j)) else none
  | _, _ => none
end DL
namespace DL
open PySem PySem.Spec PyProof.Rows L2
variable [LT : LawT] [TC : TellC]
/-! ### rows: tuples of whole numbers whose objects are known, special objects of a def that hands them out at its end -/
/-- tuple(e), e a list of whole numbers: a row -/
def eRow (fs : DA) : DE := fun ρ s => (fs ρ s).bind fun ds s1 => match ds with
  | [.lst xs] => (match intsOf xs with
    | some ns => .ok (.tok s1.length) (s1 ++ [.b ns])
    | none => .bad)
  | _ => .bad
/-! ### rows handed out -/
/-- H2 is H1, where some objects that H hadn't are known no longer -/
def Thawed (H H1 H2 : Hp) : Prop := ∀ b, H2 b = H1 b ∨ (H b = none ∧ ∃ o xs, H1 b = some (.frz o (.tup xs)) ∧ H2 b = some (.tup xs))
section
omit LT TC
theorem Thawed.un {fs ex : List Addr} {H H1 H2 : Hp} {h h1 : Heap} (t : Thawed H H1 H2) (u : Un fs ex H H1 h h1) : Un fs ex H H2 h h1 := by
  refine ⟨u.keep, u.slot, fun b o e n hx => ?_, u.there, fun b xs e => ?_, fun b o x e => ?_, fun b ps e => ?_⟩
  · rcases t b with z | ⟨_, ob, xs, z, _⟩
    · rw [z]; exact u.free b o e n hx
    · rw [u.free b o e n hx] at z; cases z
  · rcases t b with z | ⟨z, _⟩
    · rw [z]; exact u.tups b xs e
    · rw [e] at z; cases z
  · rcases t b with z | ⟨z, _⟩
    · rw [z]; exact u.frzs b o x e
    · rw [e] at z; cases z
  · rcases t b with z | ⟨z, _⟩
    · rw [z]; exact u.tbls b ps e
    · rw [e] at z; cases z
theorem Thawed.hok {P : Program} {w : World} {H H1 H2 : Hp} {h : Heap} (t : Thawed H H1 H2) (k : HOk P w H1 h) : HOk P w H2 h := by
  have own : ∀ b a, H1 b = some (.own a) → H2 b = some (.own a) := fun b a e => by
    rcases t b with z | ⟨_, o, xs, z, _⟩
    · rw [z]; exact e
    · rw [e] at z; cases z
  have tup : ∀ b xs, H1 b = some (.tup xs) → H2 b = some (.tup xs) := fun b xs e => by
    rcases t b with z | ⟨_, o, ys, z, _⟩
    · rw [z]; exact e
    · rw [e] at z; cases z
  intro b o e
  rcases t b with z | ⟨_, ob, xs, z, z2⟩
  · rw [z] at e
    exact (k b o e).stay (fun _ _ _ q => q) (fun c q => own c b q) tup
  · rw [z2] at e
    cases e
    obtain ⟨_, q⟩ := k b _ z
    exact ObjOk.stay q (fun _ _ _ q => q) (fun c q => own c b q) tup
end
end DL
namespace DL
open PySem PySem.Spec PyProof.Rows L2
variable [LT : LawT] [TC : TellC]
/-! ### sorted(set(xs)), xs a list of tuples of whole numbers -/
/-- ys: each of es once, rising -/
def IsSorted (es ys : List (List Int)) : Prop := ys.Pairwise (· < ·) ∧ ∀ e, e ∈ ys ↔ e ∈ es
section
omit LT TC
theorem sorted_one {es ys zs : List (List Int)} (h : IsSorted es ys) (h' : IsSorted es zs) : ys = zs := by
  have nd : ∀ {l : List (List Int)}, l.Pairwise (· < ·) → l.Nodup := fun {l} p => List.Pairwise.imp (fun {a b} (q : a < b) (e : a = b) => List.lt_irrefl b (e ▸ q)) p
  have pm : ys.Perm zs := (List.perm_ext_iff_of_nodup (nd h.1) (nd h'.1)).mpr fun e => (h.2 e).trans (h'.2 e).symm
  refine List.Perm.eq_of_pairwise (le := fun a b : List Int => a < b) (fun a b _ _ h1 h2 => ?_) h.1 h'.1 pm
  exact absurd (List.lt_trans h1 h2) (List.lt_irrefl a)
end
def tupsOf : List D → Option (List (List Int))
  | [] => some []
  | .tup xs :: r => match intsOf xs, tupsOf r with
    | some e, some es => some (e :: es)
    | _, _ => none
  | _ :: _ => none
structure SetOk (es : List (List Int)) : Prop where
  few : es.length < 64
  same : ∃ d, 1 ≤ d ∧ ∀ e ∈ es, e.length = d ∧ TS.Bd 64 e
open Classical in
/-- sorted(set(e)) -/
noncomputable def eSortS (f : DE) : DE := fun ρ s => (f ρ s).bind fun x s1 => match x with
  | .lst xs => (match tupsOf xs with
    | some es => if h : SetOk es ∧ ∃ ys, IsSorted es ys then .ok (.lst ((Classical.choose h.2).map fun e => .tup (e.map .int))) s1 else .bad
    | none => .bad)
  | _ => .bad
end DL
namespace DL
open PySem PySem.Spec PyProof.Rows L2
variable [LT : LawT] [TC : TellC]
/-! ### min of three whole numbers -/
def dMin3 : FN := fun ds => match ds with
  | [.int a, .int b, .int c] => some (.int (min a (min b c)))
  | _ => none
variable {K : PySem.W.Frag} {mg : Str → Option Value}
end DL
namespace DL
open PySem PySem.Spec PyProof.Rows L2
variable [LT : LawT] [TC : TellC]
/-! ### d.setdefault(k, e), d a special dict keyed by tuples -/
/-- d.setdefault(k, e): the thing that is there, or e, which then is there -/
def eSetdT (f fk fe : DE) : DE := fun ρ s => (f ρ s).bind fun t s1 => match t with
  | .tok n => if (tokT s1 n).isSome then (fk ρ s1).bind fun y s2 => (fe ρ s2).bind fun z s3 => (match tokT s3 n, dkT y with
    | some l, some k => if l.length < 16777216 then (match look l k with
        | some d => .ok d s3
        | none => if flat z = true then .ok z (s3.set n (.t (putC l k z))) else .bad) else .bad
    | _, _ => .bad) else .bad
  | _ => .bad
/-! ### defs that are called by another name -/
end DL
namespace DL
open PySem PySem.Spec PyProof.Rows L2
variable [LT : LawT] [TC : TellC]
/-! ### texts: x.split(y), x.find(y, i), x * k -/
def eFind3 (f h k : DE) : DE := fun ρ s => (f ρ s).bind fun x s1 => match x with
  | .str a => (h ρ s1).bind fun y s2 => (k ρ s2).bind fun z s3 => (match y, z with
    | .str b, .int i => .ok (.int (Txt.find3 a b i)) s3
    | _, _ => .bad)
  | _ => .bad
section
variable {X : Cx} {E : WX} {apos pos : Pos} {o e e2 : Expr} {f h k : DE}
theorem e_find3 (ho : PE X o (tE X.K X.mg E f)) (he : PE X e (tE X.K X.mg E h)) (hk : PE X e2 (tE X.K X.mg E k))
    (hbase : attributeBase o "find" X.env (eval o X.env) = eval o X.env := by rfl)
    (hfew : ((backTo pos (starEach [e, e2] X.env)).all (fun x => !x.1) && (backToKw pos (keywordEach [] X.env)).all (fun x => x.1.isSome) && decide (([e, e2] : List Expr).length + ([] : List Keyword).length + (if ([] : List Keyword).isEmpty then 0 else 1) < 30)) = true := by rfl)
    (hline : (apos.endLine == pos.line) = true := by rfl) (hs : starEach [e, e2] X.env = (false, eval e X.env) :: starEach [e2] X.env := by rfl) (hs2 : starEach [e2] X.env = (false, eval e2 X.env) :: starEach [] X.env := by rfl) (hplain : (backTo pos (starEach [e2] X.env)).any (·.1) = false := by rfl) :
    PE X (.Call (.Attribute o "find" apos) [e, e2] [] pos) (tE X.K X.mg E (eFind3 f h k)) := by
  refine PE.mono (pe_bm PySem.F.plainAttrs_str PySem.F.slot_str_find PySem.F.type_str_find mt_find3 ho (L2.pa_cons he (L2.pa_cons hk L2.pa_nil hs2) hs) hbase hfew hline hs hplain) fun σ H Q z => ?_
  obtain ⟨W0, W, s, ρ, rfl, st, z⟩ := z
  refine (go st z).imp fun x H1 ⟨W1, s1, d1, e1, r1, x1, st1, z1⟩ => ?_
  subst e1
  cases d1 with
  | str a =>
    have ex := r1.str_inv
    subst ex
    refine ⟨rfl, (go st1 z1).imp fun y H2 ⟨W2, s2, d2, e2, r2, x2, st2, z2⟩ => ?_⟩
    subst e2
    refine (go st2 z2).imp fun w H3 ⟨W3, s3, d3, e3, r3, x3, st3, z3⟩ => ?_
    subst e3
    cases d2 with
    | str b =>
      cases d3 with
      | int i => exact ⟨a, b, i, rfl, by rw [r2.str_inv, r3.int_inv], z3.of_ok st3.base (.int _)⟩
      | _ => exact z3.elim
    | _ => exact z3.elim
  | _ => exact z1.elim
end
end DL
namespace DL
open PySem PySem.Spec PyProof.Rows L2
variable [LT : LawT] [TC : TellC]
/-! ### list(zip(a list, a tuple)) -/
section
variable {prog : Program} {w : World} {A : Around} {E : Value → Shared → Prop} {s : Shared}
/-- a further pair of a zip whose last pair is still held -/
theorem zip_held {z TI TO T i1 i2 : Addr} {fp1 fp2 : List Addr} {n1 n2 i : Nat} {P1 P2 : Nat → Value → Prop} {St1 St2 : Nat → Heap → Prop} {f : Bool} {oT : Obj} {Q : Value → Shared → Prop}
    (S : ZipSep2 z TI TO i1 i2 fp1 fp2) (D1 : Draws prog w A i1 fp1 n1 P1 St1) (D2 : Draws prog w A i2 fp2 n2 P2 St2) (hz : IsZipHeld s.heap z TI TO T f) (hT : s.heap.get? T = some oT)
    (hTI : IsTupOf2 s.heap TI (.ref i1) (.ref i2)) (st1 : St1 i s.heap) (st2 : St2 i s.heap) (l1 : i < n1) (l2 : i < n2)
    (hQ : ∀ x y h' tk, P1 i x → P2 i y → IsZipHeld h' z TI TO T true → St1 (i + 1) h' → St2 (i + 1) h' → IsTupOf2 h' s.heap.objs.size x y → (∀ c o, c ≠ z → c ≠ i1 → c ≠ i2 → s.heap.get? c = some o → h'.get? c = some o) →
      Q (.ref s.heap.objs.size) { s with heap := h', toks := tk }) :
    wpAny (model prog w) A (Builtin.«zip.__next__» ⟨[.ref z], []⟩) (fun fin s' => ∃ v, fin = .done (.ret v) ∧ Q v s') E s := by
  show wpAny _ _ (field (.ref z) 2 >>= _) _ _ _
  refine wpAny_bind (wpAny_field hz rfl (x := .bool false) rfl ?_)
  show wpAny _ _ (field (.ref z) 3 >>= _) _ _ _
  refine wpAny_bind (wpAny_field hz rfl (x := .ref TI) rfl (wpAny_bind (wpAny_seqItems hTI rfl ?_)))
  show wpAny _ _ (Builtin.SmallTypes.ownedTupleIsFree (.ref z) >>= _) _ _ _
  refine wpAny_bind (wpAny_tupleHeld_zip hz hT fun g1 z1 b1 => ?_)
  simp only [Bool.false_eq_true, if_false]
  refine wpAny_bind ?_
  rw [← Array.forIn_toList]
  simp only [List.forIn_cons, List.forIn_nil]
  refine wpAny_bind (wpAny_bind (wpAny_holding ?_))
  show wpAny _ _ (Builtin.SmallTypes.nextOf (.ref i1) >>= _) _ _ { s with heap := g1 }
  refine wpAny_bind (D1.item i _ _ _ l1 (D1.over st1 b1 S.zf1) fun x g2 tk2 px s1' (b2 : Heap.SameBut i1 g1 g2) => wpAny_pure (wpAny_pure ?_))
  refine wpAny_bind (wpAny_bind (wpAny_holding ?_))
  show wpAny _ _ (Builtin.SmallTypes.nextOf (.ref i2) >>= _) _ _ { s with heap := g2, toks := tk2 }
  refine wpAny_bind (D2.item i _ _ _ l2 (D2.over (D2.over st2 b1 S.zf2) b2 S.sep1_2) fun y g3 tk3 py s2' (b3 : Heap.SameBut i2 g2 g3) => wpAny_pure (wpAny_pure (wpAny_pure ?_)))
  show wpAny _ _ (newTuple [x, y] >>= _) _ _ { s with heap := g3, toks := tk3 }
  refine wpAny_bind (wpAny_newTuple ?_)
  have sz : g3.objs.size = s.heap.objs.size := by rw [b3.1, b2.1, b1.1]
  have zz : IsZipHeld g3 z TI TO T true := b3.extBut _ _ S.zi2 (b2.extBut _ _ S.zi1 z1)
  refine wpAny_pure ⟨_, rfl, ?_⟩
  show Q (.ref g3.objs.size) { s with heap := g3.push { cls := .type "tuple", data := .seq #[x, y] }, toks := tk3 }
  have up : ∀ c o, g3.get? c = some o → (g3.push { cls := .type "tuple", data := .seq #[x, y] }).get? c = some o := fun c o e => Heap.get?_push_of_some _ e
  have nw : IsTupOf2 (g3.push { cls := .type "tuple", data := .seq #[x, y] }) g3.objs.size x y := Heap.get?_push_size _ rfl
  rw [sz] at nw ⊢
  exact hQ x y _ tk3 px py (up _ _ zz) (D1.frame _ _ _ (D1.over s1' b3 S.sep2_1) fun b _ o e => up b o e) (D2.frame _ _ _ s2' fun b _ o e => up b o e) nw fun c o c1 c2 c3 e => up c o (b3.extBut _ _ c3 (b2.extBut _ _ c2 (b1.extBut _ _ c1 e)))
/-- .. and its end, where the first one ends -/
theorem zip_held_end {z TI TO T i1 i2 : Addr} {fp1 fp2 : List Addr} {n1 : Nat} {P1 : Nat → Value → Prop} {St1 : Nat → Heap → Prop} {f : Bool} {oT : Obj} {Q : Fin → Shared → Prop}
    (S : ZipSep2 z TI TO i1 i2 fp1 fp2) (D1 : Draws prog w A i1 fp1 n1 P1 St1) (hz : IsZipHeld s.heap z TI TO T f) (hT : s.heap.get? T = some oT)
    (hTI : IsTupOf2 s.heap TI (.ref i1) (.ref i2)) (st1 : St1 n1 s.heap)
    (hE : ∀ h' e, (∀ c o, c ≠ z → c ≠ i1 → s.heap.get? c = some o → h'.get? c = some o) → (∃ o, h'.get? e = some o ∧ o.cls = .type "StopIteration") → E (.ref e) { s with heap := h' }) :
    wpAny (model prog w) A (Builtin.«zip.__next__» ⟨[.ref z], []⟩) Q E s := by
  show wpAny _ _ (field (.ref z) 2 >>= _) _ _ _
  refine wpAny_bind (wpAny_field hz rfl (x := .bool false) rfl ?_)
  show wpAny _ _ (field (.ref z) 3 >>= _) _ _ _
  refine wpAny_bind (wpAny_field hz rfl (x := .ref TI) rfl (wpAny_bind (wpAny_seqItems hTI rfl ?_)))
  show wpAny _ _ (Builtin.SmallTypes.ownedTupleIsFree (.ref z) >>= _) _ _ _
  refine wpAny_bind (wpAny_tupleHeld_zip hz hT fun g1 z1 b1 => ?_)
  simp only [Bool.false_eq_true, if_false]
  refine wpAny_bind ?_
  rw [← Array.forIn_toList]
  simp only [List.forIn_cons, List.forIn_nil]
  refine wpAny_bind (wpAny_bind (wpAny_holding ?_))
  show wpAny _ _ (Builtin.SmallTypes.nextOf (.ref i1) >>= _) _ _ { s with heap := g1 }
  exact wpAny_bind (D1.done _ _ _ (D1.over st1 b1 S.zf1) fun h' e k he => hE h' e (fun c o c1 c2 x => k c o c2 (b1.extBut _ _ c1 x)) he)
theorem next_zip_held {z TI TO T i1 i2 : Addr} {fp1 fp2 : List Addr} {n1 n2 i : Nat} {P1 P2 : Nat → Value → Prop} {St1 St2 : Nat → Heap → Prop} {f : Bool} {oT : Obj} {Q : Option Value → Shared → Prop}
    (S : ZipSep2 z TI TO i1 i2 fp1 fp2) (D1 : Draws prog w A.in1 i1 fp1 n1 P1 St1) (D2 : Draws prog w A.in1 i2 fp2 n2 P2 St2) (hz : IsZipHeld s.heap z TI TO T f) (hT : s.heap.get? T = some oT)
    (hTI : IsTupOf2 s.heap TI (.ref i1) (.ref i2)) (st1 : St1 i s.heap) (st2 : St2 i s.heap) (l1 : i < n1) (l2 : i < n2)
    (hQ : ∀ x y h' tk, P1 i x → P2 i y → IsZipHeld h' z TI TO T true → St1 (i + 1) h' → St2 (i + 1) h' → IsTupOf2 h' s.heap.objs.size x y → (∀ c o, c ≠ z → c ≠ i1 → c ≠ i2 → s.heap.get? c = some o → h'.get? c = some o) →
      Q (some (.ref s.heap.objs.size)) { s with heap := h', toks := tk }) : wpAny (model prog w) A (pyNext (.ref z)) Q E s := by
  unfold pyNext
  exact wpAny_bind (wpAny_attempt (wpAny_callSpecial?_slot (name := Str.ofString "__next__") ⟨_, hz, rfl⟩ F.slot_zip_next
    (wpAny_call_entry F.slot_zip_next ⟨_, hz, rfl⟩ F.entry_zip_next
      (zip_held S D1 D2 hz hT hTI st1 st2 l1 l2 fun x y h' tk a1 a2 a3 a4 a5 a6 a7 => wpAny_pure (hQ x y h' tk a1 a2 a3 a4 a5 a6 a7)) (F.args_zip_next_1 _))))
theorem next_zip_end {z TI TO T i1 i2 : Addr} {fp1 fp2 : List Addr} {n1 : Nat} {P1 : Nat → Value → Prop} {St1 : Nat → Heap → Prop} {f : Bool} {oT : Obj} {Q : Option Value → Shared → Prop}
    (S : ZipSep2 z TI TO i1 i2 fp1 fp2) (D1 : Draws prog w A.in1 i1 fp1 n1 P1 St1) (hz : IsZipHeld s.heap z TI TO T f) (hT : s.heap.get? T = some oT)
    (hTI : IsTupOf2 s.heap TI (.ref i1) (.ref i2)) (st1 : St1 n1 s.heap) (hQ : ∀ h', (∀ c o, c ≠ z → c ≠ i1 → s.heap.get? c = some o → h'.get? c = some o) → Q none { s with heap := h' }) : wpAny (model prog w) A (pyNext (.ref z)) Q E s := by
  unfold pyNext
  refine wpAny_bind (wpAny_attempt (wpAny_callSpecial?_slot (name := Str.ofString "__next__") ⟨_, hz, rfl⟩ F.slot_zip_next
    (wpAny_call_entry F.slot_zip_next ⟨_, hz, rfl⟩ F.entry_zip_next ?_ (F.args_zip_next_1 _))))
  exact zip_held_end S D1 hz hT hTI st1 fun h' e k ⟨o, ho, hc⟩ => wpAny_bind (wpAny_isInstance (T := "StopIteration") (b := true) ⟨o, ho, hc⟩ isSubtype_stop (wpAny_pure (hQ _ k)))
end
/-- new pairs laid one behind the other -/
inductive LaidP (H : Hp) : List (V × V) → List Addr → Hp → Prop
  | nil : LaidP H [] [] H
  | snoc {ps : List (V × V)} {Ts : List Addr} {H' : Hp} {T : Addr} {x y : V} : LaidP H ps Ts H' → H' T = none → LaidP H (ps ++ [(x, y)]) (Ts ++ [T]) (upd H' T (.tup [x, y]))
theorem vals_inv : ∀ {xs : List V} {us : List Value} {i : Nat} {u : Value}, Vals xs us → us[i]? = some u → ∃ x, xs[i]? = some x ∧ RelV x u
  | _ :: _, _ :: _, 0, _, .cons r _, h => by cases h; exact ⟨_, rfl, r⟩
  | _ :: _, _ :: _, i + 1, _, .cons _ r, h => by
    obtain ⟨x, h1, h2⟩ := vals_inv r (i := i) (by simpa using h)
    exact ⟨x, by simpa using h1, h2⟩
  | _, [], _, _, _, h => by simp at h
theorem refs_vals : ∀ Ts : List Addr, Vals (Ts.map V.ref) (Ts.map Value.ref)
  | [] => .nil
  | _ :: Ts => .cons rfl (refs_vals Ts)
section
variable {X : Cx} {pins : List (Addr × Obj)} {σ : L2.St} {H : Hp} {A : Around}
theorem Inv.adopt {s : Shared} {S : Addr} {ob : HO} (I : Inv X pins σ H s) (f : FpOk X pins H S) (new : ObjOk X.prog X.w (upd H S ob) s.heap S ob) : Inv X pins σ (upd H S ob) s := by
  have q := I.step (g' := s.gens) (t' := s.toks) (d' := s.drawn) (h' := s.heap) (H' := upd H S ob) (ch := [S]) (fun b hb => by
      obtain rfl := List.mem_singleton.mp hb
      exact ⟨f.2.2.2.1, f.2.1, f.2.2.2.2.1, f.2.2.2.2.2⟩) (fun b o _ _ hc e _ => e) (fun b o _ _ hc e _ => ⟨o.slots, e⟩)
    (fun b o hc e n => by rw [upd_ne (fun z => hc (by simp [z]))]; exact n) (fun b o hc e => ⟨o, e⟩) (fun b xs e => by rw [upd_ne (ne_of_none e f.1)]; exact e) (fun b o u e => by rw [upd_ne (ne_of_none e f.1)]; exact e)
    (fun b ps e => ⟨#[], by rw [upd_ne (ne_of_none e f.1), e]; simp⟩) (fun m hm => hm) (fun b u e => ?_) I.bare
  · exact q
  · by_cases hb : b = S
    · subst hb
      rw [upd_same] at e
      cases e
      exact new
    · rw [upd_ne hb] at e
      exact (I.hok b u e).stay (fun c v hc q => q) (fun c q => by rw [upd_ne (ne_of_none q f.1)]; exact q) fun c xs q => by rw [upd_ne (ne_of_none q f.1)]; exact q
variable {z TI TO i1 i2 a b S : Addr} {xs ys : List V} {us ws : List Value} {R : Result → Shared → Prop} {res : Value}
theorem zip_no_len : typeLookup (.type "zip") "__len__" = pure none := by rw [typeLookup_type, builtinLookup_eq_fast]; kernel_rfl
theorem zip_no_hint : typeLookup (.type "zip") "__length_hint__" = pure none := by rw [typeLookup_type, builtinLookup_eq_fast]; kernel_rfl
end
section
variable {K : PySem.W.Frag} {mg : Str → Option Value}
theorem repall_app {G : Hp} {τ : List Addr} : ∀ {vs us : List V} {ds : List D}, RepAll K mg G τ (vs ++ us) ds → ∃ d1 d2, ds = d1 ++ d2 ∧ RepAll K mg G τ vs d1 ∧ RepAll K mg G τ us d2
  | [], us, ds, h => ⟨[], ds, rfl, .nil, h⟩
  | v :: vs, us, ds, h => by
    cases h with
    | cons r h =>
      obtain ⟨d1, d2, rfl, h1, h2⟩ := repall_app h
      exact ⟨_ :: d1, d2, rfl, .cons r h1, h2⟩
theorem repall_one {G : Hp} {τ : List Addr} {v : V} {ds : List D} (h : RepAll K mg G τ [v] ds) : ∃ d, ds = [d] ∧ Rep K mg G τ v d := by
  cases h with
  | cons r h => cases h; exact ⟨_, rfl, r⟩
theorem laid_base {s : S} {ps : List (V × V)} {Ts : List Addr} {Hn : Hp} {W : Hw} (B : Base K mg W s) (l : LaidP W.H ps Ts Hn) : ∀ {as bs : List D}, RepAll K mg W.G W.τ (ps.map (·.1)) as → RepAll K mg W.G W.τ (ps.map (·.2)) bs →
    ∃ W', W'.H = Hn ∧ Ext W W' ∧ Base K mg W' s ∧ RepAll K mg W'.G W'.τ (Ts.map V.ref) (zipD as bs) := by
  generalize hH : W.H = H0 at l
  induction l with
  | nil =>
    intro as bs h1 h2
    cases h1
    exact ⟨W, hH, Ext.refl _, B, .nil⟩
  | @snoc ps Ts H' T x y l hT ih =>
    intro as bs h1 h2
    rw [List.map_append] at h1 h2
    obtain ⟨as1, a2, rfl, r1, r2⟩ := repall_app h1
    obtain ⟨bs1, b2, rfl, t1, t2⟩ := repall_app h2
    obtain ⟨a, rfl, ra⟩ := repall_one r2
    obtain ⟨b, rfl, rb⟩ := repall_one t2
    obtain ⟨W1, e1, E1, B1, q1⟩ := ih r1 t1
    obtain ⟨W3, e3, E3, B3, r3⟩ := pair_new B1 (by rw [e1]; exact hT) (ra.ext E1) (rb.ext E1)
    refine ⟨W3, by rw [e3, e1], Ext.trans B1 E1 E3, B3, ?_⟩
    have hl : as1.length = bs1.length := by rw [← r1.length, ← t1.length]; simp
    rw [List.map_append, show zipD (as1 ++ [a]) (bs1 ++ [b]) = zipD as1 bs1 ++ [.tup [a, b]] from by unfold zipD; rw [List.zipWith_append hl]; rfl]
    exact (q1.ext E3).append (.cons r3 .nil)
end
end DL
namespace DL
open PySem PySem.Spec PyProof.Rows L2
variable [LT : LawT] [TC : TellC]
/-! ### pairs of data and a new dict -/
theorem relPd.mono {K : PySem.W.Frag} {mg : Str → Option Value} {W W1 W2 : Hw} {s : S} {v : V} {d : D} (e : Ext W W1) (B : Base K mg W1 s) (h : relPd K mg W1 W2 v d) : relPd K mg W W2 v d := by
  obtain ⟨p, v1, a, x, kvs, vs, h1, h2, h3, h4, o, h5, h6⟩ := h
  exact ⟨p, v1, a, x, kvs, vs, h1, h2, h3, h4, ⟨old_none e B o.old, o.frz, o.spc⟩, h5, h6⟩
/-- a, b = f(..), b a new dict -/
def sUnpPd (i j : Nat) (F : DFun) (fs : DA) : DS := fun ρ s => (eCall F fs ρ s).thenS fun d s1 => match d with
  | .tup [x, .fd true l] => .next ((ρ.set i (.dat x)).set j (.ownD true l)) s1
  | _ => .bad
/-- return (e, dict(ps)), a pair of data and a new dict -/
def sRetPd (f g : DE) : DS := fun ρ s => (f ρ s).thenS fun x s1 => (g ρ s1).thenS fun d s2 => match d with
  | .lst ps => (match pairsD ps with
    | some l => .ret (.tup [x, .fd true (mergeT l)]) s2
    | none => .bad)
  | _ => .bad
/-! ### d[k], d[k'] = a, b -/
def sSwapD (i : Nat) (fe gi gj : DE) : DS := fun ρ s => (fe ρ s).thenS fun v s1 => match v with
  | .tup [d, e] => (match ρ[i]? with
    | some (.ownD t l) => (gi ρ s1).thenS fun k s2 => (match putO t l k d with
      | some l1 => if l.length < 16777216 then (gj (ρ.set i (.ownD t l1)) s2).thenS fun k' s3 => (match putO t l1 k' e with
        | some l2 => if l1.length < 16777216 then .next ((ρ.set i (.ownD t l1)).set i (.ownD t l2)) s3 else .bad
        | none => .bad) else .bad
      | none => .bad)
    | _ => .bad)
  | _ => .bad
end DL
namespace DL
open PySem PySem.Spec PyProof.Rows L2
variable [LT : LawT] [TC : TellC]
/-! ### a pair of data and a new list: told, looked at, its list cleared -/
section
variable {K : PySem.W.Frag} {mg : Str → Option Value} {σ : L2.St} {W W0 : Hw} {s : S} {ρ : List Sl}
theorem SSt.push (h : SSt K mg W0 W s σ ρ) {a : Addr} {y : Sl} (n0 : ∀ (j : Nat) (z : Sl), σ[j]? = some (some (.ref a)) → ρ[j]? = some z → z.isOwn = true → False) (sl : SlOk K mg W0 W (some (.ref a)) y) : SSt K mg W0 W s (σ ++ [some (.ref a)]) (ρ ++ [y]) := by
  have at1 : ∀ (j : Nat) (x : Option V), (σ ++ [some (.ref a)])[j]? = some x → σ[j]? = some x ∨ j = σ.length ∧ x = some (.ref a) := fun j x e => by
    by_cases hj : j < σ.length
    · rw [List.getElem?_append_left hj] at e; exact .inl e
    · rw [List.getElem?_append_right (by omega)] at e
      have : j - σ.length = 0 := by
        have := (List.getElem?_eq_some_iff.mp e).1
        simp at this
        omega
      rw [this] at e
      cases e
      exact .inr ⟨by omega, rfl⟩
  have at2 : ∀ (j : Nat) (x : Sl), (ρ ++ [y])[j]? = some x → ρ[j]? = some x ∨ j = ρ.length ∧ x = y := fun j x e => by
    by_cases hj : j < ρ.length
    · rw [List.getElem?_append_left hj] at e; exact .inl e
    · rw [List.getElem?_append_right (by omega)] at e
      have : j - ρ.length = 0 := by
        have := (List.getElem?_eq_some_iff.mp e).1
        simp at this
        omega
      rw [this] at e
      cases e
      exact .inr ⟨by omega, rfl⟩
  have lt : ∀ {α : Type} {l : List α} {j : Nat} {x : α}, l[j]? = some x → j < l.length := fun e => (List.getElem?_eq_some_iff.mp e).1
  refine ⟨h.ext, h.base, by simp [h.len], fun j x z e1 e2 => ?_, fun j k b z z' ne e1 e2 e3 e4 o1 o2 => ?_⟩
  · rcases at1 j x e1 with e1 | ⟨j1, rfl⟩
    · rcases at2 j z e2 with e2 | ⟨j2, rfl⟩
      · exact h.sl j x z e1 e2
      · have := lt e1; have := h.len; omega
    · rcases at2 j z e2 with e2 | ⟨j2, rfl⟩
      · have := lt e2; have := h.len; omega
      · exact sl
  · rcases at1 j _ e1 with e1 | ⟨j1, q1⟩
    · rcases at2 j z e3 with e3 | ⟨j3, rfl⟩
      · rcases at1 k _ e2 with e2 | ⟨j2, q2⟩
        · rcases at2 k z' e4 with e4 | ⟨j4, rfl⟩
          · exact h.dist j k b z z' ne e1 e2 e3 e4 o1 o2
          · have := lt e2; have := h.len; omega
        · cases q2
          exact n0 j z e1 e3 o1
      · have := lt e1; have := h.len; omega
    · cases q1
      rcases at1 k _ e2 with e2 | ⟨j2, q2⟩
      · rcases at2 k z' e4 with e4 | ⟨j4, rfl⟩
        · exact n0 k z' e2 e4 o2
        · have := lt e2; have := h.len; omega
      · omega
theorem SSt.pop {x : Option V} {y : Sl} (h : SSt K mg W0 W s (σ ++ [x]) (ρ ++ [y])) : SSt K mg W0 W s σ ρ := by
  have l1 : σ.length = ρ.length := by
    have := h.len
    simpa using this
  have lt : ∀ {α : Type} {l : List α} {j : Nat} {x : α}, l[j]? = some x → j < l.length := fun e => (List.getElem?_eq_some_iff.mp e).1
  have up1 : ∀ {j : Nat} {z : Option V}, σ[j]? = some z → (σ ++ [x])[j]? = some z := fun e => by rw [List.getElem?_append_left (lt e)]; exact e
  have up2 : ∀ {j : Nat} {z : Sl}, ρ[j]? = some z → (ρ ++ [y])[j]? = some z := fun e => by rw [List.getElem?_append_left (lt e)]; exact e
  exact ⟨h.ext, h.base, l1, fun j u z e1 e2 => h.sl j u z (up1 e1) (up2 e2), fun j k a z z' ne e1 e2 e3 e4 o1 o2 => h.dist j k a z z' ne (up1 e1) (up1 e2) (up2 e3) (up2 e4) o1 o2⟩
end
theorem relPl.mono {K : PySem.W.Frag} {mg : Str → Option Value} {W W1 W2 : Hw} {s : S} {v : V} {d : D} (e : Ext W W1) (B : Base K mg W1 s) (h : relPl K mg W1 W2 v d) : relPl K mg W W2 v d := by
  obtain ⟨p, v1, v2, x, y, h1, h2, h3, h4, h5⟩ := h
  exact ⟨p, v1, v2, x, y, h1, h2, h3, h4, h5.mono e B⟩
/-- x = f(..); if c: return False; x[1].clear(); the rest -/
def sPlUse (i : Nat) (F : DFun) (fs : DA) (c : DT) (h : DS) : DS := fun ρ s => (eCall F fs ρ s).thenS fun d s1 => match d with
  | .tup [x, .lst ds] => if flats ds = true ∧ i < ρ.length then (c (ρ.set i (.dat (.tup [x, .lst ds]))) s1).thenS fun b s2 => (match b with
    | true => .ret (.bl false) s2
    | false => h (ρ.set i .emp) s2) else .bad
  | _ => .bad
/-- return (e, x), x an own list's name -/
def sRetPl (i : Nat) (f : DE) : DS := fun ρ s => (f ρ s).thenS fun d s1 => match ρ[i]? with
  | some (.own ds) => .ret (.tup [d, .lst ds]) s1
  | _ => .bad
end DL
namespace DL
open PySem PySem.Spec PyProof.Rows L2
/-! ### a def of the program handed over as an argument -/
section
variable [LT : LawT] [TC : TellC]
def aGl (F : DFun) (fs : DA) : List Sl → S → Res (List D × TL × List D) := fun ρ s => (fs ρ s).bind fun d2 s2 => .ok ([], F, d2) s2
variable {X : Cx} {E : WX} {k n : Nat} {x q : Str} {st : Stmt} {es : List Expr} {F : DFun} {fs : DA} {p : Pos}
end
end DL
namespace DL
open PySem PySem.Spec PyProof.Rows L2 PySem.Builtin
/-! ### numbers of many figures in an f-string -/
section
variable [LT : LawT] [TC : TellC]
def eFmtL (f : DE) : DE := fun ρ s => (f ρ s).bind fun d s1 => match d with
  | .int i => if i.natAbs.log2 < 12900 then .ok (.str (toString i)) s1 else .bad
  | .str y => if y.length ≤ 16777216 then .ok (.str y) s1 else .bad
  | _ => .bad
variable {X : Cx} {E : WX} {pos : Pos}
end
end DL
namespace DL
open PySem PySem.Spec PyProof.Rows L2
variable [LT : LawT] [TC : TellC]
/-! ### try: one of some assignments to one name; except c as n: y = n -/
section
variable {X : Cx} {E : WX} {fr : Fr} {tb : XTb} {x n y : Str} {i j : Nat} {f g : DE} {c : DT} {e ce : Expr} {a b : List Stmt} {np nn py ap ep pos pos' : Pos}
/-- the statements put f into slot k, and do nothing else -/
def PG (X : Cx) (W : WX) (k : Nat) (body : List Stmt) (f : DE) : Prop := PSs X body (fun D σ H => tE X.K X.mg W f σ H fun x H1 => D.nx (σ.set k (some x)) H1)
end
end DL
namespace DL
open PySem PySem.Spec PyProof.Rows L2
variable [LT : LawT] [TC : TellC]
/-! ### instances: special objects with named fields -/
def tokO (s : S) (n : Nat) : Option (Str × List (Str × D)) := match s[n]? with
  | some (.o c fs) => some (c, fs)
  | _ => none
def putG (f : Str) (d : D) : List (Str × D) → List (Str × D)
  | [] => [(f, d)]
  | p :: r => if p.1 = f then (p.1, d) :: r else p :: putG f d r
/-- the fields of an instance of c -/
def insOf (s : S) (c : Str) : D → Option (Nat × List (Str × D))
  | .tok n => match tokO s n with
    | some (c', fs) => if c' = c then some (n, fs) else none
    | none => none
  | _ => none
def eFld (c x : Str) (f : DE) : DE := fun ρ s => (f ρ s).bind fun d s1 => match insOf s1 c d with
  | some (_, fs) => Res.ofO (fs.lookup x) s1
  | none => .bad
def sFld (c x : Str) (f fv : DE) : DS := fun ρ s => (fv ρ s).thenS fun d s1 => (f ρ s1).thenS fun t s2 => match insOf s2 c t with
  | some (n, fs) => if flat d = true ∧ fs.length < 1000 then .next ρ (s2.set n (.o c (putG x d fs))) else .bad
  | none => .bad
/-- o.m(e, ..) -/
def eMeth (c m : Str) (F : DFun) (f : DE) (fs : DA) : DE := fun ρ s => (f ρ s).bind fun t s1 => match insOf s1 c t with
  | some (n, l) => if l.lookup m = none then (fs ρ s1).bind fun ds s2 => F (.tok n :: ds) s2 else .bad
  | none => .bad
/-- C(e, ..) -/
def eMake (c : Str) (F : DFun) (fs : DA) : DE := fun ρ s => (fs ρ s).bind fun ds s1 => match F (.tok s1.length :: ds) (s1 ++ [.o c []]) with
  | .ok .non s2 => .ok (.tok s1.length) s2
  | .exc e s2 => .exc e s2
  | _ => .bad
section
variable {R : V → D → Prop} {l : List (Str × V)} {m : List (Str × D)}
theorem PC.lookup (h : PC R l m) (x : Str) : (l.lookup x = none ∧ m.lookup x = none) ∨ ∃ v d, l.lookup x = some v ∧ m.lookup x = some d ∧ R v d := by
  induction h with
  | nil => exact .inl ⟨rfl, rfl⟩
  | @cons k v d l m q t ih =>
    by_cases e : x = k
    · subst e
      exact .inr ⟨v, d, by simp [List.lookup], by simp [List.lookup], q⟩
    · have hb : (x == k) = false := by simpa using e
      simp only [List.lookup, hb]
      exact ih
end
section
variable {K : PySem.W.Frag} {mg : Str → Option Value}
/-- the method m of the class c does what F says -/
structure MFn (P : Program) (w : World) (K : PySem.W.Frag) (mg : Str → Option Value) (base : Heap) (k : Nat) (c m : Str) (n : Nat) (F : DFun) (fr : Fr) : Prop where
  ex : ∃ C f fd ps, mg c = some (.ref C) ∧ Cls K C ∧ Meth K C m f ∧ Binds K fd ps [] ∧ FnG P w K mg base k f fd ps (spD K mg F fr n)
  ar : ∀ ds s, ds.length ≠ n → F ds s = .bad
theorem MFn.mono {P : Program} {w : World} {base : Heap} {k k' n : Nat} {c m : Str} {F : DFun} {fr : Fr} (h : MFn P w K mg base k c m n F fr) (hk : k ≤ k') : MFn P w K mg base k' c m n F fr := by
  obtain ⟨⟨C, f, fd, ps, h0, h1, h2, h3, h4⟩, ar⟩ := h
  exact ⟨⟨C, f, fd, ps, h0, h1, h2, h3, h4.len, fun A outer s H args us vs Q E hr => h4.run A outer s H args us vs Q E (hr.mono hk)⟩, ar⟩
end
/-! ### making -/
/-! ### where they stand -/
end DL
namespace DL
open PySem PySem.Spec PyProof.Rows L2
variable [LT : LawT] [TC : TellC]
/-! ### methods and makers from their bodies -/
/-! ### x.pop() of a special list -/
def popL (s : S) : D → Option (D × S)
  | .tok n => match tokL s n with
    | some ds => match ds.getLast? with
      | some d => some (d, s.set n (.l ds.dropLast))
      | none => none
    | none => none
  | _ => none
def ePop0T (f : DE) : DE := fun ρ s => (f ρ s).bind fun t s1 => match popL s1 t with
  | some p => .ok p.1 p.2
  | none => .bad
section
variable {X : Cx} {E : WX} {apos cpos : Pos} {f h : DE} {o a b : Expr} {pos : Pos}
theorem flats_dl : ∀ {ds : List D}, flats ds = true → flats ds.dropLast = true
  | [], _ => rfl
  | [x], _ => rfl
  | x :: y :: r, h => by
    simp only [flats, Bool.and_eq_true] at h
    show flats (x :: (y :: r).dropLast) = true
    simp only [flats, Bool.and_eq_true]
    exact ⟨h.1, flats_dl (by simp only [flats, Bool.and_eq_true]; exact h.2)⟩
theorem e_pop0T (ho : PE X o (tE X.K X.mg E f)) (hbase : attributeBase o "pop" X.env (eval o X.env) = eval o X.env := by rfl) (hline : (apos.endLine == cpos.line) = true := by rfl) :
    PE X (.Call (.Attribute o "pop" apos) [] [] cpos) (tE X.K X.mg E (ePop0T f)) := by
  refine PE.mono (pe_bm0 PySem.F.plainAttrs_list PySem.F.slot_list_pop PySem.F.type_list_pop mt_pop ho hbase hline) fun σ H Q z => ?_
  obtain ⟨W0, W, s, ρ, rfl, st, z⟩ := z
  refine (go st z).imp fun t H1 ⟨W1, s1, d1, e1, r1, x1, st1, z1⟩ => ?_
  subst e1
  cases d1 with
  | tok n =>
    cases hd : tokL s1 n with
    | none => simp only [popL, hd] at z1; exact z1.elim
    | some ds =>
      cases hl : ds.getLast? with
      | none => simp only [popL, hd, hl] at z1; exact z1.elim
      | some d =>
        simp only [popL, hd, hl] at z1
        obtain ⟨p, vs, rfl, hτ, eH, rr⟩ := tok_list st1.base r1 hd
        obtain ⟨es, rfl⟩ : ∃ es, ds = es ++ [d] := List.getLast?_eq_some_iff.mp hl
        have hfl : flats (es ++ [d]) = true := by
          unfold tokL at hd
          split at hd
          · rename_i ds' hds
            cases hd
            exact st1.base.flt _ (List.mem_of_getElem? hds)
          · cases hd
        obtain ⟨a1, b1, rfl, q1, q2⟩ := RepAll.split (us := [d]) rr
        obtain ⟨v, rfl, rv⟩ := q2.one_inv
        refine ⟨tyL eH, p, a1 ++ [v], v, rfl, rfl, eH, by simp, ?_⟩
        have e6 : (a1 ++ [v]).dropLast = a1 := by simp
        have e7 : (es ++ [d]).dropLast = es := by simp
        rw [e6]
        rw [e7] at z1
        have fe : flats es = true := e7 ▸ flats_dl hfl
        have st0 : SSt X.K X.mg W1 W1 s1 [] [] := ⟨Ext.refl W1, st1.base, rfl, fun i x y h => by simp at h, fun i j a y z _ h => by simp at h⟩
        have st3 := st0.cellPut (o := .lst a1) (c := .l es) hτ (fun _ z => nomatch (z : HO.lst _ = HO.tup _)) ⟨_, upd_same, q1⟩ fe
        exact z1 v _ st3.ext st3.base (rv.ext st3.ext)
  | _ => exact z1.elim
end
end DL
namespace DL
open PySem PySem.Spec PyProof.Rows L2
variable [LT : LawT] [TC : TellC]
/-! ### list(range(a, b, -1)) -/
def eLstR3 (fs : DA) : DE := fun ρ s => (fs ρ s).bind fun ds s1 => match ds with
  | [.int i, .int j, .int c] => if c = -1 ∧ -(2 ^ 60) ≤ i ∧ i < 2 ^ 60 ∧ -(2 ^ 60) ≤ j ∧ j < 2 ^ 60 ∧ (i - j).toNat ≤ 2 ^ 24 then .ok (.lst (rngD i c (i - j).toNat)) s1 else .bad
  | _ => .bad
end DL
namespace DL
open PySem PySem.Spec PyProof.Rows L2
variable [LT : LawT] [TC : TellC]
/-! ### a written dict of texts and whole numbers: x.get(e) -/
def eGetK (kvs : List (Str × Int)) (fs : DA) : DE := fun ρ s => (fs ρ s).bind fun ds s1 => match ds with
  | [.str z] => .ok (match kvs.lookup z with | some i => .int i | none => .non) s1
  | _ => .bad
/-! ### a call of one of two defs, chosen by an expression -/
def eCallE (x1 : Str) (F1 : DFun) (x2 : Str) (F2 : DFun) (ff : DE) (fs : DA) : DE := fun ρ s => (ff ρ s).bind fun d s1 => match d with
  | .glb y => if y = x1 then (fs ρ s1).bind F1 else if y = x2 then (fs ρ s1).bind F2 else .bad
  | _ => .bad
end DL
namespace DL
open PySem PySem.Spec PyProof.Rows L2 PySem.Builtin
/-! ### str of long numbers -/
section
variable {X : Cx}
def dStrL : FN := fun ds => match ds with
  | [.int i] => if i.natAbs.log2 < 12900 then some (.str (toString i)) else none
  | [.str a] => some (.str a)
  | _ => none
end
end DL
namespace DL
open PySem PySem.Spec PyProof.Rows L2
variable [LT : LawT] [TC : TellC]
/-! ### try: f; except c1: y = z1; except c2: y = z2 -/
def pickS (tb : XTb) (k : Nat) (ρ : List Sl) (x : Str) (s : S) : List (Str × Str) → Fl
  | [] => .exc x s
  | (c, z) :: r => match isX tb x c with
    | some true => .next (ρ.set k (.dat (.str z))) s
    | some false => pickS tb k ρ x s r
    | none => .bad
def sTryS (tb : XTb) (k : Nat) (hs : List (Str × Str)) (f : DE) : DS := fun ρ s => match f ρ s with
  | .ok _ s1 => .next ρ s1
  | .exc x s1 => pickS tb k ρ x s1 hs
  | .bad => .bad
end DL
namespace DL
open PySem PySem.Spec PyProof.Rows L2
variable [LT : LawT] [TC : TellC]
/-! ### a list's parts to names -/
def gTL (n : Nat) (h : List D → List Sl → Option (List Sl)) : DG := fun d ρ => match d with
  | .lst ds => if ds.length = n then h ds ρ else none
  | _ => none
end DL
namespace DL
open PySem PySem.Spec PyProof.Rows L2
variable [LT : LawT] [TC : TellC]
/-! ### x.get(k), x a dict of its own -/
def eGetO1 (i : Nat) (fk : DE) : DE := fun ρ s => match ρ[i]? with
  | some (.ownD t l) => (fk ρ s).bind fun y s1 => Res.ofO ((getO t l y).map fun o => o.getD .non) s1
  | _ => .bad
end DL
namespace DL
open PySem PySem.Spec PyProof.Rows L2
variable [LT : LawT] [TC : TellC]
/-! ### x.update(e), x a dict of its own, e a dict of names or numbers -/
def mergeO (l : List (D × D)) : List (D × D) → Option (List (D × D))
  | [] => some l
  | (k, v) :: r => match dk k with
    | some x => mergeO (putD dk kD l x v) r
    | none => none
def sUpdO (i : Nat) (f : DE) : DS := fun ρ s => match ρ[i]? with
  | some (.ownD false l) => (f ρ s).thenS fun d s1 => match d with
    | .dct m => match m with
      | [] => .bad
      | p :: r => match mergeO l (p :: r) with
        | some l' => if l.length + (p :: r).length ≤ 16777216 then .next (ρ.set i (.ownD false l')) s1 else .bad
        | none => .bad
    | _ => .bad
  | _ => .bad
end DL
namespace DL
open PySem PySem.Spec PyProof.Rows L2
variable [LT : LawT] [TC : TellC]
/-! ### x = {name: number, ..}, a dict of its own -/
def dispD (kvs : List (Str × Int)) : List (D × D) := (kvs.map fun p => ((Sum.inr p.1 : Key), D.int p.2)).foldl (fun acc kv => putD dk kD acc kv.1 kv.2) []
def sDispC (i : Nat) (kvs : List (Str × Int)) : DS := fun ρ s => .next (ρ.set i (.ownD false (dispD kvs))) s
end DL
namespace DL
open PySem PySem.Spec PyProof.Rows L2
variable [LT : LawT] [TC : TellC]
/-! ### for over a special list, or over data -/
def loopT (clr : List Nat) (g : DG) (body : DS) (n N : Nat) : Nat → List Sl → S → Fl
  | 0, ρ, s => match tokL s n with
    | none => .bad
    | some ds => if ds.length = N then .next ρ s else .bad
  | k + 1, ρ, s => match tokL s n with
    | none => .bad
    | some ds => if ds.length = N then (match ds[N - (k + 1)]? with
      | none => .bad
      | some d => match g d ρ with
        | none => .bad
        | some ρ1 => match body ρ1 s with
          | .next ρ2 s2 => loopT clr g body n N k (wipeD ρ2 clr) s2
          | .cont ρ2 s2 => loopT clr g body n N k (wipeD ρ2 clr) s2
          | .brk ρ2 s2 => .next (wipeD ρ2 clr) s2
          | .ret d s2 => .ret d s2
          | .exc c s2 => .exc c s2
          | .bad => .bad) else .bad
def sForV (clr : List Nat) (f : DE) (g : DG) (body : DS) : DS := fun ρ s => (f ρ s).thenS fun d s1 => match d with
  | .tok n => match tokL s1 n with
    | none => .bad
    | some ds => loopT clr g body n ds.length ds.length (wipeD ρ clr) s1
  | d => match dIter d with
    | none => .bad
    | some ds => loopN clr g body ds (wipeD ρ clr) s1
end DL
namespace DL
open PySem PySem.Spec PyProof.Rows L2
variable [LT : LawT] [TC : TellC]
/-! ### list(d), d a special dict keyed by tuples -/
def eLstKT (fs : DA) : DE := fun ρ s => (fs ρ s).bind fun ds s1 => match ds with
  | [.tok n] => match tokT s1 n with
    | none => .bad
    | some l => .ok (.lst (l.map fun p => kT p.1)) s1
  | _ => .bad
end DL
namespace DL
open PySem PySem.Spec PyProof.Rows L2
variable [LT : LawT] [TC : TellC]
/-! ### list(d.values()), d a dict that stands still, keyed by tuples -/
def eLstV (f : DE) : DE := fun ρ s => (f ρ s).bind fun d s1 => match d with
  | .fd true l => .ok (.lst (l.map (·.2))) s1
  | _ => .bad
end DL
namespace DL
open PySem PySem.Spec PyProof.Rows L2
variable [LT : LawT] [TC : TellC]
/-! ### y = dict(x), both dicts of their own, keyed by tuples of whole numbers whose hashes differ -/
def hashN (ks : List Key) : Int := reduceHash (Builtin.Tuple.tupleHashOf (ks.map fun k => match k with | .inl i => hashInt i | .inr _ => 0))
def numsK (ks : List Key) : Bool := ks.all fun k => match k with
  | .inl _ => true
  | .inr _ => false
def apartB (l : List (D × D)) : Bool := (l.all fun p => match dkT p.1 with
    | some ks => numsK ks
    | none => false) && decide ((l.map fun p => match dkT p.1 with
    | some ks => hashN ks
    | none => 0).Nodup)
def sCpyO (i k : Nat) : DS := fun ρ s => match ρ[k]? with
  | some (.ownD true l) => if apartB l = true then .next (ρ.set i (.ownD true l)) s else .bad
  | _ => .bad
end DL
namespace DL
open PySem PySem.Spec PyProof.Rows L2
/-! ### special lists in a sum, as a text, behind == -/
/-- repr of a special list too -/
def dRepT (L : Nat) (s : S) (ds : List D) : Option D := match ds with
  | [.tok n] => (tokL s n).bind fun l => repD L (.lst l)
  | ds => dRepr L ds
def eRepT (L : Nat) (fs : DA) : DE := fun ρ s => (fs ρ s).bind fun ds s1 => Res.ofO (dRepT L s1 ds) s1
end DL
namespace DL
open PySem PySem.Spec PyProof.Rows L2
variable [LT : LawT] [TC : TellC]
/-! ### list(zip(a tuple, a tuple)) -/
structure ZLT (h : Heap) (z TI TO i1 i2 a b S : Addr) (i : Nat) : Prop where
  z : IsZip h z TI TO .none ∨ ∃ T f oT, IsZipHeld h z TI TO T f ∧ h.get? T = some oT ∧ T ∉ [z, TI, TO, i1, i2, S]
  ti : IsTupOf2 h TI (.ref i1) (.ref i2)
  to : ∃ x y, IsTupOf2 h TO x y
  l : h.IsTupleIter i1 a i
  t : h.IsTupleIter i2 b i
theorem ZLT.up {h h' : Heap} {z TI TO i1 i2 a b S : Addr} {i : Nat} (x : ZLT h z TI TO i1 i2 a b S i) (n : S ∉ [z, TI, TO, i1, i2]) (k : ∀ c o, c ≠ S → h.get? c = some o → h'.get? c = some o) : ZLT h' z TI TO i1 i2 a b S i := by
  obtain ⟨q, ti, ⟨u, v, to⟩, l, t⟩ := x
  simp only [List.mem_cons, List.not_mem_nil, or_false, not_or] at n
  obtain ⟨n1, n2, n3, n4, n5⟩ := n
  refine ⟨q.imp (fun q => k _ _ (Ne.symm n1) q) fun ⟨T, f, oT, q1, q2, q3⟩ => ⟨T, f, oT, k _ _ (Ne.symm n1) q1, k _ _ (fun e => q3 (by simp [e])) q2, q3⟩, k _ _ (Ne.symm n2) ti, ⟨u, v, k _ _ (Ne.symm n3) to⟩, l.at fun o q => k _ o (Ne.symm n4) q, t.at fun o q => k _ o (Ne.symm n5) q⟩
section
variable {X : Cx} {pins : List (Addr × Obj)} {σ : L2.St} {H : Hp} {A : Around}
variable {z TI TO i1 i2 a b S : Addr} {xs ys : List V} {us ws : List Value} {R : Result → Shared → Prop} {res : Value}
theorem zl_loopT (hh : A.handled = none) (D : ZA z TI TO i1 i2 a b) (Sn : S ∉ [z, TI, TO, i1, i2]) (na : a ∉ [z, TI, TO, i1, i2, S]) (nb : b ∉ [z, TI, TO, i1, i2, S]) (rx : Vals xs us) (ry : Vals ys ws)
    (hl : us.length = ws.length) (hz : us.length ≤ sizeLine)
    (hR : ∀ s' Hn Ts acc c, Inv X pins σ Hn s' → FpOk X pins Hn S → LaidP H (xs.zip ys) Ts Hn → s'.heap.get? S = some { cls := .type "list", dict := none, data := .seq acc c, slots := #[] } → acc.toList = Ts.map Value.ref → Ts.length = us.length → R (.ok (.ret res)) s') :
    ∀ (k i : Nat) (s : Shared) (acc : Array Value) (c : Nat) (Hi : Hp) (Ts : List Addr), us.length - i = k → i ≤ us.length → Inv X pins σ Hi s → (∀ c ∈ [z, TI, TO, i1, i2, S], FpOk X pins Hi c) → ZLT s.heap z TI TO i1 i2 a b S i →
      s.heap.IsTuple a us.toArray → s.heap.IsTuple b ws.toArray → s.heap.get? S = some { cls := .type "list", dict := none, data := .seq acc c, slots := #[] } → acc.toList = Ts.map Value.ref → Ts.length = i → LaidP H ((xs.zip ys).take i) Ts Hi →
      codeAny (model X.prog X.w) A (.builtin "list.extend.loop" ⟨[.ref S, .ref z, res], []⟩) R s
  | 0, i, s, acc, c, Hi, Ts, hk, hi, I, hf, st, la, tb, hS, ea, el, lp => by
    have hin : i = us.length := by omega
    subst hin
    refine codeAny_builtin F.entry_extend_loop ?_
    rw [Around.under_plainId F.plain_extend_loop _]
    show wpAny _ A.in1 (pyNext (.ref z) >>= _) _ _ s
    have n1 : us.toArray.size = us.length := by simp
    have n2 : ws.toArray.size = us.length := by simp [hl]
    have zl : (xs.zip ys).take us.length = xs.zip ys := List.take_of_length_le (by rw [List.length_zip, rx.length, ry.length]; omega)
    have fin : ∀ h' tk, (∀ c o, c ∉ [z, TI, TO, i1, i2] → s.heap.get? c = some o → h'.get? c = some o) → R (.ok (.ret res)) { s with heap := h', toks := tk } := fun h' tk k => by
      have I2 := I.turnedL (t' := tk) (ch := [z, TI, TO, i1, i2]) k fun b hb => hf b (by
        simp only [List.mem_cons, List.not_mem_nil, or_false] at hb ⊢
        rcases hb with e | e | e | e | e <;> simp [e])
      exact hR _ Hi Ts acc c I2 (hf S (by simp)) (by rw [zl] at lp; exact lp) (k _ _ Sn hS) ea el
    obtain ⟨u0, v0, e3⟩ := st.to
    rcases st.z with q | ⟨T, f, oT, q1, q2, q3⟩
    · refine wpAny_bind (wpAny_pyNext_zipD2_end D.sep (Draws.tuple (A := A.in1.in1) hh i1 a D.az us.toArray) (Draws.tuple (A := A.in1.in1) hh i2 b D.bz ws.toArray) q st.ti e3 ⟨st.l, la⟩ ⟨st.t, tb⟩ (by omega) (by omega) (by omega) fun h' tk k => wpAny_pure (fin h' tk fun c o hc e => ?_))
      simp only [List.mem_cons, List.not_mem_nil, or_false, not_or] at hc
      exact k c o hc.1 hc.2.2.1 hc.2.2.2.1 hc.2.2.2.2 e
    · refine wpAny_bind (next_zip_end D.sep (Draws.tuple (A := A.in1.in1) hh i1 a D.az us.toArray) q1 q2 st.ti ⟨by rw [n1]; exact st.l, la⟩ fun h' k => wpAny_pure (fin h' s.toks fun c o hc e => ?_))
      simp only [List.mem_cons, List.not_mem_nil, or_false, not_or] at hc
      exact k c o hc.1 hc.2.2.2.1 e
  | k + 1, i, s, acc, c, Hi, Ts, hk, hi, I, hf, st, la, tb, hS, ea, el, lp => by
    have hlt : i < us.length := by omega
    refine codeAny_builtin F.entry_extend_loop ?_
    rw [Around.under_plainId F.plain_extend_loop _]
    show wpAny _ A.in1 (pyNext (.ref z) >>= _) _ _ s
    have n1 : i < us.toArray.size := by simpa using hlt
    have n2 : i < ws.toArray.size := by simpa [← hl] using hlt
    obtain ⟨u0, v0, e3⟩ := st.to
    have sz : acc.size = i := by rw [← Array.length_toList, ea, List.length_map, el]
    have lz : z < s.heap.objs.size := by
      rcases st.z with q | ⟨T, f, oT, q1, _⟩
      · exact Heap.lt_size q
      · exact Heap.lt_size q1
    have lts : ∀ c ∈ [z, TI, TO, i1, i2, S], c < s.heap.objs.size := by
      obtain ⟨o1, q1, _, _⟩ := st.l
      obtain ⟨o2, q2, _, _⟩ := st.t
      simp only [List.forall_mem_cons, List.not_mem_nil, false_implies, implies_true, and_true]
      exact ⟨lz, Heap.lt_size st.ti, Heap.lt_size e3, Heap.lt_size q1, Heap.lt_size q2, Heap.lt_size hS⟩
    have nT : s.heap.objs.size ∉ [z, TI, TO, i1, i2, S] := fun m => Nat.lt_irrefl _ (lts _ m)
    have step : ∀ v1 v2 h' tk, us.toArray[i]? = some v1 → ws.toArray[i]? = some v2 → (∃ T f oT, IsZipHeld h' z TI TO T f ∧ h'.get? T = some oT ∧ T ∉ [z, TI, TO, i1, i2, S]) → (∃ x y, IsTupOf2 h' TO x y) → h'.IsTupleIter i1 a (i + 1) → h'.IsTupleIter i2 b (i + 1) → IsTupOf2 h' s.heap.objs.size v1 v2 →
        (∀ c o, c ≠ z → c ≠ TO → c ≠ i1 → c ≠ i2 → s.heap.get? c = some o → h'.get? c = some o) →
        wpAny (model X.prog X.w) A.in1 (updateSeq S (·.push (.ref s.heap.objs.size)) >>= fun _ => again (.builtin "list.extend.loop" ⟨[.ref S, .ref z, res], []⟩)) (fun fin s' => match fin with | .done f => R (.ok f) s' | .again c' => c'.quiet = true ∧ codeAny (model X.prog X.w) A c' R s') (fun e s' => R (.error e) s') { s with heap := h', toks := tk } := by
      intro v1 v2 h' tk p1 p2 ⟨T, f, oT, z'⟩ to' s1 s2 nw kk
      obtain ⟨x, gx, r1⟩ := vals_inv (i := i) (u := v1) rx (by simpa using p1)
      obtain ⟨y, gy, r2⟩ := vals_inv (i := i) (u := v2) ry (by simpa using p2)
      have keep : ∀ c o, c ∉ [z, TI, TO, i1, i2, S] → s.heap.get? c = some o → h'.get? c = some o := fun c o hb q => by
        simp only [List.mem_cons, List.not_mem_nil, or_false, not_or] at hb
        exact kk c o hb.1 hb.2.2.1 hb.2.2.2.1 hb.2.2.2.2.1 q
      have fresh := I.hok.fresh (Nat.le_refl s.heap.objs.size)
      have new : ObjOk X.prog X.w (upd Hi s.heap.objs.size (.tup [x, y])) h' s.heap.objs.size (.tup [x, y]) :=
        ⟨by show 2 ≤ sizeLine; rw [sizeLine_eq]; decide, [v1, v2], .cons r1 (.cons r2 .nil), _, nw, rfl, _, rfl⟩
      have I2 := I.turnedNew (t' := tk) keep hf (Nat.le_refl _) new
      have hf2 : ∀ c ∈ [z, TI, TO, i1, i2, S], FpOk X pins (upd Hi s.heap.objs.size (.tup [x, y])) c := fun c hc => ⟨by rw [upd_ne (Nat.ne_of_lt (lts c hc))]; exact (hf c hc).1, (hf c hc).2⟩
      have hS2 : h'.get? S = some { cls := .type "list", dict := none, data := .seq acc c, slots := #[] } := by
        simp only [List.mem_cons, List.not_mem_nil, or_false, not_or] at Sn
        exact kk S _ Sn.1 Sn.2.2.1 Sn.2.2.2.1 Sn.2.2.2.2 hS
      have ti' : IsTupOf2 h' TI (.ref i1) (.ref i2) := kk _ _ D.sep.TIz D.sep.TITO D.sep.TIi1 D.sep.TIi2 st.ti
      have k3 : ∀ c o, c ≠ S → h'.get? c = some o → (h'.update S (Obj.mapSeq (·.push (.ref s.heap.objs.size)))).get? c = some o := fun c o hc e => (Heap.get?_update_other _ _ (Ne.symm hc)).trans e
      refine wpAny_bind (wpAny_updateSeq hS2 rfl (wpAny_pure ⟨plainId_quiet F.plain_extend_loop _, ?_⟩) (by rw [sz]; omega) (by show (acc.push _).size ≤ sizeLine + 1; rw [Array.size_push, sz]; omega))
      have I3 := I2.turnedL (t' := tk) (ch := [S]) (h' := h'.update S (Obj.mapSeq (·.push (.ref s.heap.objs.size)))) (fun c o hb q => k3 c o (fun e => hb (by simp [e])) q) fun c hc => hf2 c (by simp [List.mem_singleton.mp hc])
      refine zl_loopT hh D Sn na nb rx ry hl hz hR k (i + 1) _ (acc.push (.ref s.heap.objs.size)) _ (upd Hi s.heap.objs.size (.tup [x, y])) (Ts ++ [s.heap.objs.size]) (by omega) hlt I3 hf2 (ZLT.up ⟨.inr ⟨T, f, oT, z'⟩, ti', to', s1, s2⟩ Sn k3) ?_ ?_ (Heap.get?_update_self _ hS2 rfl) ?_ ?_ ?_
      · exact (la.at fun o q => keep a o na q).at fun o q => k3 a o (fun e => na (by simp [e])) q
      · exact (tb.at fun o q => keep b o nb q).at fun o q => k3 b o (fun e => nb (by simp [e])) q
      · rw [Array.toList_push, ea, List.map_append]; rfl
      · rw [List.length_append, el]; rfl
      · have e : (xs.zip ys)[i]? = some (x, y) := by rw [List.getElem?_zip_eq_some]; exact ⟨gx, gy⟩
        rw [List.take_add_one, e]
        exact lp.snoc fresh
    rcases st.z with q | ⟨T, f, oT, q1, q2, q3⟩
    · refine wpAny_bind (wpAny_pyNext_zipD2_item D.sep (Draws.tuple (A := A.in1.in1) hh i1 a D.az us.toArray) (Draws.tuple (A := A.in1.in1) hh i2 b D.bz ws.toArray) q st.ti e3 ⟨st.l, la⟩ ⟨st.t, tb⟩ n1 n2 fun v1 v2 h' tk p1 p2 z' to' s1 s2 nw hsz kk => ?_)
      exact step v1 v2 h' tk p1 p2 ⟨_, false, _, z', nw, nT⟩ ⟨_, _, to'⟩ s1.1 s2.1 nw kk
    · refine wpAny_bind (next_zip_held D.sep (Draws.tuple (A := A.in1.in1) hh i1 a D.az us.toArray) (Draws.tuple (A := A.in1.in1) hh i2 b D.bz ws.toArray) q1 q2 st.ti ⟨st.l, la⟩ ⟨st.t, tb⟩ n1 n2 fun v1 v2 h' tk p1 p2 z' s1 s2 nw k => ?_)
      have q4 := q3
      simp only [List.mem_cons, List.not_mem_nil, or_false, not_or] at q4
      exact step v1 v2 h' tk p1 p2 ⟨T, true, oT, z', k _ _ q4.1 q4.2.2.2.1 q4.2.2.2.2.1 q2, q3⟩ ⟨_, _, k _ _ D.sep.TOz (fun e => D.sep.Ti1 e) (fun e => D.sep.Ti2 e) e3⟩ s1.1 s2.1 nw fun c o c1 _ c3 c4 => k c o c1 c3 c4
theorem zl_listT {s : Shared} {E : Value → Shared → Prop} {Q : Value → Shared → Prop} (hh : A.handled = none) (D : ZA z TI TO i1 i2 a b) (I : Inv X pins σ H s) (hf : ∀ c ∈ [z, TI, TO, i1, i2], FpOk X pins H c)
    (hz : IsZip s.heap z TI TO .none) (hti : IsTupOf2 s.heap TI (.ref i1) (.ref i2)) (hto : ∃ x y, IsTupOf2 s.heap TO x y) (hl : s.heap.IsTupleIter i1 a 0) (ht : s.heap.IsTupleIter i2 b 0)
    (na : a ∉ [z, TI, TO, i1, i2]) (nb : b ∉ [z, TI, TO, i1, i2]) (rx : Vals xs us) (ry : Vals ys ws) (la : s.heap.IsTuple a us.toArray) (tb : s.heap.IsTuple b ws.toArray)
    (el : us.length = ws.length) (sz : us.length ≤ sizeLine)
    (hQ : ∀ S s' Hn Ts, Inv X pins σ (upd Hn S (.lst (Ts.map V.ref))) s' → LaidP H (xs.zip ys) Ts Hn → Hn S = none → Q (.ref S) s') : wpAny (model X.prog X.w) A (call (.type "list") [.ref z]) Q E s := by
  refine callType_codes (Q₁ := fun obj s₁ => obj = .ref s.heap.objs.size ∧ s₁ = { s with heap := s.heap.push { cls := .type "list", data := .seq #[] } }) F.called_list (F.typeCall_list_1 _) F.entry_list_init
    (code_list_new _ ⟨rfl, rfl⟩) fun obj s₁ h₁ => ?_
  obtain ⟨rfl, rfl⟩ := h₁
  have lts : ∀ c ∈ [z, TI, TO, i1, i2], c < s.heap.objs.size := by
    obtain ⟨o1, q1, _, _⟩ := hl
    obtain ⟨o2, q2, _, _⟩ := ht
    obtain ⟨x, y, e3⟩ := hto
    simp only [List.forall_mem_cons, List.not_mem_nil, false_implies, implies_true, and_true]
    exact ⟨Heap.lt_size hz, Heap.lt_size hti, Heap.lt_size e3, Heap.lt_size q1, Heap.lt_size q2⟩
  have Sn : s.heap.objs.size ∉ [z, TI, TO, i1, i2] := fun m => Nat.lt_irrefl _ (lts _ m)
  have lta : a < s.heap.objs.size := let ⟨_, q, _⟩ := la; Heap.lt_size q
  have ltb : b < s.heap.objs.size := let ⟨_, q, _⟩ := tb; Heap.lt_size q
  have fS := I.fpOk (Nat.le_refl s.heap.objs.size) (I.hok.fresh (Nat.le_refl _))
  generalize hSd : s.heap.objs.size = S at *
  have e0 : (s.heap.push { cls := .type "list", data := .seq #[] }).get? S = some { cls := .type "list", data := .seq #[] } := by rw [← hSd]; exact Heap.get?_push_size _ rfl
  have k0 : ∀ c o, c ≠ S → s.heap.get? c = some o → (s.heap.push { cls := .type "list", data := .seq #[] }).get? c = some o := fun c o _ e => Heap.get?_push_of_some _ e
  refine ⟨⟨_, e0, rfl⟩, F.args_list_init_2 _ _, ?_⟩
  show wpAny _ A.in1.in1 (Builtin.List.listItems (.ref S) >>= fun old => Builtin.List.listUpdate (.ref S) (fun _ => #[]) >>= fun _ => letGo old.toList.reverse >>= fun _ => Builtin.List.listExtendWith (.ref S) (.ref z) .none) _ _ _
  refine wpAny_bind ?_
  unfold Builtin.List.listItems
  refine wpAny_bind (wpAny_seqItems e0 rfl (wpAny_pure ?_))
  show wpAny _ A.in1.in1 (updateSeq S (fun _ => #[]) >>= _) _ _ _
  refine wpAny_bind (wpAny_updateSeq e0 rfl (wpAny_bind (wpAny_letGo ?_)))
  have e1 := Heap.get?_update_self (Obj.mapSeq (fun _ => (#[] : Array Value))) e0 rfl
  have k1 : ∀ (h : Heap) (f : Obj → Obj), (∀ c o, c ≠ S → s.heap.get? c = some o → h.get? c = some o) → ∀ c o, c ≠ S → s.heap.get? c = some o → (h.update S f).get? c = some o := fun h f q c o n e => (Heap.get?_update_other _ _ (Ne.symm n)).trans (q c o n e)
  have q1 := k1 _ (Obj.mapSeq (fun _ => (#[] : Array Value))) k0
  have nz : z ≠ S := fun e => Sn (by simp [e])
  have zt : ∀ {h : Heap} {t : Nat}, (∀ c o, c ≠ S → s.heap.get? c = some o → h.get? c = some o) → ({ s with heap := h, toks := t } : Shared).TypeIs (.ref z) "zip" := fun q => ⟨_, q _ _ nz hz, rfl⟩
  unfold Builtin.List.listExtendWith
  refine wpAny_bind (wpAny_typeOf (zt q1) ?_)
  have c1 : Builtin.List.listSameRef (.ref S) (.ref z) = false := by simp [Builtin.List.listSameRef, Ne.symm nz]
  have c2 : (Value.type "zip" == Value.type "list") = false := by decide
  have c3 : (Value.type "zip" == Value.type "tuple") = false := by decide
  simp only [c1, c2, c3, Bool.or_false, Bool.false_eq_true, if_false]
  refine wpAny_bind (wpAny_pyIter_zip (q1 _ _ nz hz) (wpAny_bind (wpAny_holding ?_)))
  unfold Builtin.List.listLengthHint
  refine wpAny_bind (wpAny_specialOf (zt q1) zip_no_len ?_)
  show wpAny _ A.in1.in1 (specialOf (Value.ref z) (Str.ofString "__length_hint__") >>= _) _ _ _
  refine wpAny_bind (wpAny_specialOf (zt q1) zip_no_hint (wpAny_pure ?_))
  show wpAny _ A.in1.in1 (rule "list.extend.makes-room" >>= fun _ => Builtin.List.listTouch (.ref S) >>= fun _ => again (.builtin "list.extend.loop" ⟨[.ref S, .ref z, .none], []⟩)) _ _ _
  refine wpAny_bind (wpAny_rule (wpAny_bind ?_))
  show wpAny _ A.in1.in1 (updateSeq S (·.push .none) >>= fun _ => updateSeq S (·.pop)) _ _ _
  refine wpAny_bind (wpAny_updateSeq e1 rfl ?_)
  have e2 := Heap.get?_update_self (Obj.mapSeq (·.push Value.none)) e1 rfl
  have e3 := Heap.get?_update_self (Obj.mapSeq (·.pop)) e2 rfl
  have q3 := k1 _ (Obj.mapSeq (·.pop)) (k1 _ (Obj.mapSeq (·.push Value.none)) q1)
  refine wpAny_updateSeq (hz := by seq_fits) e2 rfl (wpAny_pure ⟨plainId_quiet F.plain_extend_loop _, ?_⟩)
  have na2 : a ≠ S := Nat.ne_of_lt lta
  have nb2 : b ≠ S := Nat.ne_of_lt ltb
  have mem6 : ∀ {c : Addr}, c ∉ [z, TI, TO, i1, i2] → c ≠ S → c ∉ [z, TI, TO, i1, i2, S] := fun h1 h2 h => by
    simp only [List.mem_cons, List.not_mem_nil, or_false, not_or] at h h1
    rcases h with e | e | e | e | e | e
    · exact h1.1 e
    · exact h1.2.1 e
    · exact h1.2.2.1 e
    · exact h1.2.2.2.1 e
    · exact h1.2.2.2.2 e
    · exact h2 e
  obtain ⟨x0, y0, e4⟩ := hto
  have I1 : Inv X pins σ H { s with heap := _, toks := s.toks } := I.turnedL (t' := s.toks) (ch := [S]) (fun c o hb e => q3 c o (fun e => hb (by simp [e])) e) fun c hc => by rw [List.mem_singleton.mp hc]; exact fS
  have ne : ∀ {c : Addr}, c ∈ [z, TI, TO, i1, i2] → c ≠ S := fun h e => Sn (e ▸ h)
  refine zl_loopT (A := A.in1) (H := H) (xs := xs) (ys := ys) (us := us) (ws := ws) hh D Sn (mem6 na na2) (mem6 nb nb2) rx ry el sz (fun s' Hn Ts acc c J f lp eS ea eT => by
      have new : ObjOk X.prog X.w (upd Hn S (.lst (Ts.map V.ref))) s'.heap S (.lst (Ts.map V.ref)) := ⟨by rw [List.length_map, eT]; exact sz, acc.toList, c, by rw [ea]; exact refs_vals Ts, by rw [Array.toArray_toList]; exact eS⟩
      exact ⟨rfl, hQ S s' Hn Ts (Inv.adopt J f new) lp f.1⟩) us.length 0 _ _ _ H [] rfl (Nat.zero_le _) I1 (fun c hc => ?_)
    ⟨.inl (q3 _ _ nz hz), q3 _ _ (ne (by simp)) hti, ⟨x0, y0, q3 _ _ (ne (by simp)) e4⟩, hl.at fun o e => q3 _ o (ne (by simp)) e, ht.at fun o e => q3 _ o (ne (by simp)) e⟩ (la.at fun o e => q3 _ o na2 e) (tb.at fun o e => q3 _ o nb2 e) e3 rfl rfl .nil
  · by_cases hS : c = S
    · rw [hS]; exact fS
    · refine hf c ?_
      simp only [List.mem_cons, List.not_mem_nil, or_false] at hc ⊢
      rcases hc with e | e | e | e | e | e
      · simp [e]
      · simp [e]
      · simp [e]
      · simp [e]
      · simp [e]
      · exact absurd e hS
end
def rLZT (K : PySem.W.Frag) : List V → Hp → VK → Prop := fun vs H Q => ∃ (a b : Addr) (xs ys : List V), vs = [.ref a, .ref b] ∧ SqT K H a xs ∧ SqT K H b ys ∧ xs.length = ys.length ∧
  ∀ Ts Hn S, LaidP H (xs.zip ys) Ts Hn → Hn S = none → Q (.ref S) (upd Hn S (.lst (Ts.map V.ref)))
section
variable {X : Cx} {e e2 : Expr} {ta : TA}
theorem pe_lzT {p p2 pos pos2 : Pos} (hc : X.calm = true) (hg : Gl X "list") (hm : X.mg "list" = none) (hg2 : Gl X "zip") (hm2 : X.mg "zip" = none) (ha : PA X [e, e2] ta)
    (hs : starEach [e, e2] X.env = (false, eval e X.env) :: starEach [e2] X.env := by rfl) (hpl : (backTo pos2 (starEach [e2] X.env)).any (·.1) = false := by rfl)
    (hs2 : starEach [Expr.Call (.Name "zip" p2) [e, e2] [] pos2] X.env = [(false, eval (Expr.Call (.Name "zip" p2) [e, e2] [] pos2) X.env)] := by rfl) :
    PE X (.Call (.Name "list" p) [.Call (.Name "zip" p2) [e, e2] [] pos2] [] pos) (fun σ H Q => ta σ H fun vs H1 => rLZT X.K vs H1 Q) := by
  refine ⟨fun pins s σ H Q I h => ?_⟩
  refine Call_ (ld_blt I hg hm (show bootBuiltins "list" = some (.type "list") by decide +kernel) (PyProof.Rows.callWith_type1 ?_ hs2 rfl))
  rw [hs2]
  show wpAny _ _ (spliced ((false, eval (Expr.Call (.Name "zip" p2) [e, e2] [] pos2) X.env) :: backTo pos [])) _ _ s
  refine Calls.spliced_cons ?_
  refine Call_ (ld_blt I hg2 hm2 PyProof.Rows.boot_zip (PyProof.Rows.callWith_type1 (thn (ha.run pos2 pins s σ H _ I h) fun us s1 q => ?_) hs hpl))
  obtain ⟨vs, H1, I1, r1, a, b, xs, ys, rfl, qx, qy, el, q⟩ := q
  obtain ⟨u1, u2, rfl, e1, e2⟩ : ∃ u1 u2, us = [u1, u2] ∧ u1 = .ref a ∧ u2 = .ref b := by
    cases r1 with
    | cons r rr =>
      cases rr with
      | cons r' rr =>
        cases rr
        exact ⟨_, _, rfl, r, r'⟩
  subst e1 e2
  obtain ⟨its, rv, pl, hz1⟩ := I1.tuple qx
  obtain ⟨its2, rv2, pt, hz2⟩ := I1.tuple qy
  obtain ⟨oa, ha1, _⟩ := id pl
  obtain ⟨ob, hb1, _⟩ := id pt
  have la := Heap.lt_size ha1
  have lb := Heap.lt_size hb1
  refine zip_begins2 (begins_tuple a its.toArray) (begins_tuple b its2.toArray) pl pt fun h' hz hTI hTO g1 g2 hsz hk => Calls.spliced_nil ?_
  generalize hN : s1.heap.objs.size = N at *
  have I2 : Inv X pins σ H1 { s1 with heap := h' } := I1.kept (t' := s1.toks) hk
  have mem : ∀ {c : Addr}, c ∈ [N + 4, N + 2, N + 3, N, N + 1] → N ≤ c := by
    intro c hc
    simp only [List.mem_cons, List.not_mem_nil, or_false] at hc
    rcases hc with z | z | z | z | z
    · rw [z]; exact Nat.le_add_right _ _
    · rw [z]; exact Nat.le_add_right _ _
    · rw [z]; exact Nat.le_add_right _ _
    · rw [z]; exact Nat.le_refl _
    · rw [z]; exact Nat.le_add_right _ _
  refine zl_listT (z := N + 4) (TI := N + 2) (TO := N + 3) (i1 := N) (i2 := N + 1) (a := a) (b := b) (xs := xs) (ys := ys) (us := its) (ws := its2) (I.ok.hd hc) ⟨zip_sep2 (fp1 := [a]) (fp2 := [b]) (by simpa using la) (by simpa using lb), Nat.ne_of_lt la, Nat.ne_of_lt (Nat.lt_succ_of_lt lb)⟩
    I2 (fun c hcm => ?_) hz hTI ⟨_, _, hTO⟩ ⟨_, g1, rfl, rfl⟩ ⟨_, g2, rfl, rfl⟩ (fun m => absurd (mem m) (Nat.not_le_of_lt la)) (fun m => absurd (mem m) (Nat.not_le_of_lt lb)) rv rv2 ((show s1.heap.IsTuple a its.toArray from pl).at fun o x => hk a o x) ((show s1.heap.IsTuple b its2.toArray from pt).at fun o x => hk b o x)
    (by rw [← rv.length, ← rv2.length]; exact el) (by rw [← rv.length]; exact hz1) fun S s' Hn Ts J lp hn => ⟨.ref S, _, J, rfl, q Ts Hn S lp hn⟩
  have le : s1.heap.objs.size ≤ c := by rw [hN]; exact mem hcm
  exact I1.fpOk le (I1.hok.fresh le)
end
def dLZT : FN := fun ds => match ds with
  | [.tup as, .tup bs] => if as.length = bs.length then some (.lst (zipD as bs)) else none
  | _ => none
section
variable {K : PySem.W.Frag} {mg : Str → Option Value}
theorem v_lzT : VC K mg (rLZT K) dLZT := fun W s vs ds z Q B r hz q => by
  unfold dLZT at hz
  split at hz
  · rename_i as bs
    split at hz
    · rename_i hl
      cases hz
      obtain ⟨v, u, rfl, rv, ru⟩ := r.two_inv
      obtain ⟨a, xs, rfl, ha, rx⟩ := rv.tup_inv
      obtain ⟨b, ys, rfl, hb, ry⟩ := ru.tup_inv
      have el : xs.length = ys.length := by rw [rx.length, ry.length]; exact hl
      refine ⟨a, b, xs, ys, rfl, seqT B.sub ha, seqT B.sub hb, el, fun Ts Hn S lp hn => ?_⟩
      obtain ⟨W1, e1, E1, B1, r1⟩ := laid_base (as := as) (bs := bs) B lp (by rw [List.map_fst_zip (by omega)]; exact rx) (by rw [List.map_snd_zip (by omega)]; exact ry)
      subst e1
      obtain ⟨B2, x2⟩ := B1.newO hn (.lst (Ts.map V.ref))
      exact q _ _ (Ext.trans B1 E1 x2) B2 (.lst upd_same (r1.ext x2))
    · cases hz
  · cases hz
end
section
variable {X : Cx} {E : WX} {e e2 : Expr} {fs : DA} {p p2 pos pos2 : Pos}
theorem e_lzT (hc : X.calm = true) (hm : X.mg "list" = none) (hm2 : X.mg "zip" = none) (ha : PA X [e, e2] (tA X.K X.mg E fs)) (hg : Gl X "list" := by rfl) (hg2 : Gl X "zip" := by rfl)
    (hs : starEach [e, e2] X.env = (false, eval e X.env) :: starEach [e2] X.env := by rfl) (hpl : (backTo pos2 (starEach [e2] X.env)).any (·.1) = false := by rfl)
    (hs2 : starEach [Expr.Call (.Name "zip" p2) [e, e2] [] pos2] X.env = [(false, eval (Expr.Call (.Name "zip" p2) [e, e2] [] pos2) X.env)] := by rfl) :
    PE X (.Call (.Name "list" p) [.Call (.Name "zip" p2) [e, e2] [] pos2] [] pos) (tE X.K X.mg E (eB dLZT fs)) :=
  PE.mono (pe_lzT hc hg hm hg2 hm2 ha hs hpl hs2) (r_B (ta := tA X.K X.mg E fs) v_lzT)
end
end DL
namespace DL
open PySem PySem.Spec PyProof.Rows L2
variable [LT : LawT] [TC : TellC]
/-! ### x.extend(a list) of a special list; x != [] of a special list that may hold deep things -/
theorem flats_app : ∀ {as bs : List D}, flats as = true → flats bs = true → flats (as ++ bs) = true
  | [], _, _, h => h
  | x :: as, bs, h, k => by
    simp only [flats, Bool.and_eq_true, List.cons_append] at h ⊢
    exact ⟨h.1, flats_app h.2 k⟩
def extS (s : S) : D → D → Option S
  | .tok n, .lst es => match tokL s n with
    | some ds => if flats es = true ∧ ds.length + es.length ≤ 16777216 then some (s.set n (.l (ds ++ es))) else none
    | none => none
  | _, _ => none
def sExtT (f fv : DE) : DS := fun ρ s => (f ρ s).thenS fun t s1 => if isTokL s1 t = true then (fv ρ s1).thenS fun d s2 => (match extS s2 t d with
    | some s3 => .next ρ s3
    | none => .bad) else .bad
section
variable {X : Cx} {E : WX} {fr : Fr} {pos apos cpos : Pos} {f fv : DE} {o e : Expr}
theorem s_extT (ho : PE X o (tE X.K X.mg E f)) (he : PE X e (tE X.K X.mg E fv))
    (hbase : attributeBase o "extend" X.env (eval o X.env) = eval o X.env := by rfl)
    (hfew : ((backTo cpos (starEach [e] X.env)).all (fun x => !x.1) && (backToKw cpos (keywordEach [] X.env)).all (fun x => x.1.isSome) && decide (([e] : List Expr).length + ([] : List Keyword).length + (if ([] : List Keyword).isEmpty then 0 else 1) < 30)) = true := by rfl)
    (hline : (apos.endLine == cpos.line) = true := by rfl) (hs : starEach [e] X.env = (false, eval e X.env) :: starEach [] X.env := by rfl) (hplain : (backTo cpos (starEach [] X.env)).any (·.1) = false := by rfl)
    (hsw : swapsWith (.Call (.Attribute o "extend" apos) [e] [] cpos) none pos.line X.env = pure false := by rfl) :
    QS X E fr (.Expr (.Call (.Attribute o "extend" apos) [e] [] cpos) pos) (sExtT f fv) := by
  refine PS.mono (ps_expr (pe_bm PySem.F.plainAttrs_list PySem.F.slot_list_extend PySem.F.type_list_extend mt_extend ho (pa_cons he pa_nil hs) hbase hfew hline hs hplain) hsw) fun σ H T z => ?_
  obtain ⟨W0, W, s, ρ, rfl, st, z⟩ := z
  refine (goS st z).imp fun t H1 ⟨W1, s1, d1, e1, r1, x1, st1, z1⟩ => ?_
  subst e1
  have tL : ∀ {W' : Hw} {s' : S} {v : V} {n : Nat} {ds : List D}, Base X.K X.mg W' s' → Rep X.K X.mg W'.G W'.τ v (.tok n) → tokL s' n = some ds → tyV X.K "list" v W'.H := fun B r h => by
    obtain ⟨p, vs, rfl, hτ, eH, rr⟩ := tok_list B r h
    exact tyL eH
  split at z1
  · rename_i ht
    refine ⟨?_, (goS st1 z1).imp fun y H2 ⟨W2, s2, d2, e2, r2, x2, st2, z2⟩ => ?_⟩
    · cases d1 with
      | tok n =>
        cases hd : tokL s1 n with
        | none => simp [isTokL, hd] at ht
        | some ds => exact tL st1.base r1 hd
      | _ => simp [isTokL] at ht
    · subst e2
      cases ha : extS s2 d1 d2 with
      | none => rw [ha] at z2; exact z2.elim
      | some s3 =>
        rw [ha] at z2
        unfold extS at ha
        split at ha
        · rename_i n es
          split at ha
          · rename_i ds hd
            split at ha
            · rename_i hf
              cases ha
              obtain ⟨p, vs, rfl, hτ, eH, rr⟩ := tok_list st2.base (r1.ext x2) hd
              obtain ⟨b, us, rfl, k1, k2⟩ := r2.lst_inv
              have hfl : flats ds = true := by
                unfold tokL at hd
                split at hd
                · rename_i ds' hds
                  cases hd
                  exact st2.base.flt _ (List.mem_of_getElem? hds)
                · cases hd
              exact ⟨p, b, vs, us, rfl, rfl, eH, st2.base.sub _ _ k1, by rw [rr.length, k2.length, sizeLine_eq]; exact hf.2, z2 σ _ (st2.cellPut hτ (fun _ z => nomatch (z : HO.lst _ = HO.tup _)) ⟨_, upd_same, rr.append k2⟩ (flats_app hfl hf.1))⟩
            · cases ha
          · cases ha
        · cases ha
  · exact z1.elim
end
def rNeE (K : PySem.W.Frag) : R2 := fun x y H Q => ∃ d e, Dp K H x d ∧ Dp K H y e ∧ PyData.canLay0 d = true ∧ PyData.canLay0 e = true ∧ e.depth ≤ 60 ∧ Q (.bl (!PyData.eqv d e)) H
section
variable {X : Cx}
theorem op_neE (hu : X.A.units + 64 < cLine) : OpR X (compareOp .NotEq) (rNeE X.K) := by
  intro pins s σ H x y v u Q I rx ry h
  obtain ⟨d, e, hd, he, cd, ce, hl, q⟩ := h
  obtain ⟨as, ra⟩ := Dp.reads I _ _ _ hd rx
  obtain ⟨bs, rb⟩ := Dp.reads I _ _ _ he ry
  exact SeqAt.compareNe_reads ra rb cd ce (by omega) ⟨.bl (!PyData.eqv d e), H, I, rfl, q⟩
end
def dNeE (s : S) : F2 := fun x y => match x, y with
  | .tok n, .lst [] => (tokL s n).bind fun ds => if okDs ds = true then some (.bl (!ds.isEmpty)) else none
  | _, _ => none
theorem v_neE {K : PySem.W.Frag} {mg : Str → Option Value} : V2S K mg (rNeE K) dNeE := fun W s x y d e z Q B rx ry hz q => by
  unfold dNeE at hz
  split at hz
  · obtain ⟨ds, h1, hz⟩ := Option.bind_eq_some_iff.mp hz
    split at hz
    · rename_i ok
      cases hz
      obtain ⟨a, vs, rfl, _, eH, rr⟩ := tok_list B rx h1
      have hx : Dp K W.H (.ref a) (toPy (.lst ds)) := .lst (.of eH) (dps_of B.sub rr ok)
      have hy := dp_of B.sub ry (show okD (.lst []) = true from rfl)
      refine ⟨_, _, hx, hy, canLay_of (.lst ds) ok, canLay_of (.lst []) rfl, by decide, ?_⟩
      have e : PyData.eqv (toPy (.lst ds)) (toPy (.lst [])) = ds.isEmpty := by cases ds <;> rfl
      rw [e]
      exact stay B q (.bl _)
    · cases hz
  · cases hz
end DL
namespace DL
open PySem PySem.Spec PyProof.Rows L2
/-! ### plain reasoning about denotations -/
@[irreducible] def wp {α : Type} (r : Res α) (Q : α → S → Prop) (X : Str → S → Prop) : Prop := match r with
  | .ok a s => Q a s
  | .exc c s => X c s
  | .bad => False
@[irreducible] def wps (g : Fl) (N B C : List Sl → S → Prop) (R : D → S → Prop) (X : Str → S → Prop) : Prop := match g with
  | .next ρ s => N ρ s
  | .brk ρ s => B ρ s
  | .cont ρ s => C ρ s
  | .ret d s => R d s
  | .exc c s => X c s
  | .bad => False
section
variable {α β : Type} {Q Q' : α → S → Prop} {X X' : Str → S → Prop} {ρ : List Sl} {s : S} {N B C : List Sl → S → Prop} {R : D → S → Prop}
theorem wp_ok {a : α} : wp (.ok a s) Q X = Q a s := by unfold wp; rfl
theorem wp_exc {c : Str} : wp (.exc c s : Res α) Q X = X c s := by unfold wp; rfl
theorem wp_bad : wp (.bad : Res α) Q X = False := by unfold wp; rfl
theorem wz_next : wps (.next ρ s) N B C R X = N ρ s := by unfold wps; rfl
theorem wz_brk : wps (.brk ρ s) N B C R X = B ρ s := by unfold wps; rfl
theorem wz_cont : wps (.cont ρ s) N B C R X = C ρ s := by unfold wps; rfl
theorem wz_ret {d : D} : wps (.ret d s) N B C R X = R d s := by unfold wps; rfl
theorem wz_exc {c : Str} : wps (.exc c s) N B C R X = X c s := by unfold wps; rfl
theorem wz_bad : wps .bad N B C R X = False := by unfold wps; rfl
theorem wp_bind {r : Res β} {f : β → S → Res α} : wp (r.bind f) Q X = wp r (fun a s => wp (f a s) Q X) X := by cases r <;> (with_unfolding_all rfl)
theorem wp_ofO {o : Option α} : wp (Res.ofO o s) Q X = ∃ a, o = some a ∧ Q a s := by
  cases o with
  | none => simp [Res.ofO, wp]
  | some a => simp [Res.ofO, wp]
theorem wp_ite {c : Prop} [Decidable c] {r q : Res α} : wp (if c then r else q) Q X = if c then wp r Q X else wp q Q X := by split <;> (with_unfolding_all rfl)
theorem wp_mono {r : Res α} (h : wp r Q X) (i : ∀ a s, Q a s → Q' a s) (j : ∀ c s, X c s → X' c s) : wp r Q' X' := by
  cases r with
  | ok a s => rw [wp_ok] at h ⊢; exact i _ _ h
  | exc c s => rw [wp_exc] at h ⊢; exact j _ _ h
  | bad => rw [wp_bad] at h; exact h.elim
/-- the rule for a call whose promise is known -/
theorem wp_call {r : Res α} (h : wp r Q fun _ _ => False) (i : ∀ a s, Q a s → Q' a s) : wp r Q' X' := wp_mono h i fun _ _ z => z.elim
theorem ok_of_wp {r : Res D} {d : D} (h : wp r (fun a _ => a = d) fun _ _ => False) : ∃ s, r = .ok d s := by
  cases r with
  | ok a s => rw [wp_ok] at h; cases h; exact ⟨s, rfl⟩
  | exc c s => rw [wp_exc] at h; exact h.elim
  | bad => rw [wp_bad] at h; exact h.elim
/-! the slots -/
def setAt : List Sl → Nat → Sl → List Sl
  | [], _, _ => []
  | _ :: r, 0, y => y :: r
  | x :: r, n + 1, y => x :: setAt r n y
theorem set_at : ∀ (ρ : List Sl) (i : Nat) (y : Sl), ρ.set i y = setAt ρ i y
  | [], _, _ => rfl
  | x :: r, 0, y => rfl
  | x :: r, i + 1, y => by rw [List.set_cons_succ, set_at r i y]; rfl
/-! expressions -/
theorem wp_eC {d : D} {Q : D → S → Prop} : wp (eC d ρ s) Q X = Q d s := by with_unfolding_all rfl
theorem wp_op2 {g : F2} {f h : DE} {Q : D → S → Prop} : wp (eOp2 g f h ρ s) Q X = wp (f ρ s) (fun a s1 => wp (h ρ s1) (fun b s2 => ∃ z, g a b = some z ∧ Q z s2) X) X := by
  unfold eOp2
  rw [wp_bind]
  congr 1
  funext a s1
  rw [wp_bind]
  congr 1
  funext b s2
  rw [wp_ofO]
theorem wp_op2S {g : F2S} {f h : DE} {Q : D → S → Prop} : wp (eOp2S g f h ρ s) Q X = wp (f ρ s) (fun a s1 => wp (h ρ s1) (fun b s2 => ∃ z, g s2 a b = some z ∧ Q z s2) X) X := by
  unfold eOp2S
  rw [wp_bind]
  congr 1
  funext a s1
  rw [wp_bind]
  congr 1
  funext b s2
  rw [wp_ofO]
theorem wp_op1 {g : F1} {f : DE} {Q : D → S → Prop} : wp (eOp1 g f ρ s) Q X = wp (f ρ s) (fun a s1 => ∃ z, g a = some z ∧ Q z s1) X := by
  unfold eOp1
  rw [wp_bind]
  congr 1
  funext a s1
  rw [wp_ofO]
theorem wp_aNil {Q : List D → S → Prop} : wp (aNil ρ s) Q X = Q [] s := by with_unfolding_all rfl
theorem wp_aCons {f : DE} {g : DA} {Q : List D → S → Prop} : wp (aCons f g ρ s) Q X = wp (f ρ s) (fun d s1 => wp (g ρ s1) (fun ds s2 => Q (d :: ds) s2) X) X := by
  unfold aCons
  rw [wp_bind]
  congr 1
  funext a s1
  rw [wp_bind]
  with_unfolding_all rfl
theorem wp_eB {g : FN} {fs : DA} {Q : D → S → Prop} : wp (eB g fs ρ s) Q X = wp (fs ρ s) (fun ds s1 => ∃ z, g ds = some z ∧ Q z s1) X := by
  unfold eB
  rw [wp_bind]
  congr 1
  funext a s1
  rw [wp_ofO]
theorem wp_eTup {fs : DA} {Q : D → S → Prop} : wp (eTup fs ρ s) Q X = wp (fs ρ s) (fun ds s1 => ds.length ≤ 16777216 ∧ Q (.tup ds) s1) X := by
  unfold eTup
  rw [wp_bind]
  congr 1
  funext a s1
  rw [wp_ite]
  simp only [wp_ok, wp_bad]
  by_cases h : a.length ≤ 16777216 <;> simp [h]
theorem wp_eLst {fs : DA} {Q : D → S → Prop} : wp (eLst fs ρ s) Q X = wp (fs ρ s) (fun ds s1 => ds.length ≤ 16777216 ∧ Q (.lst ds) s1) X := by
  unfold eLst
  rw [wp_bind]
  congr 1
  funext a s1
  rw [wp_ite]
  simp only [wp_ok, wp_bad]
  by_cases h : a.length ≤ 16777216 <;> simp [h]
theorem wp_tBl {f : DE} {Q : Bool → S → Prop} : wp (tBl f ρ s) Q X = wp (f ρ s) (fun d s1 => ∃ b, d = .bl b ∧ Q b s1) X := by
  unfold tBl
  rw [wp_bind]
  congr 1
  funext d s1
  cases d <;> simp [wp]
theorem wp_tTru {f : DE} {Q : Bool → S → Prop} : wp (tTru f ρ s) Q X = wp (f ρ s) (fun d s1 => ∃ b, dTruth d = some b ∧ Q b s1) X := by
  unfold tTru
  rw [wp_bind]
  congr 1
  funext d s1
  rw [wp_ofO]
theorem wp_and {f g : DT} {Q : Bool → S → Prop} : wp (tAndD f g ρ s) Q X = wp (f ρ s) (fun b s1 => if b = true then wp (g ρ s1) Q X else Q false s1) X := by
  unfold tAndD
  rw [wp_bind]
  congr 1
  funext b s1
  cases b <;> simp [wp]
theorem wp_or {f g : DT} {Q : Bool → S → Prop} : wp (tOrD f g ρ s) Q X = wp (f ρ s) (fun b s1 => if b = true then Q true s1 else wp (g ρ s1) Q X) X := by
  unfold tOrD
  rw [wp_bind]
  congr 1
  funext b s1
  cases b <;> simp [wp]
theorem wp_not {f : DT} {Q : Bool → S → Prop} : wp (tNotD f ρ s) Q X = wp (f ρ s) (fun b s1 => Q (!b) s1) X := by
  unfold tNotD
  rw [wp_bind]
  with_unfolding_all rfl
theorem wp_eIf {c : DT} {f g : DE} {Q : D → S → Prop} : wp (eIf c f g ρ s) Q X = wp (c ρ s) (fun b s1 => if b = true then wp (f ρ s1) Q X else wp (g ρ s1) Q X) X := by
  unfold eIf
  rw [wp_bind]
  congr 1
  funext b s1
  cases b <;> simp
theorem wp_eNot {f : DE} {Q : D → S → Prop} : wp (eNot f ρ s) Q X = wp (f ρ s) (fun d s1 => ∃ b, dTruth d = some b ∧ Q (.bl (!b)) s1) X := by
  unfold eNot
  rw [wp_bind]
  congr 1
  funext d s1
  cases h : dTruth d <;> simp [wp]
theorem wp_eAnd {f g : DE} {Q : D → S → Prop} : wp (eAnd f g ρ s) Q X = wp (f ρ s) (fun d s1 => ∃ b, dTruth d = some b ∧ if b = true then wp (g ρ s1) Q X else Q d s1) X := by
  unfold eAnd
  rw [wp_bind]
  congr 1
  funext d s1
  cases h : dTruth d with
  | none => simp [wp]
  | some b => cases b <;> simp [wp]
theorem wp_eOr {f g : DE} {Q : D → S → Prop} : wp (eOr f g ρ s) Q X = wp (f ρ s) (fun d s1 => ∃ b, dTruth d = some b ∧ if b = true then Q d s1 else wp (g ρ s1) Q X) X := by
  unfold eOr
  rw [wp_bind]
  congr 1
  funext d s1
  cases h : dTruth d with
  | none => simp [wp]
  | some b => cases b <;> simp [wp]
theorem wp_eChain {g g' : F2} {f h k : DE} {Q : D → S → Prop} : wp (eChain g g' f h k ρ s) Q X = wp (f ρ s) (fun x s1 => wp (h ρ s1) (fun y s2 => ∃ b, g x y = some (.bl b) ∧ if b = true then wp (k ρ s2) (fun z s3 => ∃ u, g' y z = some u ∧ Q u s3) X else Q (.bl false) s2) X) X := by
  unfold eChain
  rw [wp_bind]
  congr 1
  funext x s1
  rw [wp_bind]
  congr 1
  funext y s2
  split
  · rename_i e
    rw [wp_bind]
    simp only [e, Option.some.injEq, D.bl.injEq, exists_eq_left', if_true]
    congr 1
    funext z s3
    rw [wp_ofO]
  · rename_i e
    simp [e, wp]
  · rename_i h1 h2
    simp only [wp_bad]
    refine propext ⟨fun z => z.elim, fun ⟨b, e, _⟩ => ?_⟩
    cases b with
    | true => exact h1 e
    | false => exact h2 e
theorem wp_lenT {fs : DA} {Q : D → S → Prop} : wp (eLenT fs ρ s) Q X = wp (fs ρ s) (fun ds s1 => ∃ z, lenT s1 ds = some z ∧ Q z s1) X := by
  unfold eLenT
  rw [wp_bind]
  congr 1
  funext ds s1
  rw [wp_ofO]
theorem wp_oNone {Q : Option Int → S → Prop} : wp (oNone ρ s) Q X = Q none s := by with_unfolding_all rfl
theorem wp_oSome {f : DE} {Q : Option Int → S → Prop} : wp (oSome f ρ s) Q X = wp (f ρ s) (fun d s1 => ∃ i, d = .int i ∧ Q (some i) s1) X := by
  unfold oSome
  rw [wp_bind]
  congr 1
  funext d s1
  cases d <;> simp [wp]
theorem wp_eSl {f : DE} {l h : DO} {Q : D → S → Prop} : wp (eSl f l h ρ s) Q X = wp (f ρ s) (fun d s1 => wp (l ρ s1) (fun lo s2 => wp (h ρ s2) (fun hi s3 => ∃ z, dSl d lo hi = some z ∧ Q z s3) X) X) X := by
  unfold eSl
  rw [wp_bind]
  congr 1
  funext d s1
  rw [wp_bind]
  congr 1
  funext lo s2
  rw [wp_bind]
  congr 1
  funext hi s3
  rw [wp_ofO]
theorem wp_iVal {f : DE} {Q : List D → S → Prop} : wp (iVal f ρ s) Q X = wp (f ρ s) (fun d s1 => ∃ z, dIter d = some z ∧ Q z s1) X := by
  unfold iVal
  rw [wp_bind]
  congr 1
  funext d s1
  rw [wp_ofO]
theorem wp_iRange1 {fs : DA} {Q : List D → S → Prop} : wp (iRange1 fs ρ s) Q X = wp (fs ρ s) (fun ds s1 => ∃ j, ds = [.int j] ∧ (-(2 ^ 62) ≤ j ∧ j < 2 ^ 62) ∧ Q (rngD 0 1 j.toNat) s1) X := by
  unfold iRange1
  rw [wp_bind]
  congr 1
  funext ds s1
  split
  · rename_i j
    rw [wp_ite]
    simp only [wp_ok, wp_bad, List.cons.injEq, D.int.injEq, and_true, exists_eq_left']
    by_cases h : -(2 ^ 62) ≤ j ∧ j < 2 ^ 62
    · rw [if_pos h]
      exact propext ⟨fun q => ⟨h, q⟩, fun q => q.2⟩
    · rw [if_neg h]; simp only [h, false_and]
  · rename_i h
    simp only [wp_bad]
    refine propext ⟨fun z => z.elim, fun ⟨j, e, _⟩ => h j e⟩
theorem wp_iRange2 {fs : DA} {Q : List D → S → Prop} : wp (iRange2 fs ρ s) Q X = wp (fs ρ s) (fun ds s1 => ∃ i j, ds = [.int i, .int j] ∧ (-(2 ^ 62) ≤ i ∧ i < 2 ^ 62 ∧ -(2 ^ 62) ≤ j ∧ j < 2 ^ 62) ∧ Q (rngD i 1 (j - i).toNat) s1) X := by
  unfold iRange2
  rw [wp_bind]
  congr 1
  funext ds s1
  split
  · rename_i i j
    rw [wp_ite]
    simp only [wp_ok, wp_bad]
    by_cases h : -(2 ^ 62) ≤ i ∧ i < 2 ^ 62 ∧ -(2 ^ 62) ≤ j ∧ j < 2 ^ 62
    · rw [if_pos h]
      refine propext ⟨fun q => ⟨i, j, rfl, h, q⟩, fun ⟨i', j', e, _, q⟩ => ?_⟩
      cases e
      exact q
    · rw [if_neg h]
      refine propext ⟨fun q => q.elim, fun ⟨i', j', e, h', q⟩ => ?_⟩
      cases e
      exact h h'
  · rename_i h
    simp only [wp_bad]
    refine propext ⟨fun z => z.elim, fun ⟨i, j, e, _⟩ => h i j e⟩
theorem comp_inv {g : DG} {c : DT} {f : DE} {ρ : List Sl} (I : Nat → List D → S → Prop) : ∀ {ds : List D} {s : S} {Q : List D → S → Prop}, I 0 [] s →
    (∀ i d acc s, ds[i]? = some d → I i acc s → ∃ ρ1, g d ρ = some ρ1 ∧ wp (c ρ1 s) (fun b s1 => if b = true then wp (f ρ1 s1) (fun y s2 => I (i + 1) (acc ++ [y]) s2) (fun _ _ => False) else I (i + 1) acc s1) fun _ _ => False) →
    (∀ ys s, I ds.length ys s → Q ys s) → wp (compN g c f ρ ds s) Q fun _ _ => False := by
  have key : ∀ {ds : List D} (k : Nat) (acc : List D) {s : S} {Q : List D → S → Prop}, I k acc s →
      (∀ i d acc s, ds[i]? = some d → I (k + i) acc s → ∃ ρ1, g d ρ = some ρ1 ∧ wp (c ρ1 s) (fun b s1 => if b = true then wp (f ρ1 s1) (fun y s2 => I (k + i + 1) (acc ++ [y]) s2) (fun _ _ => False) else I (k + i + 1) acc s1) fun _ _ => False) →
      (∀ ys s, I (k + ds.length) ys s → Q ys s) → wp (compN g c f ρ ds s) (fun ys s' => Q (acc ++ ys) s') fun _ _ => False := by
    intro ds
    induction ds with
    | nil =>
      intro k acc s Q h0 hs hq
      unfold compN
      simp only [wp_ok, List.append_nil]
      exact hq _ _ h0
    | cons d ds ih =>
      intro k acc s Q h0 hs hq
      obtain ⟨ρ1, e1, h1⟩ := hs 0 d acc s rfl h0
      unfold compN
      rw [e1]
      simp only
      rw [wp_bind]
      have step : ∀ acc' s', I (k + 1) acc' s' → wp (compN g c f ρ ds s') (fun ys s'' => Q (acc' ++ ys) s'') fun _ _ => False := fun acc' s' h' =>
        ih (k + 1) acc' h' (fun i d acc s e h => by
          have := hs (i + 1) d acc s (by simpa using e) (by rw [show k + (i + 1) = k + 1 + i by omega]; exact h)
          rw [show k + (i + 1) + 1 = k + 1 + i + 1 by omega] at this
          exact this) (fun ys s h => hq ys s (by rw [List.length_cons, show k + (ds.length + 1) = k + 1 + ds.length by omega]; exact h))
      refine wp_mono h1 (fun b s1 hb => ?_) fun _ _ z => z
      cases b with
      | true =>
        simp only [if_true] at hb ⊢
        rw [wp_bind]
        refine wp_mono hb (fun y s2 hy => ?_) fun _ _ z => z
        rw [wp_bind]
        refine wp_mono (step _ _ hy) (fun ys s3 q => ?_) fun _ _ z => z
        rw [List.append_assoc] at q
        rw [wp_ok]
        exact q
      | false => exact step _ _ hb
  intro ds s Q h0 hs hq
  have := key (ds := ds) 0 [] (Q := Q) h0 (fun i d acc s e h => by simpa using hs i d acc s e (by simpa using h)) (fun ys s h => hq ys s (by simpa using h))
  simpa using this
/-! statements -/
theorem wps_seq {g h : DS} : wps (sSeq g h ρ s) N B C R X = wps (g ρ s) (fun ρ s => wps (h ρ s) N B C R X) B C R X := by
  unfold sSeq
  cases g ρ s <;> (with_unfolding_all rfl)
theorem wps_then {r : Res α} {k : α → S → Fl} : wps (r.thenS k) N B C R X = wp r (fun a s => wps (k a s) N B C R X) X := by cases r <;> (with_unfolding_all rfl)
theorem wps_set {i : Nat} {f : DE} : wps (sSet i f ρ s) N B C R X = wp (f ρ s) (fun d s => N (setAt ρ i (.dat d)) s) X := by
  unfold sSet
  rw [wps_then]
  simp only [set_at]
  with_unfolding_all rfl
theorem wps_own {i : Nat} {f : DE} : wps (sOwn i f ρ s) N B C R X = wp (f ρ s) (fun d s => ∃ ds, d = .lst ds ∧ N (setAt ρ i (.own ds)) s) X := by
  unfold sOwn
  rw [wps_then]
  congr 1
  funext d s1
  cases d <;> simp [wps, set_at]
theorem wps_ret {f : DE} : wps (sRet f ρ s) N B C R X = wp (f ρ s) R X := by
  unfold sRet
  rw [wps_then]
  with_unfolding_all rfl
theorem wps_expr {f : DE} : wps (sExpr f ρ s) N B C R X = wp (f ρ s) (fun _ s => N ρ s) X := by
  unfold sExpr
  rw [wps_then]
  with_unfolding_all rfl
theorem wps_if {c : DT} {g h : DS} : wps (sIf c g h ρ s) N B C R X = wp (c ρ s) (fun b s => if b = true then wps (g ρ s) N B C R X else wps (h ρ s) N B C R X) X := by
  unfold sIf
  rw [wps_then]
  congr 1
  funext b s1
  cases b <;> simp
theorem wps_skip : wps (sSkip ρ s) N B C R X = N ρ s := by with_unfolding_all rfl
theorem wps_brk : wps (sBrk ρ s) N B C R X = B ρ s := by with_unfolding_all rfl
theorem wps_cont : wps (sCont ρ s) N B C R X = C ρ s := by with_unfolding_all rfl
theorem wps_par {i j : Nat} {fs : DA} : wps (sPar i j fs ρ s) N B C R X = wp (fs ρ s) (fun ds s => ∃ d e, ds = [d, e] ∧ N (setAt (setAt ρ i (.dat d)) j (.dat e)) s) X := by
  unfold sPar
  rw [wps_then]
  congr 1
  funext ds s1
  split
  · rename_i d e
    rw [set_at, set_at, wz_next]
    refine propext ⟨fun q => ⟨d, e, rfl, q⟩, fun ⟨d', e', h, q⟩ => ?_⟩
    cases h
    exact q
  · rename_i h
    rw [wz_bad]
    refine propext ⟨fun z => z.elim, fun ⟨d, e, q, _⟩ => h d e q⟩
theorem wps_unp {g : DG} {f : DE} : wps (sUnp g f ρ s) N B C R X = wp (f ρ s) (fun d s => ∃ ρ1, g d ρ = some ρ1 ∧ N ρ1 s) X := by
  unfold sUnp
  rw [wps_then]
  congr 1
  funext d s1
  cases g d ρ <;> simp [wps]
theorem wps_putT {f fi fv : DE} : wps (sPutT f fi fv ρ s) N B C R X = wp (fv ρ s) (fun d s1 => wp (f ρ s1) (fun t s2 => wp (fi ρ s2) (fun k s3 => ∃ n i l j, t = .tok n ∧ k = .int i ∧ tokL s3 n = some l ∧ ixN l.length i = some j ∧ flat d = true ∧ N ρ (s3.set n (.l (l.set j d)))) X) X) X := by
  unfold sPutT
  rw [wps_then]
  congr 1
  funext d s1
  rw [wps_then]
  congr 1
  funext t s2
  rw [wps_then]
  congr 1
  funext k s3
  split
  · rename_i n i
    cases hl : tokL s3 n with
    | none => simp [wps, hl]
    | some l =>
      cases hj : ixN l.length i with
      | none => simp [wps, hl, hj]
      | some j =>
        simp only [hl, hj]
        by_cases hf : flat d = true
        rw [if_pos hf]
        rotate_left
        rw [if_neg hf]
        rotate_left
        · rw [wz_next]
          refine propext ⟨fun q => ⟨n, i, l, j, rfl, rfl, hl, hj, hf, q⟩, fun ⟨n', i', l', j', e1, e2, e3, e4, _, q⟩ => ?_⟩
          cases e1; cases e2
          rw [hl] at e3
          cases e3
          rw [hj] at e4
          cases e4
          exact q
        · rw [wz_bad]
          refine propext ⟨fun q => q.elim, fun ⟨_, _, _, _, _, _, _, _, e5, _⟩ => hf e5⟩
  · rename_i h
    rw [wz_bad]
    refine propext ⟨fun q => q.elim, fun ⟨n, i, _, _, e1, e2, _⟩ => h n i e1 e2⟩
theorem loop_inv {clr : List Nat} {g : DG} {body : DS} (I : Nat → List Sl → S → Prop) : ∀ {ds : List D} {ρ : List Sl} {s : S}, I 0 ρ s →
    (∀ i d ρ s, ds[i]? = some d → I i ρ s → ∃ ρ1, g d ρ = some ρ1 ∧ wps (body ρ1 s) (fun ρ2 s2 => I (i + 1) (wipeD ρ2 clr) s2) (fun ρ2 s2 => N (wipeD ρ2 clr) s2) (fun ρ2 s2 => I (i + 1) (wipeD ρ2 clr) s2) R X) →
    (∀ ρ s, I ds.length ρ s → N ρ s) → wps (loopN clr g body ds ρ s) N B C R X := by
  have key : ∀ {ds : List D} (k : Nat) {ρ : List Sl} {s : S}, I k ρ s →
      (∀ i d ρ s, ds[i]? = some d → I (k + i) ρ s → ∃ ρ1, g d ρ = some ρ1 ∧ wps (body ρ1 s) (fun ρ2 s2 => I (k + i + 1) (wipeD ρ2 clr) s2) (fun ρ2 s2 => N (wipeD ρ2 clr) s2) (fun ρ2 s2 => I (k + i + 1) (wipeD ρ2 clr) s2) R X) →
      (∀ ρ s, I (k + ds.length) ρ s → N ρ s) → wps (loopN clr g body ds ρ s) N B C R X := by
    intro ds
    induction ds with
    | nil => intro k ρ s h0 hs hq; unfold loopN; rw [wz_next]; exact hq _ _ h0
    | cons d ds ih =>
      intro k ρ s h0 hs hq
      obtain ⟨ρ1, e1, h1⟩ := hs 0 d ρ s rfl h0
      unfold loopN
      rw [e1]
      simp only
      have step : ∀ ρ' s', I (k + 1) ρ' s' → wps (loopN clr g body ds ρ' s') N B C R X := fun ρ' s' h' =>
        ih (k + 1) h' (fun i d ρ s e h => by
          have := hs (i + 1) d ρ s (by simpa using e) (by rw [show k + (i + 1) = k + 1 + i by omega]; exact h)
          rw [show k + (i + 1) + 1 = k + 1 + i + 1 by omega] at this
          exact this) (fun ρ s h => hq ρ s (by rw [List.length_cons, show k + (ds.length + 1) = k + 1 + ds.length by omega]; exact h))
      cases hb : body ρ1 s with
      | next ρ2 s2 => rw [hb, wz_next] at h1; exact step _ _ h1
      | cont ρ2 s2 => rw [hb, wz_cont] at h1; exact step _ _ h1
      | brk ρ2 s2 => rw [hb, wz_brk] at h1; rw [wz_next]; exact h1
      | ret d s2 => rw [hb, wz_ret] at h1; rw [wz_ret]; exact h1
      | exc c s2 => rw [hb, wz_exc] at h1; rw [wz_exc]; exact h1
      | bad => rw [hb, wz_bad] at h1; exact h1.elim
  intro ds ρ s h0 hs hq
  exact key 0 h0 (fun i d ρ s e h => by simpa using hs i d ρ s e (by simpa using h)) (fun ρ s h => hq ρ s (by simpa using h))
theorem wps_while {clr : List Nat} {c : DT} {b : DS} (I : List Sl → S → Prop) (m : List Sl → Nat) (h0 : I (wipeD ρ clr) s)
    (hs : ∀ ρ s, I ρ s → wp (c ρ s) (fun k s1 => if k = true then wps (b ρ s1) (fun ρ2 s2 => I (wipeD ρ2 clr) s2 ∧ m (wipeD ρ2 clr) < m ρ) N (fun ρ2 s2 => I (wipeD ρ2 clr) s2 ∧ m (wipeD ρ2 clr) < m ρ) R X else N ρ s1) X) : wps (sWhile clr c b ρ s) N B C R X := by
  have key : ∀ n ρ s, I ρ s → m ρ < n → ∃ r, whileN clr c b n ρ s = some r ∧ wps r N B C R X := by
    intro n
    induction n with
    | zero => intro ρ s _ h; omega
    | succ n ih =>
      intro ρ s hI hm
      have h := hs ρ s hI
      unfold whileN
      cases hc : c ρ s with
      | ok k s1 =>
        rw [hc] at h
        cases k with
        | true =>
          have h' : wps (b ρ s1) (fun ρ2 s2 => I (wipeD ρ2 clr) s2 ∧ m (wipeD ρ2 clr) < m ρ) N (fun ρ2 s2 => I (wipeD ρ2 clr) s2 ∧ m (wipeD ρ2 clr) < m ρ) R X := by rw [wp_ok] at h; simpa using h
          simp only
          cases hb : b ρ s1 with
          | next ρ2 s2 => rw [hb, wz_next] at h'; exact ih _ _ h'.1 (by have := h'.2; omega)
          | cont ρ2 s2 => rw [hb, wz_cont] at h'; exact ih _ _ h'.1 (by have := h'.2; omega)
          | brk ρ2 s2 => rw [hb, wz_brk] at h'; exact ⟨_, rfl, by rw [wz_next]; exact h'⟩
          | ret d s2 => rw [hb, wz_ret] at h'; exact ⟨_, rfl, by rw [wz_ret]; exact h'⟩
          | exc c s2 => rw [hb, wz_exc] at h'; exact ⟨_, rfl, by rw [wz_exc]; exact h'⟩
          | bad => rw [hb, wz_bad] at h'; exact h'.elim
        | false =>
          have h' : N ρ s1 := by rw [wp_ok] at h; simpa using h
          exact ⟨_, rfl, by rw [wz_next]; exact h'⟩
      | exc c s1 => rw [hc, wp_exc] at h; exact ⟨_, rfl, by rw [wz_exc]; exact h⟩
      | bad => rw [hc, wp_bad] at h; exact h.elim
  obtain ⟨r, e, h⟩ := key _ _ _ h0 (Nat.lt_succ_self _)
  rw [sWhile_of e]
  exact h
theorem wp_defD {N n : Nat} {g : DS} {ds : List D} {Q : D → S → Prop} : wp (defD N n g ds s) Q X = (ds.length = n ∧ wps (g (ds.map .dat ++ List.replicate (N - n) .emp) s) (fun _ s => Q .non s) (fun _ _ => False) (fun _ _ => False) Q X) := by
  unfold defD
  by_cases h : ds.length = n
  · rw [if_pos h]
    simp only [h, true_and]
    cases g (ds.map .dat ++ List.replicate (N - n) .emp) s <;> (with_unfolding_all rfl)
  · rw [if_neg h]
    simp [h, wp]
theorem ex_some {α : Type} {x : α} {P : α → Prop} : (∃ z, some x = some z ∧ P z) = P x := by simp
theorem ex_ite {α : Type} {c : Prop} [Decidable c] {x : α} {P : α → Prop} : (∃ z, (if c then some x else none) = some z ∧ P z) = (c ∧ P x) := by
  by_cases h : c <;> simp [h]
theorem ex_none {α : Type} {P : α → Prop} : (∃ z, (none : Option α) = some z ∧ P z) = False := by simp
end
theorem kb_NoneType_int : kitB "NoneType" "int" = some false := by decide +kernel
theorem kb_NoneType_bool : kitB "NoneType" "bool" = some false := by decide +kernel
theorem kb_NoneType_tuple : kitB "NoneType" "tuple" = some false := by decide +kernel
theorem kb_NoneType_str : kitB "NoneType" "str" = some false := by decide +kernel
theorem kb_NoneType_list : kitB "NoneType" "list" = some false := by decide +kernel
theorem kb_NoneType_dict : kitB "NoneType" "dict" = some false := by decide +kernel
theorem kb_bool_int : kitB "bool" "int" = some true := by decide +kernel
theorem kb_bool_bool : kitB "bool" "bool" = some true := by decide +kernel
theorem kb_bool_tuple : kitB "bool" "tuple" = some false := by decide +kernel
theorem kb_bool_str : kitB "bool" "str" = some false := by decide +kernel
theorem kb_bool_list : kitB "bool" "list" = some false := by decide +kernel
theorem kb_bool_dict : kitB "bool" "dict" = some false := by decide +kernel
theorem kb_int_int : kitB "int" "int" = some true := by decide +kernel
theorem kb_int_bool : kitB "int" "bool" = some false := by decide +kernel
theorem kb_int_tuple : kitB "int" "tuple" = some false := by decide +kernel
theorem kb_int_str : kitB "int" "str" = some false := by decide +kernel
theorem kb_int_list : kitB "int" "list" = some false := by decide +kernel
theorem kb_int_dict : kitB "int" "dict" = some false := by decide +kernel
theorem kb_str_int : kitB "str" "int" = some false := by decide +kernel
theorem kb_str_bool : kitB "str" "bool" = some false := by decide +kernel
theorem kb_str_tuple : kitB "str" "tuple" = some false := by decide +kernel
theorem kb_str_str : kitB "str" "str" = some true := by decide +kernel
theorem kb_str_list : kitB "str" "list" = some false := by decide +kernel
theorem kb_str_dict : kitB "str" "dict" = some false := by decide +kernel
theorem kb_tuple_int : kitB "tuple" "int" = some false := by decide +kernel
theorem kb_tuple_bool : kitB "tuple" "bool" = some false := by decide +kernel
theorem kb_tuple_tuple : kitB "tuple" "tuple" = some true := by decide +kernel
theorem kb_tuple_str : kitB "tuple" "str" = some false := by decide +kernel
theorem kb_tuple_list : kitB "tuple" "list" = some false := by decide +kernel
theorem kb_tuple_dict : kitB "tuple" "dict" = some false := by decide +kernel
theorem kb_list_int : kitB "list" "int" = some false := by decide +kernel
theorem kb_list_bool : kitB "list" "bool" = some false := by decide +kernel
theorem kb_list_tuple : kitB "list" "tuple" = some false := by decide +kernel
theorem kb_list_str : kitB "list" "str" = some false := by decide +kernel
theorem kb_list_list : kitB "list" "list" = some true := by decide +kernel
theorem kb_list_dict : kitB "list" "dict" = some false := by decide +kernel
theorem kb_dict_int : kitB "dict" "int" = some false := by decide +kernel
theorem kb_dict_bool : kitB "dict" "bool" = some false := by decide +kernel
theorem kb_dict_tuple : kitB "dict" "tuple" = some false := by decide +kernel
theorem kb_dict_str : kitB "dict" "str" = some false := by decide +kernel
theorem kb_dict_list : kitB "dict" "list" = some false := by decide +kernel
theorem kb_dict_dict : kitB "dict" "dict" = some true := by decide +kernel
theorem is_non_int  : dIsi [.non, .ty "int"] = some (.bl false) := by simp only [dIsi, tyD, kb_NoneType_int, Option.map_some]
theorem is_non_bool  : dIsi [.non, .ty "bool"] = some (.bl false) := by simp only [dIsi, tyD, kb_NoneType_bool, Option.map_some]
theorem is_non_tuple  : dIsi [.non, .ty "tuple"] = some (.bl false) := by simp only [dIsi, tyD, kb_NoneType_tuple, Option.map_some]
theorem is_non_str  : dIsi [.non, .ty "str"] = some (.bl false) := by simp only [dIsi, tyD, kb_NoneType_str, Option.map_some]
theorem is_non_list  : dIsi [.non, .ty "list"] = some (.bl false) := by simp only [dIsi, tyD, kb_NoneType_list, Option.map_some]
theorem is_non_dict  : dIsi [.non, .ty "dict"] = some (.bl false) := by simp only [dIsi, tyD, kb_NoneType_dict, Option.map_some]
theorem is_bl_int (b : Bool) : dIsi [(.bl b), .ty "int"] = some (.bl true) := by simp only [dIsi, tyD, kb_bool_int, Option.map_some]
theorem is_bl_bool (b : Bool) : dIsi [(.bl b), .ty "bool"] = some (.bl true) := by simp only [dIsi, tyD, kb_bool_bool, Option.map_some]
theorem is_bl_tuple (b : Bool) : dIsi [(.bl b), .ty "tuple"] = some (.bl false) := by simp only [dIsi, tyD, kb_bool_tuple, Option.map_some]
theorem is_bl_str (b : Bool) : dIsi [(.bl b), .ty "str"] = some (.bl false) := by simp only [dIsi, tyD, kb_bool_str, Option.map_some]
theorem is_bl_list (b : Bool) : dIsi [(.bl b), .ty "list"] = some (.bl false) := by simp only [dIsi, tyD, kb_bool_list, Option.map_some]
theorem is_bl_dict (b : Bool) : dIsi [(.bl b), .ty "dict"] = some (.bl false) := by simp only [dIsi, tyD, kb_bool_dict, Option.map_some]
theorem is_int_int (i : Int) : dIsi [(.int i), .ty "int"] = some (.bl true) := by simp only [dIsi, tyD, kb_int_int, Option.map_some]
theorem is_int_bool (i : Int) : dIsi [(.int i), .ty "bool"] = some (.bl false) := by simp only [dIsi, tyD, kb_int_bool, Option.map_some]
theorem is_int_tuple (i : Int) : dIsi [(.int i), .ty "tuple"] = some (.bl false) := by simp only [dIsi, tyD, kb_int_tuple, Option.map_some]
theorem is_int_str (i : Int) : dIsi [(.int i), .ty "str"] = some (.bl false) := by simp only [dIsi, tyD, kb_int_str, Option.map_some]
theorem is_int_list (i : Int) : dIsi [(.int i), .ty "list"] = some (.bl false) := by simp only [dIsi, tyD, kb_int_list, Option.map_some]
theorem is_int_dict (i : Int) : dIsi [(.int i), .ty "dict"] = some (.bl false) := by simp only [dIsi, tyD, kb_int_dict, Option.map_some]
theorem is_str_int (x : Str) : dIsi [(.str x), .ty "int"] = some (.bl false) := by simp only [dIsi, tyD, kb_str_int, Option.map_some]
theorem is_str_bool (x : Str) : dIsi [(.str x), .ty "bool"] = some (.bl false) := by simp only [dIsi, tyD, kb_str_bool, Option.map_some]
theorem is_str_tuple (x : Str) : dIsi [(.str x), .ty "tuple"] = some (.bl false) := by simp only [dIsi, tyD, kb_str_tuple, Option.map_some]
theorem is_str_str (x : Str) : dIsi [(.str x), .ty "str"] = some (.bl true) := by simp only [dIsi, tyD, kb_str_str, Option.map_some]
theorem is_str_list (x : Str) : dIsi [(.str x), .ty "list"] = some (.bl false) := by simp only [dIsi, tyD, kb_str_list, Option.map_some]
theorem is_str_dict (x : Str) : dIsi [(.str x), .ty "dict"] = some (.bl false) := by simp only [dIsi, tyD, kb_str_dict, Option.map_some]
theorem is_tup_int (x : List D) : dIsi [(.tup x), .ty "int"] = some (.bl false) := by simp only [dIsi, tyD, kb_tuple_int, Option.map_some]
theorem is_tup_bool (x : List D) : dIsi [(.tup x), .ty "bool"] = some (.bl false) := by simp only [dIsi, tyD, kb_tuple_bool, Option.map_some]
theorem is_tup_tuple (x : List D) : dIsi [(.tup x), .ty "tuple"] = some (.bl true) := by simp only [dIsi, tyD, kb_tuple_tuple, Option.map_some]
theorem is_tup_str (x : List D) : dIsi [(.tup x), .ty "str"] = some (.bl false) := by simp only [dIsi, tyD, kb_tuple_str, Option.map_some]
theorem is_tup_list (x : List D) : dIsi [(.tup x), .ty "list"] = some (.bl false) := by simp only [dIsi, tyD, kb_tuple_list, Option.map_some]
theorem is_tup_dict (x : List D) : dIsi [(.tup x), .ty "dict"] = some (.bl false) := by simp only [dIsi, tyD, kb_tuple_dict, Option.map_some]
theorem is_lst_int (x : List D) : dIsi [(.lst x), .ty "int"] = some (.bl false) := by simp only [dIsi, tyD, kb_list_int, Option.map_some]
theorem is_lst_bool (x : List D) : dIsi [(.lst x), .ty "bool"] = some (.bl false) := by simp only [dIsi, tyD, kb_list_bool, Option.map_some]
theorem is_lst_tuple (x : List D) : dIsi [(.lst x), .ty "tuple"] = some (.bl false) := by simp only [dIsi, tyD, kb_list_tuple, Option.map_some]
theorem is_lst_str (x : List D) : dIsi [(.lst x), .ty "str"] = some (.bl false) := by simp only [dIsi, tyD, kb_list_str, Option.map_some]
theorem is_lst_list (x : List D) : dIsi [(.lst x), .ty "list"] = some (.bl true) := by simp only [dIsi, tyD, kb_list_list, Option.map_some]
theorem is_lst_dict (x : List D) : dIsi [(.lst x), .ty "dict"] = some (.bl false) := by simp only [dIsi, tyD, kb_list_dict, Option.map_some]
theorem is_frz_int (x : List D) : dIsi [(.frz x), .ty "int"] = some (.bl false) := by simp only [dIsi, tyD, kb_list_int, Option.map_some]
theorem is_frz_bool (x : List D) : dIsi [(.frz x), .ty "bool"] = some (.bl false) := by simp only [dIsi, tyD, kb_list_bool, Option.map_some]
theorem is_frz_tuple (x : List D) : dIsi [(.frz x), .ty "tuple"] = some (.bl false) := by simp only [dIsi, tyD, kb_list_tuple, Option.map_some]
theorem is_frz_str (x : List D) : dIsi [(.frz x), .ty "str"] = some (.bl false) := by simp only [dIsi, tyD, kb_list_str, Option.map_some]
theorem is_frz_list (x : List D) : dIsi [(.frz x), .ty "list"] = some (.bl true) := by simp only [dIsi, tyD, kb_list_list, Option.map_some]
theorem is_frz_dict (x : List D) : dIsi [(.frz x), .ty "dict"] = some (.bl false) := by simp only [dIsi, tyD, kb_list_dict, Option.map_some]
theorem is_dct_int (x : List (D × D)) : dIsi [(.dct x), .ty "int"] = some (.bl false) := by simp only [dIsi, tyD, kb_dict_int, Option.map_some]
theorem is_dct_bool (x : List (D × D)) : dIsi [(.dct x), .ty "bool"] = some (.bl false) := by simp only [dIsi, tyD, kb_dict_bool, Option.map_some]
theorem is_dct_tuple (x : List (D × D)) : dIsi [(.dct x), .ty "tuple"] = some (.bl false) := by simp only [dIsi, tyD, kb_dict_tuple, Option.map_some]
theorem is_dct_str (x : List (D × D)) : dIsi [(.dct x), .ty "str"] = some (.bl false) := by simp only [dIsi, tyD, kb_dict_str, Option.map_some]
theorem is_dct_list (x : List (D × D)) : dIsi [(.dct x), .ty "list"] = some (.bl false) := by simp only [dIsi, tyD, kb_dict_list, Option.map_some]
theorem is_dct_dict (x : List (D × D)) : dIsi [(.dct x), .ty "dict"] = some (.bl true) := by simp only [dIsi, tyD, kb_dict_dict, Option.map_some]
theorem is_ktp_int (x : List D) : dIsi [(.ktp x), .ty "int"] = some (.bl false) := by simp only [dIsi, tyD, kb_tuple_int, Option.map_some]
theorem is_ktp_bool (x : List D) : dIsi [(.ktp x), .ty "bool"] = some (.bl false) := by simp only [dIsi, tyD, kb_tuple_bool, Option.map_some]
theorem is_ktp_tuple (x : List D) : dIsi [(.ktp x), .ty "tuple"] = some (.bl true) := by simp only [dIsi, tyD, kb_tuple_tuple, Option.map_some]
theorem is_ktp_str (x : List D) : dIsi [(.ktp x), .ty "str"] = some (.bl false) := by simp only [dIsi, tyD, kb_tuple_str, Option.map_some]
theorem is_ktp_list (x : List D) : dIsi [(.ktp x), .ty "list"] = some (.bl false) := by simp only [dIsi, tyD, kb_tuple_list, Option.map_some]
theorem is_ktp_dict (x : List D) : dIsi [(.ktp x), .ty "dict"] = some (.bl false) := by simp only [dIsi, tyD, kb_tuple_dict, Option.map_some]
theorem eq_int (i j : Int) : dEq (.int i) (.int j) = some (.bl (decide (i = j))) := by
  simp [dEq, ready, okD, toPy, PyData.depth, eqB, PyData.eqv, BEq.beq]
theorem ne_int (i j : Int) : dNe (.int i) (.int j) = some (.bl (!decide (i = j))) := by
  simp [dNe, ready, okD, toPy, PyData.depth, eqB, PyData.eqv, BEq.beq]
theorem eq_bl (i j : Bool) : dEq (.bl i) (.bl j) = some (.bl (decide (i = j))) := by
  cases i <;> cases j <;> simp [dEq, ready, okD, toPy, PyData.depth, eqB, PyData.eqv]
theorem ne_bl (i j : Bool) : dNe (.bl i) (.bl j) = some (.bl (!decide (i = j))) := by
  cases i <;> cases j <;> simp [dNe, ready, okD, toPy, PyData.depth, eqB, PyData.eqv]
theorem eq_str (i j : Str) : dEq (.str i) (.str j) = some (.bl (decide (i = j))) := rfl
theorem ne_str (i j : Str) : dNe (.str i) (.str j) = some (.bl (!decide (i = j))) := rfl
theorem tr_bl (b : Bool) : dTruth (.bl b) = some b := rfl
theorem tr_int (b : Int) : dTruth (.int b) = some (b != 0) := rfl
theorem ad_int (i j : Int) : dAdd (.int i) (.int j) = some (.int (i + j)) := rfl
theorem sb_int (i j : Int) : dSub (.int i) (.int j) = some (.int (i - j)) := rfl
theorem ng_int (i : Int) : dNeg (.int i) = some (.int (-i)) := rfl
theorem lt_int' (i j : Int) : dLt (.int i) (.int j) = some (.bl (decide (i < j))) := rfl
theorem le_int' (i j : Int) : dLe (.int i) (.int j) = some (.bl (decide (i ≤ j))) := rfl
theorem gt_int' (i j : Int) : dGt (.int i) (.int j) = some (.bl (decide (j < i))) := rfl
theorem ge_int' (i j : Int) : dGe (.int i) (.int j) = some (.bl (decide (j ≤ i))) := rfl
theorem md_int (i j : Int) : dMod (.int i) (.int j) = if j ≠ 0 then some (.int (i.fmod j)) else none := rfl
theorem fd_int (i j : Int) : dFdiv (.int i) (.int j) = if CFd i j then some (.int (i.fdiv j)) else none := rfl
theorem pw_int (i j : Int) : dPow (.int i) (.int j) = if CPw i j then some (.int (i ^ j.toNat)) else none := rfl
theorem ml_int (i j : Int) : dMul (.int i) (.int j) = if CMulX i j then some (.int (i * j)) else none := rfl
theorem ml_tup (a : List D) (k : Int) : dMul (.tup a) (.int k) = if a.length ≤ 1000 ∧ k ≤ 1000 ∧ -1000 ≤ k then some (.tup (List.replicate k.toNat a).flatten) else none := rfl
theorem ad_tup (a b : List D) : dAdd (.tup a) (.tup b) = if a.length + b.length ≤ 16777216 then some (.tup (a ++ b)) else none := rfl
theorem ad_lst (a b : List D) : dAdd (.lst a) (.lst b) = if a.length + b.length ≤ 16777216 then some (.lst (a ++ b)) else none := rfl
theorem ad_str (a b : Str) : dAdd (.str a) (.str b) = if a.length + b.length ≤ 16777216 then some (.str (a ++ b)) else none := rfl
theorem ab_int (i : Int) : dAbs [.int i] = some (.int (if i < 0 then -i else i)) := rfl
theorem ln_tup (xs : List D) {s : S} : lenT s [.tup xs] = some (.int xs.length) := rfl
theorem ln_lst (xs : List D) {s : S} : lenT s [.lst xs] = some (.int xs.length) := rfl
theorem ln_frz (xs : List D) {s : S} : lenT s [.frz xs] = some (.int xs.length) := rfl
theorem ln_ktp (xs : List D) {s : S} : lenT s [.ktp xs] = some (.int xs.length) := rfl
theorem ln_dct (xs : List (D × D)) {s : S} : lenT s [.dct xs] = some (.int xs.length) := rfl
theorem ln_tok (n : Nat) {s : S} : lenT s [.tok n] = (tokL s n).map fun l => .int l.length := rfl
theorem ix_tok (n : Nat) (i : Int) {s : S} : dIxT s (.tok n) (.int i) = (tokL s n).bind fun ds => atI ds i := rfl
theorem dI_tup (x : List D) : dIter (.tup x) = some x := rfl
theorem dI_lst (x : List D) : dIter (.lst x) = some x := rfl
theorem dI_frz (x : List D) : dIter (.frz x) = some x := rfl
theorem dI_ktp (x : List D) : dIter (.ktp x) = some x := rfl
theorem dI_str (x : Str) : dIter (.str x) = some (strD x) := rfl
theorem to_lst (x : List D) : dTupOf [.lst x] = some (.tup x) := rfl
theorem to_tup (x : List D) : dTupOf [.tup x] = some (.tup x) := rfl
theorem to_frz (x : List D) : dTupOf [.frz x] = some (.tup x) := rfl
theorem lo_lst (x : List D) : dLstOf [.lst x] = some (.lst x) := rfl
theorem lo_tup (x : List D) : dLstOf [.tup x] = some (.lst x) := rfl
theorem lo_frz (x : List D) : dLstOf [.frz x] = some (.lst x) := rfl
theorem al_lst (x : List D) : dAll [.lst x] = (blsOf x).map fun ns => .bl (ns.all id) := rfl
theorem an_lst (x : List D) : dAny [.lst x] = (blsOf x).map fun ns => .bl (ns.any id) := rfl
theorem sm_lst (x : List D) : dSum [.lst x] = (intsOf x).map fun ns => .int ns.sum := rfl
theorem sl_tup (x : List D) (l h : Option Int) : dSl (.tup x) l h = some (.tup (cutL x l h)) := rfl
theorem sl_lst (x : List D) (l h : Option Int) : dSl (.lst x) l h = some (.lst (cutL x l h)) := rfl
theorem sl_frz (x : List D) (l h : Option Int) : dSl (.frz x) l h = some (.lst (cutL x l h)) := rfl
theorem al_add (a b : List D) : dAddL (.lst a) (.lst b) = if a.length + b.length ≤ 16777216 then some (.lst (a ++ b)) else none := rfl
theorem st_int (i : Int) : dStr [.int i] = if i.natAbs.log2 < 1920 then some (.str (toString i)) else none := rfl
theorem st_str (i : Str) : dStr [.str i] = some (.str i) := rfl
theorem nt_int (i : Int) : dInt [.int i] = some (.int i) := rfl
theorem nt_bl (k : Bool) : dInt [.bl k] = some (.int (if k then 1 else 0)) := rfl
theorem mx_int (i j : Int) : dMax [.int i, .int j] = some (.int (if j > i then j else i)) := rfl
theorem mn_int (i j : Int) : dMin [.int i, .int j] = some (.int (if j < i then j else i)) := rfl
theorem nT_tok (n : Nat) (y : D) {s : S} : dNeT s (.tok n) y = (tokL s n).bind fun ds => dNe (.lst ds) y := rfl
theorem is_bl (a b : Bool) : dIs (.bl a) (.bl b) = some (.bl (decide (a = b))) := rfl
theorem isnt_bl (a b : Bool) : dIsnt (.bl a) (.bl b) = some (.bl (!decide (a = b))) := rfl
theorem ex_map {α β : Type} {o : Option α} {f : α → β} {P : β → Prop} : (∃ z, o.map f = some z ∧ P z) = ∃ z, o = some z ∧ P (f z) := by cases o <;> simp
theorem ex_bind {α β : Type} {o : Option α} {f : α → Option β} {P : β → Prop} : (∃ z, o.bind f = some z ∧ P z) = ∃ a, o = some a ∧ ∃ z, f a = some z ∧ P z := by cases o <;> simp
theorem at_0 {a : D} {l : List D} : atI (a :: l) 0 = some a := atI_nat (j := 0) rfl
theorem at_1 {a b : D} {l : List D} : atI (a :: b :: l) 1 = some b := atI_nat (j := 1) rfl
theorem at_2 {a b c : D} {l : List D} : atI (a :: b :: c :: l) 2 = some c := atI_nat (j := 2) rfl
theorem at_3 {a b c d : D} {l : List D} : atI (a :: b :: c :: d :: l) 3 = some d := atI_nat (j := 3) rfl
theorem at_4 {a b c d e : D} {l : List D} : atI (a :: b :: c :: d :: e :: l) 4 = some e := atI_nat (j := 4) rfl
theorem tk_0 {ds : List D} {r : S} : tokL (.l ds :: r) 0 = some ds := rfl
theorem tk_1 {c : Cell} {ds : List D} {r : S} : tokL (c :: .l ds :: r) 1 = some ds := rfl
theorem st_1 {c d e : Cell} {r : S} : (c :: d :: r).set 1 e = c :: e :: r := rfl
theorem atI_of {xs : List D} {i : Int} (h0 : 0 ≤ i) (h1 : i < xs.length) : ∃ d, atI xs i = some d ∧ xs[i.toNat]? = some d := by
  have h : i.toNat < xs.length := by omega
  refine ⟨xs[i.toNat], ?_, List.getElem?_eq_getElem h⟩
  have := atI_nat (xs := xs) (j := i.toNat) (v := xs[i.toNat]) (List.getElem?_eq_getElem h)
  rwa [Int.toNat_of_nonneg h0] at this
theorem fmod_rng {i j : Int} (h : 0 < j) : 0 ≤ i.fmod j ∧ i.fmod j < j := ⟨Int.fmod_nonneg_of_pos i h, Int.fmod_lt_of_pos i h⟩
theorem fdiv_nn {i j : Int} (h0 : 0 ≤ i) (h : 0 < j) : 0 ≤ i.fdiv j := Int.fdiv_nonneg h0 (Int.le_of_lt h)
/-- the law's pen: the script's numbers, the place, what is left -/
def Pen (k : Int) (r : S) (s : S) : Prop := ∃ (ns : List Int) (p left : Int), s = .l (ns.map .int) :: .l [.tok 0, .int p, .int left] :: r ∧ 0 ≤ p ∧ p ≤ k ∧ 0 ≤ left
/-- what a draw hands out -/
def Drawn (m k : Int) (r : S) (a : D) (s : S) : Prop := ∃ i, a = .int i ∧ 0 ≤ i ∧ i < m ∧ Pen (k + 1) r s
theorem bits_le {i : Int} {n : Nat} (h : i.natAbs < 2 ^ n) : Builtin.Int.intBits i ≤ n := by
  unfold Builtin.Int.intBits
  split
  · exact Nat.zero_le _
  · rename_i h0
    have hne : i.natAbs ≠ 0 := by
      intro z
      exact h0 (by simp [Int.natAbs_eq_zero.mp z])
    exact (Nat.log2_lt hne).mpr h
theorem cmul_of {i j : Int} {n m : Nat} (h1 : i.natAbs < 2 ^ n) (h2 : j.natAbs < 2 ^ m) (h : n + m ≤ 134217728 := by decide) : CMulX i j := by
  have a := bits_le h1
  have b := bits_le h2
  unfold CMulX
  omega
theorem cpw_of {i : Int} {n k : Nat} (h1 : i.natAbs < 2 ^ n) (h : n * k ≤ 134217728 := by decide) : CPw i (k : Int) := by
  have a := bits_le h1
  refine ⟨Int.natCast_nonneg k, ?_⟩
  have : Builtin.Int.intBits i * k ≤ n * k := Nat.mul_le_mul_right k a
  have e : ((Builtin.Int.intBits i * k : Nat) : Int) = (Builtin.Int.intBits i : Int) * (k : Int) := by push_cast; rfl
  rw [← e]
  have : (2 : Int) ^ 27 = 134217728 := by decide
  omega
theorem cfd_of {i j : Int} (h0 : j ≠ 0) (h : j.natAbs < 2 ^ 64) : CFd i j := by
  refine ⟨h0, ?_⟩
  unfold Builtin.divisionGoesByPylong
  have : j.natAbs.log2 < 64 := (Nat.log2_lt (by omega)).mpr h
  have hb : (j == 0) = false := by simpa using h0
  simp only [hb]
  simp
  intro h1
  omega
end DL
namespace DL
open PySem PySem.Spec PyProof.Rows L2
/-! ### stops: what hides the rest from the rewriting -/
structure Wit {α : Type} (Q : α → S → Prop) (X : Str → S → Prop) : Type where
structure Wits (N B C : List Sl → S → Prop) (R : D → S → Prop) (X : Str → S → Prop) : Type where
/-- a call -/
def wpc {α : Type} (r : Res α) (Q : α → S → Prop) (X : Str → S → Prop) (_ : Wit Q X) : Prop := wp r Q X
/-- a loop -/
def wpl (clr : List Nat) (g : DG) (b : DS) (ds : List D) (ρ : List Sl) (s : S) (N B C : List Sl → S → Prop) (R : D → S → Prop) (X : Str → S → Prop) (_ : Wits N B C R X) : Prop := wps (loopN clr g b ds (wipeD ρ clr) s) N B C R X
def wpw (clr : List Nat) (c : DT) (b : DS) (ρ : List Sl) (s : S) (N B C : List Sl → S → Prop) (R : D → S → Prop) (X : Str → S → Prop) (_ : Wits N B C R X) : Prop := wps (sWhile clr c b ρ s) N B C R X
/-- a comprehension -/
def wpk (vs : List Nat) (g : DG) (c : DT) (f : DE) (ds : List D) (ρ : List Sl) (s : S) (Q : D → S → Prop) (X : Str → S → Prop) (_ : Wit Q X) : Prop :=
  ds.length ≤ 16777216 ∧ wp (compN g c f (wipeD ρ vs) ds s) (fun ys s2 => Q (.lst ys) s2) fun _ _ => False
/-- slots are set -/
def wpn (ρ : List Sl) : List (Nat × Sl) → (List Sl → Prop) → Prop
  | [], P => P ρ
  | (i, x) :: u, P => wpn (setAt ρ i x) u P
section
variable {α β : Type} {Q Q' : α → S → Prop} {X X' : Str → S → Prop} {ρ : List Sl} {s : S} {N B C : List Sl → S → Prop} {R : D → S → Prop}
theorem wpc_of {r : Res α} {w : Wit Q' X'} (h : wp r Q fun _ _ => False) (i : ∀ a s, Q a s → Q' a s) : wpc r Q' X' w := wp_call h i
theorem wpn_nil {P : List Sl → Prop} : wpn ρ [] P = P ρ := by with_unfolding_all rfl
theorem q_call {F : DFun} {fs : DA} {Q : D → S → Prop} : wp (eCall F fs ρ s) Q X = wp (fs ρ s) (fun ds s1 => wpc (F ds s1) Q X ⟨⟩) X := wp_bind
theorem q_comp {vs : List Nat} {fi : DA} {g : DG} {c : DT} {f : DE} {Q : D → S → Prop} : wp (eComp vs fi g c f ρ s) Q X = wp (fi ρ s) (fun ds s1 => wpk vs g c f ds ρ s1 Q X ⟨⟩) X := by
  unfold eComp
  rw [wp_bind]
  congr 1
  funext ds s1
  unfold wpk
  by_cases h : ds.length ≤ 16777216
  · rw [if_pos h]
    simp only [h, true_and]
    cases compN g c f (wipeD ρ vs) ds s1 <;> (with_unfolding_all rfl)
  · rw [if_neg h]
    simp only [h, false_and]
    with_unfolding_all rfl
theorem q_for {clr : List Nat} {fi : DA} {g : DG} {b : DS} : wps (sFor clr fi g b ρ s) N B C R X = wp (fi ρ s) (fun ds s1 => wpl clr g b ds ρ s1 N B C R X ⟨⟩) X := by
  unfold sFor
  rw [wps_then]
  with_unfolding_all rfl
theorem q_while {clr : List Nat} {c : DT} {b : DS} : wps (sWhile clr c b ρ s) N B C R X = wpw clr c b ρ s N B C R X ⟨⟩ := by with_unfolding_all rfl
theorem q_set {i : Nat} {f : DE} : wps (sSet i f ρ s) N B C R X = wp (f ρ s) (fun d s => wpn ρ [(i, .dat d)] fun ρ => N ρ s) X := wps_set
theorem q_own {i : Nat} {f : DE} : wps (sOwn i f ρ s) N B C R X = wp (f ρ s) (fun d s => ∃ ds, d = .lst ds ∧ wpn ρ [(i, .own ds)] fun ρ => N ρ s) X := wps_own
theorem q_par {i j : Nat} {fs : DA} : wps (sPar i j fs ρ s) N B C R X = wp (fs ρ s) (fun ds s => ∃ d e, ds = [d, e] ∧ wpn ρ [(i, .dat d), (j, .dat e)] fun ρ => N ρ s) X := wps_par
theorem q_par2 {d e : D} {P : D → D → Prop} : (∃ d' e', [d, e] = [d', e'] ∧ P d' e') = P d e := by
  refine propext ⟨fun ⟨d', e', h, q⟩ => ?_, fun q => ⟨d, e, rfl, q⟩⟩
  cases h
  exact q
theorem q_gN {i : Nat} {d : D} {P : List Sl → Prop} : (∃ ρ1, gN i d ρ = some ρ1 ∧ P ρ1) = wpn ρ [(i, .dat d)] P := by
  unfold gN
  rw [set_at]
  simp [wpn]
theorem q_gT {n : Nat} {h : List D → List Sl → Option (List Sl)} {ds : List D} {P : List Sl → Prop} : (∃ ρ1, gT n h (.tup ds) ρ = some ρ1 ∧ P ρ1) = (ds.length = n ∧ ∃ ρ1, h ds ρ = some ρ1 ∧ P ρ1) := by
  unfold gT
  by_cases e : ds.length = n <;> simp [e]
theorem q_gTk {n : Nat} {h : List D → List Sl → Option (List Sl)} {ds : List D} {P : List Sl → Prop} : (∃ ρ1, gT n h (.ktp ds) ρ = some ρ1 ∧ P ρ1) = (ds.length = n ∧ ∃ ρ1, h ds ρ = some ρ1 ∧ P ρ1) := by
  unfold gT
  by_cases e : ds.length = n <;> simp [e]
theorem q_gsNil {P : List Sl → Prop} : (∃ ρ1, gsNil [] ρ = some ρ1 ∧ P ρ1) = P ρ := by simp [gsNil]
theorem q_gsCons {g : DG} {h : List D → List Sl → Option (List Sl)} {d : D} {ds : List D} {P : List Sl → Prop} : (∃ ρ1, gsCons g h (d :: ds) ρ = some ρ1 ∧ P ρ1) = ∃ ρ1, g d ρ = some ρ1 ∧ ∃ ρ2, h ds ρ1 = some ρ2 ∧ P ρ2 := by
  show (∃ ρ1, (g d ρ).bind (fun ρ1 => h ds ρ1) = some ρ1 ∧ P ρ1) = _
  exact ex_bind
theorem q_tbl {b : Bool} {P : Bool → Prop} : (∃ c, D.bl b = .bl c ∧ P c) = P b := by simp
theorem q_oint {i : Int} {P : Int → Prop} : (∃ c, D.int i = .int c ∧ P c) = P i := by simp
theorem q_lst {i : List D} {P : List D → Prop} : (∃ c, D.lst i = .lst c ∧ P c) = P i := by simp
theorem q_r1 {i : Int} {P : Int → Prop} : (∃ j, [D.int i] = [D.int j] ∧ P j) = P i := by
  refine propext ⟨fun ⟨j, h, q⟩ => ?_, fun q => ⟨i, rfl, q⟩⟩
  cases h
  exact q
theorem q_r2 {i j : Int} {P : Int → Int → Prop} : (∃ a b, [D.int i, D.int j] = [D.int a, D.int b] ∧ P a b) = P i j := by
  refine propext ⟨fun ⟨a, b, h, q⟩ => ?_, fun q => ⟨i, j, rfl, q⟩⟩
  cases h
  exact q
theorem q_put {n : Nat} {i : Int} {s3 : S} {d : D} {P : Nat → List D → Nat → Prop} : (∃ n' i' l j, D.tok n = .tok n' ∧ D.int i = .int i' ∧ tokL s3 n' = some l ∧ ixN l.length i' = some j ∧ flat d = true ∧ P n' l j) = ∃ l, tokL s3 n = some l ∧ ∃ j, ixN l.length i = some j ∧ flat d = true ∧ P n l j := by
  refine propext ⟨fun ⟨n', i', l, j, e1, e2, q⟩ => ?_, fun ⟨l, e1, j, e2, e3, q⟩ => ⟨n, i, l, j, rfl, rfl, e1, e2, e3, q⟩⟩
  cases e1; cases e2
  exact ⟨l, q.1, j, q.2.1, q.2.2.1, q.2.2.2⟩
theorem v_0 {r : List Sl} {d : D} {Q : D → S → Prop} : wp (eV 0 (.dat d :: r) s) Q X = Q d s := by with_unfolding_all rfl
theorem n_0 {r : List Sl} {y z : Sl} {u : List (Nat × Sl)} {P : List Sl → Prop} : wpn (y :: r) ((0, z) :: u) P = wpn (z :: r) u P := by with_unfolding_all rfl
theorem v_1 {x0 : Sl} {r : List Sl} {d : D} {Q : D → S → Prop} : wp (eV 1 (x0 :: .dat d :: r) s) Q X = Q d s := by with_unfolding_all rfl
theorem n_1 {x0 : Sl} {r : List Sl} {y z : Sl} {u : List (Nat × Sl)} {P : List Sl → Prop} : wpn (x0 :: y :: r) ((1, z) :: u) P = wpn (x0 :: z :: r) u P := by with_unfolding_all rfl
theorem v_2 {x0 x1 : Sl} {r : List Sl} {d : D} {Q : D → S → Prop} : wp (eV 2 (x0 :: x1 :: .dat d :: r) s) Q X = Q d s := by with_unfolding_all rfl
theorem n_2 {x0 x1 : Sl} {r : List Sl} {y z : Sl} {u : List (Nat × Sl)} {P : List Sl → Prop} : wpn (x0 :: x1 :: y :: r) ((2, z) :: u) P = wpn (x0 :: x1 :: z :: r) u P := by with_unfolding_all rfl
theorem v_3 {x0 x1 x2 : Sl} {r : List Sl} {d : D} {Q : D → S → Prop} : wp (eV 3 (x0 :: x1 :: x2 :: .dat d :: r) s) Q X = Q d s := by with_unfolding_all rfl
theorem n_3 {x0 x1 x2 : Sl} {r : List Sl} {y z : Sl} {u : List (Nat × Sl)} {P : List Sl → Prop} : wpn (x0 :: x1 :: x2 :: y :: r) ((3, z) :: u) P = wpn (x0 :: x1 :: x2 :: z :: r) u P := by with_unfolding_all rfl
theorem v_4 {x0 x1 x2 x3 : Sl} {r : List Sl} {d : D} {Q : D → S → Prop} : wp (eV 4 (x0 :: x1 :: x2 :: x3 :: .dat d :: r) s) Q X = Q d s := by with_unfolding_all rfl
theorem n_4 {x0 x1 x2 x3 : Sl} {r : List Sl} {y z : Sl} {u : List (Nat × Sl)} {P : List Sl → Prop} : wpn (x0 :: x1 :: x2 :: x3 :: y :: r) ((4, z) :: u) P = wpn (x0 :: x1 :: x2 :: x3 :: z :: r) u P := by with_unfolding_all rfl
theorem v_5 {x0 x1 x2 x3 x4 : Sl} {r : List Sl} {d : D} {Q : D → S → Prop} : wp (eV 5 (x0 :: x1 :: x2 :: x3 :: x4 :: .dat d :: r) s) Q X = Q d s := by with_unfolding_all rfl
theorem n_5 {x0 x1 x2 x3 x4 : Sl} {r : List Sl} {y z : Sl} {u : List (Nat × Sl)} {P : List Sl → Prop} : wpn (x0 :: x1 :: x2 :: x3 :: x4 :: y :: r) ((5, z) :: u) P = wpn (x0 :: x1 :: x2 :: x3 :: x4 :: z :: r) u P := by with_unfolding_all rfl
theorem v_6 {x0 x1 x2 x3 x4 x5 : Sl} {r : List Sl} {d : D} {Q : D → S → Prop} : wp (eV 6 (x0 :: x1 :: x2 :: x3 :: x4 :: x5 :: .dat d :: r) s) Q X = Q d s := by with_unfolding_all rfl
theorem n_6 {x0 x1 x2 x3 x4 x5 : Sl} {r : List Sl} {y z : Sl} {u : List (Nat × Sl)} {P : List Sl → Prop} : wpn (x0 :: x1 :: x2 :: x3 :: x4 :: x5 :: y :: r) ((6, z) :: u) P = wpn (x0 :: x1 :: x2 :: x3 :: x4 :: x5 :: z :: r) u P := by with_unfolding_all rfl
theorem v_7 {x0 x1 x2 x3 x4 x5 x6 : Sl} {r : List Sl} {d : D} {Q : D → S → Prop} : wp (eV 7 (x0 :: x1 :: x2 :: x3 :: x4 :: x5 :: x6 :: .dat d :: r) s) Q X = Q d s := by with_unfolding_all rfl
theorem n_7 {x0 x1 x2 x3 x4 x5 x6 : Sl} {r : List Sl} {y z : Sl} {u : List (Nat × Sl)} {P : List Sl → Prop} : wpn (x0 :: x1 :: x2 :: x3 :: x4 :: x5 :: x6 :: y :: r) ((7, z) :: u) P = wpn (x0 :: x1 :: x2 :: x3 :: x4 :: x5 :: x6 :: z :: r) u P := by with_unfolding_all rfl
theorem v_8 {x0 x1 x2 x3 x4 x5 x6 x7 : Sl} {r : List Sl} {d : D} {Q : D → S → Prop} : wp (eV 8 (x0 :: x1 :: x2 :: x3 :: x4 :: x5 :: x6 :: x7 :: .dat d :: r) s) Q X = Q d s := by with_unfolding_all rfl
theorem n_8 {x0 x1 x2 x3 x4 x5 x6 x7 : Sl} {r : List Sl} {y z : Sl} {u : List (Nat × Sl)} {P : List Sl → Prop} : wpn (x0 :: x1 :: x2 :: x3 :: x4 :: x5 :: x6 :: x7 :: y :: r) ((8, z) :: u) P = wpn (x0 :: x1 :: x2 :: x3 :: x4 :: x5 :: x6 :: x7 :: z :: r) u P := by with_unfolding_all rfl
theorem v_9 {x0 x1 x2 x3 x4 x5 x6 x7 x8 : Sl} {r : List Sl} {d : D} {Q : D → S → Prop} : wp (eV 9 (x0 :: x1 :: x2 :: x3 :: x4 :: x5 :: x6 :: x7 :: x8 :: .dat d :: r) s) Q X = Q d s := by with_unfolding_all rfl
theorem n_9 {x0 x1 x2 x3 x4 x5 x6 x7 x8 : Sl} {r : List Sl} {y z : Sl} {u : List (Nat × Sl)} {P : List Sl → Prop} : wpn (x0 :: x1 :: x2 :: x3 :: x4 :: x5 :: x6 :: x7 :: x8 :: y :: r) ((9, z) :: u) P = wpn (x0 :: x1 :: x2 :: x3 :: x4 :: x5 :: x6 :: x7 :: x8 :: z :: r) u P := by with_unfolding_all rfl
theorem v_10 {x0 x1 x2 x3 x4 x5 x6 x7 x8 x9 : Sl} {r : List Sl} {d : D} {Q : D → S → Prop} : wp (eV 10 (x0 :: x1 :: x2 :: x3 :: x4 :: x5 :: x6 :: x7 :: x8 :: x9 :: .dat d :: r) s) Q X = Q d s := by with_unfolding_all rfl
theorem n_10 {x0 x1 x2 x3 x4 x5 x6 x7 x8 x9 : Sl} {r : List Sl} {y z : Sl} {u : List (Nat × Sl)} {P : List Sl → Prop} : wpn (x0 :: x1 :: x2 :: x3 :: x4 :: x5 :: x6 :: x7 :: x8 :: x9 :: y :: r) ((10, z) :: u) P = wpn (x0 :: x1 :: x2 :: x3 :: x4 :: x5 :: x6 :: x7 :: x8 :: x9 :: z :: r) u P := by with_unfolding_all rfl
theorem v_11 {x0 x1 x2 x3 x4 x5 x6 x7 x8 x9 x10 : Sl} {r : List Sl} {d : D} {Q : D → S → Prop} : wp (eV 11 (x0 :: x1 :: x2 :: x3 :: x4 :: x5 :: x6 :: x7 :: x8 :: x9 :: x10 :: .dat d :: r) s) Q X = Q d s := by with_unfolding_all rfl
theorem n_11 {x0 x1 x2 x3 x4 x5 x6 x7 x8 x9 x10 : Sl} {r : List Sl} {y z : Sl} {u : List (Nat × Sl)} {P : List Sl → Prop} : wpn (x0 :: x1 :: x2 :: x3 :: x4 :: x5 :: x6 :: x7 :: x8 :: x9 :: x10 :: y :: r) ((11, z) :: u) P = wpn (x0 :: x1 :: x2 :: x3 :: x4 :: x5 :: x6 :: x7 :: x8 :: x9 :: x10 :: z :: r) u P := by with_unfolding_all rfl
theorem v_12 {x0 x1 x2 x3 x4 x5 x6 x7 x8 x9 x10 x11 : Sl} {r : List Sl} {d : D} {Q : D → S → Prop} : wp (eV 12 (x0 :: x1 :: x2 :: x3 :: x4 :: x5 :: x6 :: x7 :: x8 :: x9 :: x10 :: x11 :: .dat d :: r) s) Q X = Q d s := by with_unfolding_all rfl
theorem n_12 {x0 x1 x2 x3 x4 x5 x6 x7 x8 x9 x10 x11 : Sl} {r : List Sl} {y z : Sl} {u : List (Nat × Sl)} {P : List Sl → Prop} : wpn (x0 :: x1 :: x2 :: x3 :: x4 :: x5 :: x6 :: x7 :: x8 :: x9 :: x10 :: x11 :: y :: r) ((12, z) :: u) P = wpn (x0 :: x1 :: x2 :: x3 :: x4 :: x5 :: x6 :: x7 :: x8 :: x9 :: x10 :: x11 :: z :: r) u P := by with_unfolding_all rfl
theorem v_13 {x0 x1 x2 x3 x4 x5 x6 x7 x8 x9 x10 x11 x12 : Sl} {r : List Sl} {d : D} {Q : D → S → Prop} : wp (eV 13 (x0 :: x1 :: x2 :: x3 :: x4 :: x5 :: x6 :: x7 :: x8 :: x9 :: x10 :: x11 :: x12 :: .dat d :: r) s) Q X = Q d s := by with_unfolding_all rfl
theorem n_13 {x0 x1 x2 x3 x4 x5 x6 x7 x8 x9 x10 x11 x12 : Sl} {r : List Sl} {y z : Sl} {u : List (Nat × Sl)} {P : List Sl → Prop} : wpn (x0 :: x1 :: x2 :: x3 :: x4 :: x5 :: x6 :: x7 :: x8 :: x9 :: x10 :: x11 :: x12 :: y :: r) ((13, z) :: u) P = wpn (x0 :: x1 :: x2 :: x3 :: x4 :: x5 :: x6 :: x7 :: x8 :: x9 :: x10 :: x11 :: x12 :: z :: r) u P := by with_unfolding_all rfl
theorem v_14 {x0 x1 x2 x3 x4 x5 x6 x7 x8 x9 x10 x11 x12 x13 : Sl} {r : List Sl} {d : D} {Q : D → S → Prop} : wp (eV 14 (x0 :: x1 :: x2 :: x3 :: x4 :: x5 :: x6 :: x7 :: x8 :: x9 :: x10 :: x11 :: x12 :: x13 :: .dat d :: r) s) Q X = Q d s := by with_unfolding_all rfl
theorem n_14 {x0 x1 x2 x3 x4 x5 x6 x7 x8 x9 x10 x11 x12 x13 : Sl} {r : List Sl} {y z : Sl} {u : List (Nat × Sl)} {P : List Sl → Prop} : wpn (x0 :: x1 :: x2 :: x3 :: x4 :: x5 :: x6 :: x7 :: x8 :: x9 :: x10 :: x11 :: x12 :: x13 :: y :: r) ((14, z) :: u) P = wpn (x0 :: x1 :: x2 :: x3 :: x4 :: x5 :: x6 :: x7 :: x8 :: x9 :: x10 :: x11 :: x12 :: x13 :: z :: r) u P := by with_unfolding_all rfl
theorem v_15 {x0 x1 x2 x3 x4 x5 x6 x7 x8 x9 x10 x11 x12 x13 x14 : Sl} {r : List Sl} {d : D} {Q : D → S → Prop} : wp (eV 15 (x0 :: x1 :: x2 :: x3 :: x4 :: x5 :: x6 :: x7 :: x8 :: x9 :: x10 :: x11 :: x12 :: x13 :: x14 :: .dat d :: r) s) Q X = Q d s := by with_unfolding_all rfl
theorem n_15 {x0 x1 x2 x3 x4 x5 x6 x7 x8 x9 x10 x11 x12 x13 x14 : Sl} {r : List Sl} {y z : Sl} {u : List (Nat × Sl)} {P : List Sl → Prop} : wpn (x0 :: x1 :: x2 :: x3 :: x4 :: x5 :: x6 :: x7 :: x8 :: x9 :: x10 :: x11 :: x12 :: x13 :: x14 :: y :: r) ((15, z) :: u) P = wpn (x0 :: x1 :: x2 :: x3 :: x4 :: x5 :: x6 :: x7 :: x8 :: x9 :: x10 :: x11 :: x12 :: x13 :: x14 :: z :: r) u P := by with_unfolding_all rfl
theorem v_16 {x0 x1 x2 x3 x4 x5 x6 x7 x8 x9 x10 x11 x12 x13 x14 x15 : Sl} {r : List Sl} {d : D} {Q : D → S → Prop} : wp (eV 16 (x0 :: x1 :: x2 :: x3 :: x4 :: x5 :: x6 :: x7 :: x8 :: x9 :: x10 :: x11 :: x12 :: x13 :: x14 :: x15 :: .dat d :: r) s) Q X = Q d s := by with_unfolding_all rfl
theorem n_16 {x0 x1 x2 x3 x4 x5 x6 x7 x8 x9 x10 x11 x12 x13 x14 x15 : Sl} {r : List Sl} {y z : Sl} {u : List (Nat × Sl)} {P : List Sl → Prop} : wpn (x0 :: x1 :: x2 :: x3 :: x4 :: x5 :: x6 :: x7 :: x8 :: x9 :: x10 :: x11 :: x12 :: x13 :: x14 :: x15 :: y :: r) ((16, z) :: u) P = wpn (x0 :: x1 :: x2 :: x3 :: x4 :: x5 :: x6 :: x7 :: x8 :: x9 :: x10 :: x11 :: x12 :: x13 :: x14 :: x15 :: z :: r) u P := by with_unfolding_all rfl
theorem v_17 {x0 x1 x2 x3 x4 x5 x6 x7 x8 x9 x10 x11 x12 x13 x14 x15 x16 : Sl} {r : List Sl} {d : D} {Q : D → S → Prop} : wp (eV 17 (x0 :: x1 :: x2 :: x3 :: x4 :: x5 :: x6 :: x7 :: x8 :: x9 :: x10 :: x11 :: x12 :: x13 :: x14 :: x15 :: x16 :: .dat d :: r) s) Q X = Q d s := by with_unfolding_all rfl
theorem n_17 {x0 x1 x2 x3 x4 x5 x6 x7 x8 x9 x10 x11 x12 x13 x14 x15 x16 : Sl} {r : List Sl} {y z : Sl} {u : List (Nat × Sl)} {P : List Sl → Prop} : wpn (x0 :: x1 :: x2 :: x3 :: x4 :: x5 :: x6 :: x7 :: x8 :: x9 :: x10 :: x11 :: x12 :: x13 :: x14 :: x15 :: x16 :: y :: r) ((17, z) :: u) P = wpn (x0 :: x1 :: x2 :: x3 :: x4 :: x5 :: x6 :: x7 :: x8 :: x9 :: x10 :: x11 :: x12 :: x13 :: x14 :: x15 :: x16 :: z :: r) u P := by with_unfolding_all rfl
theorem v_18 {x0 x1 x2 x3 x4 x5 x6 x7 x8 x9 x10 x11 x12 x13 x14 x15 x16 x17 : Sl} {r : List Sl} {d : D} {Q : D → S → Prop} : wp (eV 18 (x0 :: x1 :: x2 :: x3 :: x4 :: x5 :: x6 :: x7 :: x8 :: x9 :: x10 :: x11 :: x12 :: x13 :: x14 :: x15 :: x16 :: x17 :: .dat d :: r) s) Q X = Q d s := by with_unfolding_all rfl
theorem n_18 {x0 x1 x2 x3 x4 x5 x6 x7 x8 x9 x10 x11 x12 x13 x14 x15 x16 x17 : Sl} {r : List Sl} {y z : Sl} {u : List (Nat × Sl)} {P : List Sl → Prop} : wpn (x0 :: x1 :: x2 :: x3 :: x4 :: x5 :: x6 :: x7 :: x8 :: x9 :: x10 :: x11 :: x12 :: x13 :: x14 :: x15 :: x16 :: x17 :: y :: r) ((18, z) :: u) P = wpn (x0 :: x1 :: x2 :: x3 :: x4 :: x5 :: x6 :: x7 :: x8 :: x9 :: x10 :: x11 :: x12 :: x13 :: x14 :: x15 :: x16 :: x17 :: z :: r) u P := by with_unfolding_all rfl
theorem v_19 {x0 x1 x2 x3 x4 x5 x6 x7 x8 x9 x10 x11 x12 x13 x14 x15 x16 x17 x18 : Sl} {r : List Sl} {d : D} {Q : D → S → Prop} : wp (eV 19 (x0 :: x1 :: x2 :: x3 :: x4 :: x5 :: x6 :: x7 :: x8 :: x9 :: x10 :: x11 :: x12 :: x13 :: x14 :: x15 :: x16 :: x17 :: x18 :: .dat d :: r) s) Q X = Q d s := by with_unfolding_all rfl
theorem n_19 {x0 x1 x2 x3 x4 x5 x6 x7 x8 x9 x10 x11 x12 x13 x14 x15 x16 x17 x18 : Sl} {r : List Sl} {y z : Sl} {u : List (Nat × Sl)} {P : List Sl → Prop} : wpn (x0 :: x1 :: x2 :: x3 :: x4 :: x5 :: x6 :: x7 :: x8 :: x9 :: x10 :: x11 :: x12 :: x13 :: x14 :: x15 :: x16 :: x17 :: x18 :: y :: r) ((19, z) :: u) P = wpn (x0 :: x1 :: x2 :: x3 :: x4 :: x5 :: x6 :: x7 :: x8 :: x9 :: x10 :: x11 :: x12 :: x13 :: x14 :: x15 :: x16 :: x17 :: x18 :: z :: r) u P := by with_unfolding_all rfl
theorem v_20 {x0 x1 x2 x3 x4 x5 x6 x7 x8 x9 x10 x11 x12 x13 x14 x15 x16 x17 x18 x19 : Sl} {r : List Sl} {d : D} {Q : D → S → Prop} : wp (eV 20 (x0 :: x1 :: x2 :: x3 :: x4 :: x5 :: x6 :: x7 :: x8 :: x9 :: x10 :: x11 :: x12 :: x13 :: x14 :: x15 :: x16 :: x17 :: x18 :: x19 :: .dat d :: r) s) Q X = Q d s := by with_unfolding_all rfl
theorem n_20 {x0 x1 x2 x3 x4 x5 x6 x7 x8 x9 x10 x11 x12 x13 x14 x15 x16 x17 x18 x19 : Sl} {r : List Sl} {y z : Sl} {u : List (Nat × Sl)} {P : List Sl → Prop} : wpn (x0 :: x1 :: x2 :: x3 :: x4 :: x5 :: x6 :: x7 :: x8 :: x9 :: x10 :: x11 :: x12 :: x13 :: x14 :: x15 :: x16 :: x17 :: x18 :: x19 :: y :: r) ((20, z) :: u) P = wpn (x0 :: x1 :: x2 :: x3 :: x4 :: x5 :: x6 :: x7 :: x8 :: x9 :: x10 :: x11 :: x12 :: x13 :: x14 :: x15 :: x16 :: x17 :: x18 :: x19 :: z :: r) u P := by with_unfolding_all rfl
theorem v_21 {x0 x1 x2 x3 x4 x5 x6 x7 x8 x9 x10 x11 x12 x13 x14 x15 x16 x17 x18 x19 x20 : Sl} {r : List Sl} {d : D} {Q : D → S → Prop} : wp (eV 21 (x0 :: x1 :: x2 :: x3 :: x4 :: x5 :: x6 :: x7 :: x8 :: x9 :: x10 :: x11 :: x12 :: x13 :: x14 :: x15 :: x16 :: x17 :: x18 :: x19 :: x20 :: .dat d :: r) s) Q X = Q d s := by with_unfolding_all rfl
theorem n_21 {x0 x1 x2 x3 x4 x5 x6 x7 x8 x9 x10 x11 x12 x13 x14 x15 x16 x17 x18 x19 x20 : Sl} {r : List Sl} {y z : Sl} {u : List (Nat × Sl)} {P : List Sl → Prop} : wpn (x0 :: x1 :: x2 :: x3 :: x4 :: x5 :: x6 :: x7 :: x8 :: x9 :: x10 :: x11 :: x12 :: x13 :: x14 :: x15 :: x16 :: x17 :: x18 :: x19 :: x20 :: y :: r) ((21, z) :: u) P = wpn (x0 :: x1 :: x2 :: x3 :: x4 :: x5 :: x6 :: x7 :: x8 :: x9 :: x10 :: x11 :: x12 :: x13 :: x14 :: x15 :: x16 :: x17 :: x18 :: x19 :: x20 :: z :: r) u P := by with_unfolding_all rfl
theorem v_22 {x0 x1 x2 x3 x4 x5 x6 x7 x8 x9 x10 x11 x12 x13 x14 x15 x16 x17 x18 x19 x20 x21 : Sl} {r : List Sl} {d : D} {Q : D → S → Prop} : wp (eV 22 (x0 :: x1 :: x2 :: x3 :: x4 :: x5 :: x6 :: x7 :: x8 :: x9 :: x10 :: x11 :: x12 :: x13 :: x14 :: x15 :: x16 :: x17 :: x18 :: x19 :: x20 :: x21 :: .dat d :: r) s) Q X = Q d s := by with_unfolding_all rfl
theorem n_22 {x0 x1 x2 x3 x4 x5 x6 x7 x8 x9 x10 x11 x12 x13 x14 x15 x16 x17 x18 x19 x20 x21 : Sl} {r : List Sl} {y z : Sl} {u : List (Nat × Sl)} {P : List Sl → Prop} : wpn (x0 :: x1 :: x2 :: x3 :: x4 :: x5 :: x6 :: x7 :: x8 :: x9 :: x10 :: x11 :: x12 :: x13 :: x14 :: x15 :: x16 :: x17 :: x18 :: x19 :: x20 :: x21 :: y :: r) ((22, z) :: u) P = wpn (x0 :: x1 :: x2 :: x3 :: x4 :: x5 :: x6 :: x7 :: x8 :: x9 :: x10 :: x11 :: x12 :: x13 :: x14 :: x15 :: x16 :: x17 :: x18 :: x19 :: x20 :: x21 :: z :: r) u P := by with_unfolding_all rfl
theorem v_23 {x0 x1 x2 x3 x4 x5 x6 x7 x8 x9 x10 x11 x12 x13 x14 x15 x16 x17 x18 x19 x20 x21 x22 : Sl} {r : List Sl} {d : D} {Q : D → S → Prop} : wp (eV 23 (x0 :: x1 :: x2 :: x3 :: x4 :: x5 :: x6 :: x7 :: x8 :: x9 :: x10 :: x11 :: x12 :: x13 :: x14 :: x15 :: x16 :: x17 :: x18 :: x19 :: x20 :: x21 :: x22 :: .dat d :: r) s) Q X = Q d s := by with_unfolding_all rfl
theorem n_23 {x0 x1 x2 x3 x4 x5 x6 x7 x8 x9 x10 x11 x12 x13 x14 x15 x16 x17 x18 x19 x20 x21 x22 : Sl} {r : List Sl} {y z : Sl} {u : List (Nat × Sl)} {P : List Sl → Prop} : wpn (x0 :: x1 :: x2 :: x3 :: x4 :: x5 :: x6 :: x7 :: x8 :: x9 :: x10 :: x11 :: x12 :: x13 :: x14 :: x15 :: x16 :: x17 :: x18 :: x19 :: x20 :: x21 :: x22 :: y :: r) ((23, z) :: u) P = wpn (x0 :: x1 :: x2 :: x3 :: x4 :: x5 :: x6 :: x7 :: x8 :: x9 :: x10 :: x11 :: x12 :: x13 :: x14 :: x15 :: x16 :: x17 :: x18 :: x19 :: x20 :: x21 :: x22 :: z :: r) u P := by with_unfolding_all rfl
theorem v_24 {x0 x1 x2 x3 x4 x5 x6 x7 x8 x9 x10 x11 x12 x13 x14 x15 x16 x17 x18 x19 x20 x21 x22 x23 : Sl} {r : List Sl} {d : D} {Q : D → S → Prop} : wp (eV 24 (x0 :: x1 :: x2 :: x3 :: x4 :: x5 :: x6 :: x7 :: x8 :: x9 :: x10 :: x11 :: x12 :: x13 :: x14 :: x15 :: x16 :: x17 :: x18 :: x19 :: x20 :: x21 :: x22 :: x23 :: .dat d :: r) s) Q X = Q d s := by with_unfolding_all rfl
theorem n_24 {x0 x1 x2 x3 x4 x5 x6 x7 x8 x9 x10 x11 x12 x13 x14 x15 x16 x17 x18 x19 x20 x21 x22 x23 : Sl} {r : List Sl} {y z : Sl} {u : List (Nat × Sl)} {P : List Sl → Prop} : wpn (x0 :: x1 :: x2 :: x3 :: x4 :: x5 :: x6 :: x7 :: x8 :: x9 :: x10 :: x11 :: x12 :: x13 :: x14 :: x15 :: x16 :: x17 :: x18 :: x19 :: x20 :: x21 :: x22 :: x23 :: y :: r) ((24, z) :: u) P = wpn (x0 :: x1 :: x2 :: x3 :: x4 :: x5 :: x6 :: x7 :: x8 :: x9 :: x10 :: x11 :: x12 :: x13 :: x14 :: x15 :: x16 :: x17 :: x18 :: x19 :: x20 :: x21 :: x22 :: x23 :: z :: r) u P := by with_unfolding_all rfl
theorem v_25 {x0 x1 x2 x3 x4 x5 x6 x7 x8 x9 x10 x11 x12 x13 x14 x15 x16 x17 x18 x19 x20 x21 x22 x23 x24 : Sl} {r : List Sl} {d : D} {Q : D → S → Prop} : wp (eV 25 (x0 :: x1 :: x2 :: x3 :: x4 :: x5 :: x6 :: x7 :: x8 :: x9 :: x10 :: x11 :: x12 :: x13 :: x14 :: x15 :: x16 :: x17 :: x18 :: x19 :: x20 :: x21 :: x22 :: x23 :: x24 :: .dat d :: r) s) Q X = Q d s := by with_unfolding_all rfl
theorem n_25 {x0 x1 x2 x3 x4 x5 x6 x7 x8 x9 x10 x11 x12 x13 x14 x15 x16 x17 x18 x19 x20 x21 x22 x23 x24 : Sl} {r : List Sl} {y z : Sl} {u : List (Nat × Sl)} {P : List Sl → Prop} : wpn (x0 :: x1 :: x2 :: x3 :: x4 :: x5 :: x6 :: x7 :: x8 :: x9 :: x10 :: x11 :: x12 :: x13 :: x14 :: x15 :: x16 :: x17 :: x18 :: x19 :: x20 :: x21 :: x22 :: x23 :: x24 :: y :: r) ((25, z) :: u) P = wpn (x0 :: x1 :: x2 :: x3 :: x4 :: x5 :: x6 :: x7 :: x8 :: x9 :: x10 :: x11 :: x12 :: x13 :: x14 :: x15 :: x16 :: x17 :: x18 :: x19 :: x20 :: x21 :: x22 :: x23 :: x24 :: z :: r) u P := by with_unfolding_all rfl
theorem v_26 {x0 x1 x2 x3 x4 x5 x6 x7 x8 x9 x10 x11 x12 x13 x14 x15 x16 x17 x18 x19 x20 x21 x22 x23 x24 x25 : Sl} {r : List Sl} {d : D} {Q : D → S → Prop} : wp (eV 26 (x0 :: x1 :: x2 :: x3 :: x4 :: x5 :: x6 :: x7 :: x8 :: x9 :: x10 :: x11 :: x12 :: x13 :: x14 :: x15 :: x16 :: x17 :: x18 :: x19 :: x20 :: x21 :: x22 :: x23 :: x24 :: x25 :: .dat d :: r) s) Q X = Q d s := by with_unfolding_all rfl
theorem n_26 {x0 x1 x2 x3 x4 x5 x6 x7 x8 x9 x10 x11 x12 x13 x14 x15 x16 x17 x18 x19 x20 x21 x22 x23 x24 x25 : Sl} {r : List Sl} {y z : Sl} {u : List (Nat × Sl)} {P : List Sl → Prop} : wpn (x0 :: x1 :: x2 :: x3 :: x4 :: x5 :: x6 :: x7 :: x8 :: x9 :: x10 :: x11 :: x12 :: x13 :: x14 :: x15 :: x16 :: x17 :: x18 :: x19 :: x20 :: x21 :: x22 :: x23 :: x24 :: x25 :: y :: r) ((26, z) :: u) P = wpn (x0 :: x1 :: x2 :: x3 :: x4 :: x5 :: x6 :: x7 :: x8 :: x9 :: x10 :: x11 :: x12 :: x13 :: x14 :: x15 :: x16 :: x17 :: x18 :: x19 :: x20 :: x21 :: x22 :: x23 :: x24 :: x25 :: z :: r) u P := by with_unfolding_all rfl
theorem v_27 {x0 x1 x2 x3 x4 x5 x6 x7 x8 x9 x10 x11 x12 x13 x14 x15 x16 x17 x18 x19 x20 x21 x22 x23 x24 x25 x26 : Sl} {r : List Sl} {d : D} {Q : D → S → Prop} : wp (eV 27 (x0 :: x1 :: x2 :: x3 :: x4 :: x5 :: x6 :: x7 :: x8 :: x9 :: x10 :: x11 :: x12 :: x13 :: x14 :: x15 :: x16 :: x17 :: x18 :: x19 :: x20 :: x21 :: x22 :: x23 :: x24 :: x25 :: x26 :: .dat d :: r) s) Q X = Q d s := by with_unfolding_all rfl
theorem n_27 {x0 x1 x2 x3 x4 x5 x6 x7 x8 x9 x10 x11 x12 x13 x14 x15 x16 x17 x18 x19 x20 x21 x22 x23 x24 x25 x26 : Sl} {r : List Sl} {y z : Sl} {u : List (Nat × Sl)} {P : List Sl → Prop} : wpn (x0 :: x1 :: x2 :: x3 :: x4 :: x5 :: x6 :: x7 :: x8 :: x9 :: x10 :: x11 :: x12 :: x13 :: x14 :: x15 :: x16 :: x17 :: x18 :: x19 :: x20 :: x21 :: x22 :: x23 :: x24 :: x25 :: x26 :: y :: r) ((27, z) :: u) P = wpn (x0 :: x1 :: x2 :: x3 :: x4 :: x5 :: x6 :: x7 :: x8 :: x9 :: x10 :: x11 :: x12 :: x13 :: x14 :: x15 :: x16 :: x17 :: x18 :: x19 :: x20 :: x21 :: x22 :: x23 :: x24 :: x25 :: x26 :: z :: r) u P := by with_unfolding_all rfl
theorem v_28 {x0 x1 x2 x3 x4 x5 x6 x7 x8 x9 x10 x11 x12 x13 x14 x15 x16 x17 x18 x19 x20 x21 x22 x23 x24 x25 x26 x27 : Sl} {r : List Sl} {d : D} {Q : D → S → Prop} : wp (eV 28 (x0 :: x1 :: x2 :: x3 :: x4 :: x5 :: x6 :: x7 :: x8 :: x9 :: x10 :: x11 :: x12 :: x13 :: x14 :: x15 :: x16 :: x17 :: x18 :: x19 :: x20 :: x21 :: x22 :: x23 :: x24 :: x25 :: x26 :: x27 :: .dat d :: r) s) Q X = Q d s := by with_unfolding_all rfl
theorem n_28 {x0 x1 x2 x3 x4 x5 x6 x7 x8 x9 x10 x11 x12 x13 x14 x15 x16 x17 x18 x19 x20 x21 x22 x23 x24 x25 x26 x27 : Sl} {r : List Sl} {y z : Sl} {u : List (Nat × Sl)} {P : List Sl → Prop} : wpn (x0 :: x1 :: x2 :: x3 :: x4 :: x5 :: x6 :: x7 :: x8 :: x9 :: x10 :: x11 :: x12 :: x13 :: x14 :: x15 :: x16 :: x17 :: x18 :: x19 :: x20 :: x21 :: x22 :: x23 :: x24 :: x25 :: x26 :: x27 :: y :: r) ((28, z) :: u) P = wpn (x0 :: x1 :: x2 :: x3 :: x4 :: x5 :: x6 :: x7 :: x8 :: x9 :: x10 :: x11 :: x12 :: x13 :: x14 :: x15 :: x16 :: x17 :: x18 :: x19 :: x20 :: x21 :: x22 :: x23 :: x24 :: x25 :: x26 :: x27 :: z :: r) u P := by with_unfolding_all rfl
theorem v_29 {x0 x1 x2 x3 x4 x5 x6 x7 x8 x9 x10 x11 x12 x13 x14 x15 x16 x17 x18 x19 x20 x21 x22 x23 x24 x25 x26 x27 x28 : Sl} {r : List Sl} {d : D} {Q : D → S → Prop} : wp (eV 29 (x0 :: x1 :: x2 :: x3 :: x4 :: x5 :: x6 :: x7 :: x8 :: x9 :: x10 :: x11 :: x12 :: x13 :: x14 :: x15 :: x16 :: x17 :: x18 :: x19 :: x20 :: x21 :: x22 :: x23 :: x24 :: x25 :: x26 :: x27 :: x28 :: .dat d :: r) s) Q X = Q d s := by with_unfolding_all rfl
theorem n_29 {x0 x1 x2 x3 x4 x5 x6 x7 x8 x9 x10 x11 x12 x13 x14 x15 x16 x17 x18 x19 x20 x21 x22 x23 x24 x25 x26 x27 x28 : Sl} {r : List Sl} {y z : Sl} {u : List (Nat × Sl)} {P : List Sl → Prop} : wpn (x0 :: x1 :: x2 :: x3 :: x4 :: x5 :: x6 :: x7 :: x8 :: x9 :: x10 :: x11 :: x12 :: x13 :: x14 :: x15 :: x16 :: x17 :: x18 :: x19 :: x20 :: x21 :: x22 :: x23 :: x24 :: x25 :: x26 :: x27 :: x28 :: y :: r) ((29, z) :: u) P = wpn (x0 :: x1 :: x2 :: x3 :: x4 :: x5 :: x6 :: x7 :: x8 :: x9 :: x10 :: x11 :: x12 :: x13 :: x14 :: x15 :: x16 :: x17 :: x18 :: x19 :: x20 :: x21 :: x22 :: x23 :: x24 :: x25 :: x26 :: x27 :: x28 :: z :: r) u P := by with_unfolding_all rfl
theorem v_30 {x0 x1 x2 x3 x4 x5 x6 x7 x8 x9 x10 x11 x12 x13 x14 x15 x16 x17 x18 x19 x20 x21 x22 x23 x24 x25 x26 x27 x28 x29 : Sl} {r : List Sl} {d : D} {Q : D → S → Prop} : wp (eV 30 (x0 :: x1 :: x2 :: x3 :: x4 :: x5 :: x6 :: x7 :: x8 :: x9 :: x10 :: x11 :: x12 :: x13 :: x14 :: x15 :: x16 :: x17 :: x18 :: x19 :: x20 :: x21 :: x22 :: x23 :: x24 :: x25 :: x26 :: x27 :: x28 :: x29 :: .dat d :: r) s) Q X = Q d s := by with_unfolding_all rfl
theorem n_30 {x0 x1 x2 x3 x4 x5 x6 x7 x8 x9 x10 x11 x12 x13 x14 x15 x16 x17 x18 x19 x20 x21 x22 x23 x24 x25 x26 x27 x28 x29 : Sl} {r : List Sl} {y z : Sl} {u : List (Nat × Sl)} {P : List Sl → Prop} : wpn (x0 :: x1 :: x2 :: x3 :: x4 :: x5 :: x6 :: x7 :: x8 :: x9 :: x10 :: x11 :: x12 :: x13 :: x14 :: x15 :: x16 :: x17 :: x18 :: x19 :: x20 :: x21 :: x22 :: x23 :: x24 :: x25 :: x26 :: x27 :: x28 :: x29 :: y :: r) ((30, z) :: u) P = wpn (x0 :: x1 :: x2 :: x3 :: x4 :: x5 :: x6 :: x7 :: x8 :: x9 :: x10 :: x11 :: x12 :: x13 :: x14 :: x15 :: x16 :: x17 :: x18 :: x19 :: x20 :: x21 :: x22 :: x23 :: x24 :: x25 :: x26 :: x27 :: x28 :: x29 :: z :: r) u P := by with_unfolding_all rfl
theorem v_31 {x0 x1 x2 x3 x4 x5 x6 x7 x8 x9 x10 x11 x12 x13 x14 x15 x16 x17 x18 x19 x20 x21 x22 x23 x24 x25 x26 x27 x28 x29 x30 : Sl} {r : List Sl} {d : D} {Q : D → S → Prop} : wp (eV 31 (x0 :: x1 :: x2 :: x3 :: x4 :: x5 :: x6 :: x7 :: x8 :: x9 :: x10 :: x11 :: x12 :: x13 :: x14 :: x15 :: x16 :: x17 :: x18 :: x19 :: x20 :: x21 :: x22 :: x23 :: x24 :: x25 :: x26 :: x27 :: x28 :: x29 :: x30 :: .dat d :: r) s) Q X = Q d s := by with_unfolding_all rfl
theorem n_31 {x0 x1 x2 x3 x4 x5 x6 x7 x8 x9 x10 x11 x12 x13 x14 x15 x16 x17 x18 x19 x20 x21 x22 x23 x24 x25 x26 x27 x28 x29 x30 : Sl} {r : List Sl} {y z : Sl} {u : List (Nat × Sl)} {P : List Sl → Prop} : wpn (x0 :: x1 :: x2 :: x3 :: x4 :: x5 :: x6 :: x7 :: x8 :: x9 :: x10 :: x11 :: x12 :: x13 :: x14 :: x15 :: x16 :: x17 :: x18 :: x19 :: x20 :: x21 :: x22 :: x23 :: x24 :: x25 :: x26 :: x27 :: x28 :: x29 :: x30 :: y :: r) ((31, z) :: u) P = wpn (x0 :: x1 :: x2 :: x3 :: x4 :: x5 :: x6 :: x7 :: x8 :: x9 :: x10 :: x11 :: x12 :: x13 :: x14 :: x15 :: x16 :: x17 :: x18 :: x19 :: x20 :: x21 :: x22 :: x23 :: x24 :: x25 :: x26 :: x27 :: x28 :: x29 :: x30 :: z :: r) u P := by with_unfolding_all rfl
theorem v_32 {x0 x1 x2 x3 x4 x5 x6 x7 x8 x9 x10 x11 x12 x13 x14 x15 x16 x17 x18 x19 x20 x21 x22 x23 x24 x25 x26 x27 x28 x29 x30 x31 : Sl} {r : List Sl} {d : D} {Q : D → S → Prop} : wp (eV 32 (x0 :: x1 :: x2 :: x3 :: x4 :: x5 :: x6 :: x7 :: x8 :: x9 :: x10 :: x11 :: x12 :: x13 :: x14 :: x15 :: x16 :: x17 :: x18 :: x19 :: x20 :: x21 :: x22 :: x23 :: x24 :: x25 :: x26 :: x27 :: x28 :: x29 :: x30 :: x31 :: .dat d :: r) s) Q X = Q d s := by with_unfolding_all rfl
theorem n_32 {x0 x1 x2 x3 x4 x5 x6 x7 x8 x9 x10 x11 x12 x13 x14 x15 x16 x17 x18 x19 x20 x21 x22 x23 x24 x25 x26 x27 x28 x29 x30 x31 : Sl} {r : List Sl} {y z : Sl} {u : List (Nat × Sl)} {P : List Sl → Prop} : wpn (x0 :: x1 :: x2 :: x3 :: x4 :: x5 :: x6 :: x7 :: x8 :: x9 :: x10 :: x11 :: x12 :: x13 :: x14 :: x15 :: x16 :: x17 :: x18 :: x19 :: x20 :: x21 :: x22 :: x23 :: x24 :: x25 :: x26 :: x27 :: x28 :: x29 :: x30 :: x31 :: y :: r) ((32, z) :: u) P = wpn (x0 :: x1 :: x2 :: x3 :: x4 :: x5 :: x6 :: x7 :: x8 :: x9 :: x10 :: x11 :: x12 :: x13 :: x14 :: x15 :: x16 :: x17 :: x18 :: x19 :: x20 :: x21 :: x22 :: x23 :: x24 :: x25 :: x26 :: x27 :: x28 :: x29 :: x30 :: x31 :: z :: r) u P := by with_unfolding_all rfl
theorem v_33 {x0 x1 x2 x3 x4 x5 x6 x7 x8 x9 x10 x11 x12 x13 x14 x15 x16 x17 x18 x19 x20 x21 x22 x23 x24 x25 x26 x27 x28 x29 x30 x31 x32 : Sl} {r : List Sl} {d : D} {Q : D → S → Prop} : wp (eV 33 (x0 :: x1 :: x2 :: x3 :: x4 :: x5 :: x6 :: x7 :: x8 :: x9 :: x10 :: x11 :: x12 :: x13 :: x14 :: x15 :: x16 :: x17 :: x18 :: x19 :: x20 :: x21 :: x22 :: x23 :: x24 :: x25 :: x26 :: x27 :: x28 :: x29 :: x30 :: x31 :: x32 :: .dat d :: r) s) Q X = Q d s := by with_unfolding_all rfl
theorem n_33 {x0 x1 x2 x3 x4 x5 x6 x7 x8 x9 x10 x11 x12 x13 x14 x15 x16 x17 x18 x19 x20 x21 x22 x23 x24 x25 x26 x27 x28 x29 x30 x31 x32 : Sl} {r : List Sl} {y z : Sl} {u : List (Nat × Sl)} {P : List Sl → Prop} : wpn (x0 :: x1 :: x2 :: x3 :: x4 :: x5 :: x6 :: x7 :: x8 :: x9 :: x10 :: x11 :: x12 :: x13 :: x14 :: x15 :: x16 :: x17 :: x18 :: x19 :: x20 :: x21 :: x22 :: x23 :: x24 :: x25 :: x26 :: x27 :: x28 :: x29 :: x30 :: x31 :: x32 :: y :: r) ((33, z) :: u) P = wpn (x0 :: x1 :: x2 :: x3 :: x4 :: x5 :: x6 :: x7 :: x8 :: x9 :: x10 :: x11 :: x12 :: x13 :: x14 :: x15 :: x16 :: x17 :: x18 :: x19 :: x20 :: x21 :: x22 :: x23 :: x24 :: x25 :: x26 :: x27 :: x28 :: x29 :: x30 :: x31 :: x32 :: z :: r) u P := by with_unfolding_all rfl
theorem x_is_non_int  {P : D → Prop} : (∃ z, dIsi [.non, .ty "int"] = some z ∧ P z) = P (.bl false) := by rw [is_non_int]; exact ex_some
theorem x_is_non_bool  {P : D → Prop} : (∃ z, dIsi [.non, .ty "bool"] = some z ∧ P z) = P (.bl false) := by rw [is_non_bool]; exact ex_some
theorem x_is_non_tuple  {P : D → Prop} : (∃ z, dIsi [.non, .ty "tuple"] = some z ∧ P z) = P (.bl false) := by rw [is_non_tuple]; exact ex_some
theorem x_is_non_str  {P : D → Prop} : (∃ z, dIsi [.non, .ty "str"] = some z ∧ P z) = P (.bl false) := by rw [is_non_str]; exact ex_some
theorem x_is_non_list  {P : D → Prop} : (∃ z, dIsi [.non, .ty "list"] = some z ∧ P z) = P (.bl false) := by rw [is_non_list]; exact ex_some
theorem x_is_non_dict  {P : D → Prop} : (∃ z, dIsi [.non, .ty "dict"] = some z ∧ P z) = P (.bl false) := by rw [is_non_dict]; exact ex_some
theorem x_is_bl_int {b : Bool} {P : D → Prop} : (∃ z, dIsi [(.bl b), .ty "int"] = some z ∧ P z) = P (.bl true) := by rw [is_bl_int]; exact ex_some
theorem x_is_bl_bool {b : Bool} {P : D → Prop} : (∃ z, dIsi [(.bl b), .ty "bool"] = some z ∧ P z) = P (.bl true) := by rw [is_bl_bool]; exact ex_some
theorem x_is_bl_tuple {b : Bool} {P : D → Prop} : (∃ z, dIsi [(.bl b), .ty "tuple"] = some z ∧ P z) = P (.bl false) := by rw [is_bl_tuple]; exact ex_some
theorem x_is_bl_str {b : Bool} {P : D → Prop} : (∃ z, dIsi [(.bl b), .ty "str"] = some z ∧ P z) = P (.bl false) := by rw [is_bl_str]; exact ex_some
theorem x_is_bl_list {b : Bool} {P : D → Prop} : (∃ z, dIsi [(.bl b), .ty "list"] = some z ∧ P z) = P (.bl false) := by rw [is_bl_list]; exact ex_some
theorem x_is_bl_dict {b : Bool} {P : D → Prop} : (∃ z, dIsi [(.bl b), .ty "dict"] = some z ∧ P z) = P (.bl false) := by rw [is_bl_dict]; exact ex_some
theorem x_is_int_int {i : Int} {P : D → Prop} : (∃ z, dIsi [(.int i), .ty "int"] = some z ∧ P z) = P (.bl true) := by rw [is_int_int]; exact ex_some
theorem x_is_int_bool {i : Int} {P : D → Prop} : (∃ z, dIsi [(.int i), .ty "bool"] = some z ∧ P z) = P (.bl false) := by rw [is_int_bool]; exact ex_some
theorem x_is_int_tuple {i : Int} {P : D → Prop} : (∃ z, dIsi [(.int i), .ty "tuple"] = some z ∧ P z) = P (.bl false) := by rw [is_int_tuple]; exact ex_some
theorem x_is_int_str {i : Int} {P : D → Prop} : (∃ z, dIsi [(.int i), .ty "str"] = some z ∧ P z) = P (.bl false) := by rw [is_int_str]; exact ex_some
theorem x_is_int_list {i : Int} {P : D → Prop} : (∃ z, dIsi [(.int i), .ty "list"] = some z ∧ P z) = P (.bl false) := by rw [is_int_list]; exact ex_some
theorem x_is_int_dict {i : Int} {P : D → Prop} : (∃ z, dIsi [(.int i), .ty "dict"] = some z ∧ P z) = P (.bl false) := by rw [is_int_dict]; exact ex_some
theorem x_is_str_int {x : Str} {P : D → Prop} : (∃ z, dIsi [(.str x), .ty "int"] = some z ∧ P z) = P (.bl false) := by rw [is_str_int]; exact ex_some
theorem x_is_str_bool {x : Str} {P : D → Prop} : (∃ z, dIsi [(.str x), .ty "bool"] = some z ∧ P z) = P (.bl false) := by rw [is_str_bool]; exact ex_some
theorem x_is_str_tuple {x : Str} {P : D → Prop} : (∃ z, dIsi [(.str x), .ty "tuple"] = some z ∧ P z) = P (.bl false) := by rw [is_str_tuple]; exact ex_some
theorem x_is_str_str {x : Str} {P : D → Prop} : (∃ z, dIsi [(.str x), .ty "str"] = some z ∧ P z) = P (.bl true) := by rw [is_str_str]; exact ex_some
theorem x_is_str_list {x : Str} {P : D → Prop} : (∃ z, dIsi [(.str x), .ty "list"] = some z ∧ P z) = P (.bl false) := by rw [is_str_list]; exact ex_some
theorem x_is_str_dict {x : Str} {P : D → Prop} : (∃ z, dIsi [(.str x), .ty "dict"] = some z ∧ P z) = P (.bl false) := by rw [is_str_dict]; exact ex_some
theorem x_is_tup_int {x : List D} {P : D → Prop} : (∃ z, dIsi [(.tup x), .ty "int"] = some z ∧ P z) = P (.bl false) := by rw [is_tup_int]; exact ex_some
theorem x_is_tup_bool {x : List D} {P : D → Prop} : (∃ z, dIsi [(.tup x), .ty "bool"] = some z ∧ P z) = P (.bl false) := by rw [is_tup_bool]; exact ex_some
theorem x_is_tup_tuple {x : List D} {P : D → Prop} : (∃ z, dIsi [(.tup x), .ty "tuple"] = some z ∧ P z) = P (.bl true) := by rw [is_tup_tuple]; exact ex_some
theorem x_is_tup_str {x : List D} {P : D → Prop} : (∃ z, dIsi [(.tup x), .ty "str"] = some z ∧ P z) = P (.bl false) := by rw [is_tup_str]; exact ex_some
theorem x_is_tup_list {x : List D} {P : D → Prop} : (∃ z, dIsi [(.tup x), .ty "list"] = some z ∧ P z) = P (.bl false) := by rw [is_tup_list]; exact ex_some
theorem x_is_tup_dict {x : List D} {P : D → Prop} : (∃ z, dIsi [(.tup x), .ty "dict"] = some z ∧ P z) = P (.bl false) := by rw [is_tup_dict]; exact ex_some
theorem x_is_lst_int {x : List D} {P : D → Prop} : (∃ z, dIsi [(.lst x), .ty "int"] = some z ∧ P z) = P (.bl false) := by rw [is_lst_int]; exact ex_some
theorem x_is_lst_bool {x : List D} {P : D → Prop} : (∃ z, dIsi [(.lst x), .ty "bool"] = some z ∧ P z) = P (.bl false) := by rw [is_lst_bool]; exact ex_some
theorem x_is_lst_tuple {x : List D} {P : D → Prop} : (∃ z, dIsi [(.lst x), .ty "tuple"] = some z ∧ P z) = P (.bl false) := by rw [is_lst_tuple]; exact ex_some
theorem x_is_lst_str {x : List D} {P : D → Prop} : (∃ z, dIsi [(.lst x), .ty "str"] = some z ∧ P z) = P (.bl false) := by rw [is_lst_str]; exact ex_some
theorem x_is_lst_list {x : List D} {P : D → Prop} : (∃ z, dIsi [(.lst x), .ty "list"] = some z ∧ P z) = P (.bl true) := by rw [is_lst_list]; exact ex_some
theorem x_is_lst_dict {x : List D} {P : D → Prop} : (∃ z, dIsi [(.lst x), .ty "dict"] = some z ∧ P z) = P (.bl false) := by rw [is_lst_dict]; exact ex_some
theorem x_is_frz_int {x : List D} {P : D → Prop} : (∃ z, dIsi [(.frz x), .ty "int"] = some z ∧ P z) = P (.bl false) := by rw [is_frz_int]; exact ex_some
theorem x_is_frz_bool {x : List D} {P : D → Prop} : (∃ z, dIsi [(.frz x), .ty "bool"] = some z ∧ P z) = P (.bl false) := by rw [is_frz_bool]; exact ex_some
theorem x_is_frz_tuple {x : List D} {P : D → Prop} : (∃ z, dIsi [(.frz x), .ty "tuple"] = some z ∧ P z) = P (.bl false) := by rw [is_frz_tuple]; exact ex_some
theorem x_is_frz_str {x : List D} {P : D → Prop} : (∃ z, dIsi [(.frz x), .ty "str"] = some z ∧ P z) = P (.bl false) := by rw [is_frz_str]; exact ex_some
theorem x_is_frz_list {x : List D} {P : D → Prop} : (∃ z, dIsi [(.frz x), .ty "list"] = some z ∧ P z) = P (.bl true) := by rw [is_frz_list]; exact ex_some
theorem x_is_frz_dict {x : List D} {P : D → Prop} : (∃ z, dIsi [(.frz x), .ty "dict"] = some z ∧ P z) = P (.bl false) := by rw [is_frz_dict]; exact ex_some
theorem x_is_dct_int {x : List (D × D)} {P : D → Prop} : (∃ z, dIsi [(.dct x), .ty "int"] = some z ∧ P z) = P (.bl false) := by rw [is_dct_int]; exact ex_some
theorem x_is_dct_bool {x : List (D × D)} {P : D → Prop} : (∃ z, dIsi [(.dct x), .ty "bool"] = some z ∧ P z) = P (.bl false) := by rw [is_dct_bool]; exact ex_some
theorem x_is_dct_tuple {x : List (D × D)} {P : D → Prop} : (∃ z, dIsi [(.dct x), .ty "tuple"] = some z ∧ P z) = P (.bl false) := by rw [is_dct_tuple]; exact ex_some
theorem x_is_dct_str {x : List (D × D)} {P : D → Prop} : (∃ z, dIsi [(.dct x), .ty "str"] = some z ∧ P z) = P (.bl false) := by rw [is_dct_str]; exact ex_some
theorem x_is_dct_list {x : List (D × D)} {P : D → Prop} : (∃ z, dIsi [(.dct x), .ty "list"] = some z ∧ P z) = P (.bl false) := by rw [is_dct_list]; exact ex_some
theorem x_is_dct_dict {x : List (D × D)} {P : D → Prop} : (∃ z, dIsi [(.dct x), .ty "dict"] = some z ∧ P z) = P (.bl true) := by rw [is_dct_dict]; exact ex_some
theorem x_is_ktp_int {x : List D} {P : D → Prop} : (∃ z, dIsi [(.ktp x), .ty "int"] = some z ∧ P z) = P (.bl false) := by rw [is_ktp_int]; exact ex_some
theorem x_is_ktp_bool {x : List D} {P : D → Prop} : (∃ z, dIsi [(.ktp x), .ty "bool"] = some z ∧ P z) = P (.bl false) := by rw [is_ktp_bool]; exact ex_some
theorem x_is_ktp_tuple {x : List D} {P : D → Prop} : (∃ z, dIsi [(.ktp x), .ty "tuple"] = some z ∧ P z) = P (.bl true) := by rw [is_ktp_tuple]; exact ex_some
theorem x_is_ktp_str {x : List D} {P : D → Prop} : (∃ z, dIsi [(.ktp x), .ty "str"] = some z ∧ P z) = P (.bl false) := by rw [is_ktp_str]; exact ex_some
theorem x_is_ktp_list {x : List D} {P : D → Prop} : (∃ z, dIsi [(.ktp x), .ty "list"] = some z ∧ P z) = P (.bl false) := by rw [is_ktp_list]; exact ex_some
theorem x_is_ktp_dict {x : List D} {P : D → Prop} : (∃ z, dIsi [(.ktp x), .ty "dict"] = some z ∧ P z) = P (.bl false) := by rw [is_ktp_dict]; exact ex_some
theorem x_eq_int {i j : Int} {P : D → Prop} : (∃ z, dEq (.int i) (.int j) = some z ∧ P z) = P (.bl (decide (i = j))) := by rw [eq_int]; exact ex_some
theorem x_ne_int {i j : Int} {P : D → Prop} : (∃ z, dNe (.int i) (.int j) = some z ∧ P z) = P (.bl (!decide (i = j))) := by rw [ne_int]; exact ex_some
theorem x_eq_bl {i j : Bool} {P : D → Prop} : (∃ z, dEq (.bl i) (.bl j) = some z ∧ P z) = P (.bl (decide (i = j))) := by rw [eq_bl]; exact ex_some
theorem x_ne_bl {i j : Bool} {P : D → Prop} : (∃ z, dNe (.bl i) (.bl j) = some z ∧ P z) = P (.bl (!decide (i = j))) := by rw [ne_bl]; exact ex_some
theorem x_eq_str {i j : Str} {P : D → Prop} : (∃ z, dEq (.str i) (.str j) = some z ∧ P z) = P (.bl (decide (i = j))) := by rw [eq_str]; exact ex_some
theorem x_ne_str {i j : Str} {P : D → Prop} : (∃ z, dNe (.str i) (.str j) = some z ∧ P z) = P (.bl (!decide (i = j))) := by rw [ne_str]; exact ex_some
theorem x_tr_bl {b : Bool} {P : Bool → Prop} : (∃ z, dTruth (.bl b) = some z ∧ P z) = P b := by rw [tr_bl]; exact ex_some
theorem x_tr_int {b : Int} {P : Bool → Prop} : (∃ z, dTruth (.int b) = some z ∧ P z) = P (b != 0) := by rw [tr_int]; exact ex_some
theorem x_ad_int {i j : Int} {P : D → Prop} : (∃ z, dAdd (.int i) (.int j) = some z ∧ P z) = P (.int (i + j)) := by rw [ad_int]; exact ex_some
theorem x_sb_int {i j : Int} {P : D → Prop} : (∃ z, dSub (.int i) (.int j) = some z ∧ P z) = P (.int (i - j)) := by rw [sb_int]; exact ex_some
theorem x_ng_int {i : Int} {P : D → Prop} : (∃ z, dNeg (.int i) = some z ∧ P z) = P (.int (-i)) := by rw [ng_int]; exact ex_some
theorem x_lt_int {i j : Int} {P : D → Prop} : (∃ z, dLt (.int i) (.int j) = some z ∧ P z) = P (.bl (decide (i < j))) := by rw [lt_int']; exact ex_some
theorem x_le_int {i j : Int} {P : D → Prop} : (∃ z, dLe (.int i) (.int j) = some z ∧ P z) = P (.bl (decide (i ≤ j))) := by rw [le_int']; exact ex_some
theorem x_gt_int {i j : Int} {P : D → Prop} : (∃ z, dGt (.int i) (.int j) = some z ∧ P z) = P (.bl (decide (j < i))) := by rw [gt_int']; exact ex_some
theorem x_ge_int {i j : Int} {P : D → Prop} : (∃ z, dGe (.int i) (.int j) = some z ∧ P z) = P (.bl (decide (j ≤ i))) := by rw [ge_int']; exact ex_some
theorem x_md_int {i j : Int} {P : D → Prop} : (∃ z, dMod (.int i) (.int j) = some z ∧ P z) = (j ≠ 0 ∧ P (.int (i.fmod j))) := by rw [md_int]; exact ex_ite
theorem x_fd_int {i j : Int} {P : D → Prop} : (∃ z, dFdiv (.int i) (.int j) = some z ∧ P z) = (CFd i j ∧ P (.int (i.fdiv j))) := by rw [fd_int]; exact ex_ite
theorem x_pw_int {i j : Int} {P : D → Prop} : (∃ z, dPow (.int i) (.int j) = some z ∧ P z) = (CPw i j ∧ P (.int (i ^ j.toNat))) := by rw [pw_int]; exact ex_ite
theorem x_ml_int {i j : Int} {P : D → Prop} : (∃ z, dMul (.int i) (.int j) = some z ∧ P z) = (CMulX i j ∧ P (.int (i * j))) := by rw [ml_int]; exact ex_ite
theorem x_ml_tup {a : List D} {k : Int} {P : D → Prop} : (∃ z, dMul (.tup a) (.int k) = some z ∧ P z) = ((a.length ≤ 1000 ∧ k ≤ 1000 ∧ -1000 ≤ k) ∧ P (.tup (List.replicate k.toNat a).flatten)) := by rw [ml_tup]; exact ex_ite
theorem x_ad_tup {a b : List D} {P : D → Prop} : (∃ z, dAdd (.tup a) (.tup b) = some z ∧ P z) = (a.length + b.length ≤ 16777216 ∧ P (.tup (a ++ b))) := by rw [ad_tup]; exact ex_ite
theorem x_ad_lst {a b : List D} {P : D → Prop} : (∃ z, dAdd (.lst a) (.lst b) = some z ∧ P z) = (a.length + b.length ≤ 16777216 ∧ P (.lst (a ++ b))) := by rw [ad_lst]; exact ex_ite
theorem x_ad_str {a b : Str} {P : D → Prop} : (∃ z, dAdd (.str a) (.str b) = some z ∧ P z) = (a.length + b.length ≤ 16777216 ∧ P (.str (a ++ b))) := by rw [ad_str]; exact ex_ite
theorem x_ab_int {i : Int} {P : D → Prop} : (∃ z, dAbs [.int i] = some z ∧ P z) = P (.int (if i < 0 then -i else i)) := by rw [ab_int]; exact ex_some
theorem x_ln_tup {xs : List D} {s : S} {P : D → Prop} : (∃ z, lenT s [.tup xs] = some z ∧ P z) = P (.int xs.length) := by rw [ln_tup]; exact ex_some
theorem x_ln_lst {xs : List D} {s : S} {P : D → Prop} : (∃ z, lenT s [.lst xs] = some z ∧ P z) = P (.int xs.length) := by rw [ln_lst]; exact ex_some
theorem x_ln_frz {xs : List D} {s : S} {P : D → Prop} : (∃ z, lenT s [.frz xs] = some z ∧ P z) = P (.int xs.length) := by rw [ln_frz]; exact ex_some
theorem x_ln_ktp {xs : List D} {s : S} {P : D → Prop} : (∃ z, lenT s [.ktp xs] = some z ∧ P z) = P (.int xs.length) := by rw [ln_ktp]; exact ex_some
theorem x_ln_dct {xs : List (D × D)} {s : S} {P : D → Prop} : (∃ z, lenT s [.dct xs] = some z ∧ P z) = P (.int xs.length) := by rw [ln_dct]; exact ex_some
theorem x_dI_tup {x : List D} {P : List D → Prop} : (∃ z, dIter (.tup x) = some z ∧ P z) = P x := by rw [dI_tup]; exact ex_some
theorem x_dI_lst {x : List D} {P : List D → Prop} : (∃ z, dIter (.lst x) = some z ∧ P z) = P x := by rw [dI_lst]; exact ex_some
theorem x_dI_frz {x : List D} {P : List D → Prop} : (∃ z, dIter (.frz x) = some z ∧ P z) = P x := by rw [dI_frz]; exact ex_some
theorem x_dI_ktp {x : List D} {P : List D → Prop} : (∃ z, dIter (.ktp x) = some z ∧ P z) = P x := by rw [dI_ktp]; exact ex_some
theorem x_dI_str {x : Str} {P : List D → Prop} : (∃ z, dIter (.str x) = some z ∧ P z) = P (strD x) := by rw [dI_str]; exact ex_some
theorem x_to_lst {x : List D} {P : D → Prop} : (∃ z, dTupOf [.lst x] = some z ∧ P z) = P (.tup x) := by rw [to_lst]; exact ex_some
theorem x_to_tup {x : List D} {P : D → Prop} : (∃ z, dTupOf [.tup x] = some z ∧ P z) = P (.tup x) := by rw [to_tup]; exact ex_some
theorem x_to_frz {x : List D} {P : D → Prop} : (∃ z, dTupOf [.frz x] = some z ∧ P z) = P (.tup x) := by rw [to_frz]; exact ex_some
theorem x_lo_lst {x : List D} {P : D → Prop} : (∃ z, dLstOf [.lst x] = some z ∧ P z) = P (.lst x) := by rw [lo_lst]; exact ex_some
theorem x_lo_tup {x : List D} {P : D → Prop} : (∃ z, dLstOf [.tup x] = some z ∧ P z) = P (.lst x) := by rw [lo_tup]; exact ex_some
theorem x_lo_frz {x : List D} {P : D → Prop} : (∃ z, dLstOf [.frz x] = some z ∧ P z) = P (.lst x) := by rw [lo_frz]; exact ex_some
theorem x_sl_tup {x : List D} {l h : Option Int} {P : D → Prop} : (∃ z, dSl (.tup x) l h = some z ∧ P z) = P (.tup (cutL x l h)) := by rw [sl_tup]; exact ex_some
theorem x_sl_lst {x : List D} {l h : Option Int} {P : D → Prop} : (∃ z, dSl (.lst x) l h = some z ∧ P z) = P (.lst (cutL x l h)) := by rw [sl_lst]; exact ex_some
theorem x_sl_frz {x : List D} {l h : Option Int} {P : D → Prop} : (∃ z, dSl (.frz x) l h = some z ∧ P z) = P (.lst (cutL x l h)) := by rw [sl_frz]; exact ex_some
theorem x_al_add {a b : List D} {P : D → Prop} : (∃ z, dAddL (.lst a) (.lst b) = some z ∧ P z) = (a.length + b.length ≤ 16777216 ∧ P (.lst (a ++ b))) := by rw [al_add]; exact ex_ite
theorem x_st_int {i : Int} {P : D → Prop} : (∃ z, dStr [.int i] = some z ∧ P z) = (i.natAbs.log2 < 1920 ∧ P (.str (toString i))) := by rw [st_int]; exact ex_ite
theorem x_st_str {i : Str} {P : D → Prop} : (∃ z, dStr [.str i] = some z ∧ P z) = P (.str i) := by rw [st_str]; exact ex_some
theorem x_nt_int {i : Int} {P : D → Prop} : (∃ z, dInt [.int i] = some z ∧ P z) = P (.int i) := by rw [nt_int]; exact ex_some
theorem x_nt_bl {k : Bool} {P : D → Prop} : (∃ z, dInt [.bl k] = some z ∧ P z) = P (.int (if k then 1 else 0)) := by rw [nt_bl]; exact ex_some
theorem x_mx_int {i j : Int} {P : D → Prop} : (∃ z, dMax [.int i, .int j] = some z ∧ P z) = P (.int (if j > i then j else i)) := by rw [mx_int]; exact ex_some
theorem x_mn_int {i j : Int} {P : D → Prop} : (∃ z, dMin [.int i, .int j] = some z ∧ P z) = P (.int (if j < i then j else i)) := by rw [mn_int]; exact ex_some
theorem x_is_bl {a b : Bool} {P : D → Prop} : (∃ z, dIs (.bl a) (.bl b) = some z ∧ P z) = P (.bl (decide (a = b))) := by rw [is_bl]; exact ex_some
theorem x_isnt_bl {a b : Bool} {P : D → Prop} : (∃ z, dIsnt (.bl a) (.bl b) = some z ∧ P z) = P (.bl (!decide (a = b))) := by rw [isnt_bl]; exact ex_some
theorem x_chain {o : Option D} {b : Bool} {P : Bool → Prop} (h : o = some (.bl b)) : (∃ c, o = some (.bl c) ∧ P c) = P b := by subst h; simp
theorem x_cle (i j : Int) {P : Bool → Prop} : (∃ c, dLe (.int i) (.int j) = some (.bl c) ∧ P c) = P (decide (i ≤ j)) := x_chain rfl
theorem x_clt (i j : Int) {P : Bool → Prop} : (∃ c, dLt (.int i) (.int j) = some (.bl c) ∧ P c) = P (decide (i < j)) := x_chain rfl
theorem x_lntok (n : Nat) {s : S} {P : D → Prop} : (∃ z, lenT s [.tok n] = some z ∧ P z) = ∃ l, tokL s n = some l ∧ P (.int (l.length : Int)) := by rw [ln_tok]; exact ex_map
theorem x_ixtok (n : Nat) (i : Int) {s : S} {P : D → Prop} : (∃ z, dIxT s (.tok n) (.int i) = some z ∧ P z) = ∃ l, tokL s n = some l ∧ ∃ z, atI l i = some z ∧ P z := by rw [ix_tok]; exact ex_bind
theorem x_ixtup (xs : List D) (i : Int) {s : S} {P : D → Prop} : (∃ z, dIxT s (.tup xs) (.int i) = some z ∧ P z) = ∃ z, atI xs i = some z ∧ P z := rfl
theorem x_ixlst (xs : List D) (i : Int) {s : S} {P : D → Prop} : (∃ z, dIxT s (.lst xs) (.int i) = some z ∧ P z) = ∃ z, atI xs i = some z ∧ P z := rfl
theorem x_ixfrz (xs : List D) (i : Int) {s : S} {P : D → Prop} : (∃ z, dIxT s (.frz xs) (.int i) = some z ∧ P z) = ∃ z, atI xs i = some z ∧ P z := rfl
theorem x_ixktp (xs : List D) (i : Int) {s : S} {P : D → Prop} : (∃ z, dIxT s (.ktp xs) (.int i) = some z ∧ P z) = ∃ z, atI xs i = some z ∧ P z := rfl
theorem x_all (x : List D) {P : D → Prop} : (∃ z, dAll [.lst x] = some z ∧ P z) = ∃ l, blsOf x = some l ∧ P (.bl (l.all id)) := by rw [al_lst]; exact ex_map
theorem x_any (x : List D) {P : D → Prop} : (∃ z, dAny [.lst x] = some z ∧ P z) = ∃ l, blsOf x = some l ∧ P (.bl (l.any id)) := by rw [an_lst]; exact ex_map
theorem x_sum (x : List D) {P : D → Prop} : (∃ z, dSum [.lst x] = some z ∧ P z) = ∃ l, intsOf x = some l ∧ P (.int l.sum) := by rw [sm_lst]; exact ex_map
theorem x_neT (n : Nat) {y : D} {s : S} {P : D → Prop} : (∃ z, dNeT s (.tok n) y = some z ∧ P z) = ∃ l, tokL s n = some l ∧ ∃ z, dNe (.lst l) y = some z ∧ P z := by rw [nT_tok]; exact ex_bind
theorem x_at0 {a : D} {l : List D} {P : D → Prop} : (∃ z, atI (a :: l) 0 = some z ∧ P z) = P a := by rw [at_0]; exact ex_some
theorem x_at1 {a b : D} {l : List D} {P : D → Prop} : (∃ z, atI (a :: b :: l) 1 = some z ∧ P z) = P b := by rw [at_1]; exact ex_some
theorem x_at2 {a b c : D} {l : List D} {P : D → Prop} : (∃ z, atI (a :: b :: c :: l) 2 = some z ∧ P z) = P c := by rw [at_2]; exact ex_some
theorem x_at3 {a b c d : D} {l : List D} {P : D → Prop} : (∃ z, atI (a :: b :: c :: d :: l) 3 = some z ∧ P z) = P d := by rw [at_3]; exact ex_some
theorem x_at4 {a b c d e : D} {l : List D} {P : D → Prop} : (∃ z, atI (a :: b :: c :: d :: e :: l) 4 = some z ∧ P z) = P e := by rw [at_4]; exact ex_some
theorem x_tk0 {ds : List D} {r : S} {P : List D → Prop} : (∃ l, tokL (.l ds :: r) 0 = some l ∧ P l) = P ds := by rw [tk_0]; exact ex_some
theorem x_tk1 {c : Cell} {ds : List D} {r : S} {P : List D → Prop} : (∃ l, tokL (c :: .l ds :: r) 1 = some l ∧ P l) = P ds := by rw [tk_1]; exact ex_some
theorem ixN_lit {n : Nat} {j : Nat} (h : j < n) : ixN n (j : Int) = some j := by
  have := atI_nat (xs := List.range n) (j := j) (v := j) (by simp [h])
  unfold atI at this
  rw [List.length_range] at this
  cases e : ixN n (j : Int) with
  | none => rw [e] at this; cases this
  | some k =>
    rw [e] at this
    have h2 : (List.range n)[k]? = some j := this
    obtain ⟨hk, e2⟩ := List.getElem?_eq_some_iff.mp h2
    rw [List.getElem_range] at e2
    rw [e2]
theorem x_ix30 {P : Nat → Prop} : (∃ j, ixN 3 0 = some j ∧ P j) = P 0 := by rw [show ixN 3 0 = some 0 from ixN_lit (j := 0) (by decide)]; exact ex_some
theorem x_ix31 {P : Nat → Prop} : (∃ j, ixN 3 1 = some j ∧ P j) = P 1 := by rw [show ixN 3 1 = some 1 from ixN_lit (j := 1) (by decide)]; exact ex_some
theorem x_ix32 {P : Nat → Prop} : (∃ j, ixN 3 2 = some j ∧ P j) = P 2 := by rw [show ixN 3 2 = some 2 from ixN_lit (j := 2) (by decide)]; exact ex_some
/-! ### sizes of numbers -/
def Bd (i : Int) (n : Nat) : Prop := i.natAbs < 2 ^ n
theorem bd_of {i : Int} {n : Nat} (h : i.natAbs < 2 ^ n) : Bd i n := h
theorem bd_mono {i : Int} {n m : Nat} (h : Bd i n) (k : n ≤ m) : Bd i m := Nat.lt_of_lt_of_le h (Nat.pow_le_pow_right (by decide) k)
theorem bd_add {i j : Int} {n m : Nat} (h : Bd i n) (k : Bd j m) : Bd (i + j) (n + m + 1) := by
  have a := bd_mono h (show n ≤ n + m by omega)
  have b := bd_mono k (show m ≤ n + m by omega)
  unfold Bd at a b ⊢
  rw [Nat.pow_succ]
  have := Int.natAbs_add_le i j
  omega
theorem bd_sub {i j : Int} {n m : Nat} (h : Bd i n) (k : Bd j m) : Bd (i - j) (n + m + 1) := by
  have a := bd_mono h (show n ≤ n + m by omega)
  have b := bd_mono k (show m ≤ n + m by omega)
  unfold Bd at a b ⊢
  rw [Nat.pow_succ]
  omega
theorem bd_mul {i j : Int} {n m : Nat} (h : Bd i n) (k : Bd j m) : Bd (i * j) (n + m) := by
  unfold Bd at h k ⊢
  rw [Int.natAbs_mul, Nat.pow_add]
  exact Nat.mul_lt_mul'' h k
theorem bd_pow {i : Int} {n : Nat} (h : Bd i n) : ∀ k : Nat, Bd (i ^ k) (n * k + 1)
  | 0 => by show (i ^ 0).natAbs < 2 ^ (n * 0 + 1); simp
  | k + 1 => by
    have := bd_mul (bd_pow h k) h
    rw [Int.pow_succ]
    exact bd_mono this (by rw [Nat.mul_succ]; omega)
theorem bd_fmod {i j : Int} {n : Nat} (h : 0 < j) (k : Bd j n) : Bd (i.fmod j) n := by
  have := fmod_rng (i := i) h
  unfold Bd at k ⊢
  omega
theorem bd_rng {i j : Int} {n : Nat} (h0 : 0 ≤ i) (h1 : i ≤ j) (k : j < 2 ^ n) : Bd i n := by
  unfold Bd
  have : ((i.natAbs : Nat) : Int) < ((2 ^ n : Nat) : Int) := by push_cast; omega
  exact Int.ofNat_lt.mp this
theorem c_mul {i j : Int} {n m : Nat} (h1 : Bd i n) (h2 : Bd j m) (h : n + m ≤ 134217728) : CMulX i j := cmul_of h1 h2 h
theorem c_pow3 {i : Int} {n : Nat} (h1 : Bd i n) (h : n * 3 ≤ 134217728) : CPw i 3 := cpw_of (k := 3) h1 h
theorem c_pow5 {i : Int} {n : Nat} (h1 : Bd i n) (h : n * 5 ≤ 134217728) : CPw i 5 := cpw_of (k := 5) h1 h
theorem c_pow2 {i : Int} {n : Nat} (h1 : Bd i n) (h : n * 2 ≤ 134217728) : CPw i 2 := cpw_of (k := 2) h1 h
theorem ne_nil {xs : List D} (h : ready (.lst xs) = true) : dNe (.lst xs) (.lst []) = some (.bl (!xs.isEmpty)) := by
  have : (if ready (.lst xs) && ready (.lst []) then some (D.bl (!eqB (.lst xs) (.lst []))) else none) = dNe (.lst xs) (.lst []) := rfl
  rw [← this, h, show ready (.lst []) = true from rfl]
  simp only [Bool.and_self, if_true]
  cases xs with
  | nil => simp [eqB, toPy, toPys, PyData.eqv, PyData.eqvAll]
  | cons x l => simp [eqB, toPy, toPys, PyData.eqv, PyData.eqvAll]
theorem at_map {ns : List Int} {i : Int} (h0 : 0 ≤ i) (h1 : i < (ns.map D.int).length) : ∃ c : Int, atI (ns.map D.int) i = some (.int c) := by
  obtain ⟨d, e, h⟩ := atI_of h0 h1
  rw [List.getElem?_map] at h
  obtain ⟨c, _, rfl⟩ := Option.map_eq_some_iff.mp h
  exact ⟨c, e⟩
/-! ### pure comprehensions -/
theorem comp_map {g : DG} {c : DT} {f : DE} {ρ : List Sl} {s : S} {ds : List D} (F : D → D) (h : ∀ d ∈ ds, ∃ ρ1, g d ρ = some ρ1 ∧ wp (c ρ1 s) (fun b s1 => b = true ∧ s1 = s) (fun _ _ => False) ∧ wp (f ρ1 s) (fun y s1 => y = F d ∧ s1 = s) fun _ _ => False) :
    wp (compN g c f ρ ds s) (fun ys s' => ys = ds.map F ∧ s' = s) fun _ _ => False := by
  refine comp_inv (fun i acc s' => acc = (ds.take i).map F ∧ s' = s) ⟨by simp, rfl⟩ (fun i d acc s' e ⟨e1, e2⟩ => ?_) (fun ys s' ⟨e1, e2⟩ => ⟨by rw [e1, List.take_length], e2⟩)
  subst e2
  obtain ⟨ρ1, h1, h2, h3⟩ := h d (List.mem_of_getElem? e)
  refine ⟨ρ1, h1, wp_mono h2 (fun b s1 ⟨eb, es⟩ => ?_) fun _ _ z => z⟩
  subst eb es
  simp only [if_true]
  refine wp_mono h3 (fun y s2 ⟨ey, es⟩ => ⟨?_, es⟩) fun _ _ z => z
  rw [ey, e1, List.take_add_one, e, List.map_append]
  with_unfolding_all rfl
theorem wpk_of {vs : List Nat} {g : DG} {c : DT} {f : DE} {ds : List D} {Q : D → S → Prop} {w : Wit Q X} {P : List D → S → Prop} (hl : ds.length ≤ 16777216) (h : wp (compN g c f (wipeD ρ vs) ds s) P fun _ _ => False) (i : ∀ ys s', P ys s' → Q (.lst ys) s') : wpk vs g c f ds ρ s Q X w :=
  ⟨hl, wp_mono h (fun ys s' q => i _ _ q) fun _ _ z => z⟩
theorem wpl_of {clr : List Nat} {g : DG} {b : DS} {ds : List D} {w : Wits N B C R X} (I : Nat → List Sl → S → Prop) (h0 : I 0 (wipeD ρ clr) s)
    (hs : ∀ i d ρ s, ds[i]? = some d → I i ρ s → ∃ ρ1, g d ρ = some ρ1 ∧ wps (b ρ1 s) (fun ρ2 s2 => I (i + 1) (wipeD ρ2 clr) s2) (fun ρ2 s2 => N (wipeD ρ2 clr) s2) (fun ρ2 s2 => I (i + 1) (wipeD ρ2 clr) s2) R X)
    (hn : ∀ ρ s, I ds.length ρ s → N ρ s) : wpl clr g b ds ρ s N B C R X w := loop_inv I h0 hs hn
theorem wpw_of {clr : List Nat} {c : DT} {b : DS} {w : Wits N B C R X} (I : List Sl → S → Prop) (m : List Sl → Nat) (h0 : I (wipeD ρ clr) s)
    (hs : ∀ ρ s, I ρ s → wp (c ρ s) (fun k s1 => if k = true then wps (b ρ s1) (fun ρ2 s2 => I (wipeD ρ2 clr) s2 ∧ m (wipeD ρ2 clr) < m ρ) N (fun ρ2 s2 => I (wipeD ρ2 clr) s2 ∧ m (wipeD ρ2 clr) < m ρ) R X else N ρ s1) X) : wpw clr c b ρ s N B C R X w := wps_while I m h0 hs
/-! ### what may be shown, and how long it is -/
mutual
def wt : D → Nat
  | .non => 4
  | .bl _ => 5
  | .int i => i.natAbs.log2 + 2
  | .str x => 10 * x.length + 2
  | .tup xs => wts xs + 3
  | .lst xs => wts xs + 3
  | .frz xs => wts xs + 3
  | .dct kvs => wtk kvs + 3
  | .tok _ => 4
  | .ty _ => 4
  | .glb _ => 4
  | .ktp xs => wts xs + 3
  | .exc _ => 4
  | .fd _ _ => 4
def wts : List D → Nat
  | [] => 0
  | x :: xs => wt x + 2 + wts xs
def wtk : List (D × D) → Nat
  | [] => 0
  | (k, v) :: r => wt k + wt v + 4 + wtk r
end
mutual
def sOk : D → Bool
  | .str x => x.cps.toList.all fun c => decide (c < 16 ^ 8)
  | .tup xs => sOks xs
  | .lst xs => sOks xs
  | .frz xs => sOks xs
  | .dct kvs => sOkk kvs
  | .ktp xs => sOks xs
  | _ => true
def sOks : List D → Bool
  | [] => true
  | x :: xs => sOk x && sOks xs
def sOkk : List (D × D) → Bool
  | [] => true
  | (k, v) :: r => sOk k && sOk v && sOkk r
end
theorem shownAll_len : ∀ xs : List PyData, (PyData.shownAll xs).length = xs.length
  | [] => by simp [PyData.shownAll]
  | x :: xs => by simp [PyData.shownAll, shownAll_len xs]
mutual
theorem shown_wt : ∀ d : D, sOk d = true → (toPy d).shown.length ≤ wt d
  | .non, _ => by simp only [toPy, wt]; exact Nat.le_refl _
  | .bl b, _ => by
    have e : (PyData.shown (.bool b)).length ≤ 5 := by cases b <;> decide
    simpa only [toPy, wt] using e
  | .int i, _ => by
    have e := int_text_length_le (a := i) (k := i.natAbs.log2 + 1) (by omega) (by omega)
    simp only [toPy, wt, PyData.shown]
    rw [PySem.ofString_length]
    exact e
  | .str x, h => by
    have e := StrLaws.reprText_len x (by simpa only [sOk, List.all_eq_true, decide_eq_true_eq] using h)
    simpa only [toPy, wt, PyData.shown] using e
  | .tup xs, h => by
    have h1 := shown_wts xs (by simpa only [sOk] using h)
    have h2 := tupleText_len_le (PyData.shownAll (toPys xs))
    simp only [toPy, wt, PyData.shown]
    rw [shownAll_len] at h2
    omega
  | .lst xs, h => by
    have h1 := shown_wts xs (by simpa only [sOk] using h)
    have h2 := listText_len_le (PyData.shownAll (toPys xs))
    simp only [toPy, wt, PyData.shown]
    rw [shownAll_len] at h2
    omega
  | .frz xs, h => by
    have h1 := shown_wts xs (by simpa only [sOk] using h)
    have h2 := listText_len_le (PyData.shownAll (toPys xs))
    simp only [toPy, wt, PyData.shown]
    rw [shownAll_len] at h2
    omega
  | .ktp xs, h => by
    have h1 := shown_wts xs (by simpa only [sOk] using h)
    have h2 := tupleText_len_le (PyData.shownAll (toPys xs))
    simp only [toPy, wt, PyData.shown]
    rw [shownAll_len] at h2
    omega
  | .dct kvs, h => by
    have h1 := shown_wtk kvs (by simpa only [sOk] using h)
    have h2 := dictText_len_le (PyData.shownKv (toPyKv kvs))
    rw [PyData.shownKv_length] at h2
    simp only [toPy, wt, PyData.shown]
    omega
  | .tok _, _ => by simp only [toPy, wt]; exact Nat.le_refl _
  | .ty _, _ => by simp only [toPy, wt]; exact Nat.le_refl _
  | .glb _, _ => by simp only [toPy, wt]; exact Nat.le_refl _
  | .exc _, _ => by simp only [toPy, wt]; exact Nat.le_refl _
  | .fd _ _, _ => by simp only [toPy, wt]; exact Nat.le_refl _
theorem shown_wts : ∀ xs : List D, sOks xs = true → ((PyData.shownAll (toPys xs)).map (·.length)).sum + 2 * (toPys xs).length ≤ wts xs
  | [], _ => by simp [toPys, PyData.shownAll, wts]
  | x :: xs, h => by
    simp only [sOks, Bool.and_eq_true] at h
    have h1 := shown_wt x h.1
    have h2 := shown_wts xs h.2
    simp only [toPys, PyData.shownAll, wts, List.map_cons, List.sum_cons, List.length_cons]
    omega
theorem shown_wtk : ∀ kvs : List (D × D), sOkk kvs = true → ((PyData.shownKv (toPyKv kvs)).map (·.length)).sum + 2 * (toPyKv kvs).length ≤ wtk kvs
  | [], _ => by simp [toPyKv, PyData.shownKv, wtk]
  | (k, v) :: r, h => by
    simp only [sOkk, Bool.and_eq_true] at h
    have h1 := shown_wt k h.1.1
    have h2 := shown_wt v h.1.2
    have h3 := shown_wtk r h.2
    have e2 : ((toPy k).shown ++ ": " ++ (toPy v).shown).length = (toPy k).shown.length + 2 + (toPy v).shown.length := by
      rw [strLen_append, strLen_append]; rfl
    simp only [toPyKv, PyData.shownKv, wtk, List.map_cons, List.sum_cons, List.length_cons]
    omega
end
/-- d may be shown: no deeper than n, no longer than w -/
structure ShyL (L : Nat) (d : D) (n w : Nat) : Prop where
  ok : okR L d = true
  so : sOk d = true
  dp : (toPy d).depth ≤ n
  wt : wt d ≤ w
structure ShysL (L : Nat) (d : List D) (n w : Nat) : Prop where
  ok : okRs L d = true
  so : sOks d = true
  dp : PyData.depthAll (toPys d) ≤ n
  wt : wts d ≤ w
theorem ShyL.mono {L : Nat} {d : D} {n w n' w' : Nat} (h : ShyL L d n w) (a : n ≤ n') (b : w ≤ w') : ShyL L d n' w' := ⟨h.ok, h.so, Nat.le_trans h.dp a, Nat.le_trans h.wt b⟩
theorem ShysL.mono {L : Nat} {d : List D} {n w n' w' : Nat} (h : ShysL L d n w) (a : n ≤ n') (b : w ≤ w') : ShysL L d n' w' := ⟨h.ok, h.so, Nat.le_trans h.dp a, Nat.le_trans h.wt b⟩
theorem shys_nil {L : Nat} : ShysL L [] 0 0 := ⟨by simp [okRs], by simp [sOks], by simp [toPys, PyData.depthAll], by simp [wts]⟩
theorem shys_cons {L : Nat} {d : D} {ds : List D} {n w n' w' : Nat} (h : ShyL L d n w) (k : ShysL L ds n' w') : ShysL L (d :: ds) (max n n') (w + w' + 2) := by
  refine ⟨by simp [okRs, h.ok, k.ok], by simp [sOks, h.so, k.so], ?_, ?_⟩
  · have := h.dp; have := k.dp
    simp only [toPys, PyData.depthAll]
    omega
  · have := h.wt; have := k.wt
    simp only [wts]
    omega
theorem shys_all {L : Nat} {n w : Nat} : ∀ {ds : List D}, (∀ d ∈ ds, ShyL L d n w) → ShysL L ds n (ds.length * (w + 2))
  | [], _ => shys_nil.mono (Nat.zero_le _) (Nat.zero_le _)
  | d :: ds, h => (shys_cons (h d List.mem_cons_self) (shys_all fun x hx => h x (List.mem_cons_of_mem _ hx))).mono (by omega) (by rw [List.length_cons, Nat.add_mul]; omega)
theorem shy_tup {L : Nat} {ds : List D} {n w : Nat} (h : ShysL L ds n w) : ShyL L (.tup ds) (n + 1) (w + 3) := ⟨by simpa [okR] using h.ok, by simpa [sOk] using h.so, by have := h.dp; simp only [toPy, PyData.depth]; omega, by have := h.wt; simp only [DL.wt]; omega⟩
theorem shy_lst {L : Nat} {ds : List D} {n w : Nat} (h : ShysL L ds n w) : ShyL L (.lst ds) (n + 1) (w + 3) := ⟨by simpa [okR] using h.ok, by simpa [sOk] using h.so, by have := h.dp; simp only [toPy, PyData.depth]; omega, by have := h.wt; simp only [DL.wt]; omega⟩
theorem shy_int {L : Nat} {i : Int} {n : Nat} (h : Bd i n) (hn : 0 < n ∧ n ≤ L) : ShyL L (.int i) 0 (n + 2) := by
  have : i.natAbs.log2 < n := by
    by_cases e : i.natAbs = 0
    · rw [e]; simpa using hn.1
    · exact (Nat.log2_lt e).mpr h
  refine ⟨?_, by simp [sOk], by simp [toPy, PyData.depth], by simp only [DL.wt]; omega⟩
  simp only [okR, decide_eq_true_eq]
  omega
theorem shy_bl {L : Nat} {b : Bool} : ShyL L (.bl b) 0 5 := ⟨by simp [okR], by simp [sOk], by simp [toPy, PyData.depth], by simp [DL.wt]⟩
theorem shy_non {L : Nat} : ShyL L .non 0 4 := ⟨by simp [okR], by simp [sOk], by simp [toPy, PyData.depth], by simp [DL.wt]⟩
theorem shy_str {L : Nat} {x : Str} {k : Nat} (h : (x.cps.toList.all fun c => decide (c < 16 ^ 8)) = true) (hl : x.length ≤ k) : ShyL L (.str x) 0 (10 * k + 2) := ⟨by simp [okR], by simpa [sOk] using h, by simp [toPy, PyData.depth], by simp only [DL.wt]; omega⟩
theorem shy_dct0 {L : Nat} : ShyL L (.dct []) 1 3 := ⟨by simp [okR, okRk], by simp [sOk, sOkk], by simp [toPy, toPyKv, PyData.depth, PyData.depthKv], by simp [DL.wt, wtk]⟩
theorem shy_dct1 {L : Nat} {k v : D} {n w n' w' : Nat} (h : ShyL L k n w) (h' : ShyL L v n' w') : ShyL L (.dct [(k, v)]) (n + n' + 1) (w + w' + 7) := by
  refine ⟨by simp [okR, okRk, h.ok, h'.ok], by simp [sOk, sOkk, h.so, h'.so], ?_, ?_⟩
  · have := h.dp; have := h'.dp
    simp only [toPy, toPyKv, PyData.depth, PyData.depthKv]
    omega
  · have := h.wt; have := h'.wt
    simp only [DL.wt, wtk]
    omega
theorem rep_of {L : Nat} {d : D} {n w : Nat} (h : ShyL L d n w) (hn : n ≤ 90) (hw : w ≤ 16777216) : repD L d = some (.str (toPy d).shown) := by
  unfold repD
  rw [if_pos]
  exact ⟨h.ok, Nat.le_trans h.dp hn, Nat.le_trans (shown_wt d h.so) (Nat.le_trans h.wt hw)⟩
theorem wp_tAll {Q : Bool → S → Prop} : wp (tAll ρ s) Q X = Q true s := by with_unfolding_all rfl
theorem wp_ms1 {g : Str → D → Option D} {f h : DE} {Q : D → S → Prop} : wp (eMs1 g f h ρ s) Q X = wp (f ρ s) (fun x s1 => ∃ a, x = .str a ∧ wp (h ρ s1) (fun y s2 => ∃ z, g a y = some z ∧ Q z s2) X) X := by
  unfold eMs1
  rw [wp_bind]
  congr 1
  funext x s1
  cases x with
  | str a =>
    simp only [D.str.injEq, exists_eq_left']
    rw [wp_bind]
    congr 1
    funext y s2
    rw [wp_ofO]
  | _ => simp [wp]
theorem wp_ms0 {g : Str → Option D} {f : DE} {Q : D → S → Prop} : wp (eMs0 g f ρ s) Q X = wp (f ρ s) (fun x s1 => ∃ a, x = .str a ∧ ∃ z, g a = some z ∧ Q z s1) X := by
  unfold eMs0
  rw [wp_bind]
  congr 1
  funext x s1
  cases x with
  | str a =>
    simp only [D.str.injEq, exists_eq_left']
    rw [wp_ofO]
  | _ => simp [wp]
theorem q_str {i : Str} {P : Str → Prop} : (∃ c, D.str i = .str c ∧ P c) = P i := by simp
theorem wp_ev0 {Q : List (Key × D) → S → Prop} : wp (evPairs [] ρ s) Q X = Q [] s := by with_unfolding_all rfl
theorem wp_ev1 {f g : DE} {r : List (DE × DE)} {Q : List (Key × D) → S → Prop} : wp (evPairs ((f, g) :: r) ρ s) Q X = wp (f ρ s) (fun k s1 => wp (g ρ s1) (fun d s2 => ∃ k', dk k = some k' ∧ wp (evPairs r ρ s2) (fun ps s3 => Q ((k', d) :: ps) s3) X) X) X := by
  rw [evPairs]
  rw [wp_bind]
  congr 1
  funext k s1
  rw [wp_bind]
  congr 1
  funext d s2
  cases dk k with
  | none => simp [wp]
  | some k' =>
    simp only [Option.some.injEq, exists_eq_left']
    rw [wp_bind]
    with_unfolding_all rfl
theorem wp_disp {ps : List (DE × DE)} {Q : D → S → Prop} : wp (eDisp ps ρ s) Q X = wp (evPairs ps ρ s) (fun l s1 => Q (.dct (mergeD l)) s1) X := by
  unfold eDisp
  rw [wp_bind]
  with_unfolding_all rfl
theorem x_dki {i : Int} {P : Key → Prop} : (∃ k, dk (.int i) = some k ∧ P k) = P (.inl i) := by simp [dk]
theorem x_dks {i : Str} {P : Key → Prop} : (∃ k, dk (.str i) = some k ∧ P k) = P (.inr i) := by simp [dk]
theorem merge1 {k : Key} {d : D} : mergeD [(k, d)] = [(kD k, d)] := rfl
theorem wp_pub {f : DE} {Q : D → S → Prop} : wp (ePub f ρ s) Q X = wp (f ρ s) (fun d s1 => ∃ ds, d = .lst ds ∧ flats ds = true ∧ Q (.tok s1.length) (s1 ++ [.l ds])) X := by
  unfold ePub
  rw [wp_bind]
  congr 1
  funext d s1
  cases d with
  | lst ds =>
    simp only [D.lst.injEq, exists_eq_left']
    by_cases h : flats ds = true <;> simp [h, wp]
  | _ => simp [wp]
theorem flats_ints : ∀ ns : List Int, flats (ns.map D.int) = true
  | [] => by simp [flats]
  | n :: ns => by simp [flats, flat, flats_ints ns]
theorem cutL_map {α β : Type} (f : α → β) (xs : List α) (lo hi : Option Int) : cutL (xs.map f) lo hi = (cutL xs lo hi).map f := by
  unfold cutL
  rw [List.length_map, List.map_take, List.map_drop]
end
end DL
namespace DL
open PySem PySem.Spec PyProof.Rows L2
/-! ### exceptions, plainly -/
section
variable {α : Type} {Q Q' : α → S → Prop} {X X' : Str → S → Prop} {ρ : List Sl} {s : S} {N B C : List Sl → S → Prop} {R : D → S → Prop}
theorem wps_raise {c : Str} : wps (sRaise c ρ s) N B C R X = X c s := by with_unfolding_all rfl
theorem q_tryE {tb : XTb} {c : Str} {i j : Nat} {f : DE} : wps (sTryE tb c i j f ρ s) N B C R X = wp (f ρ s) (fun _ s1 => N ρ s1) (fun x s1 => ∃ b, isX tb x c = some b ∧ if b = true then wpn ρ [(j, .dat (.exc x)), (i, .emp)] (fun ρ1 => N ρ1 s1) else X x s1) := by
  unfold sTryE
  cases f ρ s with
  | ok d s1 => with_unfolding_all rfl
  | bad => with_unfolding_all rfl
  | exc x s1 =>
    simp only [wp]
    cases isX tb x c with
    | none => simp [wps]
    | some b =>
      cases b with
      | true => simp [wps, wpn, set_at]
      | false => simp [wps]
theorem q_tryA {tb : XTb} {c : Str} {i j k : Nat} {f : DE} : wps (sTryA tb c i j k f ρ s) N B C R X = wp (f ρ s) (fun d s1 => wpn ρ [(k, .dat d)] fun ρ1 => N ρ1 s1) (fun x s1 => ∃ b, isX tb x c = some b ∧ if b = true then wpn ρ [(j, .dat (.exc x)), (i, .emp)] (fun ρ1 => N ρ1 s1) else X x s1) := by
  unfold sTryA
  cases f ρ s with
  | ok d s1 => simp [wps, wp, wpn, set_at]
  | bad => with_unfolding_all rfl
  | exc x s1 =>
    simp only [wp]
    cases isX tb x c with
    | none => simp [wps]
    | some b =>
      cases b with
      | true => simp [wps, wpn, set_at]
      | false => simp [wps]
theorem x_isX1 {tb : XTb} {x y : Str} {P : D → Prop} : (∃ z, dIsX tb [.exc x, .glb y] = some z ∧ P z) = ∃ b, isX tb x y = some b ∧ P (.bl b) := by
  show (∃ z, (isX tb x y).map D.bl = some z ∧ P z) = _
  exact ex_map
theorem x_isXv {tb : XTb} {x : Str} {P : D → Prop} : (∃ z, dIsX tb [.exc x, .ty "ValueError"] = some z ∧ P z) = ∃ b, isX tb x "ValueError" = some b ∧ P (.bl b) := by
  show (∃ z, (if "ValueError" = "ValueError" then (isX tb x "ValueError").map D.bl else none) = some z ∧ P z) = _
  rw [if_pos rfl]
  exact ex_map
theorem x_isXt {tb : XTb} {x y : Str} {cs : List D} {P : D → Prop} : (∃ z, dIsX tb [.exc x, .tup (.glb y :: cs)] = some z ∧ P z) = ∃ b, isXs tb x (.glb y :: cs) = some b ∧ P (.bl b) := by
  show (∃ z, (isXs tb x (.glb y :: cs)).map D.bl = some z ∧ P z) = _
  exact ex_map
end
/-! ### plain things -/
def isInt : D → Bool
  | .int _ => true
  | _ => false
theorem ii_int {i : Int} : isInt (.int i) = true := rfl
theorem ii_bl {i : Bool} : isInt (.bl i) = false := rfl
theorem ii_non : isInt .non = false := rfl
theorem ii_str {i : Str} : isInt (.str i) = false := rfl
theorem ii_tup {i : List D} : isInt (.tup i) = false := rfl
theorem ii_ktp {i : List D} : isInt (.ktp i) = false := rfl
theorem ii_lst {i : List D} : isInt (.lst i) = false := rfl
theorem ii_frz {i : List D} : isInt (.frz i) = false := rfl
theorem ii_dct {i : List (D × D)} : isInt (.dct i) = false := rfl
/-! ### sizes -/
/-! ### ratios -/
def rat (q : Rat) : D := .tup [.int q.num, .int q.den]
structure RB (q : Rat) (n : Nat) : Prop where
  nu : Bd q.num n
  de : Bd (q.den : Int) n
theorem RB.mono {q : Rat} {n m : Nat} (h : RB q n) (k : n ≤ m) : RB q m := ⟨bd_mono h.nu k, bd_mono h.de k⟩
/-! ### draws -/
theorem cfd_64 {i m : Int} (h0 : 0 < m) (h : m < 2 ^ 64) : CFd i m := cfd_of (by omega) (by omega)
/-- one of some things, all of them so -/
theorem at_allD {P : D → Prop} {xs : List D} {i : Int} {Q : D → Prop} (h : ∀ x ∈ xs, P x) (h0 : 0 ≤ i) (h1 : i < xs.length) (k : ∀ x, P x → Q x) : ∃ z, atI xs i = some z ∧ Q z := by
  obtain ⟨d, e, hd⟩ := atI_of h0 h1
  exact ⟨d, e, k d (h d (List.mem_of_getElem? hd))⟩
/-- a thing of a kind, the pen behind it -/
def PenD (P : D → Prop) (k : Int) (r : S) (a : D) (s : S) : Prop := P a ∧ Pen k r s
theorem p200 : (2 : Int) ^ 200 = 1606938044258990275541962092341162602522202993782792835301376 := by decide
theorem nc_0 : (((0 : Nat)) : Int) = 0 := rfl
theorem nc_1 : (((1 : Nat)) : Int) = 1 := rfl
theorem nc_2 : (((2 : Nat)) : Int) = 2 := rfl
theorem nc_3 : (((3 : Nat)) : Int) = 3 := rfl
theorem nc_4 : (((4 : Nat)) : Int) = 4 := rfl
theorem nc_5 : (((5 : Nat)) : Int) = 5 := rfl
theorem nc_6 : (((6 : Nat)) : Int) = 6 := rfl
theorem nc_7 : (((7 : Nat)) : Int) = 7 := rfl
theorem nc_8 : (((8 : Nat)) : Int) = 8 := rfl
theorem nc_9 : (((9 : Nat)) : Int) = 9 := rfl
theorem nc_10 : (((10 : Nat)) : Int) = 10 := rfl
theorem nc_11 : (((11 : Nat)) : Int) = 11 := rfl
theorem nc_12 : (((12 : Nat)) : Int) = 12 := rfl
theorem nc_13 : (((13 : Nat)) : Int) = 13 := rfl
theorem nc_14 : (((14 : Nat)) : Int) = 14 := rfl
theorem nc_15 : (((15 : Nat)) : Int) = 15 := rfl
theorem nc_16 : (((16 : Nat)) : Int) = 16 := rfl
theorem nc_17 : (((17 : Nat)) : Int) = 17 := rfl
theorem nc_18 : (((18 : Nat)) : Int) = 18 := rfl
theorem nc_19 : (((19 : Nat)) : Int) = 19 := rfl
theorem nc_20 : (((20 : Nat)) : Int) = 20 := rfl
theorem nc_21 : (((21 : Nat)) : Int) = 21 := rfl
theorem nc_22 : (((22 : Nat)) : Int) = 22 := rfl
theorem nc_23 : (((23 : Nat)) : Int) = 23 := rfl
theorem nc_24 : (((24 : Nat)) : Int) = 24 := rfl
theorem nc_25 : (((25 : Nat)) : Int) = 25 := rfl
theorem nc_26 : (((26 : Nat)) : Int) = 26 := rfl
theorem nc_27 : (((27 : Nat)) : Int) = 27 := rfl
theorem nc_28 : (((28 : Nat)) : Int) = 28 := rfl
theorem nc_29 : (((29 : Nat)) : Int) = 29 := rfl
theorem nc_30 : (((30 : Nat)) : Int) = 30 := rfl
theorem nc_31 : (((31 : Nat)) : Int) = 31 := rfl
theorem nc_32 : (((32 : Nat)) : Int) = 32 := rfl
theorem x_nonnon {P : D → Prop} : (∃ z, dIs .non .non = some z ∧ P z) = P (.bl true) := by show (∃ z, some (D.bl true) = some z ∧ P z) = _; simp
theorem x_tupnon {x : List D} {P : D → Prop} : (∃ z, dIs (.tup x) .non = some z ∧ P z) = P (.bl false) := by show (∃ z, some (D.bl false) = some z ∧ P z) = _; simp
theorem x_excnon {x : Str} {P : D → Prop} : (∃ z, dIs (.exc x) .non = some z ∧ P z) = P (.bl false) := by show (∃ z, some (D.bl false) = some z ∧ P z) = _; simp
theorem x_intnon {x : Int} {P : D → Prop} : (∃ z, dIs (.int x) .non = some z ∧ P z) = P (.bl false) := by show (∃ z, some (D.bl false) = some z ∧ P z) = _; simp
theorem x_nnonnon {P : D → Prop} : (∃ z, dIsnt .non .non = some z ∧ P z) = P (.bl false) := by show (∃ z, some (D.bl false) = some z ∧ P z) = _; simp
theorem x_ntupnon {x : List D} {P : D → Prop} : (∃ z, dIsnt (.tup x) .non = some z ∧ P z) = P (.bl true) := by show (∃ z, some (D.bl true) = some z ∧ P z) = _; simp
theorem eq_tup2 {a b c d : Int} : dEq (.tup [.int a, .int b]) (.tup [.int c, .int d]) = some (.bl (decide (a = c) && decide (b = d))) := by
  simp [dEq, ready, okD, okDs, toPy, toPys, PyData.depth, PyData.depthAll, eqB, PyData.eqv, PyData.eqvAll, BEq.beq]
theorem ne_tup2 {a b c d : Int} : dNe (.tup [.int a, .int b]) (.tup [.int c, .int d]) = some (.bl (!(decide (a = c) && decide (b = d)))) := by
  simp [dNe, ready, okD, okDs, toPy, toPys, PyData.depth, PyData.depthAll, eqB, PyData.eqv, PyData.eqvAll, BEq.beq]
theorem x_eqt2 {a b c d : Int} {P : D → Prop} : (∃ z, dEq (.tup [.int a, .int b]) (.tup [.int c, .int d]) = some z ∧ P z) = P (.bl (decide (a = c) && decide (b = d))) := by rw [eq_tup2]; exact ex_some
theorem x_net2 {a b c d : Int} {P : D → Prop} : (∃ z, dNe (.tup [.int a, .int b]) (.tup [.int c, .int d]) = some z ∧ P z) = P (.bl (!(decide (a = c) && decide (b = d)))) := by rw [ne_tup2]; exact ex_some
/-! ### things through and through plain -/
mutual
def pd : D → Bool
  | .non => true
  | .bl _ => true
  | .int _ => true
  | .str _ => true
  | .tup xs => pds xs
  | .lst xs => pds xs
  | .frz xs => pds xs
  | .dct _ => true
  | .tok _ => false
  | .ty _ => false
  | .glb _ => false
  | .ktp _ => false
  | .exc _ => false
  | .fd _ _ => false
def pds : List D → Bool
  | [] => true
  | x :: xs => pd x && pds xs
end
theorem pds_all {xs : List D} : pds xs = true ↔ ∀ x ∈ xs, pd x = true := by
  induction xs with
  | nil => simp [pds]
  | cons x xs ih => simp [pds, ih]
theorem pd_lst {xs : List D} (h : ∀ x ∈ xs, pd x = true) : pd (.lst xs) = true := by simpa [pd] using pds_all.mpr h
/-- a plain thing that may be shown -/
structure Thing (L n w : Nat) (d : D) : Prop where
  pl : pd d = true
  sh : ShyL L d n w
section
variable {L n w m n' w' : Nat} {d : D}
theorem Thing.mono (h : Thing L n w d) (a : n ≤ n') (b : w ≤ w') : Thing L n' w' d := ⟨h.pl, h.sh.mono a b⟩
theorem th_int {i : Int} {k : Nat} (h : Bd i k) (hk : 0 < k ∧ k ≤ L) : Thing L 0 (k + 2) (.int i) := ⟨rfl, shy_int h hk⟩
theorem th_bl {b : Bool} : Thing L 0 5 (.bl b) := ⟨rfl, shy_bl⟩
theorem th_non : Thing L 0 4 .non := ⟨rfl, shy_non⟩
theorem th_str {x : Str} {k : Nat} (h : (x.cps.toList.all fun c => decide (c < 16 ^ 8)) = true) (hl : x.length ≤ k) : Thing L 0 (10 * k + 2) (.str x) := ⟨rfl, shy_str h hl⟩
theorem th_dct0 : Thing L 1 3 (.dct []) := ⟨rfl, shy_dct0⟩
theorem th_dct1 {k v : D} (h : Thing L n w k) (h' : Thing L n' w' v) : Thing L (n + n' + 1) (w + w' + 7) (.dct [(k, v)]) := ⟨rfl, shy_dct1 h.sh h'.sh⟩
theorem th_lst {xs : List D} (h : ∀ x ∈ xs, Thing L n w x) (hl : xs.length ≤ m) : Thing L (n + 1) (m * (w + 2) + 3) (.lst xs) :=
  ⟨pd_lst fun x hx => (h x hx).pl, (shy_lst (shys_all fun x hx => (h x hx).sh)).mono (Nat.le_refl _) (Nat.add_le_add_right (Nat.mul_le_mul_right _ hl) _)⟩
theorem th_rep (h : Thing L n w d) (hn : n ≤ 90) (hw : w ≤ 16777216) : repD L d = some (.str (toPy d).shown) := rep_of h.sh hn hw
end
theorem ne_bls {a b c d : Bool} : dNe (.lst [.bl a, .bl b]) (.lst [.bl c, .bl d]) = some (.bl (!(decide (a = c) && decide (b = d)))) := by
  cases a <;> cases b <;> cases c <;> cases d <;> rfl
theorem x_nebls {a b c d : Bool} {P : D → Prop} : (∃ z, dNe (.lst [.bl a, .bl b]) (.lst [.bl c, .bl d]) = some z ∧ P z) = P (.bl (!(decide (a = c) && decide (b = d)))) := by rw [ne_bls]; exact ex_some
theorem x_bls1 {a : Bool} {P : List Bool → Prop} : (∃ l, blsOf [.bl a] = some l ∧ P l) = P [a] := by show (∃ l, some [a] = some l ∧ P l) = _; exact ex_some
theorem x_bls2 {a b : Bool} {P : List Bool → Prop} : (∃ l, blsOf [.bl a, .bl b] = some l ∧ P l) = P [a, b] := by show (∃ l, some [a, b] = some l ∧ P l) = _; exact ex_some
theorem x_bls3 {a b c : Bool} {P : List Bool → Prop} : (∃ l, blsOf [.bl a, .bl b, .bl c] = some l ∧ P l) = P [a, b, c] := by show (∃ l, some [a, b, c] = some l ∧ P l) = _; exact ex_some
theorem x_bls4 {a b c d : Bool} {P : List Bool → Prop} : (∃ l, blsOf [.bl a, .bl b, .bl c, .bl d] = some l ∧ P l) = P [a, b, c, d] := by show (∃ l, some [a, b, c, d] = some l ∧ P l) = _; exact ex_some
theorem id_def (b : Bool) : id b = b := rfl
theorem x_at_ite {a b : D} {c : Prop} [Decidable c] {P : D → Prop} : (∃ z, atI [a, b] (if c then 1 else 0) = some z ∧ P z) = if c then P b else P a := by
  by_cases h : c
  · rw [if_pos h, if_pos h]; exact x_at1
  · rw [if_neg h, if_neg h]; exact x_at0
structure Things (L n w : Nat) (xs : List D) : Prop where
  pl : pds xs = true
  sh : ShysL L xs n w
section
variable {L n w m n' w' : Nat} {d : D} {xs : List D}
theorem ths_nil : Things L 0 0 [] := ⟨rfl, shys_nil⟩
theorem ths_cons (h : Thing L n w d) (k : Things L n' w' xs) : Things L (max n n') (w + w' + 2) (d :: xs) := ⟨by simp [pds, h.pl, k.pl], shys_cons h.sh k.sh⟩
theorem th_tups (h : Things L n w xs) : Thing L (n + 1) (w + 3) (.tup xs) := ⟨by simpa [pd] using h.pl, shy_tup h.sh⟩
theorem th_lsts (h : Things L n w xs) : Thing L (n + 1) (w + 3) (.lst xs) := ⟨by simpa [pd] using h.pl, shy_lst h.sh⟩
theorem th_lit {i : Int} (h : i.natAbs < 2 ^ 64) (hL : 64 ≤ L) : Thing L 0 66 (.int i) := th_int (k := 64) (bd_of h) ⟨by decide, hL⟩
theorem th_mrg {k : Key} {v : D} (h : Thing L n w (kD k)) (h' : Thing L n' w' v) : Thing L (n + n' + 1) (w + w' + 7) (.dct (mergeD [(k, v)])) := by rw [merge1]; exact th_dct1 h h'
end
/-! ### own lists, plainly -/
def wpo (i : Nat) (ρ : List Sl) (P : List D → Prop) : Prop := match ρ[i]? with
  | some (.own ds) => P ds
  | _ => False
section
variable {α : Type} {X : Str → S → Prop} {ρ : List Sl} {s : S} {N B C : List Sl → S → Prop} {R : D → S → Prop}
theorem o_0 {r : List Sl} {ds : List D} {P : List D → Prop} : wpo 0 (.own ds :: r) P = P ds := by with_unfolding_all rfl
theorem f_0 {r : List Sl} {y : Sl} : frzAt 0 (y :: r) = frzSl y :: r := rfl
theorem o_1 {x0 : Sl} {r : List Sl} {ds : List D} {P : List D → Prop} : wpo 1 (x0 :: .own ds :: r) P = P ds := by with_unfolding_all rfl
theorem f_1 {x0 : Sl} {r : List Sl} {y : Sl} : frzAt 1 (x0 :: y :: r) = x0 :: frzSl y :: r := rfl
theorem o_2 {x0 x1 : Sl} {r : List Sl} {ds : List D} {P : List D → Prop} : wpo 2 (x0 :: x1 :: .own ds :: r) P = P ds := by with_unfolding_all rfl
theorem f_2 {x0 x1 : Sl} {r : List Sl} {y : Sl} : frzAt 2 (x0 :: x1 :: y :: r) = x0 :: x1 :: frzSl y :: r := rfl
theorem o_3 {x0 x1 x2 : Sl} {r : List Sl} {ds : List D} {P : List D → Prop} : wpo 3 (x0 :: x1 :: x2 :: .own ds :: r) P = P ds := by with_unfolding_all rfl
theorem f_3 {x0 x1 x2 : Sl} {r : List Sl} {y : Sl} : frzAt 3 (x0 :: x1 :: x2 :: y :: r) = x0 :: x1 :: x2 :: frzSl y :: r := rfl
theorem o_4 {x0 x1 x2 x3 : Sl} {r : List Sl} {ds : List D} {P : List D → Prop} : wpo 4 (x0 :: x1 :: x2 :: x3 :: .own ds :: r) P = P ds := by with_unfolding_all rfl
theorem f_4 {x0 x1 x2 x3 : Sl} {r : List Sl} {y : Sl} : frzAt 4 (x0 :: x1 :: x2 :: x3 :: y :: r) = x0 :: x1 :: x2 :: x3 :: frzSl y :: r := rfl
theorem o_5 {x0 x1 x2 x3 x4 : Sl} {r : List Sl} {ds : List D} {P : List D → Prop} : wpo 5 (x0 :: x1 :: x2 :: x3 :: x4 :: .own ds :: r) P = P ds := by with_unfolding_all rfl
theorem f_5 {x0 x1 x2 x3 x4 : Sl} {r : List Sl} {y : Sl} : frzAt 5 (x0 :: x1 :: x2 :: x3 :: x4 :: y :: r) = x0 :: x1 :: x2 :: x3 :: x4 :: frzSl y :: r := rfl
theorem o_6 {x0 x1 x2 x3 x4 x5 : Sl} {r : List Sl} {ds : List D} {P : List D → Prop} : wpo 6 (x0 :: x1 :: x2 :: x3 :: x4 :: x5 :: .own ds :: r) P = P ds := by with_unfolding_all rfl
theorem f_6 {x0 x1 x2 x3 x4 x5 : Sl} {r : List Sl} {y : Sl} : frzAt 6 (x0 :: x1 :: x2 :: x3 :: x4 :: x5 :: y :: r) = x0 :: x1 :: x2 :: x3 :: x4 :: x5 :: frzSl y :: r := rfl
theorem o_7 {x0 x1 x2 x3 x4 x5 x6 : Sl} {r : List Sl} {ds : List D} {P : List D → Prop} : wpo 7 (x0 :: x1 :: x2 :: x3 :: x4 :: x5 :: x6 :: .own ds :: r) P = P ds := by with_unfolding_all rfl
theorem f_7 {x0 x1 x2 x3 x4 x5 x6 : Sl} {r : List Sl} {y : Sl} : frzAt 7 (x0 :: x1 :: x2 :: x3 :: x4 :: x5 :: x6 :: y :: r) = x0 :: x1 :: x2 :: x3 :: x4 :: x5 :: x6 :: frzSl y :: r := rfl
theorem o_8 {x0 x1 x2 x3 x4 x5 x6 x7 : Sl} {r : List Sl} {ds : List D} {P : List D → Prop} : wpo 8 (x0 :: x1 :: x2 :: x3 :: x4 :: x5 :: x6 :: x7 :: .own ds :: r) P = P ds := by with_unfolding_all rfl
theorem f_8 {x0 x1 x2 x3 x4 x5 x6 x7 : Sl} {r : List Sl} {y : Sl} : frzAt 8 (x0 :: x1 :: x2 :: x3 :: x4 :: x5 :: x6 :: x7 :: y :: r) = x0 :: x1 :: x2 :: x3 :: x4 :: x5 :: x6 :: x7 :: frzSl y :: r := rfl
theorem o_9 {x0 x1 x2 x3 x4 x5 x6 x7 x8 : Sl} {r : List Sl} {ds : List D} {P : List D → Prop} : wpo 9 (x0 :: x1 :: x2 :: x3 :: x4 :: x5 :: x6 :: x7 :: x8 :: .own ds :: r) P = P ds := by with_unfolding_all rfl
theorem f_9 {x0 x1 x2 x3 x4 x5 x6 x7 x8 : Sl} {r : List Sl} {y : Sl} : frzAt 9 (x0 :: x1 :: x2 :: x3 :: x4 :: x5 :: x6 :: x7 :: x8 :: y :: r) = x0 :: x1 :: x2 :: x3 :: x4 :: x5 :: x6 :: x7 :: x8 :: frzSl y :: r := rfl
theorem o_10 {x0 x1 x2 x3 x4 x5 x6 x7 x8 x9 : Sl} {r : List Sl} {ds : List D} {P : List D → Prop} : wpo 10 (x0 :: x1 :: x2 :: x3 :: x4 :: x5 :: x6 :: x7 :: x8 :: x9 :: .own ds :: r) P = P ds := by with_unfolding_all rfl
theorem f_10 {x0 x1 x2 x3 x4 x5 x6 x7 x8 x9 : Sl} {r : List Sl} {y : Sl} : frzAt 10 (x0 :: x1 :: x2 :: x3 :: x4 :: x5 :: x6 :: x7 :: x8 :: x9 :: y :: r) = x0 :: x1 :: x2 :: x3 :: x4 :: x5 :: x6 :: x7 :: x8 :: x9 :: frzSl y :: r := rfl
theorem o_11 {x0 x1 x2 x3 x4 x5 x6 x7 x8 x9 x10 : Sl} {r : List Sl} {ds : List D} {P : List D → Prop} : wpo 11 (x0 :: x1 :: x2 :: x3 :: x4 :: x5 :: x6 :: x7 :: x8 :: x9 :: x10 :: .own ds :: r) P = P ds := by with_unfolding_all rfl
theorem f_11 {x0 x1 x2 x3 x4 x5 x6 x7 x8 x9 x10 : Sl} {r : List Sl} {y : Sl} : frzAt 11 (x0 :: x1 :: x2 :: x3 :: x4 :: x5 :: x6 :: x7 :: x8 :: x9 :: x10 :: y :: r) = x0 :: x1 :: x2 :: x3 :: x4 :: x5 :: x6 :: x7 :: x8 :: x9 :: x10 :: frzSl y :: r := rfl
theorem o_12 {x0 x1 x2 x3 x4 x5 x6 x7 x8 x9 x10 x11 : Sl} {r : List Sl} {ds : List D} {P : List D → Prop} : wpo 12 (x0 :: x1 :: x2 :: x3 :: x4 :: x5 :: x6 :: x7 :: x8 :: x9 :: x10 :: x11 :: .own ds :: r) P = P ds := by with_unfolding_all rfl
theorem f_12 {x0 x1 x2 x3 x4 x5 x6 x7 x8 x9 x10 x11 : Sl} {r : List Sl} {y : Sl} : frzAt 12 (x0 :: x1 :: x2 :: x3 :: x4 :: x5 :: x6 :: x7 :: x8 :: x9 :: x10 :: x11 :: y :: r) = x0 :: x1 :: x2 :: x3 :: x4 :: x5 :: x6 :: x7 :: x8 :: x9 :: x10 :: x11 :: frzSl y :: r := rfl
theorem o_13 {x0 x1 x2 x3 x4 x5 x6 x7 x8 x9 x10 x11 x12 : Sl} {r : List Sl} {ds : List D} {P : List D → Prop} : wpo 13 (x0 :: x1 :: x2 :: x3 :: x4 :: x5 :: x6 :: x7 :: x8 :: x9 :: x10 :: x11 :: x12 :: .own ds :: r) P = P ds := by with_unfolding_all rfl
theorem f_13 {x0 x1 x2 x3 x4 x5 x6 x7 x8 x9 x10 x11 x12 : Sl} {r : List Sl} {y : Sl} : frzAt 13 (x0 :: x1 :: x2 :: x3 :: x4 :: x5 :: x6 :: x7 :: x8 :: x9 :: x10 :: x11 :: x12 :: y :: r) = x0 :: x1 :: x2 :: x3 :: x4 :: x5 :: x6 :: x7 :: x8 :: x9 :: x10 :: x11 :: x12 :: frzSl y :: r := rfl
theorem o_14 {x0 x1 x2 x3 x4 x5 x6 x7 x8 x9 x10 x11 x12 x13 : Sl} {r : List Sl} {ds : List D} {P : List D → Prop} : wpo 14 (x0 :: x1 :: x2 :: x3 :: x4 :: x5 :: x6 :: x7 :: x8 :: x9 :: x10 :: x11 :: x12 :: x13 :: .own ds :: r) P = P ds := by with_unfolding_all rfl
theorem f_14 {x0 x1 x2 x3 x4 x5 x6 x7 x8 x9 x10 x11 x12 x13 : Sl} {r : List Sl} {y : Sl} : frzAt 14 (x0 :: x1 :: x2 :: x3 :: x4 :: x5 :: x6 :: x7 :: x8 :: x9 :: x10 :: x11 :: x12 :: x13 :: y :: r) = x0 :: x1 :: x2 :: x3 :: x4 :: x5 :: x6 :: x7 :: x8 :: x9 :: x10 :: x11 :: x12 :: x13 :: frzSl y :: r := rfl
theorem o_15 {x0 x1 x2 x3 x4 x5 x6 x7 x8 x9 x10 x11 x12 x13 x14 : Sl} {r : List Sl} {ds : List D} {P : List D → Prop} : wpo 15 (x0 :: x1 :: x2 :: x3 :: x4 :: x5 :: x6 :: x7 :: x8 :: x9 :: x10 :: x11 :: x12 :: x13 :: x14 :: .own ds :: r) P = P ds := by with_unfolding_all rfl
theorem f_15 {x0 x1 x2 x3 x4 x5 x6 x7 x8 x9 x10 x11 x12 x13 x14 : Sl} {r : List Sl} {y : Sl} : frzAt 15 (x0 :: x1 :: x2 :: x3 :: x4 :: x5 :: x6 :: x7 :: x8 :: x9 :: x10 :: x11 :: x12 :: x13 :: x14 :: y :: r) = x0 :: x1 :: x2 :: x3 :: x4 :: x5 :: x6 :: x7 :: x8 :: x9 :: x10 :: x11 :: x12 :: x13 :: x14 :: frzSl y :: r := rfl
theorem o_16 {x0 x1 x2 x3 x4 x5 x6 x7 x8 x9 x10 x11 x12 x13 x14 x15 : Sl} {r : List Sl} {ds : List D} {P : List D → Prop} : wpo 16 (x0 :: x1 :: x2 :: x3 :: x4 :: x5 :: x6 :: x7 :: x8 :: x9 :: x10 :: x11 :: x12 :: x13 :: x14 :: x15 :: .own ds :: r) P = P ds := by with_unfolding_all rfl
theorem f_16 {x0 x1 x2 x3 x4 x5 x6 x7 x8 x9 x10 x11 x12 x13 x14 x15 : Sl} {r : List Sl} {y : Sl} : frzAt 16 (x0 :: x1 :: x2 :: x3 :: x4 :: x5 :: x6 :: x7 :: x8 :: x9 :: x10 :: x11 :: x12 :: x13 :: x14 :: x15 :: y :: r) = x0 :: x1 :: x2 :: x3 :: x4 :: x5 :: x6 :: x7 :: x8 :: x9 :: x10 :: x11 :: x12 :: x13 :: x14 :: x15 :: frzSl y :: r := rfl
theorem o_17 {x0 x1 x2 x3 x4 x5 x6 x7 x8 x9 x10 x11 x12 x13 x14 x15 x16 : Sl} {r : List Sl} {ds : List D} {P : List D → Prop} : wpo 17 (x0 :: x1 :: x2 :: x3 :: x4 :: x5 :: x6 :: x7 :: x8 :: x9 :: x10 :: x11 :: x12 :: x13 :: x14 :: x15 :: x16 :: .own ds :: r) P = P ds := by with_unfolding_all rfl
theorem f_17 {x0 x1 x2 x3 x4 x5 x6 x7 x8 x9 x10 x11 x12 x13 x14 x15 x16 : Sl} {r : List Sl} {y : Sl} : frzAt 17 (x0 :: x1 :: x2 :: x3 :: x4 :: x5 :: x6 :: x7 :: x8 :: x9 :: x10 :: x11 :: x12 :: x13 :: x14 :: x15 :: x16 :: y :: r) = x0 :: x1 :: x2 :: x3 :: x4 :: x5 :: x6 :: x7 :: x8 :: x9 :: x10 :: x11 :: x12 :: x13 :: x14 :: x15 :: x16 :: frzSl y :: r := rfl
theorem o_18 {x0 x1 x2 x3 x4 x5 x6 x7 x8 x9 x10 x11 x12 x13 x14 x15 x16 x17 : Sl} {r : List Sl} {ds : List D} {P : List D → Prop} : wpo 18 (x0 :: x1 :: x2 :: x3 :: x4 :: x5 :: x6 :: x7 :: x8 :: x9 :: x10 :: x11 :: x12 :: x13 :: x14 :: x15 :: x16 :: x17 :: .own ds :: r) P = P ds := by with_unfolding_all rfl
theorem f_18 {x0 x1 x2 x3 x4 x5 x6 x7 x8 x9 x10 x11 x12 x13 x14 x15 x16 x17 : Sl} {r : List Sl} {y : Sl} : frzAt 18 (x0 :: x1 :: x2 :: x3 :: x4 :: x5 :: x6 :: x7 :: x8 :: x9 :: x10 :: x11 :: x12 :: x13 :: x14 :: x15 :: x16 :: x17 :: y :: r) = x0 :: x1 :: x2 :: x3 :: x4 :: x5 :: x6 :: x7 :: x8 :: x9 :: x10 :: x11 :: x12 :: x13 :: x14 :: x15 :: x16 :: x17 :: frzSl y :: r := rfl
theorem o_19 {x0 x1 x2 x3 x4 x5 x6 x7 x8 x9 x10 x11 x12 x13 x14 x15 x16 x17 x18 : Sl} {r : List Sl} {ds : List D} {P : List D → Prop} : wpo 19 (x0 :: x1 :: x2 :: x3 :: x4 :: x5 :: x6 :: x7 :: x8 :: x9 :: x10 :: x11 :: x12 :: x13 :: x14 :: x15 :: x16 :: x17 :: x18 :: .own ds :: r) P = P ds := by with_unfolding_all rfl
theorem f_19 {x0 x1 x2 x3 x4 x5 x6 x7 x8 x9 x10 x11 x12 x13 x14 x15 x16 x17 x18 : Sl} {r : List Sl} {y : Sl} : frzAt 19 (x0 :: x1 :: x2 :: x3 :: x4 :: x5 :: x6 :: x7 :: x8 :: x9 :: x10 :: x11 :: x12 :: x13 :: x14 :: x15 :: x16 :: x17 :: x18 :: y :: r) = x0 :: x1 :: x2 :: x3 :: x4 :: x5 :: x6 :: x7 :: x8 :: x9 :: x10 :: x11 :: x12 :: x13 :: x14 :: x15 :: x16 :: x17 :: x18 :: frzSl y :: r := rfl
theorem o_20 {x0 x1 x2 x3 x4 x5 x6 x7 x8 x9 x10 x11 x12 x13 x14 x15 x16 x17 x18 x19 : Sl} {r : List Sl} {ds : List D} {P : List D → Prop} : wpo 20 (x0 :: x1 :: x2 :: x3 :: x4 :: x5 :: x6 :: x7 :: x8 :: x9 :: x10 :: x11 :: x12 :: x13 :: x14 :: x15 :: x16 :: x17 :: x18 :: x19 :: .own ds :: r) P = P ds := by with_unfolding_all rfl
theorem f_20 {x0 x1 x2 x3 x4 x5 x6 x7 x8 x9 x10 x11 x12 x13 x14 x15 x16 x17 x18 x19 : Sl} {r : List Sl} {y : Sl} : frzAt 20 (x0 :: x1 :: x2 :: x3 :: x4 :: x5 :: x6 :: x7 :: x8 :: x9 :: x10 :: x11 :: x12 :: x13 :: x14 :: x15 :: x16 :: x17 :: x18 :: x19 :: y :: r) = x0 :: x1 :: x2 :: x3 :: x4 :: x5 :: x6 :: x7 :: x8 :: x9 :: x10 :: x11 :: x12 :: x13 :: x14 :: x15 :: x16 :: x17 :: x18 :: x19 :: frzSl y :: r := rfl
theorem o_21 {x0 x1 x2 x3 x4 x5 x6 x7 x8 x9 x10 x11 x12 x13 x14 x15 x16 x17 x18 x19 x20 : Sl} {r : List Sl} {ds : List D} {P : List D → Prop} : wpo 21 (x0 :: x1 :: x2 :: x3 :: x4 :: x5 :: x6 :: x7 :: x8 :: x9 :: x10 :: x11 :: x12 :: x13 :: x14 :: x15 :: x16 :: x17 :: x18 :: x19 :: x20 :: .own ds :: r) P = P ds := by with_unfolding_all rfl
theorem f_21 {x0 x1 x2 x3 x4 x5 x6 x7 x8 x9 x10 x11 x12 x13 x14 x15 x16 x17 x18 x19 x20 : Sl} {r : List Sl} {y : Sl} : frzAt 21 (x0 :: x1 :: x2 :: x3 :: x4 :: x5 :: x6 :: x7 :: x8 :: x9 :: x10 :: x11 :: x12 :: x13 :: x14 :: x15 :: x16 :: x17 :: x18 :: x19 :: x20 :: y :: r) = x0 :: x1 :: x2 :: x3 :: x4 :: x5 :: x6 :: x7 :: x8 :: x9 :: x10 :: x11 :: x12 :: x13 :: x14 :: x15 :: x16 :: x17 :: x18 :: x19 :: x20 :: frzSl y :: r := rfl
theorem o_22 {x0 x1 x2 x3 x4 x5 x6 x7 x8 x9 x10 x11 x12 x13 x14 x15 x16 x17 x18 x19 x20 x21 : Sl} {r : List Sl} {ds : List D} {P : List D → Prop} : wpo 22 (x0 :: x1 :: x2 :: x3 :: x4 :: x5 :: x6 :: x7 :: x8 :: x9 :: x10 :: x11 :: x12 :: x13 :: x14 :: x15 :: x16 :: x17 :: x18 :: x19 :: x20 :: x21 :: .own ds :: r) P = P ds := by with_unfolding_all rfl
theorem f_22 {x0 x1 x2 x3 x4 x5 x6 x7 x8 x9 x10 x11 x12 x13 x14 x15 x16 x17 x18 x19 x20 x21 : Sl} {r : List Sl} {y : Sl} : frzAt 22 (x0 :: x1 :: x2 :: x3 :: x4 :: x5 :: x6 :: x7 :: x8 :: x9 :: x10 :: x11 :: x12 :: x13 :: x14 :: x15 :: x16 :: x17 :: x18 :: x19 :: x20 :: x21 :: y :: r) = x0 :: x1 :: x2 :: x3 :: x4 :: x5 :: x6 :: x7 :: x8 :: x9 :: x10 :: x11 :: x12 :: x13 :: x14 :: x15 :: x16 :: x17 :: x18 :: x19 :: x20 :: x21 :: frzSl y :: r := rfl
theorem o_23 {x0 x1 x2 x3 x4 x5 x6 x7 x8 x9 x10 x11 x12 x13 x14 x15 x16 x17 x18 x19 x20 x21 x22 : Sl} {r : List Sl} {ds : List D} {P : List D → Prop} : wpo 23 (x0 :: x1 :: x2 :: x3 :: x4 :: x5 :: x6 :: x7 :: x8 :: x9 :: x10 :: x11 :: x12 :: x13 :: x14 :: x15 :: x16 :: x17 :: x18 :: x19 :: x20 :: x21 :: x22 :: .own ds :: r) P = P ds := by with_unfolding_all rfl
theorem f_23 {x0 x1 x2 x3 x4 x5 x6 x7 x8 x9 x10 x11 x12 x13 x14 x15 x16 x17 x18 x19 x20 x21 x22 : Sl} {r : List Sl} {y : Sl} : frzAt 23 (x0 :: x1 :: x2 :: x3 :: x4 :: x5 :: x6 :: x7 :: x8 :: x9 :: x10 :: x11 :: x12 :: x13 :: x14 :: x15 :: x16 :: x17 :: x18 :: x19 :: x20 :: x21 :: x22 :: y :: r) = x0 :: x1 :: x2 :: x3 :: x4 :: x5 :: x6 :: x7 :: x8 :: x9 :: x10 :: x11 :: x12 :: x13 :: x14 :: x15 :: x16 :: x17 :: x18 :: x19 :: x20 :: x21 :: x22 :: frzSl y :: r := rfl
theorem o_24 {x0 x1 x2 x3 x4 x5 x6 x7 x8 x9 x10 x11 x12 x13 x14 x15 x16 x17 x18 x19 x20 x21 x22 x23 : Sl} {r : List Sl} {ds : List D} {P : List D → Prop} : wpo 24 (x0 :: x1 :: x2 :: x3 :: x4 :: x5 :: x6 :: x7 :: x8 :: x9 :: x10 :: x11 :: x12 :: x13 :: x14 :: x15 :: x16 :: x17 :: x18 :: x19 :: x20 :: x21 :: x22 :: x23 :: .own ds :: r) P = P ds := by with_unfolding_all rfl
theorem f_24 {x0 x1 x2 x3 x4 x5 x6 x7 x8 x9 x10 x11 x12 x13 x14 x15 x16 x17 x18 x19 x20 x21 x22 x23 : Sl} {r : List Sl} {y : Sl} : frzAt 24 (x0 :: x1 :: x2 :: x3 :: x4 :: x5 :: x6 :: x7 :: x8 :: x9 :: x10 :: x11 :: x12 :: x13 :: x14 :: x15 :: x16 :: x17 :: x18 :: x19 :: x20 :: x21 :: x22 :: x23 :: y :: r) = x0 :: x1 :: x2 :: x3 :: x4 :: x5 :: x6 :: x7 :: x8 :: x9 :: x10 :: x11 :: x12 :: x13 :: x14 :: x15 :: x16 :: x17 :: x18 :: x19 :: x20 :: x21 :: x22 :: x23 :: frzSl y :: r := rfl
theorem o_25 {x0 x1 x2 x3 x4 x5 x6 x7 x8 x9 x10 x11 x12 x13 x14 x15 x16 x17 x18 x19 x20 x21 x22 x23 x24 : Sl} {r : List Sl} {ds : List D} {P : List D → Prop} : wpo 25 (x0 :: x1 :: x2 :: x3 :: x4 :: x5 :: x6 :: x7 :: x8 :: x9 :: x10 :: x11 :: x12 :: x13 :: x14 :: x15 :: x16 :: x17 :: x18 :: x19 :: x20 :: x21 :: x22 :: x23 :: x24 :: .own ds :: r) P = P ds := by with_unfolding_all rfl
theorem f_25 {x0 x1 x2 x3 x4 x5 x6 x7 x8 x9 x10 x11 x12 x13 x14 x15 x16 x17 x18 x19 x20 x21 x22 x23 x24 : Sl} {r : List Sl} {y : Sl} : frzAt 25 (x0 :: x1 :: x2 :: x3 :: x4 :: x5 :: x6 :: x7 :: x8 :: x9 :: x10 :: x11 :: x12 :: x13 :: x14 :: x15 :: x16 :: x17 :: x18 :: x19 :: x20 :: x21 :: x22 :: x23 :: x24 :: y :: r) = x0 :: x1 :: x2 :: x3 :: x4 :: x5 :: x6 :: x7 :: x8 :: x9 :: x10 :: x11 :: x12 :: x13 :: x14 :: x15 :: x16 :: x17 :: x18 :: x19 :: x20 :: x21 :: x22 :: x23 :: x24 :: frzSl y :: r := rfl
theorem fs_own {ds : List D} : frzSl (.own ds) = .dat (.lst ds) := rfl
theorem fs_dat {d : D} : frzSl (.dat d) = .dat d := rfl
theorem fs_emp : frzSl .emp = .emp := rfl
theorem wpo_of {i : Nat} {k : List D → Fl} : wps (ownAt i ρ k) N B C R X = wpo i ρ fun ds => wps (k ds) N B C R X := by
  unfold ownAt wpo
  cases ρ[i]? with
  | none => with_unfolding_all rfl
  | some y => cases y <;> (with_unfolding_all rfl)
theorem wps_ite {c : Prop} [Decidable c] {g h : Fl} : wps (if c then g else h) N B C R X = if c then wps g N B C R X else wps h N B C R X := by split <;> (with_unfolding_all rfl)
theorem ite_bad {c : Prop} [Decidable c] {g : Fl} : wps (if c then g else .bad) N B C R X = (c ∧ wps g N B C R X) := by
  by_cases h : c
  · rw [if_pos h]; simp [h]
  · rw [if_neg h]; simp [h, wps]
theorem q_app {i : Nat} {f : DE} : wps (sApp i f ρ s) N B C R X = wpo i ρ fun ds => wp (f ρ s) (fun d s1 => ds.length < 16777216 ∧ wpn ρ [(i, .own (ds ++ [d]))] fun ρ1 => N ρ1 s1) X := by
  unfold sApp
  rw [wpo_of]
  congr 1
  funext ds
  rw [wps_then]
  congr 1
  funext d s1
  rw [ite_bad, set_at]
  with_unfolding_all rfl
theorem q_ext {i : Nat} {f : DE} : wps (sExt i f ρ s) N B C R X = wpo i ρ fun ds => wp (f ρ s) (fun d s1 => ∃ es, d = .lst es ∧ ds.length + es.length ≤ 16777216 ∧ wpn ρ [(i, .own (ds ++ es))] fun ρ1 => N ρ1 s1) X := by
  unfold sExt
  rw [wpo_of]
  congr 1
  funext ds
  rw [wps_then]
  congr 1
  funext d s1
  cases d with
  | lst es =>
    simp only [D.lst.injEq, exists_eq_left']
    rw [ite_bad, set_at]
    with_unfolding_all rfl
  | _ => simp [wps]
theorem q_rev {i : Nat} : wps (sRev i ρ s) N B C R X = wpo i ρ fun ds => wpn ρ [(i, .own ds.reverse)] fun ρ1 => N ρ1 s := by
  unfold sRev
  rw [wpo_of]
  congr 1
  funext ds
  rw [set_at]
  with_unfolding_all rfl
theorem q_clr {i : Nat} : wps (sClr i ρ s) N B C R X = wpo i ρ fun ds => wpn ρ [(i, .own [])] fun ρ1 => N ρ1 s := by
  unfold sClr
  rw [wpo_of]
  congr 1
  funext ds
  rw [set_at]
  with_unfolding_all rfl
theorem q_retOwn {i : Nat} : wps (sRetOwn i ρ s) N B C R X = wpo i ρ fun ds => R (.lst ds) s := by
  unfold sRetOwn wpo
  cases ρ[i]? with
  | none => with_unfolding_all rfl
  | some y => cases y <;> (with_unfolding_all rfl)
theorem q_frz {i : Nat} {g : DS} : wps (sFrz i g ρ s) N B C R X = wps (g (frzAt i ρ) s) N B C R X := by with_unfolding_all rfl
theorem q_bor {good : α → Bool} {i : Nat} {f : List Sl → S → Res α} {Q : α → S → Prop} : wp (bor good i f ρ s) Q X = wp (f (frzAt i ρ) s) (fun d s1 => good d = true ∧ Q d s1) X := by
  unfold bor
  rw [wp_bind]
  congr 1
  funext d s1
  rw [wp_ite]
  by_cases h : good d = true
  · rw [if_pos h]; simp [h, wp]
  · rw [if_neg h]; simp [h, wp]
theorem flatB_true {b : Bool} : flatB b = true := rfl
theorem wp_revS {f : DE} {Q : D → S → Prop} : wp (eRevS f ρ s) Q X = wp (f ρ s) (fun d s1 => ∃ z, dRevS d = some z ∧ Q z s1) X := by
  unfold eRevS
  rw [wp_bind]
  congr 1
  funext d s1
  rw [wp_ofO]
theorem x_revt {xs : List D} {P : D → Prop} : (∃ z, dRevS (.tup xs) = some z ∧ P z) = P (.tup xs.reverse) := by show (∃ z, some (D.tup xs.reverse) = some z ∧ P z) = _; exact ex_some
theorem x_revl {xs : List D} {P : D → Prop} : (∃ z, dRevS (.lst xs) = some z ∧ P z) = P (.lst xs.reverse) := by show (∃ z, some (D.lst xs.reverse) = some z ∧ P z) = _; exact ex_some
theorem q_ins {i : Nat} {fk f : DE} : wps (sIns i fk f ρ s) N B C R X = wpo i ρ fun ds => wp (fk ρ s) (fun k s1 => wp (f ρ s1) (fun d s2 => ∃ z, k = .int z ∧ (ds.length < 16777216 ∧ 0 ≤ z ∧ z < 2 ^ 63) ∧ wpn ρ [(i, .own (ds.take z.toNat ++ [d] ++ ds.drop z.toNat))] fun ρ1 => N ρ1 s2) X) X := by
  unfold sIns
  rw [wpo_of]
  congr 1
  funext ds
  rw [wps_then, wp_aCons]
  congr 1
  funext k s1
  rw [wp_aCons]
  congr 1
  funext d s2
  rw [wp_aNil]
  cases k with
  | int z =>
    simp only [D.int.injEq, exists_eq_left']
    rw [ite_bad, set_at]
    with_unfolding_all rfl
  | _ => simp [wps]
end
/-- a loop whose slots are known but for something -/
theorem wpl_ofE {β : Type} {clr : List Nat} {g : DG} {b : DS} {ds : List D} {ρ : List Sl} {s : S} {N B C : List Sl → S → Prop} {R : D → S → Prop} {X : Str → S → Prop} {w : Wits N B C R X} (L : β → List Sl) (P : Nat → β → S → Prop) (x0 : β) (h0 : wipeD ρ clr = L x0) (p0 : P 0 x0 s)
    (hs : ∀ i d x s, ds[i]? = some d → P i x s → ∃ ρ1, g d (L x) = some ρ1 ∧ wps (b ρ1 s) (fun ρ2 s2 => ∃ y, wipeD ρ2 clr = L y ∧ P (i + 1) y s2) (fun ρ2 s2 => N (wipeD ρ2 clr) s2) (fun ρ2 s2 => ∃ y, wipeD ρ2 clr = L y ∧ P (i + 1) y s2) R X)
    (hn : ∀ x s, P ds.length x s → N (L x) s) : wpl clr g b ds ρ s N B C R X w := by
  refine wpl_of (fun i ρ s => ∃ x, ρ = L x ∧ P i x s) ⟨x0, h0, p0⟩ ?_ ?_
  · rintro i d _ s hd ⟨x, rfl, hp⟩
    exact hs i d x s hd hp
  · rintro _ s ⟨x, rfl, hp⟩
    exact hn x s hp
/-! ### walks -/
def nuD : D → Int
  | .tup [.int n, .int _] => n
  | _ => 0
/-- a chance above nought -/
def ChD (x : D) : Prop := ∃ n m : Int, x = .tup [.int n, .int m] ∧ 0 < n ∧ n ≤ m ∧ m ≤ 60 ∧ Int.gcd n m = 1
theorem ChD.nu {x : D} (h : ChD x) : nuD x ≠ 0 := by
  obtain ⟨n, m, rfl, h0, _⟩ := h
  show n ≠ 0
  omega
end DL
namespace DL
open PySem PySem.Spec PyProof.Rows L2
section
variable {α β : Type} {X : Str → S → Prop} {ρ : List Sl} {s : S} {N B C : List Sl → S → Prop} {R : D → S → Prop}
def enOf (ds : List D) : Option (List D) := match ds with
  | [d] => (sqOf d).map enumD
  | _ => none
def zpOf (ds : List D) : Option (List D) := match ds with
  | [d, e] => if isTu d = isTu e then (match sqOf d, sqOf e with
    | some as, some bs => some (zipD as bs)
    | _, _ => none) else none
  | _ => none
theorem wp_iEnum {fs : DA} {Q : List D → S → Prop} : wp (iEnum fs ρ s) Q X = wp (fs ρ s) (fun ds s1 => ∃ z, enOf ds = some z ∧ Q z s1) X := by
  unfold iEnum
  rw [wp_bind]
  congr 1
  funext ds s1
  rw [← wp_ofO]
  match ds with
  | [d] => rfl
  | [] => rfl
  | _ :: _ :: _ => rfl
theorem wp_iZip {fs : DA} {Q : List D → S → Prop} : wp (iZip fs ρ s) Q X = wp (fs ρ s) (fun ds s1 => ∃ z, zpOf ds = some z ∧ Q z s1) X := by
  unfold iZip
  rw [wp_bind]
  congr 1
  funext ds s1
  rw [← wp_ofO]
  match ds with
  | [d, e] =>
    unfold zpOf
    dsimp only
    split
    · cases sqOf d <;> cases sqOf e <;> rfl
    · rfl
  | [] => rfl
  | [_] => rfl
  | _ :: _ :: _ :: _ => rfl
theorem wp_iRev {f : DE} {Q : List D → S → Prop} : wp (iRev f ρ s) Q X = wp (f ρ s) (fun d s1 => ∃ z, (sqOf d).map List.reverse = some z ∧ Q z s1) X := by
  unfold iRev
  rw [wp_bind]
  congr 1
  funext d s1
  rw [wp_ofO]
end
section
variable {P : List D → Prop} {xs ys : List D}
theorem en_lst : (∃ z, enOf [.lst xs] = some z ∧ P z) = P (enumD xs) := by show (∃ z, some (enumD xs) = some z ∧ P z) = _; exact ex_some
theorem en_tup : (∃ z, enOf [.tup xs] = some z ∧ P z) = P (enumD xs) := by show (∃ z, some (enumD xs) = some z ∧ P z) = _; exact ex_some
theorem zp_lst : (∃ z, zpOf [.lst xs, .lst ys] = some z ∧ P z) = P (zipD xs ys) := by show (∃ z, some (zipD xs ys) = some z ∧ P z) = _; exact ex_some
theorem zp_tup : (∃ z, zpOf [.tup xs, .tup ys] = some z ∧ P z) = P (zipD xs ys) := by show (∃ z, some (zipD xs ys) = some z ∧ P z) = _; exact ex_some
theorem rv_lst : (∃ z, (sqOf (.lst xs)).map List.reverse = some z ∧ P z) = P xs.reverse := by show (∃ z, some xs.reverse = some z ∧ P z) = _; exact ex_some
theorem rv_tup : (∃ z, (sqOf (.tup xs)).map List.reverse = some z ∧ P z) = P xs.reverse := by show (∃ z, some xs.reverse = some z ∧ P z) = _; exact ex_some
end
/-! ### loops: what changes from turn to turn -/
def updL (ρ : List Sl) : List (Nat × Sl) → List Sl
  | [] => ρ
  | (i, x) :: r => updL (ρ.set i x) r
theorem wpl_u {β : Type} {clr : List Nat} {g : DG} {b : DS} {ds : List D} {ρ : List Sl} {s : S} {N B C : List Sl → S → Prop} {R : D → S → Prop} {X : Str → S → Prop} {w : Wits N B C R X} (U : β → List (Nat × Sl)) (P : Nat → β → S → Prop) (x0 : β) (h0 : updL (wipeD ρ clr) (U x0) = wipeD ρ clr) (p0 : P 0 x0 s)
    (hs : ∀ i d x s, ds[i]? = some d → P i x s → ∃ ρ1, g d (updL (wipeD ρ clr) (U x)) = some ρ1 ∧ wps (b ρ1 s) (fun ρ2 s2 => ∃ y, wipeD ρ2 clr = updL (wipeD ρ clr) (U y) ∧ P (i + 1) y s2) (fun ρ2 s2 => N (wipeD ρ2 clr) s2) (fun ρ2 s2 => ∃ y, wipeD ρ2 clr = updL (wipeD ρ clr) (U y) ∧ P (i + 1) y s2) R X)
    (hn : ∀ x s, P ds.length x s → N (updL (wipeD ρ clr) (U x)) s) : wpl clr g b ds ρ s N B C R X w :=
  wpl_ofE (fun x => updL (wipeD ρ clr) (U x)) P x0 h0.symm p0 hs hn
/-- the same, all told by how many turns are done -/
theorem wpl_n {clr : List Nat} {g : DG} {b : DS} {ds : List D} {ρ : List Sl} {s : S} {N B C : List Sl → S → Prop} {R : D → S → Prop} {X : Str → S → Prop} {w : Wits N B C R X} (U : Nat → List (Nat × Sl)) (h0 : updL (wipeD ρ clr) (U 0) = wipeD ρ clr)
    (hs : ∀ i d, ds[i]? = some d → ∃ ρ1, g d (updL (wipeD ρ clr) (U i)) = some ρ1 ∧ wps (b ρ1 s) (fun ρ2 s2 => wipeD ρ2 clr = updL (wipeD ρ clr) (U (i + 1)) ∧ s2 = s) (fun ρ2 s2 => N (wipeD ρ2 clr) s2) (fun ρ2 s2 => wipeD ρ2 clr = updL (wipeD ρ clr) (U (i + 1)) ∧ s2 = s) R X)
    (hn : N (updL (wipeD ρ clr) (U ds.length)) s) : wpl clr g b ds ρ s N B C R X w := by
  refine wpl_of (fun i ρ' s' => ρ' = updL (wipeD ρ clr) (U i) ∧ s' = s) ⟨h0.symm, rfl⟩ ?_ ?_
  · rintro i d _ _ hd ⟨rfl, rfl⟩
    exact hs i d hd
  · rintro _ _ ⟨rfl, rfl⟩
    exact hn
/-! ### rows of numbers as lists -/
def rowI (N : Nat) (f : Nat → Int) : List D := (List.range N).map fun k => .int (f k)
theorem rowI_len {N : Nat} {f : Nat → Int} : (rowI N f).length = N := by simp [rowI]
theorem rng0 {n i : Nat} {d : D} (h : (rngD 0 1 n)[i]? = some d) : i < n ∧ d = .int (i : Int) := by
  have hi := (List.getElem?_eq_some_iff.mp h).1
  rw [rngD_len] at hi
  rw [rngD_get hi] at h
  cases h
  exact ⟨hi, by congr 1; omega⟩
theorem x_mulL {a : List D} {k : Int} {P : D → Prop} : (∃ z, dMulL (.lst a) (.int k) = some z ∧ P z) = ((a.length * k.toNat ≤ 16777216 ∧ k ≤ 1000000 ∧ -1000000 ≤ k) ∧ P (.lst (List.replicate k.toNat a).flatten)) := ex_ite
theorem x_addL {a b : List D} {P : D → Prop} : (∃ z, dAddL (.lst a) (.lst b) = some z ∧ P z) = (a.length + b.length ≤ 16777216 ∧ P (.lst (a ++ b))) := ex_ite
theorem x_nileq {P : D → Prop} : (∃ z, dEq (.lst []) (.lst []) = some z ∧ P z) = P (.bl true) := by
  have : (if ready (.lst []) && ready (.lst []) then some (D.bl (eqB (.lst []) (.lst []))) else none) = dEq (.lst []) (.lst []) := rfl
  rw [← this, show ready (.lst []) = true from rfl]
  simp only [Bool.and_self, if_true]
  rw [show eqB (.lst []) (.lst []) = true by simp [eqB, toPy, toPys, PyData.eqv, PyData.eqvAll]]
  exact ex_some
theorem x_nilne {P : D → Prop} : (∃ z, dNe (.lst []) (.lst []) = some z ∧ P z) = P (.bl false) := by
  rw [ne_nil (show ready (.lst []) = true from rfl)]
  exact ex_some
/-! ### special lists of a def's own -/
theorem wp_scope {F : DFun} {ds : List D} {s : S} {Q : D → S → Prop} {X : Str → S → Prop} (h : wp (F ds s) (fun d s' => (∃ g, s' = s ++ g) ∧ tokLt s.length d = true ∧ Q d s) (fun c s' => (∃ g, s' = s ++ g) ∧ X c s)) : wp (scopeD F ds s) Q X := by
  unfold scopeD
  cases hF : F ds s with
  | bad => rw [hF, wp_bad] at h; exact h.elim
  | ok d s' =>
    rw [hF, wp_ok] at h
    have hc : (∃ g, s' = s ++ g) ∧ tokLt s.length d = true := ⟨h.1, h.2.1⟩
    dsimp only
    rw [if_pos hc, wp_ok]
    exact h.2.2
  | exc c s' =>
    rw [hF, wp_exc] at h
    dsimp only
    rw [if_pos h.1, wp_exc]
    exact h.2
section
variable {X : Str → S → Prop} {ρ : List Sl} {s : S}
theorem wp_tupT {fs : DA} {Q : D → S → Prop} : wp (eTupT fs ρ s) Q X = wp (fs ρ s) (fun ds s1 => ∃ z, tupT s1 ds = some z ∧ Q z s1) X := by
  unfold eTupT
  rw [wp_bind]
  congr 1
  funext a s1
  rw [wp_ofO]
theorem x_tt_tok {n : Nat} {P : D → Prop} : (∃ z, tupT s [.tok n] = some z ∧ P z) = ∃ l, tokL s n = some l ∧ P (.tup l) := by
  show (∃ z, (tokL s n).map .tup = some z ∧ P z) = _
  cases tokL s n <;> simp
theorem x_tt_tup {xs : List D} {P : D → Prop} : (∃ z, tupT s [.tup xs] = some z ∧ P z) = P (.tup xs) := by show (∃ z, some (D.tup xs) = some z ∧ P z) = _; exact ex_some
theorem x_tt_lst {xs : List D} {P : D → Prop} : (∃ z, tupT s [.lst xs] = some z ∧ P z) = P (.tup xs) := by show (∃ z, some (D.tup xs) = some z ∧ P z) = _; exact ex_some
end
theorem wp_ixO {i : Nat} {h : DE} {ρ : List Sl} {s : S} {Q : D → S → Prop} {X : Str → S → Prop} : wp (eIxO i h ρ s) Q X = wpo i ρ fun ds => wp (h ρ s) (fun k s1 => ∃ z, k = .int z ∧ ∃ d, atI ds z = some d ∧ Q d s1) X := by
  unfold eIxO wpo
  cases ρ[i]? with
  | none => simp only [wp_bad]
  | some y =>
    cases y with
    | own ds =>
      dsimp only
      rw [wp_bind]
      congr 1
      funext k s1
      cases k with
      | int z =>
        dsimp only
        rw [wp_ofO]
        simp
      | _ => simp [wp_bad]
    | _ => simp only [wp_bad]
theorem q_sput {i : Nat} {fi fv : DE} {ρ : List Sl} {s : S} {N B C : List Sl → S → Prop} {R : D → S → Prop} {X : Str → S → Prop} : wps (sPut i fi fv ρ s) N B C R X = wpo i ρ fun ds => wp (fv ρ s) (fun d s1 => wp (fi ρ s1) (fun k s2 => ∃ z, k = .int z ∧ ∃ j, ixN ds.length z = some j ∧ wpn ρ [(i, .own (ds.set j d))] fun ρ1 => N ρ1 s2) X) X := by
  unfold sPut
  rw [wpo_of]
  congr 1
  funext ds
  rw [wps_then]
  congr 1
  funext d s1
  rw [wps_then]
  congr 1
  funext k s2
  cases k with
  | int z =>
    simp only [D.int.injEq, exists_eq_left']
    cases hx : ixN ds.length z with
    | none => simp [wps, hx]
    | some j =>
      simp only [Option.some.injEq, exists_eq_left', hx]
      rw [set_at]
      with_unfolding_all rfl
  | _ => simp [wps]
end DL
namespace DL
open PySem PySem.Spec PyProof.Rows L2
/-! ### loops over lists that are written out -/
section
variable {ρ : List Sl} {s : S} {N B C : List Sl → S → Prop} {R : D → S → Prop} {X : Str → S → Prop}
theorem q_popI {i : Nat} {f : DE} : wps (sPopI i f ρ s) N B C R X = wpo i ρ fun ds => wp (f ρ s) (fun d s1 => ∃ z, d = .int z ∧ (-(2 ^ 63) ≤ z ∧ z < 2 ^ 63) ∧ ∃ p, dropAt ds z = some p ∧ wpn ρ [(i, .own p.2)] fun ρ1 => N ρ1 s1) X := by
  unfold sPopI
  rw [wpo_of]
  congr 1
  funext ds
  rw [wps_then]
  congr 1
  funext d s1
  cases d with
  | int z =>
    simp only [D.int.injEq, exists_eq_left']
    rw [ite_bad]
    congr 1
    cases h : dropAt ds z with
    | none => simp [wps]
    | some p =>
      simp only [Option.some.injEq, exists_eq_left', set_at]
      with_unfolding_all rfl
  | _ => simp [wps]
theorem wp_lstR1 {f : DE} {Q : D → S → Prop} : wp (eLstR1 f ρ s) Q X = wp (f ρ s) (fun d s1 => ∃ j, d = .int j ∧ (-(2 ^ 62) ≤ j ∧ j ≤ 2 ^ 24) ∧ Q (.lst (rngD 0 1 j.toNat)) s1) X := by
  unfold eLstR1
  rw [wp_bind]
  congr 1
  funext d s1
  cases d with
  | int j =>
    simp only [D.int.injEq, exists_eq_left']
    rw [wp_ite, wp_ok, wp_bad]
    by_cases h : -(2 ^ 62) ≤ j ∧ j ≤ 2 ^ 24
    · rw [if_pos h]; exact propext ⟨fun q => ⟨h, q⟩, fun q => q.2⟩
    · rw [if_neg h]; exact propext ⟨fun q => q.elim, fun q => h q.1⟩
  | _ => simp [wp_bad]
theorem wp_lstR2 {f g : DE} {Q : D → S → Prop} : wp (eLstR2 f g ρ s) Q X = wp (f ρ s) (fun d s1 => wp (g ρ s1) (fun e s2 => ∃ i, d = .int i ∧ ∃ j, e = .int j ∧ (-(2 ^ 62) ≤ i ∧ i < 2 ^ 62 ∧ -(2 ^ 62) ≤ j ∧ j < 2 ^ 62 ∧ (j - i).toNat ≤ 2 ^ 24) ∧ Q (.lst (rngD i 1 (j - i).toNat)) s2) X) X := by
  unfold eLstR2
  rw [wp_bind]
  congr 1
  funext d s1
  rw [wp_bind]
  congr 1
  funext e s2
  cases d with
  | int i =>
    cases e with
    | int j =>
      simp only [D.int.injEq, exists_eq_left']
      rw [wp_ite, wp_ok, wp_bad]
      split
      · rename_i h; exact propext ⟨fun q => ⟨h, q⟩, fun q => q.2⟩
      · rename_i h; exact propext ⟨fun q => q.elim, fun q => h q.1⟩
    | _ => simp [wp_bad]
  | _ => simp [wp_bad]
theorem wp_revR1 {f : DE} {Q : List D → S → Prop} : wp (iRevR1 f ρ s) Q X = wp (f ρ s) (fun d s1 => ∃ j, d = .int j ∧ (-(2 ^ 62) ≤ j ∧ j < 2 ^ 62) ∧ Q (rngD ((j.toNat : Int) - 1) (-1) j.toNat) s1) X := by
  unfold iRevR1
  rw [wp_bind]
  congr 1
  funext d s1
  cases d with
  | int j =>
    simp only [D.int.injEq, exists_eq_left']
    rw [wp_ite, wp_ok, wp_bad]
    split
    · rename_i h; exact propext ⟨fun q => ⟨h, q⟩, fun q => q.2⟩
    · rename_i h; exact propext ⟨fun q => q.elim, fun q => h q.1⟩
  | _ => simp [wp_bad]
theorem wp_revR2 {f g : DE} {Q : List D → S → Prop} : wp (iRevR2 f g ρ s) Q X = wp (f ρ s) (fun d s1 => wp (g ρ s1) (fun e s2 => ∃ i, d = .int i ∧ ∃ j, e = .int j ∧ (-(2 ^ 62) ≤ i ∧ i < 2 ^ 62 ∧ -(2 ^ 62) ≤ j ∧ j < 2 ^ 62) ∧ Q (rngD (i + ((j - i).toNat : Int) - 1) (-1) (j - i).toNat) s2) X) X := by
  unfold iRevR2
  rw [wp_bind]
  congr 1
  funext d s1
  rw [wp_bind]
  congr 1
  funext e s2
  cases d with
  | int i =>
    cases e with
    | int j =>
      simp only [D.int.injEq, exists_eq_left']
      rw [wp_ite, wp_ok, wp_bad]
      split
      · rename_i h; exact propext ⟨fun q => ⟨h, q⟩, fun q => q.2⟩
      · rename_i h; exact propext ⟨fun q => q.elim, fun q => h q.1⟩
    | _ => simp [wp_bad]
  | _ => simp [wp_bad]
end
end DL
namespace DL
open PySem PySem.Spec PyProof.Rows L2
/-! ### the order of data, and what sorted gives -/
/-! whole numbers -/
/-! tuples of whole numbers -/
def tupI (xs : List Int) : D := .tup (xs.map .int)
/-! rows of noughts and ones -/
/-! equality of tuples of whole numbers -/
/-! tuples of texts, told by numbers -/
/-! parts of things -/
end DL
namespace DL
open PySem PySem.Spec PyProof.Rows L2
/-! ### dicts, plain -/
section
variable {ρ : List Sl} {s : S} {N B C : List Sl → S → Prop} {R : D → S → Prop} {X : Str → S → Prop}
theorem wp_newK {Q : D → S → Prop} : wp (eNewK ρ s) Q X = Q (.tok s.length) (s ++ [.d []]) := by unfold eNewK; rw [wp_ok]
theorem wp_newT {Q : D → S → Prop} : wp (eNewT ρ s) Q X = Q (.tok s.length) (s ++ [.t []]) := by unfold eNewT; rw [wp_ok]
theorem wp_evp {ps : List (DE × DE)} {Q : List (Key × D) → S → Prop} {f g : DE} : wp (evPairs ((f, g) :: ps) ρ s) Q X = wp (f ρ s) (fun k s1 => wp (g ρ s1) (fun d s2 => ∃ kk, dk k = some kk ∧ wp (evPairs ps ρ s2) (fun l s3 => Q ((kk, d) :: l) s3) X) X) X := by
  conv => lhs; unfold evPairs
  rw [wp_bind]
  congr 1
  funext k s1
  rw [wp_bind]
  congr 1
  funext d s2
  cases dk k with
  | none => simp [wp]
  | some kk =>
    simp only [Option.some.injEq, exists_eq_left']
    rw [wp_bind]
    congr 1
    funext l s3
    rw [wp_ok]
theorem wp_evp0 {Q : List (Key × D) → S → Prop} : wp (evPairs [] ρ s) Q X = Q [] s := by unfold evPairs; rw [wp_ok]
theorem wp_dispK {ps : List (DE × DE)} {Q : D → S → Prop} : wp (eDispK ps ρ s) Q X = wp (evPairs ps ρ s) (fun l s1 => flats ((mergeC l).map (·.2)) = true ∧ Q (.tok s1.length) (s1 ++ [.d (mergeC l)])) X := by
  unfold eDispK
  rw [wp_bind]
  congr 1
  funext l s1
  rw [wp_ite, wp_ok, wp_bad]
  by_cases h : flats ((mergeC l).map (·.2)) = true
  · rw [if_pos h]; exact propext ⟨fun q => ⟨h, q⟩, fun q => q.2⟩
  · rw [if_neg h]; exact propext ⟨fun q => q.elim, fun q => h q.1⟩
theorem wp_dispT {f g : DE} {Q : D → S → Prop} : wp (eDispT f g ρ s) Q X = wp (f ρ s) (fun k s1 => wp (g ρ s1) (fun d s2 => ∃ kk, dkT k = some kk ∧ flat d = true ∧ Q (.tok s2.length) (s2 ++ [.t [(kk, d)]])) X) X := by
  unfold eDispT
  rw [wp_bind]
  congr 1
  funext k s1
  rw [wp_bind]
  congr 1
  funext d s2
  cases dkT k with
  | none => simp [wp]
  | some kk =>
    simp only [Option.some.injEq, exists_eq_left']
    rw [wp_ite, wp_ok, wp_bad]
    by_cases h : flat d = true
    · rw [if_pos h]; exact propext ⟨fun q => ⟨h, q⟩, fun q => q.2⟩
    · rw [if_neg h]; exact propext ⟨fun q => q.elim, fun q => h q.1⟩
theorem wp_get2 {f h g : DE} {Q : D → S → Prop} : wp (eGet2 f h g ρ s) Q X = wp (f ρ s) (fun a s1 => isDct s1 a = true ∧ wp (h ρ s1) (fun y s2 => wp (g ρ s2) (fun z s3 => ∃ o, getC s3 a y = some o ∧ Q (o.getD z) s3) X) X) X := by
  unfold eGet2
  rw [wp_bind]
  congr 1
  funext a s1
  rw [wp_ite, wp_bad]
  by_cases hd : isDct s1 a = true
  · rw [if_pos hd, wp_bind]
    refine propext ⟨fun q => ⟨hd, ?_⟩, fun q => ?_⟩
    · refine wp_mono q (fun y s2 q => ?_) fun _ _ z => z
      rw [wp_bind] at q
      refine wp_mono q (fun z s3 q => ?_) fun _ _ z => z
      rw [wp_ofO] at q
      obtain ⟨u, hu, q⟩ := q
      obtain ⟨o, ho, rfl⟩ := Option.map_eq_some_iff.mp hu
      exact ⟨o, ho, q⟩
    · refine wp_mono q.2 (fun y s2 q => ?_) fun _ _ z => z
      rw [wp_bind]
      refine wp_mono q (fun z s3 q => ?_) fun _ _ z => z
      rw [wp_ofO]
      obtain ⟨o, ho, q⟩ := q
      exact ⟨_, by rw [ho]; rfl, q⟩
  · rw [if_neg hd]
    exact propext ⟨fun q => q.elim, fun q => hd q.1⟩
theorem wp_iRange3 {fs : DA} {Q : List D → S → Prop} : wp (iRange3 fs ρ s) Q X = wp (fs ρ s) (fun ds s1 => ∃ i j c, ds = [.int i, .int j, .int c] ∧ (c = -1 ∧ -(2 ^ 60) ≤ i ∧ i < 2 ^ 60 ∧ -(2 ^ 60) ≤ j ∧ j < 2 ^ 60) ∧ Q (rngD i c (i - j).toNat) s1) X := by
  unfold iRange3
  rw [wp_bind]
  congr 1
  funext ds s1
  split
  · rename_i i j c
    rw [wp_ite, wp_ok, wp_bad]
    by_cases h : c = -1 ∧ -(2 ^ 60) ≤ i ∧ i < 2 ^ 60 ∧ -(2 ^ 60) ≤ j ∧ j < 2 ^ 60
    · rw [if_pos h]
      exact propext ⟨fun q => ⟨i, j, c, rfl, h, q⟩, fun ⟨i', j', c', e, h', q⟩ => by cases e; exact q⟩
    · rw [if_neg h]
      exact propext ⟨fun q => q.elim, fun ⟨i', j', c', e, h', q⟩ => by cases e; exact h h'⟩
  · rename_i h
    rw [wp_bad]
    exact propext ⟨fun z => z.elim, fun ⟨i, j, c, e, _⟩ => h i j c e⟩
def zpMOf (ds : List D) : Option (List D) := match ds with
  | [d, e] => if isTu d = false ∧ isTu e = true then (match sqOf d, sqOf e with
    | some as, some bs => some (zipD as bs)
    | _, _ => none) else none
  | _ => none
theorem wp_iZipM {fs : DA} {Q : List D → S → Prop} : wp (iZipM fs ρ s) Q X = wp (fs ρ s) (fun ds s1 => ∃ z, zpMOf ds = some z ∧ Q z s1) X := by
  unfold iZipM
  rw [wp_bind]
  congr 1
  funext ds s1
  unfold zpMOf
  split
  · rename_i d e
    rw [wp_ite, wp_bad]
    try dsimp only
    by_cases h : isTu d = false ∧ isTu e = true
    · rw [if_pos h, if_pos h]
      cases sqOf d <;> cases sqOf e <;> simp [wp]
    · rw [if_neg h, if_neg h]; simp
  · simp [wp]
theorem zp_m {xs ys : List D} {P : List D → Prop} : (∃ z, zpMOf [.lst xs, .tup ys] = some z ∧ P z) = P (zipD xs ys) := by show (∃ z, some (zipD xs ys) = some z ∧ P z) = _; exact ex_some
theorem q_r3 {i j c : Int} {P : Int → Int → Int → Prop} : (∃ a b d, [D.int i, D.int j, D.int c] = [D.int a, D.int b, D.int d] ∧ P a b d) = P i j c := by
  refine propext ⟨fun ⟨a, b, d, e, p⟩ => by cases e; exact p, fun p => ⟨i, j, c, rfl, p⟩⟩
/-- what a store makes of the special objects -/
def putS (s : S) (t k d : D) : Option S := match t with
  | .tok n => match tokK s n, tokT s n, dk k, dkT k with
    | some l, _, some k, _ => if flat d = true ∧ l.length < 16777216 then some (s.set n (.d (putC l k d))) else none
    | _, some l, _, some k => if flat d = true ∧ l.length < 16777216 then some (s.set n (.t (putC l k d))) else none
    | _, _, _, _ => none
  | _ => none
theorem wps_putC {f fi fv : DE} : wps (sPutC f fi fv ρ s) N B C R X = wp (fv ρ s) (fun d s1 => wp (f ρ s1) (fun t s2 => wp (fi ρ s2) (fun k s3 => ∃ s4, putS s3 t k d = some s4 ∧ N ρ s4) X) X) X := by
  unfold sPutC
  rw [wps_then]
  congr 1
  funext d s1
  rw [wps_then]
  congr 1
  funext t s2
  rw [wps_then]
  congr 1
  funext k s3
  unfold putS
  cases t with
  | tok n =>
    try dsimp only
    cases tokK s3 n <;> cases tokT s3 n <;> cases dk k <;> cases dkT k <;> first
      | (simp [wps]; done)
      | (dsimp only; rw [wps_ite, wz_next, wz_bad]; split <;> simp_all)
  | _ => simp [wps]
end
/-! the pen that is a dict -/
def penC (p left : D) : Cell := .d [(.inr "cells", .tok 0), (.inr "at", p), (.inr "left", left)]
section
variable {c0 : Cell} {p l d : D} {r : S} {P : D → Prop} {Q : S → Prop}
theorem x_pcells : (∃ z, dIxC (c0 :: penC p l :: r) (.tok 1) (.str "cells") = some z ∧ P z) = P (.tok 0) := by
  have e : dIxC (c0 :: penC p l :: r) (.tok 1) (.str "cells") = some (.tok 0) := rfl
  rw [e]; exact ex_some
theorem x_pat : (∃ z, dIxC (c0 :: penC p l :: r) (.tok 1) (.str "at") = some z ∧ P z) = P p := by
  have e : dIxC (c0 :: penC p l :: r) (.tok 1) (.str "at") = some p := rfl
  rw [e]; exact ex_some
theorem x_pleft : (∃ z, dIxC (c0 :: penC p l :: r) (.tok 1) (.str "left") = some z ∧ P z) = P l := by
  have e : dIxC (c0 :: penC p l :: r) (.tok 1) (.str "left") = some l := rfl
  rw [e]; exact ex_some
theorem x_wat : (∃ z, putS (c0 :: penC p l :: r) (.tok 1) (.str "at") d = some z ∧ Q z) = (flat d = true ∧ Q (c0 :: penC d l :: r)) := by
  have e : putS (c0 :: penC p l :: r) (.tok 1) (.str "at") d = if flat d = true ∧ 3 < 16777216 then some (c0 :: penC d l :: r) else none := rfl
  rw [e]
  by_cases h : flat d = true <;> simp [h]
theorem x_wleft : (∃ z, putS (c0 :: penC p l :: r) (.tok 1) (.str "left") d = some z ∧ Q z) = (flat d = true ∧ Q (c0 :: penC p d :: r)) := by
  have e : putS (c0 :: penC p l :: r) (.tok 1) (.str "left") d = if flat d = true ∧ 3 < 16777216 then some (c0 :: penC p d :: r) else none := rfl
  rw [e]
  by_cases h : flat d = true <;> simp [h]
end
end DL
namespace DL
open PySem PySem.Spec PyProof.Rows L2
section
variable {ρ : List Sl} {s : S} {N B C : List Sl → S → Prop} {R : D → S → Prop} {X : Str → S → Prop}
theorem q_move {i j : Nat} : wps (sMove i j ρ s) N B C R X = wpo j ρ fun ds => wpn ρ [(j, .emp), (i, .own ds)] fun ρ1 => N ρ1 s := by
  unfold sMove
  rw [wpo_of]
  congr 1
  funext ds
  simp only [set_at]
  with_unfolding_all rfl
theorem wps_appT {f fv : DE} : wps (sAppT f fv ρ s) N B C R X = wp (f ρ s) (fun t s1 => isTokL s1 t = true ∧ wp (fv ρ s1) (fun d s2 => ∃ s3, appS s2 t d = some s3 ∧ N ρ s3) X) X := by
  unfold sAppT
  rw [wps_then]
  congr 1
  funext t s1
  by_cases h : isTokL s1 t = true
  · rw [if_pos h, wps_then]
    refine propext ⟨fun q => ⟨h, ?_⟩, fun q => ?_⟩
    · refine wp_mono q (fun d s2 q => ?_) fun _ _ z => z
      cases ha : appS s2 t d with
      | none => rw [ha] at q; simp [wps] at q
      | some s3 => rw [ha] at q; exact ⟨s3, rfl, by simpa [wps] using q⟩
    · refine wp_mono q.2 (fun d s2 q => ?_) fun _ _ z => z
      obtain ⟨s3, e, q⟩ := q
      rw [e]
      simpa [wps] using q
  · rw [if_neg h]
    exact propext ⟨fun q => by simp [wps] at q, fun q => absurd q.1 h⟩
/-- the expressions that change an own list -/
theorem wpy_pop {i : Nat} {Q : D × List Sl → S → Prop} : wp (yPop i ρ s) Q X = wpo i ρ fun ds => ∃ d, ds.getLast? = some d ∧ Q (d, ρ.set i (.own ds.dropLast)) s := by
  unfold yPop wpo
  cases ρ[i]? with
  | none => exact propext ⟨fun q => by simp [wp] at q, fun q => q.elim⟩
  | some y =>
    cases y with
    | own ds =>
      dsimp only
      cases ds.getLast? with
      | none => exact propext ⟨fun q => by simp [wp] at q, fun ⟨_, e, _⟩ => by cases e⟩
      | some d => exact propext ⟨fun q => ⟨d, rfl, by rwa [wp_ok] at q⟩, fun ⟨_, e, q⟩ => by cases e; rwa [wp_ok]⟩
    | _ => exact propext ⟨fun q => by simp [wp] at q, fun q => q.elim⟩
theorem wpy_popI {i : Nat} {f : DE} {Q : D × List Sl → S → Prop} : wp (yPopI i f ρ s) Q X = wpo i ρ fun ds => wp (f ρ s) (fun d s1 => ∃ z, d = .int z ∧ (-(2 ^ 63) ≤ z ∧ z < 2 ^ 63) ∧ ∃ p, dropAt ds z = some p ∧ Q (p.1, ρ.set i (.own p.2)) s1) X := by
  unfold yPopI wpo
  cases ρ[i]? with
  | none => exact propext ⟨fun q => by simp [wp] at q, fun q => q.elim⟩
  | some y =>
    cases y with
    | own ds =>
      dsimp only
      rw [wp_bind]
      congr 1
      funext d s1
      cases d with
      | int z =>
        simp only [D.int.injEq, exists_eq_left']
        rw [wp_ite, wp_bad]
        by_cases h : -(2 ^ 63) ≤ z ∧ z < 2 ^ 63
        · rw [if_pos h]
          cases dropAt ds z with
          | none => exact propext ⟨fun q => by simp [wp] at q, fun ⟨_, _, e, _⟩ => by cases e⟩
          | some p => exact propext ⟨fun q => ⟨h, p, rfl, by rwa [wp_ok] at q⟩, fun ⟨_, _, e, q⟩ => by cases e; rwa [wp_ok]⟩
        · rw [if_neg h]
          exact propext ⟨fun q => q.elim, fun q => h q.1⟩
      | _ => exact propext ⟨fun q => by simp [wp] at q, fun ⟨_, e, _⟩ => by cases e⟩
    | _ => exact propext ⟨fun q => by simp [wp] at q, fun q => q.elim⟩
theorem wpy_op2 {g : F2} {f : DY} {h : DE} {Q : D × List Sl → S → Prop} : wp (yOp2 g f h ρ s) Q X = wp (f ρ s) (fun p s1 => wp (h p.2 s1) (fun b s2 => ∃ d, g p.1 b = some d ∧ Q (d, p.2) s2) X) X := by
  unfold yOp2
  rw [wp_bind]
  congr 1
  funext p s1
  rw [wp_bind]
  congr 1
  funext b s2
  cases g p.1 b <;> simp [wp]
theorem q_appY {i : Nat} {f : DY} : wps (sAppY i f ρ s) N B C R X = wpo i ρ fun _ => wp (f ρ s) (fun p s1 => wpo i p.2 fun ds => ds.length < 16777216 ∧ wpn p.2 [(i, .own (ds ++ [p.1]))] fun ρ1 => N ρ1 s1) X := by
  unfold sAppY
  rw [wpo_of]
  congr 1
  funext _
  rw [wps_then]
  congr 1
  funext p s1
  rw [wpo_of]
  congr 1
  funext ds
  rw [ite_bad]
  simp only [set_at]
  with_unfolding_all rfl
theorem wp_fmt {f : DE} {Q : D → S → Prop} : wp (eFmt f ρ s) Q X = wp (f ρ s) (fun d s1 => match d with
    | .int i => i.natAbs.log2 < 1920 ∧ Q (.str (toString i)) s1
    | .str y => y.length ≤ 16777216 ∧ Q (.str y) s1
    | _ => False) X := by
  unfold eFmt
  rw [wp_bind]
  congr 1
  funext d s1
  cases d with
  | int i =>
    dsimp only
    rw [wp_ite, wp_ok, wp_bad]
    by_cases h : i.natAbs.log2 < 1920 <;> simp [h]
  | str y =>
    dsimp only
    rw [wp_ite, wp_ok, wp_bad]
    by_cases h : y.length ≤ 16777216 <;> simp [h]
  | _ => simp [wp]
theorem wp_js {fs : List DE} {Q : D → S → Prop} : wp (eJs fs ρ s) Q X = wp (jsD fs Str.empty ρ s) Q X := rfl
theorem wp_js0 {acc : Str} {Q : D → S → Prop} : wp (jsD [] acc ρ s) Q X = Q (.str acc) s := by unfold jsD; rw [wp_ok]
theorem wp_js1 {acc : Str} {f : DE} {fs : List DE} {Q : D → S → Prop} : wp (jsD (f :: fs) acc ρ s) Q X = wp (f ρ s) (fun d s1 => ∃ y, d = .str y ∧ (acc ++ y).length ≤ 16777216 ∧ wp (jsD fs (acc ++ y) ρ s1) Q X) X := by
  conv => lhs; unfold jsD
  rw [wp_bind]
  congr 1
  funext d s1
  cases d with
  | str y =>
    simp only [D.str.injEq, exists_eq_left']
    rw [wp_ite, wp_bad]
    by_cases h : (acc ++ y).length ≤ 16777216 <;> simp [h]
  | _ => simp [wp]
theorem x_dm {i j : Int} {P : D → Prop} : (∃ z, dDivmod [.int i, .int j] = some z ∧ P z) = ((0 < j ∧ j < 1073741824) ∧ P (.tup [.int (i / j), .int (i % j)])) := by
  unfold dDivmod
  by_cases h : 0 < j ∧ j < 1073741824 <;> simp [h]
theorem wp_chain3 {g g' g'' : F2} {f h k l : DE} {Q : D → S → Prop} : wp (eChain3 g g' g'' f h k l ρ s) Q X = wp (f ρ s) (fun x s1 => wp (h ρ s1) (fun y s2 => ∃ d, g x y = some d ∧ ∃ b, d = .bl b ∧ (if b = true then wp (k ρ s2) (fun z s3 => ∃ d, g' y z = some d ∧ ∃ c, d = .bl c ∧ (if c = true then wp (l ρ s3) (fun u s4 => ∃ d, g'' z u = some d ∧ Q d s4) X else Q (.bl false) s3)) X else Q (.bl false) s2)) X) X := by
  unfold eChain3
  rw [wp_bind]
  congr 1
  funext x s1
  rw [wp_bind]
  congr 1
  funext y s2
  cases g x y with
  | none => simp [wp]
  | some d =>
    cases d with
    | bl b =>
      cases b with
      | false => simp [wp]
      | true =>
        simp only [Option.some.injEq, exists_eq_left', D.bl.injEq, if_true]
        rw [wp_bind]
        congr 1
        funext z s3
        cases g' y z with
        | none => simp [wp]
        | some d =>
          cases d with
          | bl c =>
            cases c with
            | false => simp [wp]
            | true =>
              simp only [Option.some.injEq, exists_eq_left', D.bl.injEq, if_true]
              rw [wp_bind]
              congr 1
              funext u s4
              rw [wp_ofO]
          | _ => simp [wp]
    | _ => simp [wp]
end
theorem x_rat0 {q : Rat} {s : S} {P : D → Prop} : (∃ z, dIxT s (rat q) (.int 0) = some z ∧ P z) = P (.int q.num) := by
  have e : dIxT s (rat q) (.int 0) = some (.int q.num) := rfl
  rw [e]; exact ex_some
theorem x_rat1 {q : Rat} {s : S} {P : D → Prop} : (∃ z, dIxT s (rat q) (.int 1) = some z ∧ P z) = P (.int q.den) := by
  have e : dIxT s (rat q) (.int 1) = some (.int q.den) := rfl
  rw [e]; exact ex_some
end DL
namespace DL
open PySem PySem.Spec PyProof.Rows L2
section
variable {ρ : List Sl} {s : S} {N B C : List Sl → S → Prop} {R : D → S → Prop} {X : Str → S → Prop}
theorem q_swap {i : Nat} {fe gi gj : DE} : wps (sSwap i fe gi gj ρ s) N B C R X = wp (fe ρ s) (fun v s1 => ∃ d e, v = .tup [d, e] ∧ wpo i ρ fun ds => wp (gi ρ s1) (fun k s2 => ∃ z, k = .int z ∧ ∃ j, ixN ds.length z = some j ∧ wpn ρ [(i, .own (ds.set j d))] fun ρ1 => wp (gj ρ1 s2) (fun k' s3 => ∃ z', k' = .int z' ∧ ∃ j', ixN ds.length z' = some j' ∧ wpn ρ [(i, .own ((ds.set j d).set j' e))] fun ρ2 => N ρ2 s3) X) X) X := by
  unfold sSwap
  rw [wps_then]
  congr 1
  funext v s1
  match v with
  | .tup [d, e] =>
    refine Eq.trans (b := wpo i ρ fun ds => wp (gi ρ s1) (fun k s2 => ∃ z, k = .int z ∧ ∃ j, ixN ds.length z = some j ∧ wpn ρ [(i, .own (ds.set j d))] fun ρ1 => wp (gj ρ1 s2) (fun k' s3 => ∃ z', k' = .int z' ∧ ∃ j', ixN ds.length z' = some j' ∧ wpn ρ [(i, .own ((ds.set j d).set j' e))] fun ρ2 => N ρ2 s3) X) X) ?_ (propext ⟨fun q => ⟨d, e, rfl, q⟩, fun ⟨_, _, h, q⟩ => by cases h; exact q⟩)
    rw [wpo_of]
    congr 1
    funext ds
    rw [wps_then]
    congr 1
    funext k s2
    cases k with
    | int z =>
      simp only [D.int.injEq, exists_eq_left']
      cases hx : ixN ds.length z with
      | none => simp [wps]
      | some j =>
        simp only [Option.some.injEq, exists_eq_left', wpn]
        rw [wps_then, set_at]
        congr 1
        funext k' s3
        cases k' with
        | int z' =>
          simp only [D.int.injEq, exists_eq_left']
          cases hy : ixN ds.length z' with
          | none => simp [wps]
          | some j' =>
            simp only [Option.some.injEq, exists_eq_left', wz_next]
            rw [set_at]
        | _ => simp [wps]
    | _ => simp [wps]
  | .non => simp [wps]
  | .bl _ => simp [wps]
  | .int _ => simp [wps]
  | .str _ => simp [wps]
  | .lst _ => simp [wps]
  | .frz _ => simp [wps]
  | .dct _ => simp [wps]
  | .tok _ => simp [wps]
  | .ty _ => simp [wps]
  | .glb _ => simp [wps]
  | .ktp _ => simp [wps]
  | .exc _ => simp [wps]
  | .fd _ _ => simp [wps]
  | .tup [] => simp [wps]
  | .tup [_] => simp [wps]
  | .tup (_ :: _ :: _ :: _) => simp [wps]
theorem wp_idx {f h : DE} {Q : D → S → Prop} : wp (eIdx f h ρ s) Q X = wp (f ρ s) (fun x s1 => ∃ ds, x = .lst ds ∧ wp (h ρ s1) (fun y s2 => ∃ z, dIdx ds y = some z ∧ Q z s2) X) X := by
  unfold eIdx
  rw [wp_bind]
  congr 1
  funext x s1
  cases x with
  | lst ds =>
    simp only [D.lst.injEq, exists_eq_left']
    rw [wp_bind]
    congr 1
    funext y s2
    rw [wp_ofO]
  | _ => simp [wp]
theorem q_tup2 {d e : D} {P : D → D → Prop} : (∃ d' e', D.tup [d, e] = .tup [d', e'] ∧ P d' e') = P d e := propext ⟨fun ⟨_, _, h, q⟩ => by cases h; exact q, fun q => ⟨d, e, rfl, q⟩⟩
theorem wp_iZip3 {fs : DA} {Q : List D → S → Prop} : wp (iZip3 fs ρ s) Q X = wp (fs ρ s) (fun ds s1 => ∃ z, zp3Of ds = some z ∧ Q z s1) X := by
  unfold iZip3
  rw [wp_bind]
  congr 1
  funext ds s1
  rw [wp_ofO]
theorem zp_3 {xs ys zs : List D} {P : List D → Prop} : (∃ z, zp3Of [.lst xs, .lst ys, .lst zs] = some z ∧ P z) = P (zip3D xs ys zs) := by show (∃ z, some (zip3D xs ys zs) = some z ∧ P z) = _; exact ex_some
theorem wp_lenC {fs : DA} {Q : D → S → Prop} : wp (eLenC fs ρ s) Q X = wp (fs ρ s) (fun ds s1 => ∃ z, lenC s1 ds = some z ∧ Q z s1) X := by
  unfold eLenC
  rw [wp_bind]
  congr 1
  funext ds s1
  rw [wp_ofO]
theorem wp_iZip3X {fs : DA} {Q : List D → S → Prop} : wp (iZip3X fs ρ s) Q X = wp (fs ρ s) (fun ds s1 => ∃ z, zp3OfX ds = some z ∧ Q z s1) X := by
  unfold iZip3X
  rw [wp_bind]
  congr 1
  funext ds s1
  rw [wp_ofO]
theorem zp_3X {xs ys zs : List D} {P : List D → Prop} : (∃ z, zp3OfX [.tup xs, .lst ys, .tup zs] = some z ∧ P z) = P (zip3D xs ys zs) := by show (∃ z, some (zip3D xs ys zs) = some z ∧ P z) = _; exact ex_some
end
end DL
namespace DL
open PySem PySem.Spec PyProof.Rows L2
section
variable {ρ : List Sl} {s : S} {N B C : List Sl → S → Prop} {R : D → S → Prop} {X : Str → S → Prop}
theorem wp_cnt {f h : DE} {Q : D → S → Prop} : wp (eCnt f h ρ s) Q X = wp (f ρ s) (fun x s1 => ∃ ds, x = .lst ds ∧ wp (h ρ s1) (fun y s2 => ∃ z, dCnt ds y = some z ∧ Q z s2) X) X := by
  unfold eCnt
  rw [wp_bind]
  congr 1
  funext x s1
  cases x with
  | lst ds =>
    simp only [D.lst.injEq, exists_eq_left']
    rw [wp_bind]
    congr 1
    funext y s2
    rw [wp_ofO]
  | _ => simp [wp]
theorem wp_fin {x : Fl} {Q : D → S → Prop} : wp (finD x) Q X = wps x (fun _ s => Q .non s) (fun _ _ => False) (fun _ _ => False) Q X := by
  cases x <;> simp [finD, wp, wps]
theorem wp_popT {f fv : DE} {Q : D → S → Prop} : wp (ePopT f fv ρ s) Q X = wp (f ρ s) (fun t s1 => isTokL s1 t = true ∧ wp (fv ρ s1) (fun d s2 => ∃ p, popS s2 t d = some p ∧ Q p.1 p.2) X) X := by
  unfold ePopT
  rw [wp_bind]
  congr 1
  funext t s1
  by_cases h : isTokL s1 t = true
  · rw [if_pos h, wp_bind]
    refine propext ⟨fun q => ⟨h, ?_⟩, fun q => ?_⟩
    · refine wp_mono q (fun d s2 q => ?_) fun _ _ z => z
      cases ha : popS s2 t d with
      | none => rw [ha] at q; simp [wp] at q
      | some p => rw [ha] at q; exact ⟨p, rfl, by simpa [wp] using q⟩
    · refine wp_mono q.2 (fun d s2 q => ?_) fun _ _ z => z
      obtain ⟨p, e, q⟩ := q
      rw [e]
      simpa [wp] using q
  · rw [if_neg h]
    exact propext ⟨fun q => by simp [wp] at q, fun q => absurd q.1 h⟩
end
end DL
namespace DL
open PySem PySem.Spec PyProof.Rows L2
/-! ### dicts of a def's own, locked dicts: plain rules -/
def wpd (i : Nat) (ρ : List Sl) (P : Bool → List (D × D) → Prop) : Prop := match ρ[i]? with
  | some (.ownD t l) => P t l
  | _ => False
section
variable {ρ : List Sl} {s : S} {N B C : List Sl → S → Prop} {R : D → S → Prop} {X : Str → S → Prop}
theorem fs_ownD {t : Bool} {l : List (D × D)} : frzSl (.ownD t l) = .dat (.dct l) := rfl
theorem q_newD {i : Nat} {t : Bool} : wps (sNewD i t ρ s) N B C R X = wpn ρ [(i, .ownD t [])] fun ρ1 => N ρ1 s := by
  unfold sNewD
  rw [wz_next, set_at]; rfl
theorem q_dispO {i : Nat} {f g : DE} : wps (sDispO i f g ρ s) N B C R X = wp (f ρ s) (fun k s1 => wp (g ρ s1) (fun d s2 => ∃ kk, dkT k = some kk ∧ wpn ρ [(i, .ownD true [(kT kk, d)])] fun ρ1 => N ρ1 s2) X) X := by
  unfold sDispO
  rw [wps_then]
  congr 1
  funext k s1
  rw [wps_then]
  congr 1
  funext d s2
  cases dkT k with
  | none => simp [wps]
  | some kk =>
    simp only [Option.some.injEq, exists_eq_left']
    rw [wz_next, set_at]; rfl
theorem q_putO {i : Nat} {fi fv : DE} : wps (sPutO i fi fv ρ s) N B C R X = wpd i ρ fun t l => wp (fv ρ s) (fun d s1 => wp (fi ρ s1) (fun k s2 => ∃ l', putO t l k d = some l' ∧ l.length < 16777216 ∧ wpn ρ [(i, .ownD t l')] fun ρ1 => N ρ1 s2) X) X := by
  unfold sPutO wpd
  cases ρ[i]? with
  | none => simp [wps]
  | some y =>
    cases y with
    | ownD t l =>
      simp only []
      rw [wps_then]
      congr 1
      funext d s1
      rw [wps_then]
      congr 1
      funext k s2
      cases putO t l k d with
      | none => simp [wps]
      | some l' =>
        simp only [Option.some.injEq, exists_eq_left']
        rw [ite_bad, wz_next, set_at]; rfl
    | _ => simp [wps]
theorem wp_getO {i : Nat} {fk fe : DE} {Q : D → S → Prop} : wp (eGetO i fk fe ρ s) Q X = wpd i ρ fun t l => wp (fk ρ s) (fun y s1 => wp (fe ρ s1) (fun z s2 => ∃ o, getO t l y = some o ∧ Q (o.getD z) s2) X) X := by
  unfold eGetO wpd
  cases ρ[i]? with
  | none => simp [wp]
  | some y =>
    cases y with
    | ownD t l =>
      simp only []
      rw [wp_bind]
      congr 1
      funext y s1
      rw [wp_bind]
      congr 1
      funext z s2
      rw [wp_ofO]
      cases getO t l y with
      | none => simp
      | some o => simp
    | _ => simp [wp]
theorem wp_ixD {i : Nat} {fk : DE} {Q : D → S → Prop} : wp (eIxD i fk ρ s) Q X = wpd i ρ fun t l => wp (fk ρ s) (fun y s1 => ∃ d, getO t l y = some (some d) ∧ Q d s1) X := by
  unfold eIxD wpd
  cases ρ[i]? with
  | none => simp [wp]
  | some y =>
    cases y with
    | ownD t l =>
      simp only []
      rw [wp_bind]
      congr 1
      funext y s1
      rw [wp_ofO]
      cases getO t l y with
      | none => simp
      | some o => cases o <;> simp
    | _ => simp [wp]
theorem wp_keysF {f : DE} {Q : List D → S → Prop} : wp (iKeysF f ρ s) Q X = wp (f ρ s) (fun d s1 => ∃ t l, d = .fd t l ∧ Q (l.map (·.1)) s1) X := by
  unfold iKeysF
  rw [wp_bind]
  congr 1
  funext d s1
  cases d with
  | fd t l => exact propext ⟨fun q => ⟨t, l, rfl, by simpa [wp] using q⟩, fun ⟨t', l', e, q⟩ => by cases e; simpa [wp] using q⟩
  | _ => simp [wp]
theorem wp_valsF {f : DE} {Q : List D → S → Prop} : wp (iValsF f ρ s) Q X = wp (f ρ s) (fun d s1 => ∃ l, d = .fd true l ∧ Q (l.map (·.2)) s1) X := by
  unfold iValsF
  rw [wp_bind]
  congr 1
  funext d s1
  cases d with
  | fd t l =>
    cases t with
    | true => exact propext ⟨fun q => ⟨l, rfl, by simpa [wp] using q⟩, fun ⟨l', e, q⟩ => by cases e; simpa [wp] using q⟩
    | false => exact propext ⟨fun q => by simp [wp] at q, fun ⟨l', e, q⟩ => by cases e⟩
  | _ => simp [wp]
theorem wp_itmsF {f : DE} {Q : List D → S → Prop} : wp (iItmsF f ρ s) Q X = wp (f ρ s) (fun d s1 => ∃ l, d = .fd true l ∧ Q (l.map fun p => .tup [p.1, p.2]) s1) X := by
  unfold iItmsF
  rw [wp_bind]
  congr 1
  funext d s1
  cases d with
  | fd t l =>
    cases t with
    | true => exact propext ⟨fun q => ⟨l, rfl, by simpa [wp] using q⟩, fun ⟨l', e, q⟩ => by cases e; simpa [wp] using q⟩
    | false => exact propext ⟨fun q => by simp [wp] at q, fun ⟨l', e, q⟩ => by cases e⟩
  | _ => simp [wp]
theorem wp_dispF {f g : DE} {Q : D → S → Prop} : wp (eDispF f g ρ s) Q X = wp (f ρ s) (fun k s1 => wp (g ρ s1) (fun d s2 => ∃ kk, dkT k = some kk ∧ Q (.fd true [(kT kk, d)]) s2) X) X := by
  unfold eDispF
  rw [wp_bind]
  congr 1
  funext k s1
  rw [wp_bind]
  congr 1
  funext d s2
  cases dkT k with
  | none => simp [wp]
  | some kk => simp [wp]
theorem wp_inO {b : Bool} {i : Nat} {fk : DE} {Q : D → S → Prop} : wp (eInO b i fk ρ s) Q X = wp (fk ρ s) (fun y s1 => wpd i ρ fun t l => ∃ o, getO t l y = some o ∧ Q (.bl (o.isSome == b)) s1) X := by
  unfold eInO
  rw [wp_bind]
  congr 1
  funext y s1
  unfold wpd
  cases ρ[i]? with
  | none => simp [wp]
  | some w =>
    cases w with
    | ownD t l =>
      simp only []
      rw [wp_ofO]
      cases getO t l y with
      | none => simp
      | some o => simp
    | _ => simp [wp]
theorem x_fdT {l : List (D × D)} {P : List (D × D) → Prop} : (∃ l', D.fd true l = .fd true l' ∧ P l') = P l := propext ⟨fun ⟨l', e, p⟩ => by cases e; exact p, fun p => ⟨l, rfl, p⟩⟩
theorem x_lstF {l : List (D × D)} {P : D → Prop} : (∃ z, dLstF [.fd true l] = some z ∧ P z) = P (.lst (l.map (·.1))) := by show (∃ z, some (D.lst (l.map (·.1))) = some z ∧ P z) = _; exact ex_some
theorem q_fd {t : Bool} {l : List (D × D)} {P : List (D × D) → Prop} : (∃ t' l', D.fd t l = .fd t' l' ∧ P l') = P l := by
  refine propext ⟨fun ⟨t', l', e, p⟩ => by cases e; exact p, fun p => ⟨t, l, rfl, p⟩⟩
end
section
variable {t : Bool} {l : List (D × D)} {d : D} {r : List Sl} {P : Bool → List (D × D) → Prop} {s : S} {g : DS}
theorem d_0 : wpd 0 (.ownD t l :: r) P = P t l := by with_unfolding_all rfl
theorem lk_0 : sLk 0 g (.ownD t l :: r) s = g (.dat (.fd t l) :: r) s := by with_unfolding_all rfl
theorem ld_0 : sLk 0 g (.dat d :: r) s = g (.dat d :: r) s := by with_unfolding_all rfl
theorem d_1 {x0 : Sl} : wpd 1 (x0 :: .ownD t l :: r) P = P t l := by with_unfolding_all rfl
theorem lk_1 {x0 : Sl} : sLk 1 g (x0 :: .ownD t l :: r) s = g (x0 :: .dat (.fd t l) :: r) s := by with_unfolding_all rfl
theorem ld_1 {x0 : Sl} : sLk 1 g (x0 :: .dat d :: r) s = g (x0 :: .dat d :: r) s := by with_unfolding_all rfl
theorem d_2 {x0 x1 : Sl} : wpd 2 (x0 :: x1 :: .ownD t l :: r) P = P t l := by with_unfolding_all rfl
theorem lk_2 {x0 x1 : Sl} : sLk 2 g (x0 :: x1 :: .ownD t l :: r) s = g (x0 :: x1 :: .dat (.fd t l) :: r) s := by with_unfolding_all rfl
theorem ld_2 {x0 x1 : Sl} : sLk 2 g (x0 :: x1 :: .dat d :: r) s = g (x0 :: x1 :: .dat d :: r) s := by with_unfolding_all rfl
theorem d_3 {x0 x1 x2 : Sl} : wpd 3 (x0 :: x1 :: x2 :: .ownD t l :: r) P = P t l := by with_unfolding_all rfl
theorem lk_3 {x0 x1 x2 : Sl} : sLk 3 g (x0 :: x1 :: x2 :: .ownD t l :: r) s = g (x0 :: x1 :: x2 :: .dat (.fd t l) :: r) s := by with_unfolding_all rfl
theorem ld_3 {x0 x1 x2 : Sl} : sLk 3 g (x0 :: x1 :: x2 :: .dat d :: r) s = g (x0 :: x1 :: x2 :: .dat d :: r) s := by with_unfolding_all rfl
theorem d_4 {x0 x1 x2 x3 : Sl} : wpd 4 (x0 :: x1 :: x2 :: x3 :: .ownD t l :: r) P = P t l := by with_unfolding_all rfl
theorem lk_4 {x0 x1 x2 x3 : Sl} : sLk 4 g (x0 :: x1 :: x2 :: x3 :: .ownD t l :: r) s = g (x0 :: x1 :: x2 :: x3 :: .dat (.fd t l) :: r) s := by with_unfolding_all rfl
theorem ld_4 {x0 x1 x2 x3 : Sl} : sLk 4 g (x0 :: x1 :: x2 :: x3 :: .dat d :: r) s = g (x0 :: x1 :: x2 :: x3 :: .dat d :: r) s := by with_unfolding_all rfl
theorem d_5 {x0 x1 x2 x3 x4 : Sl} : wpd 5 (x0 :: x1 :: x2 :: x3 :: x4 :: .ownD t l :: r) P = P t l := by with_unfolding_all rfl
theorem lk_5 {x0 x1 x2 x3 x4 : Sl} : sLk 5 g (x0 :: x1 :: x2 :: x3 :: x4 :: .ownD t l :: r) s = g (x0 :: x1 :: x2 :: x3 :: x4 :: .dat (.fd t l) :: r) s := by with_unfolding_all rfl
theorem ld_5 {x0 x1 x2 x3 x4 : Sl} : sLk 5 g (x0 :: x1 :: x2 :: x3 :: x4 :: .dat d :: r) s = g (x0 :: x1 :: x2 :: x3 :: x4 :: .dat d :: r) s := by with_unfolding_all rfl
theorem d_6 {x0 x1 x2 x3 x4 x5 : Sl} : wpd 6 (x0 :: x1 :: x2 :: x3 :: x4 :: x5 :: .ownD t l :: r) P = P t l := by with_unfolding_all rfl
theorem lk_6 {x0 x1 x2 x3 x4 x5 : Sl} : sLk 6 g (x0 :: x1 :: x2 :: x3 :: x4 :: x5 :: .ownD t l :: r) s = g (x0 :: x1 :: x2 :: x3 :: x4 :: x5 :: .dat (.fd t l) :: r) s := by with_unfolding_all rfl
theorem ld_6 {x0 x1 x2 x3 x4 x5 : Sl} : sLk 6 g (x0 :: x1 :: x2 :: x3 :: x4 :: x5 :: .dat d :: r) s = g (x0 :: x1 :: x2 :: x3 :: x4 :: x5 :: .dat d :: r) s := by with_unfolding_all rfl
theorem d_7 {x0 x1 x2 x3 x4 x5 x6 : Sl} : wpd 7 (x0 :: x1 :: x2 :: x3 :: x4 :: x5 :: x6 :: .ownD t l :: r) P = P t l := by with_unfolding_all rfl
theorem lk_7 {x0 x1 x2 x3 x4 x5 x6 : Sl} : sLk 7 g (x0 :: x1 :: x2 :: x3 :: x4 :: x5 :: x6 :: .ownD t l :: r) s = g (x0 :: x1 :: x2 :: x3 :: x4 :: x5 :: x6 :: .dat (.fd t l) :: r) s := by with_unfolding_all rfl
theorem ld_7 {x0 x1 x2 x3 x4 x5 x6 : Sl} : sLk 7 g (x0 :: x1 :: x2 :: x3 :: x4 :: x5 :: x6 :: .dat d :: r) s = g (x0 :: x1 :: x2 :: x3 :: x4 :: x5 :: x6 :: .dat d :: r) s := by with_unfolding_all rfl
theorem d_8 {x0 x1 x2 x3 x4 x5 x6 x7 : Sl} : wpd 8 (x0 :: x1 :: x2 :: x3 :: x4 :: x5 :: x6 :: x7 :: .ownD t l :: r) P = P t l := by with_unfolding_all rfl
theorem lk_8 {x0 x1 x2 x3 x4 x5 x6 x7 : Sl} : sLk 8 g (x0 :: x1 :: x2 :: x3 :: x4 :: x5 :: x6 :: x7 :: .ownD t l :: r) s = g (x0 :: x1 :: x2 :: x3 :: x4 :: x5 :: x6 :: x7 :: .dat (.fd t l) :: r) s := by with_unfolding_all rfl
theorem ld_8 {x0 x1 x2 x3 x4 x5 x6 x7 : Sl} : sLk 8 g (x0 :: x1 :: x2 :: x3 :: x4 :: x5 :: x6 :: x7 :: .dat d :: r) s = g (x0 :: x1 :: x2 :: x3 :: x4 :: x5 :: x6 :: x7 :: .dat d :: r) s := by with_unfolding_all rfl
theorem d_9 {x0 x1 x2 x3 x4 x5 x6 x7 x8 : Sl} : wpd 9 (x0 :: x1 :: x2 :: x3 :: x4 :: x5 :: x6 :: x7 :: x8 :: .ownD t l :: r) P = P t l := by with_unfolding_all rfl
theorem lk_9 {x0 x1 x2 x3 x4 x5 x6 x7 x8 : Sl} : sLk 9 g (x0 :: x1 :: x2 :: x3 :: x4 :: x5 :: x6 :: x7 :: x8 :: .ownD t l :: r) s = g (x0 :: x1 :: x2 :: x3 :: x4 :: x5 :: x6 :: x7 :: x8 :: .dat (.fd t l) :: r) s := by with_unfolding_all rfl
theorem ld_9 {x0 x1 x2 x3 x4 x5 x6 x7 x8 : Sl} : sLk 9 g (x0 :: x1 :: x2 :: x3 :: x4 :: x5 :: x6 :: x7 :: x8 :: .dat d :: r) s = g (x0 :: x1 :: x2 :: x3 :: x4 :: x5 :: x6 :: x7 :: x8 :: .dat d :: r) s := by with_unfolding_all rfl
theorem d_10 {x0 x1 x2 x3 x4 x5 x6 x7 x8 x9 : Sl} : wpd 10 (x0 :: x1 :: x2 :: x3 :: x4 :: x5 :: x6 :: x7 :: x8 :: x9 :: .ownD t l :: r) P = P t l := by with_unfolding_all rfl
theorem lk_10 {x0 x1 x2 x3 x4 x5 x6 x7 x8 x9 : Sl} : sLk 10 g (x0 :: x1 :: x2 :: x3 :: x4 :: x5 :: x6 :: x7 :: x8 :: x9 :: .ownD t l :: r) s = g (x0 :: x1 :: x2 :: x3 :: x4 :: x5 :: x6 :: x7 :: x8 :: x9 :: .dat (.fd t l) :: r) s := by with_unfolding_all rfl
theorem ld_10 {x0 x1 x2 x3 x4 x5 x6 x7 x8 x9 : Sl} : sLk 10 g (x0 :: x1 :: x2 :: x3 :: x4 :: x5 :: x6 :: x7 :: x8 :: x9 :: .dat d :: r) s = g (x0 :: x1 :: x2 :: x3 :: x4 :: x5 :: x6 :: x7 :: x8 :: x9 :: .dat d :: r) s := by with_unfolding_all rfl
theorem d_11 {x0 x1 x2 x3 x4 x5 x6 x7 x8 x9 x10 : Sl} : wpd 11 (x0 :: x1 :: x2 :: x3 :: x4 :: x5 :: x6 :: x7 :: x8 :: x9 :: x10 :: .ownD t l :: r) P = P t l := by with_unfolding_all rfl
theorem lk_11 {x0 x1 x2 x3 x4 x5 x6 x7 x8 x9 x10 : Sl} : sLk 11 g (x0 :: x1 :: x2 :: x3 :: x4 :: x5 :: x6 :: x7 :: x8 :: x9 :: x10 :: .ownD t l :: r) s = g (x0 :: x1 :: x2 :: x3 :: x4 :: x5 :: x6 :: x7 :: x8 :: x9 :: x10 :: .dat (.fd t l) :: r) s := by with_unfolding_all rfl
theorem ld_11 {x0 x1 x2 x3 x4 x5 x6 x7 x8 x9 x10 : Sl} : sLk 11 g (x0 :: x1 :: x2 :: x3 :: x4 :: x5 :: x6 :: x7 :: x8 :: x9 :: x10 :: .dat d :: r) s = g (x0 :: x1 :: x2 :: x3 :: x4 :: x5 :: x6 :: x7 :: x8 :: x9 :: x10 :: .dat d :: r) s := by with_unfolding_all rfl
theorem d_12 {x0 x1 x2 x3 x4 x5 x6 x7 x8 x9 x10 x11 : Sl} : wpd 12 (x0 :: x1 :: x2 :: x3 :: x4 :: x5 :: x6 :: x7 :: x8 :: x9 :: x10 :: x11 :: .ownD t l :: r) P = P t l := by with_unfolding_all rfl
theorem lk_12 {x0 x1 x2 x3 x4 x5 x6 x7 x8 x9 x10 x11 : Sl} : sLk 12 g (x0 :: x1 :: x2 :: x3 :: x4 :: x5 :: x6 :: x7 :: x8 :: x9 :: x10 :: x11 :: .ownD t l :: r) s = g (x0 :: x1 :: x2 :: x3 :: x4 :: x5 :: x6 :: x7 :: x8 :: x9 :: x10 :: x11 :: .dat (.fd t l) :: r) s := by with_unfolding_all rfl
theorem ld_12 {x0 x1 x2 x3 x4 x5 x6 x7 x8 x9 x10 x11 : Sl} : sLk 12 g (x0 :: x1 :: x2 :: x3 :: x4 :: x5 :: x6 :: x7 :: x8 :: x9 :: x10 :: x11 :: .dat d :: r) s = g (x0 :: x1 :: x2 :: x3 :: x4 :: x5 :: x6 :: x7 :: x8 :: x9 :: x10 :: x11 :: .dat d :: r) s := by with_unfolding_all rfl
theorem d_13 {x0 x1 x2 x3 x4 x5 x6 x7 x8 x9 x10 x11 x12 : Sl} : wpd 13 (x0 :: x1 :: x2 :: x3 :: x4 :: x5 :: x6 :: x7 :: x8 :: x9 :: x10 :: x11 :: x12 :: .ownD t l :: r) P = P t l := by with_unfolding_all rfl
theorem lk_13 {x0 x1 x2 x3 x4 x5 x6 x7 x8 x9 x10 x11 x12 : Sl} : sLk 13 g (x0 :: x1 :: x2 :: x3 :: x4 :: x5 :: x6 :: x7 :: x8 :: x9 :: x10 :: x11 :: x12 :: .ownD t l :: r) s = g (x0 :: x1 :: x2 :: x3 :: x4 :: x5 :: x6 :: x7 :: x8 :: x9 :: x10 :: x11 :: x12 :: .dat (.fd t l) :: r) s := by with_unfolding_all rfl
theorem ld_13 {x0 x1 x2 x3 x4 x5 x6 x7 x8 x9 x10 x11 x12 : Sl} : sLk 13 g (x0 :: x1 :: x2 :: x3 :: x4 :: x5 :: x6 :: x7 :: x8 :: x9 :: x10 :: x11 :: x12 :: .dat d :: r) s = g (x0 :: x1 :: x2 :: x3 :: x4 :: x5 :: x6 :: x7 :: x8 :: x9 :: x10 :: x11 :: x12 :: .dat d :: r) s := by with_unfolding_all rfl
theorem d_14 {x0 x1 x2 x3 x4 x5 x6 x7 x8 x9 x10 x11 x12 x13 : Sl} : wpd 14 (x0 :: x1 :: x2 :: x3 :: x4 :: x5 :: x6 :: x7 :: x8 :: x9 :: x10 :: x11 :: x12 :: x13 :: .ownD t l :: r) P = P t l := by with_unfolding_all rfl
theorem lk_14 {x0 x1 x2 x3 x4 x5 x6 x7 x8 x9 x10 x11 x12 x13 : Sl} : sLk 14 g (x0 :: x1 :: x2 :: x3 :: x4 :: x5 :: x6 :: x7 :: x8 :: x9 :: x10 :: x11 :: x12 :: x13 :: .ownD t l :: r) s = g (x0 :: x1 :: x2 :: x3 :: x4 :: x5 :: x6 :: x7 :: x8 :: x9 :: x10 :: x11 :: x12 :: x13 :: .dat (.fd t l) :: r) s := by with_unfolding_all rfl
theorem ld_14 {x0 x1 x2 x3 x4 x5 x6 x7 x8 x9 x10 x11 x12 x13 : Sl} : sLk 14 g (x0 :: x1 :: x2 :: x3 :: x4 :: x5 :: x6 :: x7 :: x8 :: x9 :: x10 :: x11 :: x12 :: x13 :: .dat d :: r) s = g (x0 :: x1 :: x2 :: x3 :: x4 :: x5 :: x6 :: x7 :: x8 :: x9 :: x10 :: x11 :: x12 :: x13 :: .dat d :: r) s := by with_unfolding_all rfl
theorem d_15 {x0 x1 x2 x3 x4 x5 x6 x7 x8 x9 x10 x11 x12 x13 x14 : Sl} : wpd 15 (x0 :: x1 :: x2 :: x3 :: x4 :: x5 :: x6 :: x7 :: x8 :: x9 :: x10 :: x11 :: x12 :: x13 :: x14 :: .ownD t l :: r) P = P t l := by with_unfolding_all rfl
theorem lk_15 {x0 x1 x2 x3 x4 x5 x6 x7 x8 x9 x10 x11 x12 x13 x14 : Sl} : sLk 15 g (x0 :: x1 :: x2 :: x3 :: x4 :: x5 :: x6 :: x7 :: x8 :: x9 :: x10 :: x11 :: x12 :: x13 :: x14 :: .ownD t l :: r) s = g (x0 :: x1 :: x2 :: x3 :: x4 :: x5 :: x6 :: x7 :: x8 :: x9 :: x10 :: x11 :: x12 :: x13 :: x14 :: .dat (.fd t l) :: r) s := by with_unfolding_all rfl
theorem ld_15 {x0 x1 x2 x3 x4 x5 x6 x7 x8 x9 x10 x11 x12 x13 x14 : Sl} : sLk 15 g (x0 :: x1 :: x2 :: x3 :: x4 :: x5 :: x6 :: x7 :: x8 :: x9 :: x10 :: x11 :: x12 :: x13 :: x14 :: .dat d :: r) s = g (x0 :: x1 :: x2 :: x3 :: x4 :: x5 :: x6 :: x7 :: x8 :: x9 :: x10 :: x11 :: x12 :: x13 :: x14 :: .dat d :: r) s := by with_unfolding_all rfl
theorem d_16 {x0 x1 x2 x3 x4 x5 x6 x7 x8 x9 x10 x11 x12 x13 x14 x15 : Sl} : wpd 16 (x0 :: x1 :: x2 :: x3 :: x4 :: x5 :: x6 :: x7 :: x8 :: x9 :: x10 :: x11 :: x12 :: x13 :: x14 :: x15 :: .ownD t l :: r) P = P t l := by with_unfolding_all rfl
theorem lk_16 {x0 x1 x2 x3 x4 x5 x6 x7 x8 x9 x10 x11 x12 x13 x14 x15 : Sl} : sLk 16 g (x0 :: x1 :: x2 :: x3 :: x4 :: x5 :: x6 :: x7 :: x8 :: x9 :: x10 :: x11 :: x12 :: x13 :: x14 :: x15 :: .ownD t l :: r) s = g (x0 :: x1 :: x2 :: x3 :: x4 :: x5 :: x6 :: x7 :: x8 :: x9 :: x10 :: x11 :: x12 :: x13 :: x14 :: x15 :: .dat (.fd t l) :: r) s := by with_unfolding_all rfl
theorem ld_16 {x0 x1 x2 x3 x4 x5 x6 x7 x8 x9 x10 x11 x12 x13 x14 x15 : Sl} : sLk 16 g (x0 :: x1 :: x2 :: x3 :: x4 :: x5 :: x6 :: x7 :: x8 :: x9 :: x10 :: x11 :: x12 :: x13 :: x14 :: x15 :: .dat d :: r) s = g (x0 :: x1 :: x2 :: x3 :: x4 :: x5 :: x6 :: x7 :: x8 :: x9 :: x10 :: x11 :: x12 :: x13 :: x14 :: x15 :: .dat d :: r) s := by with_unfolding_all rfl
theorem d_17 {x0 x1 x2 x3 x4 x5 x6 x7 x8 x9 x10 x11 x12 x13 x14 x15 x16 : Sl} : wpd 17 (x0 :: x1 :: x2 :: x3 :: x4 :: x5 :: x6 :: x7 :: x8 :: x9 :: x10 :: x11 :: x12 :: x13 :: x14 :: x15 :: x16 :: .ownD t l :: r) P = P t l := by with_unfolding_all rfl
theorem lk_17 {x0 x1 x2 x3 x4 x5 x6 x7 x8 x9 x10 x11 x12 x13 x14 x15 x16 : Sl} : sLk 17 g (x0 :: x1 :: x2 :: x3 :: x4 :: x5 :: x6 :: x7 :: x8 :: x9 :: x10 :: x11 :: x12 :: x13 :: x14 :: x15 :: x16 :: .ownD t l :: r) s = g (x0 :: x1 :: x2 :: x3 :: x4 :: x5 :: x6 :: x7 :: x8 :: x9 :: x10 :: x11 :: x12 :: x13 :: x14 :: x15 :: x16 :: .dat (.fd t l) :: r) s := by with_unfolding_all rfl
theorem ld_17 {x0 x1 x2 x3 x4 x5 x6 x7 x8 x9 x10 x11 x12 x13 x14 x15 x16 : Sl} : sLk 17 g (x0 :: x1 :: x2 :: x3 :: x4 :: x5 :: x6 :: x7 :: x8 :: x9 :: x10 :: x11 :: x12 :: x13 :: x14 :: x15 :: x16 :: .dat d :: r) s = g (x0 :: x1 :: x2 :: x3 :: x4 :: x5 :: x6 :: x7 :: x8 :: x9 :: x10 :: x11 :: x12 :: x13 :: x14 :: x15 :: x16 :: .dat d :: r) s := by with_unfolding_all rfl
theorem d_18 {x0 x1 x2 x3 x4 x5 x6 x7 x8 x9 x10 x11 x12 x13 x14 x15 x16 x17 : Sl} : wpd 18 (x0 :: x1 :: x2 :: x3 :: x4 :: x5 :: x6 :: x7 :: x8 :: x9 :: x10 :: x11 :: x12 :: x13 :: x14 :: x15 :: x16 :: x17 :: .ownD t l :: r) P = P t l := by with_unfolding_all rfl
theorem lk_18 {x0 x1 x2 x3 x4 x5 x6 x7 x8 x9 x10 x11 x12 x13 x14 x15 x16 x17 : Sl} : sLk 18 g (x0 :: x1 :: x2 :: x3 :: x4 :: x5 :: x6 :: x7 :: x8 :: x9 :: x10 :: x11 :: x12 :: x13 :: x14 :: x15 :: x16 :: x17 :: .ownD t l :: r) s = g (x0 :: x1 :: x2 :: x3 :: x4 :: x5 :: x6 :: x7 :: x8 :: x9 :: x10 :: x11 :: x12 :: x13 :: x14 :: x15 :: x16 :: x17 :: .dat (.fd t l) :: r) s := by with_unfolding_all rfl
theorem ld_18 {x0 x1 x2 x3 x4 x5 x6 x7 x8 x9 x10 x11 x12 x13 x14 x15 x16 x17 : Sl} : sLk 18 g (x0 :: x1 :: x2 :: x3 :: x4 :: x5 :: x6 :: x7 :: x8 :: x9 :: x10 :: x11 :: x12 :: x13 :: x14 :: x15 :: x16 :: x17 :: .dat d :: r) s = g (x0 :: x1 :: x2 :: x3 :: x4 :: x5 :: x6 :: x7 :: x8 :: x9 :: x10 :: x11 :: x12 :: x13 :: x14 :: x15 :: x16 :: x17 :: .dat d :: r) s := by with_unfolding_all rfl
theorem d_19 {x0 x1 x2 x3 x4 x5 x6 x7 x8 x9 x10 x11 x12 x13 x14 x15 x16 x17 x18 : Sl} : wpd 19 (x0 :: x1 :: x2 :: x3 :: x4 :: x5 :: x6 :: x7 :: x8 :: x9 :: x10 :: x11 :: x12 :: x13 :: x14 :: x15 :: x16 :: x17 :: x18 :: .ownD t l :: r) P = P t l := by with_unfolding_all rfl
theorem lk_19 {x0 x1 x2 x3 x4 x5 x6 x7 x8 x9 x10 x11 x12 x13 x14 x15 x16 x17 x18 : Sl} : sLk 19 g (x0 :: x1 :: x2 :: x3 :: x4 :: x5 :: x6 :: x7 :: x8 :: x9 :: x10 :: x11 :: x12 :: x13 :: x14 :: x15 :: x16 :: x17 :: x18 :: .ownD t l :: r) s = g (x0 :: x1 :: x2 :: x3 :: x4 :: x5 :: x6 :: x7 :: x8 :: x9 :: x10 :: x11 :: x12 :: x13 :: x14 :: x15 :: x16 :: x17 :: x18 :: .dat (.fd t l) :: r) s := by with_unfolding_all rfl
theorem ld_19 {x0 x1 x2 x3 x4 x5 x6 x7 x8 x9 x10 x11 x12 x13 x14 x15 x16 x17 x18 : Sl} : sLk 19 g (x0 :: x1 :: x2 :: x3 :: x4 :: x5 :: x6 :: x7 :: x8 :: x9 :: x10 :: x11 :: x12 :: x13 :: x14 :: x15 :: x16 :: x17 :: x18 :: .dat d :: r) s = g (x0 :: x1 :: x2 :: x3 :: x4 :: x5 :: x6 :: x7 :: x8 :: x9 :: x10 :: x11 :: x12 :: x13 :: x14 :: x15 :: x16 :: x17 :: x18 :: .dat d :: r) s := by with_unfolding_all rfl
theorem d_20 {x0 x1 x2 x3 x4 x5 x6 x7 x8 x9 x10 x11 x12 x13 x14 x15 x16 x17 x18 x19 : Sl} : wpd 20 (x0 :: x1 :: x2 :: x3 :: x4 :: x5 :: x6 :: x7 :: x8 :: x9 :: x10 :: x11 :: x12 :: x13 :: x14 :: x15 :: x16 :: x17 :: x18 :: x19 :: .ownD t l :: r) P = P t l := by with_unfolding_all rfl
theorem lk_20 {x0 x1 x2 x3 x4 x5 x6 x7 x8 x9 x10 x11 x12 x13 x14 x15 x16 x17 x18 x19 : Sl} : sLk 20 g (x0 :: x1 :: x2 :: x3 :: x4 :: x5 :: x6 :: x7 :: x8 :: x9 :: x10 :: x11 :: x12 :: x13 :: x14 :: x15 :: x16 :: x17 :: x18 :: x19 :: .ownD t l :: r) s = g (x0 :: x1 :: x2 :: x3 :: x4 :: x5 :: x6 :: x7 :: x8 :: x9 :: x10 :: x11 :: x12 :: x13 :: x14 :: x15 :: x16 :: x17 :: x18 :: x19 :: .dat (.fd t l) :: r) s := by with_unfolding_all rfl
theorem ld_20 {x0 x1 x2 x3 x4 x5 x6 x7 x8 x9 x10 x11 x12 x13 x14 x15 x16 x17 x18 x19 : Sl} : sLk 20 g (x0 :: x1 :: x2 :: x3 :: x4 :: x5 :: x6 :: x7 :: x8 :: x9 :: x10 :: x11 :: x12 :: x13 :: x14 :: x15 :: x16 :: x17 :: x18 :: x19 :: .dat d :: r) s = g (x0 :: x1 :: x2 :: x3 :: x4 :: x5 :: x6 :: x7 :: x8 :: x9 :: x10 :: x11 :: x12 :: x13 :: x14 :: x15 :: x16 :: x17 :: x18 :: x19 :: .dat d :: r) s := by with_unfolding_all rfl
theorem d_21 {x0 x1 x2 x3 x4 x5 x6 x7 x8 x9 x10 x11 x12 x13 x14 x15 x16 x17 x18 x19 x20 : Sl} : wpd 21 (x0 :: x1 :: x2 :: x3 :: x4 :: x5 :: x6 :: x7 :: x8 :: x9 :: x10 :: x11 :: x12 :: x13 :: x14 :: x15 :: x16 :: x17 :: x18 :: x19 :: x20 :: .ownD t l :: r) P = P t l := by with_unfolding_all rfl
theorem lk_21 {x0 x1 x2 x3 x4 x5 x6 x7 x8 x9 x10 x11 x12 x13 x14 x15 x16 x17 x18 x19 x20 : Sl} : sLk 21 g (x0 :: x1 :: x2 :: x3 :: x4 :: x5 :: x6 :: x7 :: x8 :: x9 :: x10 :: x11 :: x12 :: x13 :: x14 :: x15 :: x16 :: x17 :: x18 :: x19 :: x20 :: .ownD t l :: r) s = g (x0 :: x1 :: x2 :: x3 :: x4 :: x5 :: x6 :: x7 :: x8 :: x9 :: x10 :: x11 :: x12 :: x13 :: x14 :: x15 :: x16 :: x17 :: x18 :: x19 :: x20 :: .dat (.fd t l) :: r) s := by with_unfolding_all rfl
theorem ld_21 {x0 x1 x2 x3 x4 x5 x6 x7 x8 x9 x10 x11 x12 x13 x14 x15 x16 x17 x18 x19 x20 : Sl} : sLk 21 g (x0 :: x1 :: x2 :: x3 :: x4 :: x5 :: x6 :: x7 :: x8 :: x9 :: x10 :: x11 :: x12 :: x13 :: x14 :: x15 :: x16 :: x17 :: x18 :: x19 :: x20 :: .dat d :: r) s = g (x0 :: x1 :: x2 :: x3 :: x4 :: x5 :: x6 :: x7 :: x8 :: x9 :: x10 :: x11 :: x12 :: x13 :: x14 :: x15 :: x16 :: x17 :: x18 :: x19 :: x20 :: .dat d :: r) s := by with_unfolding_all rfl
theorem d_22 {x0 x1 x2 x3 x4 x5 x6 x7 x8 x9 x10 x11 x12 x13 x14 x15 x16 x17 x18 x19 x20 x21 : Sl} : wpd 22 (x0 :: x1 :: x2 :: x3 :: x4 :: x5 :: x6 :: x7 :: x8 :: x9 :: x10 :: x11 :: x12 :: x13 :: x14 :: x15 :: x16 :: x17 :: x18 :: x19 :: x20 :: x21 :: .ownD t l :: r) P = P t l := by with_unfolding_all rfl
theorem lk_22 {x0 x1 x2 x3 x4 x5 x6 x7 x8 x9 x10 x11 x12 x13 x14 x15 x16 x17 x18 x19 x20 x21 : Sl} : sLk 22 g (x0 :: x1 :: x2 :: x3 :: x4 :: x5 :: x6 :: x7 :: x8 :: x9 :: x10 :: x11 :: x12 :: x13 :: x14 :: x15 :: x16 :: x17 :: x18 :: x19 :: x20 :: x21 :: .ownD t l :: r) s = g (x0 :: x1 :: x2 :: x3 :: x4 :: x5 :: x6 :: x7 :: x8 :: x9 :: x10 :: x11 :: x12 :: x13 :: x14 :: x15 :: x16 :: x17 :: x18 :: x19 :: x20 :: x21 :: .dat (.fd t l) :: r) s := by with_unfolding_all rfl
theorem ld_22 {x0 x1 x2 x3 x4 x5 x6 x7 x8 x9 x10 x11 x12 x13 x14 x15 x16 x17 x18 x19 x20 x21 : Sl} : sLk 22 g (x0 :: x1 :: x2 :: x3 :: x4 :: x5 :: x6 :: x7 :: x8 :: x9 :: x10 :: x11 :: x12 :: x13 :: x14 :: x15 :: x16 :: x17 :: x18 :: x19 :: x20 :: x21 :: .dat d :: r) s = g (x0 :: x1 :: x2 :: x3 :: x4 :: x5 :: x6 :: x7 :: x8 :: x9 :: x10 :: x11 :: x12 :: x13 :: x14 :: x15 :: x16 :: x17 :: x18 :: x19 :: x20 :: x21 :: .dat d :: r) s := by with_unfolding_all rfl
theorem d_23 {x0 x1 x2 x3 x4 x5 x6 x7 x8 x9 x10 x11 x12 x13 x14 x15 x16 x17 x18 x19 x20 x21 x22 : Sl} : wpd 23 (x0 :: x1 :: x2 :: x3 :: x4 :: x5 :: x6 :: x7 :: x8 :: x9 :: x10 :: x11 :: x12 :: x13 :: x14 :: x15 :: x16 :: x17 :: x18 :: x19 :: x20 :: x21 :: x22 :: .ownD t l :: r) P = P t l := by with_unfolding_all rfl
theorem lk_23 {x0 x1 x2 x3 x4 x5 x6 x7 x8 x9 x10 x11 x12 x13 x14 x15 x16 x17 x18 x19 x20 x21 x22 : Sl} : sLk 23 g (x0 :: x1 :: x2 :: x3 :: x4 :: x5 :: x6 :: x7 :: x8 :: x9 :: x10 :: x11 :: x12 :: x13 :: x14 :: x15 :: x16 :: x17 :: x18 :: x19 :: x20 :: x21 :: x22 :: .ownD t l :: r) s = g (x0 :: x1 :: x2 :: x3 :: x4 :: x5 :: x6 :: x7 :: x8 :: x9 :: x10 :: x11 :: x12 :: x13 :: x14 :: x15 :: x16 :: x17 :: x18 :: x19 :: x20 :: x21 :: x22 :: .dat (.fd t l) :: r) s := by with_unfolding_all rfl
theorem ld_23 {x0 x1 x2 x3 x4 x5 x6 x7 x8 x9 x10 x11 x12 x13 x14 x15 x16 x17 x18 x19 x20 x21 x22 : Sl} : sLk 23 g (x0 :: x1 :: x2 :: x3 :: x4 :: x5 :: x6 :: x7 :: x8 :: x9 :: x10 :: x11 :: x12 :: x13 :: x14 :: x15 :: x16 :: x17 :: x18 :: x19 :: x20 :: x21 :: x22 :: .dat d :: r) s = g (x0 :: x1 :: x2 :: x3 :: x4 :: x5 :: x6 :: x7 :: x8 :: x9 :: x10 :: x11 :: x12 :: x13 :: x14 :: x15 :: x16 :: x17 :: x18 :: x19 :: x20 :: x21 :: x22 :: .dat d :: r) s := by with_unfolding_all rfl
theorem d_24 {x0 x1 x2 x3 x4 x5 x6 x7 x8 x9 x10 x11 x12 x13 x14 x15 x16 x17 x18 x19 x20 x21 x22 x23 : Sl} : wpd 24 (x0 :: x1 :: x2 :: x3 :: x4 :: x5 :: x6 :: x7 :: x8 :: x9 :: x10 :: x11 :: x12 :: x13 :: x14 :: x15 :: x16 :: x17 :: x18 :: x19 :: x20 :: x21 :: x22 :: x23 :: .ownD t l :: r) P = P t l := by with_unfolding_all rfl
theorem lk_24 {x0 x1 x2 x3 x4 x5 x6 x7 x8 x9 x10 x11 x12 x13 x14 x15 x16 x17 x18 x19 x20 x21 x22 x23 : Sl} : sLk 24 g (x0 :: x1 :: x2 :: x3 :: x4 :: x5 :: x6 :: x7 :: x8 :: x9 :: x10 :: x11 :: x12 :: x13 :: x14 :: x15 :: x16 :: x17 :: x18 :: x19 :: x20 :: x21 :: x22 :: x23 :: .ownD t l :: r) s = g (x0 :: x1 :: x2 :: x3 :: x4 :: x5 :: x6 :: x7 :: x8 :: x9 :: x10 :: x11 :: x12 :: x13 :: x14 :: x15 :: x16 :: x17 :: x18 :: x19 :: x20 :: x21 :: x22 :: x23 :: .dat (.fd t l) :: r) s := by with_unfolding_all rfl
theorem ld_24 {x0 x1 x2 x3 x4 x5 x6 x7 x8 x9 x10 x11 x12 x13 x14 x15 x16 x17 x18 x19 x20 x21 x22 x23 : Sl} : sLk 24 g (x0 :: x1 :: x2 :: x3 :: x4 :: x5 :: x6 :: x7 :: x8 :: x9 :: x10 :: x11 :: x12 :: x13 :: x14 :: x15 :: x16 :: x17 :: x18 :: x19 :: x20 :: x21 :: x22 :: x23 :: .dat d :: r) s = g (x0 :: x1 :: x2 :: x3 :: x4 :: x5 :: x6 :: x7 :: x8 :: x9 :: x10 :: x11 :: x12 :: x13 :: x14 :: x15 :: x16 :: x17 :: x18 :: x19 :: x20 :: x21 :: x22 :: x23 :: .dat d :: r) s := by with_unfolding_all rfl
theorem d_25 {x0 x1 x2 x3 x4 x5 x6 x7 x8 x9 x10 x11 x12 x13 x14 x15 x16 x17 x18 x19 x20 x21 x22 x23 x24 : Sl} : wpd 25 (x0 :: x1 :: x2 :: x3 :: x4 :: x5 :: x6 :: x7 :: x8 :: x9 :: x10 :: x11 :: x12 :: x13 :: x14 :: x15 :: x16 :: x17 :: x18 :: x19 :: x20 :: x21 :: x22 :: x23 :: x24 :: .ownD t l :: r) P = P t l := by with_unfolding_all rfl
theorem lk_25 {x0 x1 x2 x3 x4 x5 x6 x7 x8 x9 x10 x11 x12 x13 x14 x15 x16 x17 x18 x19 x20 x21 x22 x23 x24 : Sl} : sLk 25 g (x0 :: x1 :: x2 :: x3 :: x4 :: x5 :: x6 :: x7 :: x8 :: x9 :: x10 :: x11 :: x12 :: x13 :: x14 :: x15 :: x16 :: x17 :: x18 :: x19 :: x20 :: x21 :: x22 :: x23 :: x24 :: .ownD t l :: r) s = g (x0 :: x1 :: x2 :: x3 :: x4 :: x5 :: x6 :: x7 :: x8 :: x9 :: x10 :: x11 :: x12 :: x13 :: x14 :: x15 :: x16 :: x17 :: x18 :: x19 :: x20 :: x21 :: x22 :: x23 :: x24 :: .dat (.fd t l) :: r) s := by with_unfolding_all rfl
theorem ld_25 {x0 x1 x2 x3 x4 x5 x6 x7 x8 x9 x10 x11 x12 x13 x14 x15 x16 x17 x18 x19 x20 x21 x22 x23 x24 : Sl} : sLk 25 g (x0 :: x1 :: x2 :: x3 :: x4 :: x5 :: x6 :: x7 :: x8 :: x9 :: x10 :: x11 :: x12 :: x13 :: x14 :: x15 :: x16 :: x17 :: x18 :: x19 :: x20 :: x21 :: x22 :: x23 :: x24 :: .dat d :: r) s = g (x0 :: x1 :: x2 :: x3 :: x4 :: x5 :: x6 :: x7 :: x8 :: x9 :: x10 :: x11 :: x12 :: x13 :: x14 :: x15 :: x16 :: x17 :: x18 :: x19 :: x20 :: x21 :: x22 :: x23 :: x24 :: .dat d :: r) s := by with_unfolding_all rfl
end
end DL
namespace DL
open PySem PySem.Spec PyProof.Rows L2
/-! ### functions in slots, sums of values: plain rules -/
def wpf (i : Nat) (ρ : List Sl) (P : Nat → TL → Prop) : Prop := match ρ[i]? with
  | some (.fn n tl) => P n tl
  | _ => False
section
variable {ρ : List Sl} {s : S} {N B C : List Sl → S → Prop} {R : D → S → Prop} {X : Str → S → Prop}
theorem wp_tell {i : Nat} {fs : DA} {Q : D → S → Prop} : wp (eTell i fs ρ s) Q X = wpf i ρ fun n tl => wp (fs ρ s) (fun ds s1 => ds.length = n ∧ wpc (tl ds s1) Q X ⟨⟩) X := by
  unfold eTell wpf
  cases ρ[i]? with
  | none => simp [wp]
  | some y =>
    cases y with
    | fn n tl =>
      simp only []
      rw [wp_bind]
      congr 1
      funext ds s1
      by_cases h : ds.length = n
      · rw [if_pos h]; exact propext ⟨fun q => ⟨h, q⟩, fun q => q.2⟩
      · rw [if_neg h]; exact propext ⟨fun q => by simp [wp] at q, fun q => absurd q.1 h⟩
    | _ => simp [wp]
theorem wp_callP {F : PFun} {fa : List Sl → S → Res (List D × TL × List D)} {Q : D → S → Prop} : wp (eCallP F fa ρ s) Q X = wp (fa ρ s) (fun q s1 => wpc (F q.1 q.2.1 q.2.2 s1) Q X ⟨⟩) X := wp_bind
theorem wp_aFn {f : DE} {F : List Sl → S → Res (List D × TL × List D)} {Q : List D × TL × List D → S → Prop} : wp (aFn f F ρ s) Q X = wp (f ρ s) (fun d s1 => wp (F ρ s1) (fun q s2 => Q (d :: q.1, q.2) s2) X) X := by
  unfold aFn
  rw [wp_bind]
  congr 1
  funext d s1
  rw [wp_bind]
  congr 1
  funext q s2
  rw [wp_ok]
theorem wp_aLam {fb : DE} {fs : DA} {Q : List D × TL × List D → S → Prop} : wp (aLam fb fs ρ s) Q X = wp (fs ρ s) (fun d2 s2 => Q ([], (fun ds s1 => fb (ρ.map datOnly ++ ds.map .dat) s1), d2) s2) X := by
  unfold aLam
  rw [wp_bind]
  congr 1
  funext q s2
  rw [wp_ok]
theorem wp_aSl {n i : Nat} {fs : DA} {Q : List D × TL × List D → S → Prop} : wp (aSl n i fs ρ s) Q X = wpf i ρ fun m tl => m = n ∧ wp (fs ρ s) (fun d2 s2 => Q ([], tl, d2) s2) X := by
  unfold aSl wpf
  cases ρ[i]? with
  | none => simp [wp]
  | some y =>
    cases y with
    | fn m tl =>
      simp only []
      by_cases h : m = n
      · rw [if_pos h, wp_bind]
        refine propext ⟨fun q => ⟨h, ?_⟩, fun q => ?_⟩
        · exact wp_mono q (fun d s2 q => by rwa [wp_ok] at q) fun _ _ z => z
        · exact wp_mono q.2 (fun d s2 q => by rwa [wp_ok]) fun _ _ z => z
      · rw [if_neg h]; exact propext ⟨fun q => by simp [wp] at q, fun q => absurd q.1 h⟩
    | _ => simp [wp]
theorem wp_sumV {f : DE} {Q : D → S → Prop} : wp (eSumV f ρ s) Q X = wp (f ρ s) (fun d s1 => ∃ l, d = .fd true l ∧ ∃ ns, intsOf (l.map (·.2)) = some ns ∧ Q (.int ns.sum) s1) X := by
  unfold eSumV
  rw [wp_bind]
  congr 1
  funext d s1
  cases d with
  | fd t l =>
    cases t with
    | true =>
      simp only []
      rw [wp_ofO]
      refine propext ⟨fun ⟨z, e, q⟩ => ?_, fun ⟨l', e, ns, h, q⟩ => ?_⟩
      · obtain ⟨ns, h, rfl⟩ := Option.map_eq_some_iff.mp e
        exact ⟨l, rfl, ns, h, q⟩
      · cases e
        exact ⟨_, by rw [h]; rfl, q⟩
    | false => exact propext ⟨fun q => by simp [wp] at q, fun ⟨l', e, q⟩ => by cases e⟩
  | _ => simp [wp]
theorem q_dictO {i : Nat} {f : DE} : wps (sDictO i f ρ s) N B C R X = wp (f ρ s) (fun d s1 => ∃ ps, d = .lst ps ∧ ∃ l, pairsD ps = some l ∧ wpn ρ [(i, .ownD true (mergeT l))] fun ρ1 => N ρ1 s1) X := by
  unfold sDictO
  rw [wps_then]
  congr 1
  funext d s1
  cases d with
  | lst ps =>
    simp only [D.lst.injEq, exists_eq_left']
    cases pairsD ps with
    | none => simp [wps]
    | some l =>
      simp only [Option.some.injEq, exists_eq_left']
      rw [wz_next, set_at]; rfl
  | _ => simp [wps]
theorem q_exprY {f : DY} : wps (sExprY f ρ s) N B C R X = wp (f ρ s) (fun p s1 => N p.2 s1) X := by
  unfold sExprY
  rw [wps_then]
  congr 1
  funext p s1
  rw [wz_next]
theorem wpy_slN {f : DY} {k : Int} {Q : D × List Sl → S → Prop} : wp (ySlN f k ρ s) Q X = wp (f ρ s) (fun p s1 => ∃ ds, p.1 = .tup ds ∧ Q (.tup (cutL ds none (some k)), p.2) s1) X := by
  unfold ySlN
  rw [wp_bind]
  congr 1
  funext p s1
  obtain ⟨d, ρ1⟩ := p
  cases d with
  | tup ds => simp [wp]
  | _ => simp [wp]
variable {tl : TL} {n : Nat} {r : List Sl} {P : Nat → TL → Prop}
theorem fnx_0 : wpf 0 (.fn n tl :: r) P = P n tl := by with_unfolding_all rfl
theorem fnx_1 {x0 : Sl} : wpf 1 (x0 :: .fn n tl :: r) P = P n tl := by with_unfolding_all rfl
theorem fnx_2 {x0 x1 : Sl} : wpf 2 (x0 :: x1 :: .fn n tl :: r) P = P n tl := by with_unfolding_all rfl
theorem fnx_3 {x0 x1 x2 : Sl} : wpf 3 (x0 :: x1 :: x2 :: .fn n tl :: r) P = P n tl := by with_unfolding_all rfl
theorem fnx_4 {x0 x1 x2 x3 : Sl} : wpf 4 (x0 :: x1 :: x2 :: x3 :: .fn n tl :: r) P = P n tl := by with_unfolding_all rfl
theorem fnx_5 {x0 x1 x2 x3 x4 : Sl} : wpf 5 (x0 :: x1 :: x2 :: x3 :: x4 :: .fn n tl :: r) P = P n tl := by with_unfolding_all rfl
theorem fnx_6 {x0 x1 x2 x3 x4 x5 : Sl} : wpf 6 (x0 :: x1 :: x2 :: x3 :: x4 :: x5 :: .fn n tl :: r) P = P n tl := by with_unfolding_all rfl
theorem fnx_7 {x0 x1 x2 x3 x4 x5 x6 : Sl} : wpf 7 (x0 :: x1 :: x2 :: x3 :: x4 :: x5 :: x6 :: .fn n tl :: r) P = P n tl := by with_unfolding_all rfl
theorem fnx_8 {x0 x1 x2 x3 x4 x5 x6 x7 : Sl} : wpf 8 (x0 :: x1 :: x2 :: x3 :: x4 :: x5 :: x6 :: x7 :: .fn n tl :: r) P = P n tl := by with_unfolding_all rfl
theorem fnx_9 {x0 x1 x2 x3 x4 x5 x6 x7 x8 : Sl} : wpf 9 (x0 :: x1 :: x2 :: x3 :: x4 :: x5 :: x6 :: x7 :: x8 :: .fn n tl :: r) P = P n tl := by with_unfolding_all rfl
theorem fnx_10 {x0 x1 x2 x3 x4 x5 x6 x7 x8 x9 : Sl} : wpf 10 (x0 :: x1 :: x2 :: x3 :: x4 :: x5 :: x6 :: x7 :: x8 :: x9 :: .fn n tl :: r) P = P n tl := by with_unfolding_all rfl
theorem fnx_11 {x0 x1 x2 x3 x4 x5 x6 x7 x8 x9 x10 : Sl} : wpf 11 (x0 :: x1 :: x2 :: x3 :: x4 :: x5 :: x6 :: x7 :: x8 :: x9 :: x10 :: .fn n tl :: r) P = P n tl := by with_unfolding_all rfl
end
theorem x_dictEn {a b c d : D} {P : D → Prop} : (∃ z, dDictEn (.tup [a, b, c, d]) = some z ∧ P z) = P (.dct [(.int 0, a), (.int 1, b), (.int 2, c), (.int 3, d)]) := ex_some
theorem x_fdivP {i j : Int} {P : D → Prop} : (∃ z, dFdivP (.int i) (.int j) = some z ∧ P z) = (j ≠ 0 ∧ P (.int (i.fdiv j))) := by
  unfold dFdivP
  by_cases h : j = 0 <;> simp [h]
theorem wp_row {fs : DA} {ρ : List Sl} {s : S} {Q : D → S → Prop} {X : Str → S → Prop} : wp (eRow fs ρ s) Q X = wp (fs ρ s) (fun ds s1 => ∃ xs, ds = [.lst xs] ∧ ∃ ns, intsOf xs = some ns ∧ Q (.tok s1.length) (s1 ++ [.b ns])) X := by
  unfold eRow
  rw [wp_bind]
  congr 1
  funext ds s1
  match ds with
  | [.lst xs] =>
    simp only [List.cons.injEq, D.lst.injEq, and_true, exists_eq_left']
    cases intsOf xs with
    | none => simp [wp]
    | some ns => simp [wp]
  | [] => simp [wp]
  | [.non] => simp [wp]
  | [.bl _] => simp [wp]
  | [.int _] => simp [wp]
  | [.str _] => simp [wp]
  | [.tup _] => simp [wp]
  | [.frz _] => simp [wp]
  | [.dct _] => simp [wp]
  | [.tok _] => simp [wp]
  | [.ty _] => simp [wp]
  | [.glb _] => simp [wp]
  | [.ktp _] => simp [wp]
  | [.exc _] => simp [wp]
  | [.fd _ _] => simp [wp]
  | a :: b :: r => cases a <;> simp [wp]
theorem wp_sortS {f : DE} {ρ : List Sl} {s : S} {Q : D → S → Prop} {X : Str → S → Prop} : wp (eSortS f ρ s) Q X = wp (f ρ s) (fun x s1 => ∃ xs es ys, x = .lst xs ∧ tupsOf xs = some es ∧ SetOk es ∧ IsSorted es ys ∧ Q (.lst (ys.map tupI)) s1) X := by
  unfold eSortS
  rw [wp_bind]
  congr 1
  funext x s1
  have bad : ∀ x : D, (∀ xs, x ≠ .lst xs) → (∃ xs es ys, x = .lst xs ∧ tupsOf xs = some es ∧ SetOk es ∧ IsSorted es ys ∧ Q (.lst (ys.map tupI)) s1) = False := fun x h => propext ⟨fun ⟨xs, _, _, e, _⟩ => h xs e, fun z => z.elim⟩
  cases x with
  | lst xs =>
    simp only
    cases hx : tupsOf xs with
    | none =>
      simp only [wp_bad]
      refine propext ⟨fun z => z.elim, fun ⟨xs', es, ys, e, h, _⟩ => ?_⟩
      cases e
      rw [hx] at h
      cases h
    | some es =>
      simp only
      by_cases h : SetOk es ∧ ∃ ys, IsSorted es ys
      · rw [dif_pos h, wp_ok]
        refine propext ⟨fun q => ⟨xs, es, _, rfl, hx, h.1, Classical.choose_spec h.2, q⟩, fun ⟨xs', es', ys, e, h1, h2, h3, q⟩ => ?_⟩
        cases e
        rw [hx] at h1
        cases h1
        rw [sorted_one (Classical.choose_spec h.2) h3]
        exact q
      · rw [dif_neg h, wp_bad]
        refine propext ⟨fun z => z.elim, fun ⟨xs', es', ys, e, h1, h2, h3, q⟩ => h ?_⟩
        cases e
        rw [hx] at h1
        cases h1
        exact ⟨h2, ys, h3⟩
  | _ => rw [wp_bad, bad]; exact fun _ z => nomatch z
theorem x_mn3 {a b c : Int} {P : D → Prop} : (∃ z, dMin3 [.int a, .int b, .int c] = some z ∧ P z) = P (.int (min a (min b c))) := by show (∃ z, some (D.int (min a (min b c))) = some z ∧ P z) = _; exact ex_some
end DL
namespace DL
open PySem PySem.Spec PyProof.Rows L2
/-! ### pairs of data and a new dict: plain rules -/
section
variable {ρ : List Sl} {s : S} {N B C : List Sl → S → Prop} {R : D → S → Prop} {X : Str → S → Prop}
theorem q_unpPd {i j : Nat} {F : DFun} {fs : DA} : wps (sUnpPd i j F fs ρ s) N B C R X = wp (eCall F fs ρ s) (fun d s1 => ∃ x l, d = .tup [x, .fd true l] ∧ wpn ρ [(i, .dat x), (j, .ownD true l)] fun ρ1 => N ρ1 s1) X := by
  unfold sUnpPd
  rw [wps_then]
  congr 1
  funext d s1
  refine propext ⟨fun h => ?_, fun ⟨x, l, e, h⟩ => ?_⟩
  · split at h
    · refine ⟨_, _, rfl, ?_⟩
      simp only [wps, wpn, set_at] at h ⊢
      exact h
    · exact absurd h (by simp [wps])
  · subst e
    show wps (.next ((ρ.set i (.dat x)).set j (.ownD true l)) s1) N B C R X
    simp only [wps, wpn, set_at] at h ⊢
    exact h
theorem q_retPd {f g : DE} : wps (sRetPd f g ρ s) N B C R X = wp (f ρ s) (fun x s1 => wp (g ρ s1) (fun d s2 => ∃ ps, d = .lst ps ∧ ∃ l, pairsD ps = some l ∧ R (.tup [x, .fd true (mergeT l)]) s2) X) X := by
  unfold sRetPd
  rw [wps_then]
  congr 1
  funext x s1
  rw [wps_then]
  congr 1
  funext d s2
  refine propext ⟨fun h => ?_, fun ⟨ps, e, l, e2, h⟩ => ?_⟩
  · split at h
    · rename_i ps
      cases hp : pairsD ps with
      | none => rw [hp] at h; exact absurd h (by simp [wps])
      | some l =>
        rw [hp] at h
        simp only [wps] at h
        exact ⟨_, rfl, l, hp, h⟩
    · exact absurd h (by simp [wps])
  · subst e
    simp only [e2, wps]
    exact h
theorem q_swapD {i : Nat} {fe gi gj : DE} : wps (sSwapD i fe gi gj ρ s) N B C R X = wp (fe ρ s) (fun v s1 => ∃ d e, v = .tup [d, e] ∧ wpd i ρ fun t l => wp (gi ρ s1) (fun k s2 => ∃ l1, putO t l k d = some l1 ∧ l.length < 16777216 ∧ wpn ρ [(i, .ownD t l1)] fun ρ1 => wp (gj ρ1 s2) (fun k' s3 => ∃ l2, putO t l1 k' e = some l2 ∧ l1.length < 16777216 ∧ wpn ρ1 [(i, .ownD t l2)] fun ρ2 => N ρ2 s3) X) X) X := by
  unfold sSwapD
  rw [wps_then]
  congr 1
  funext v s1
  refine Eq.trans ?_ (propext ⟨fun (h : match v with | .tup [d, e] => wpd i ρ fun t l => wp (gi ρ s1) (fun k s2 => ∃ l1, putO t l k d = some l1 ∧ l.length < 16777216 ∧ wpn ρ [(i, .ownD t l1)] fun ρ1 => wp (gj ρ1 s2) (fun k' s3 => ∃ l2, putO t l1 k' e = some l2 ∧ l1.length < 16777216 ∧ wpn ρ1 [(i, .ownD t l2)] fun ρ2 => N ρ2 s3) X) X | _ => False) => by
    split at h
    · exact ⟨_, _, rfl, h⟩
    · exact h.elim, fun ⟨d, e, ev, h⟩ => by subst ev; exact h⟩)
  split
  · rename_i d e
    unfold wpd
    cases ρ[i]? with
    | none => simp [wps]
    | some y =>
      cases y with
      | ownD t l =>
        simp only []
        rw [wps_then]
        congr 1
        funext k s2
        cases putO t l k d with
        | none => simp [wps]
        | some l1 =>
          simp only [Option.some.injEq, exists_eq_left']
          split
          · rename_i hl
            rw [wps_then]
            simp only [hl, true_and]
            simp only [wpn, set_at]
            congr 1
            funext k' s3
            cases putO t l1 k' e with
            | none => simp [wps]
            | some l2 =>
              simp only [Option.some.injEq, exists_eq_left']
              split
              · rename_i hl2
                simp only [hl2, true_and, wps, wpn, set_at]
              · rename_i hl2
                simp [wps, hl2]
          · rename_i hl
            simp [wps, hl]
      | _ => simp [wps]
  · simp [wps]
theorem q_plUse {i : Nat} {F : DFun} {fs : DA} {c : DT} {h : DS} : wps (sPlUse i F fs c h ρ s) N B C R X = wp (eCall F fs ρ s) (fun d s1 => ∃ x ds, d = .tup [x, .lst ds] ∧ flats ds = true ∧ i < ρ.length ∧ wpn ρ [(i, .dat (.tup [x, .lst ds]))] fun ρ1 => wp (c ρ1 s1) (fun b s2 => if b = true then R (.bl false) s2 else wpn ρ [(i, .emp)] fun ρ2 => wps (h ρ2 s2) N B C R X) X) X := by
  unfold sPlUse
  rw [wps_then]
  congr 1
  funext d s1
  refine propext ⟨fun k => ?_, fun ⟨x, ds, e, f1, f2, k⟩ => ?_⟩
  · split at k
    · split at k
      · rename_i hh
        refine ⟨_, _, rfl, hh.1, hh.2, ?_⟩
        rw [wps_then] at k
        simp only [wpn, set_at] at k ⊢
        refine wp_mono k (fun b s2 q => ?_) fun _ _ q => q
        cases b with
        | true => rw [if_pos rfl]; simp only [wps] at q; exact q
        | false => rw [if_neg (by decide)]; exact q
      · exact absurd k (by simp [wps])
    · exact absurd k (by simp [wps])
  · subst e
    simp only [f1, f2, and_self, if_true]
    rw [wps_then]
    simp only [wpn, set_at] at k ⊢
    refine wp_mono k (fun b s2 q => ?_) fun _ _ q => q
    cases b with
    | true => rw [if_pos rfl] at q; simp only [wps]; exact q
    | false => rw [if_neg (by decide)] at q; exact q
theorem q_retPl {i : Nat} {f : DE} : wps (sRetPl i f ρ s) N B C R X = wp (f ρ s) (fun x s1 => wpo i ρ fun ds => R (.tup [x, .lst ds]) s1) X := by
  unfold sRetPl
  rw [wps_then]
  congr 1
  funext x s1
  unfold wpo
  cases ρ[i]? with
  | none => simp [wps]
  | some y => cases y <;> simp [wps]
end
end DL
namespace DL
open PySem PySem.Spec PyProof.Rows L2
/-! ### a def handed over, long numbers in f-strings: plain rules -/
section
variable {ρ : List Sl} {s : S} {X : Str → S → Prop}
theorem wp_aGl {F : DFun} {fs : DA} {Q : List D × TL × List D → S → Prop} : wp (aGl F fs ρ s) Q X = wp (fs ρ s) (fun d2 s2 => Q ([], F, d2) s2) X := by
  unfold aGl
  rw [wp_bind]
  congr 1
  funext d s1
  rw [wp_ok]
theorem wp_fmtL {f : DE} {Q : D → S → Prop} : wp (eFmtL f ρ s) Q X = wp (f ρ s) (fun d s1 => match d with
    | .int i => i.natAbs.log2 < 12900 ∧ Q (.str (toString i)) s1
    | .str y => y.length ≤ 16777216 ∧ Q (.str y) s1
    | _ => False) X := by
  unfold eFmtL
  rw [wp_bind]
  congr 1
  funext d s1
  cases d with
  | int i =>
    dsimp only
    rw [wp_ite, wp_ok, wp_bad]
    by_cases h : i.natAbs.log2 < 12900 <;> simp [h]
  | str y =>
    dsimp only
    rw [wp_ite, wp_ok, wp_bad]
    by_cases h : y.length ≤ 16777216 <;> simp [h]
  | _ => simp [wp]
end
end DL
namespace DL
open PySem PySem.Spec PyProof.Rows L2
/-! ### instances: plain rules -/
section
variable {ρ : List Sl} {s : S} {X : Str → S → Prop}
theorem wp_fld {c x : Str} {f : DE} {Q : D → S → Prop} : wp (eFld c x f ρ s) Q X = wp (f ρ s) (fun d s1 => ∃ p, insOf s1 c d = some p ∧ ∃ v, p.2.lookup x = some v ∧ Q v s1) X := by
  unfold eFld
  rw [wp_bind]
  congr 1
  funext d s1
  cases h : insOf s1 c d with
  | none => simp [wp]
  | some p =>
    obtain ⟨n, l⟩ := p
    simp only []
    rw [wp_ofO]
    exact propext ⟨fun q => ⟨_, rfl, q⟩, fun ⟨_, e, q⟩ => by cases e; exact q⟩
theorem wps_fld {c x : Str} {f fv : DE} {N B C : List Sl → S → Prop} {R : D → S → Prop} : wps (sFld c x f fv ρ s) N B C R X =
    wp (fv ρ s) (fun d s1 => wp (f ρ s1) (fun t s2 => ∃ p, insOf s2 c t = some p ∧ (flat d = true ∧ p.2.length < 1000) ∧ N ρ (s2.set p.1 (.o c (putG x d p.2)))) X) X := by
  unfold sFld
  rw [wps_then]
  congr 1
  funext d s1
  rw [wps_then]
  congr 1
  funext t s2
  cases h : insOf s2 c t with
  | none => simp [wps]
  | some p =>
    obtain ⟨n, l⟩ := p
    simp only []
    by_cases h2 : flat d = true ∧ l.length < 1000
    · rw [if_pos h2, wz_next]
      exact propext ⟨fun q => ⟨_, rfl, h2, q⟩, fun ⟨_, e, _, q⟩ => by cases e; exact q⟩
    · rw [if_neg h2]
      exact propext ⟨fun q => by unfold wps at q; exact q.elim, fun ⟨_, e, h3, _⟩ => by cases e; exact absurd h3 h2⟩
theorem wp_meth {c m : Str} {F : DFun} {f : DE} {fs : DA} {Q : D → S → Prop} : wp (eMeth c m F f fs ρ s) Q X =
    wp (f ρ s) (fun t s1 => ∃ p, insOf s1 c t = some p ∧ p.2.lookup m = none ∧ wp (fs ρ s1) (fun ds s2 => wpc (F (.tok p.1 :: ds) s2) Q X ⟨⟩) X) X := by
  unfold eMeth
  rw [wp_bind]
  congr 1
  funext d s1
  cases h : insOf s1 c d with
  | none => simp [wp]
  | some p =>
    obtain ⟨n, l⟩ := p
    simp only []
    by_cases h2 : l.lookup m = none
    · rw [if_pos h2, wp_bind]
      exact propext ⟨fun q => ⟨_, rfl, h2, q⟩, fun ⟨_, e, _, q⟩ => by cases e; exact q⟩
    · rw [if_neg h2]
      exact propext ⟨fun q => by simp [wp] at q, fun ⟨_, e, h3, _⟩ => by cases e; exact absurd h3 h2⟩
theorem wp_make {c : Str} {F : DFun} {fs : DA} {Q : D → S → Prop} : wp (eMake c F fs ρ s) Q X =
    wp (fs ρ s) (fun ds s1 => wpc (F (.tok s1.length :: ds) (s1 ++ [.o c []])) (fun d s2 => d = .non ∧ Q (.tok s1.length) s2) X ⟨⟩) X := by
  unfold eMake
  rw [wp_bind]
  congr 1
  funext ds s1
  unfold wpc
  cases h : F (.tok s1.length :: ds) (s1 ++ [.o c []]) with
  | ok d s2 => cases d <;> simp [wp]
  | exc e s2 => simp [wp]
  | bad => simp [wp]
theorem wp_pop0T {f : DE} {Q : D → S → Prop} : wp (ePop0T f ρ s) Q X = wp (f ρ s) (fun t s1 => ∃ p, popL s1 t = some p ∧ Q p.1 p.2) X := by
  unfold ePop0T
  rw [wp_bind]
  congr 1
  funext t s1
  cases h : popL s1 t with
  | none => simp [wp]
  | some p =>
    simp only []
    rw [wp_ok]
    exact propext ⟨fun q => ⟨_, rfl, q⟩, fun ⟨_, e, q⟩ => by cases e; exact q⟩
theorem wp_lstR3 {fs : DA} {Q : D → S → Prop} : wp (eLstR3 fs ρ s) Q X = wp (fs ρ s) (fun ds s1 => ∃ i j, ds = [.int i, .int j, .int (-1)] ∧ (-(2 ^ 60) ≤ i ∧ i < 2 ^ 60 ∧ -(2 ^ 60) ≤ j ∧ j < 2 ^ 60 ∧ (i - j).toNat ≤ 2 ^ 24) ∧ Q (.lst (rngD i (-1) (i - j).toNat)) s1) X := by
  unfold eLstR3
  rw [wp_bind]
  congr 1
  funext ds s1
  split
  · rename_i i j c
    by_cases h : c = -1 ∧ -(2 ^ 60) ≤ i ∧ i < 2 ^ 60 ∧ -(2 ^ 60) ≤ j ∧ j < 2 ^ 60 ∧ (i - j).toNat ≤ 2 ^ 24
    · rw [if_pos h, wp_ok]
      obtain ⟨rfl, h'⟩ := h
      exact propext ⟨fun q => ⟨_, _, rfl, h', q⟩, fun ⟨_, _, e, _, q⟩ => by cases e; exact q⟩
    · rw [if_neg h]
      exact propext ⟨fun q => by unfold wp at q; exact q.elim, fun ⟨_, _, e, h2, _⟩ => by cases e; exact absurd ⟨rfl, h2⟩ h⟩
  · rename_i h
    exact propext ⟨fun q => by unfold wp at q; exact q.elim, fun ⟨_, _, e, _⟩ => absurd e (h _ _ _)⟩
theorem wp_getK {kvs : List (Str × Int)} {fs : DA} {Q : D → S → Prop} : wp (eGetK kvs fs ρ s) Q X = wp (fs ρ s) (fun ds s1 => ∃ z, ds = [.str z] ∧ Q (match kvs.lookup z with | some i => .int i | none => .non) s1) X := by
  unfold eGetK
  rw [wp_bind]
  congr 1
  funext ds s1
  split
  · rw [wp_ok]
    exact propext ⟨fun q => ⟨_, rfl, q⟩, fun ⟨_, e, q⟩ => by cases e; exact q⟩
  · rename_i h
    exact propext ⟨fun q => by unfold wp at q; exact q.elim, fun ⟨_, e, _⟩ => absurd e (h _)⟩
theorem wp_callE {x1 x2 : Str} {F1 F2 : DFun} {ff : DE} {fs : DA} {Q : D → S → Prop} : wp (eCallE x1 F1 x2 F2 ff fs ρ s) Q X =
    wp (ff ρ s) (fun d s1 => ∃ y, d = .glb y ∧ ((y = x1 ∧ wp (fs ρ s1) (fun ds s2 => wpc (F1 ds s2) Q X ⟨⟩) X) ∨ (y ≠ x1 ∧ y = x2 ∧ wp (fs ρ s1) (fun ds s2 => wpc (F2 ds s2) Q X ⟨⟩) X))) X := by
  unfold eCallE
  rw [wp_bind]
  congr 1
  funext d s1
  cases d with
  | glb y =>
    simp only []
    by_cases h1 : y = x1
    · rw [if_pos h1, wp_bind]
      exact propext ⟨fun q => ⟨y, rfl, .inl ⟨h1, q⟩⟩, fun ⟨_, e, q⟩ => by
        cases e
        rcases q with q | q
        · exact q.2
        · exact absurd h1 q.1⟩
    · rw [if_neg h1]
      by_cases h2 : y = x2
      · rw [if_pos h2, wp_bind]
        exact propext ⟨fun q => ⟨y, rfl, .inr ⟨h1, h2, q⟩⟩, fun ⟨_, e, q⟩ => by
          cases e
          rcases q with q | q
          · exact absurd q.1 h1
          · exact q.2.2⟩
      · rw [if_neg h2]
        exact propext ⟨fun q => by unfold wp at q; exact q.elim, fun ⟨_, e, q⟩ => by
          cases e
          rcases q with q | q
          · exact absurd q.1 h1
          · exact absurd q.2.1 h2⟩
  | _ => simp [wp]
theorem x_stL {i : Int} {P : D → Prop} : (∃ z, dStrL [.int i] = some z ∧ P z) = (i.natAbs.log2 < 12900 ∧ P (.str (toString i))) := ex_ite
theorem x_stLs {a : Str} {P : D → Prop} : (∃ z, dStrL [.str a] = some z ∧ P z) = P (.str a) := ex_some
end
end DL
namespace DL
open PySem PySem.Spec PyProof.Rows L2
/-! ### two clauses without a name -/
section
variable {ρ : List Sl} {s : S} {N B C : List Sl → S → Prop} {R : D → S → Prop} {X : Str → S → Prop}
theorem q_tryS2 {tb : XTb} {k : Nat} {c1 z1 c2 z2 : Str} {f : DE} : wps (sTryS tb k [(c1, z1), (c2, z2)] f ρ s) N B C R X = wp (f ρ s) (fun _ s1 => N ρ s1) (fun x s1 => ∃ b, isX tb x c1 = some b ∧ if b = true then wpn ρ [(k, .dat (.str z1))] (fun ρ1 => N ρ1 s1) else
    ∃ b2, isX tb x c2 = some b2 ∧ if b2 = true then wpn ρ [(k, .dat (.str z2))] (fun ρ1 => N ρ1 s1) else X x s1) := by
  unfold sTryS
  cases f ρ s with
  | ok d s1 => with_unfolding_all rfl
  | bad => with_unfolding_all rfl
  | exc x s1 =>
    simp only [wp, pickS]
    cases isX tb x c1 with
    | none => simp [wps]
    | some b =>
      cases b with
      | true => simp [wps, wpn, set_at]
      | false =>
        cases isX tb x c2 with
        | none => simp [wps]
        | some b2 =>
          cases b2 with
          | true => simp [wps, wpn, set_at]
          | false => simp [wps]
theorem q_gTL {n : Nat} {h : List D → List Sl → Option (List Sl)} {ds : List D} {P : List Sl → Prop} : (∃ ρ1, gTL n h (.lst ds) ρ = some ρ1 ∧ P ρ1) = (ds.length = n ∧ ∃ ρ1, h ds ρ = some ρ1 ∧ P ρ1) := by
  unfold gTL
  by_cases e : ds.length = n <;> simp [e]
end
end DL
namespace DL
open PySem PySem.Spec PyProof.Rows L2
/-! ### own dicts: get with one argument, update -/
section
variable {ρ : List Sl} {s : S} {N B C : List Sl → S → Prop} {R : D → S → Prop} {X : Str → S → Prop}
theorem wp_getO1 {i : Nat} {fk : DE} {Q : D → S → Prop} : wp (eGetO1 i fk ρ s) Q X = wpd i ρ fun t l => wp (fk ρ s) (fun y s1 => ∃ o, getO t l y = some o ∧ Q (o.getD .non) s1) X := by
  unfold eGetO1 wpd
  cases ρ[i]? with
  | none => simp [wp]
  | some y =>
    cases y with
    | ownD t l =>
      simp only []
      rw [wp_bind]
      congr 1
      funext y s1
      rw [wp_ofO]
      cases getO t l y with
      | none => simp
      | some o => simp
    | _ => simp [wp]
theorem q_updO {i : Nat} {f : DE} : wps (sUpdO i f ρ s) N B C R X = wpd i ρ fun t l => t = false ∧ wp (f ρ s) (fun d s1 => ∃ p r l', d = .dct (p :: r) ∧ mergeO l (p :: r) = some l' ∧ l.length + (p :: r).length ≤ 16777216 ∧ wpn ρ [(i, .ownD false l')] fun ρ1 => N ρ1 s1) X := by
  unfold sUpdO wpd
  cases ρ[i]? with
  | none => simp [wps]
  | some y =>
    cases y with
    | ownD t l =>
      cases t with
      | true => simp [wps]
      | false =>
        simp only [true_and]
        rw [wps_then]
        congr 1
        funext d s1
        cases d with
        | dct m =>
          cases m with
          | nil => simp [wps]
          | cons p r =>
            simp only []
            cases hm : mergeO l (p :: r) with
            | none =>
              refine propext ⟨fun q => by unfold wps at q; exact q.elim, fun ⟨p', r', l2, e, e2, _⟩ => ?_⟩
              cases e
              rw [hm] at e2
              cases e2
            | some l' =>
              simp only []
              by_cases h : l.length + (p :: r).length ≤ 16777216
              · rw [if_pos h, wz_next]
                refine propext ⟨fun q => ⟨p, r, l', rfl, hm, h, by simpa [wpn, set_at] using q⟩, fun ⟨p', r', l2, e, e2, _, q⟩ => ?_⟩
                cases e
                rw [hm] at e2
                cases e2
                simpa [wpn, set_at] using q
              · rw [if_neg h]
                refine propext ⟨fun q => by unfold wps at q; exact q.elim, fun ⟨p', r', l2, e, _, h3, _⟩ => ?_⟩
                cases e
                exact absurd h3 h
        | _ => simp [wps]
    | _ => simp [wps]
theorem q_dispC {i : Nat} {kvs : List (Str × Int)} : wps (sDispC i kvs ρ s) N B C R X = wpn ρ [(i, .ownD false (dispD kvs))] fun ρ1 => N ρ1 s := by
  unfold sDispC
  rw [wz_next]
  simp [wpn, set_at]
end
end DL
namespace DL
open PySem PySem.Spec PyProof.Rows L2
/-! ### walking a special list; setdefault and list of a special dict -/
def contV (clr : List Nat) (g : DG) (b : DS) (ρ : List Sl) (d : D) (s1 : S) : Fl := match d with
  | .tok n => match tokL s1 n with
    | none => .bad
    | some ds => loopT clr g b n ds.length ds.length (wipeD ρ clr) s1
  | d => match dIter d with
    | none => .bad
    | some ds => loopN clr g b ds (wipeD ρ clr) s1
def wpv (clr : List Nat) (g : DG) (b : DS) (d : D) (ρ : List Sl) (s : S) (N B C : List Sl → S → Prop) (R : D → S → Prop) (X : Str → S → Prop) (_ : Wits N B C R X) : Prop := wps (contV clr g b ρ d s) N B C R X
section
variable {ρ : List Sl} {s : S} {N B C : List Sl → S → Prop} {R : D → S → Prop} {X : Str → S → Prop}
theorem q_forV {clr : List Nat} {f : DE} {g : DG} {b : DS} : wps (sForV clr f g b ρ s) N B C R X = wp (f ρ s) (fun d s1 => wpv clr g b d ρ s1 N B C R X ⟨⟩) X := by
  have e : sForV clr f g b ρ s = (f ρ s).thenS (contV clr g b ρ) := rfl
  rw [e, wps_then]
  rfl
theorem wp_lstKT {fs : DA} {Q : D → S → Prop} : wp (eLstKT fs ρ s) Q X = wp (fs ρ s) (fun ds s1 => ∃ n l, ds = [.tok n] ∧ tokT s1 n = some l ∧ Q (.lst (l.map fun p => kT p.1)) s1) X := by
  unfold eLstKT
  rw [wp_bind]
  congr 1
  funext ds s1
  refine propext ⟨fun q => ?_, ?_⟩
  · split at q
    · rename_i n
      split at q
      · unfold wp at q; exact q.elim
      · rename_i l hl
        rw [wp_ok] at q
        exact ⟨n, l, rfl, hl, q⟩
    · unfold wp at q; exact q.elim
  · rintro ⟨n, l, rfl, hl, q⟩
    simp only [hl]
    rw [wp_ok]
    exact q
theorem wp_setdT {f fk fe : DE} {Q : D → S → Prop} : wp (eSetdT f fk fe ρ s) Q X = wp (f ρ s) (fun t s1 => ∃ n, t = .tok n ∧ (tokT s1 n).isSome = true ∧ wp (fk ρ s1) (fun y s2 => wp (fe ρ s2) (fun z s3 => ∃ l k, tokT s3 n = some l ∧ dkT y = some k ∧ l.length < 16777216 ∧
    ((∃ d, look l k = some d ∧ Q d s3) ∨ (look l k = none ∧ flat z = true ∧ Q z (s3.set n (.t (putC l k z)))))) X) X) X := by
  unfold eSetdT
  rw [wp_bind]
  congr 1
  funext t s1
  cases t with
  | tok n =>
    simp only []
    by_cases h : (tokT s1 n).isSome = true
    · rw [if_pos h, wp_bind]
      refine propext ⟨fun q => ⟨n, rfl, h, ?_⟩, fun ⟨m, e, _, q⟩ => ?_⟩
      · refine wp_mono q (fun y s2 q => ?_) fun _ _ q => q
        rw [wp_bind] at q
        refine wp_mono q (fun z s3 q => ?_) fun _ _ q => q
        split at q
        · rename_i l k hl hk
          split at q
          · rename_i hc
            refine ⟨l, k, hl, hk, hc, ?_⟩
            split at q
            · rename_i d hd
              rw [wp_ok] at q
              exact .inl ⟨d, hd, q⟩
            · rename_i hd
              split at q
              · rename_i hf
                rw [wp_ok] at q
                exact .inr ⟨hd, hf, q⟩
              · unfold wp at q; exact q.elim
          · unfold wp at q; exact q.elim
        · unfold wp at q; exact q.elim
      · cases e
        refine wp_mono q (fun y s2 q => ?_) fun _ _ q => q
        rw [wp_bind]
        refine wp_mono q (fun z s3 q => ?_) fun _ _ q => q
        obtain ⟨l, k, hl, hk, hc, q⟩ := q
        simp only [hl, hk]
        rw [if_pos hc]
        rcases q with ⟨d, hd, q⟩ | ⟨hd, hf, q⟩
        · simp only [hd]
          rw [wp_ok]
          exact q
        · simp only [hd]
          rw [if_pos hf, wp_ok]
          exact q
    · rw [if_neg h]
      refine propext ⟨fun q => by unfold wp at q; exact q.elim, fun ⟨m, e, q, _⟩ => ?_⟩
      cases e
      exact absurd q h
  | _ => simp [wp]
end
end DL
namespace DL
open PySem PySem.Spec PyProof.Rows L2
section
variable {ρ : List Sl} {s : S} {X : Str → S → Prop}
theorem wp_lstV {f : DE} {Q : D → S → Prop} : wp (eLstV f ρ s) Q X = wp (f ρ s) (fun d s1 => ∃ l, d = .fd true l ∧ Q (.lst (l.map (·.2))) s1) X := by
  unfold eLstV
  rw [wp_bind]
  congr 1
  funext d s1
  refine propext ⟨fun q => ?_, ?_⟩
  · split at q
    · rename_i l
      rw [wp_ok] at q
      exact ⟨l, rfl, q⟩
    · unfold wp at q; exact q.elim
  · rintro ⟨l, rfl, q⟩
    simp only []
    rw [wp_ok]
    exact q
end
end DL
namespace DL
open PySem PySem.Spec PyProof.Rows L2
section
variable {ρ : List Sl} {s : S} {N B C : List Sl → S → Prop} {R : D → S → Prop} {X : Str → S → Prop}
theorem q_cpyO {i k : Nat} : wps (sCpyO i k ρ s) N B C R X = wpd k ρ fun t l => t = true ∧ apartB l = true ∧ wpn ρ [(i, .ownD true l)] fun ρ1 => N ρ1 s := by
  unfold sCpyO wpd
  cases ρ[k]? with
  | none => simp [wps]
  | some y =>
    cases y with
    | ownD t l =>
      cases t with
      | false => simp [wps]
      | true =>
        simp only
        by_cases h : apartB l = true
        · rw [if_pos h, wz_next, set_at]
          simp [h]
          rfl
        · rw [if_neg h]
          simp [wps, h]
    | _ => simp [wps]
end
end DL
namespace DL
open PySem PySem.Spec PyProof.Rows L2
section
variable {ρ : List Sl} {s : S} {X : Str → S → Prop}
theorem wp_repT {L : Nat} {fs : DA} {Q : D → S → Prop} : wp (eRepT L fs ρ s) Q X = wp (fs ρ s) (fun ds s1 => ∃ z, dRepT L s1 ds = some z ∧ Q z s1) X := by
  unfold eRepT
  rw [wp_bind]
  simp only [wp_ofO]
end
end DL
noncomputable section
namespace DL
open PySem PySem.Spec PyProof.Rows L2
/-! ### the text of the law -/
def topS (i : Nat) : Stmt := PySem.Challenge.pw_nopassing_k77_trees_written_and_read.main.body.getD i (.Pass ⟨0, 0, 0, 0⟩)
structure Facts (K : PySem.W.Frag) (mg : Str → Option Value) : Prop where
  f_show_steps : FnAt K mg "show_steps" (topS 1)
  f_number_in : FnAt K mg "number_in" (topS 9)
  f_behind_blank : FnAt K mg "behind_blank" (topS 10)
  f_rule_in : FnAt K mg "rule_in" (topS 11)
  f_tree_in : FnAt K mg "tree_in" (topS 12)
  f_read_steps : FnAt K mg "read_steps" (topS 13)
  f__law_pen : FnAt K mg "_law_pen" (topS 15)
  f__law_draw : FnAt K mg "_law_draw" (topS 16)
  f__law_small : FnAt K mg "_law_small" (topS 17)
  f__law_wrapped : FnAt K mg "_law_wrapped" (topS 18)
  f__law_tree : FnAt K mg "_law_tree" (topS 19)
  f__law_tree_text : FnAt K mg "_law_tree_text" (topS 20)
  f__law_alike : FnAt K mg "_law_alike" (topS 21)
  c_FIGURES : KVal K mg "FIGURES" (.str "0123456789")
  c_MOST_DEEP : KVal K mg "MOST_DEEP" (.int 70)
  c_MOST_PLACE : KVal K mg "MOST_PLACE" (.int 11)
  b_abs : mg "abs" = none
  b_all : mg "all" = none
  b_bool : mg "bool" = none
  b_int : mg "int" = none
  b_isinstance : mg "isinstance" = none
  b_len : mg "len" = none
  b_list : mg "list" = none
  b_range : mg "range" = none
  b_repr : mg "repr" = none
  b_str : mg "str" = none
  b_tuple : mg "tuple" = none
  b_zip : mg "zip" = none
  x_NoText : XCls K mg "NoText"
section
variable {P : Program} {w : World} {K : PySem.W.Frag} {mg : Str → Option Value} {base : Heap}
abbrev s_behind_blank : Stmt := topS 10
theorem sc_behind_blank : FnScope ["text", "at", "deep"] ["text", "at", "deep"] (defScope s_behind_blank) := ⟨rfl, rfl, rfl, by decide +kernel, rfl, by decide +kernel, by decide +kernel⟩
def D_behind_blank (C : DFun) : DFun := defD 3 3 (sSeq (sIf (tBl (eOp2 dNe (eSl (eV 0) (oSome (eV 1)) (oSome (eOp2 dAdd (eV 1) (eC (.int 1))))) (eC (.str " "))))
    (sRet (eC .non))
    (sSkip))
    (sRet (eCall C (aCons (eV 0) (aCons (eOp2 dAdd (eV 1) (eC (.int 1))) (aCons (eV 2) (aNil)))))))
theorem ok_behind_blank (Z : Facts K mg) (C : DFun) (nn : Nat) (hnn : 0 ≤ nn) (ih : DFn P w K mg base nn "tree_in" 3 C false) : DFn P w K mg base (nn + 1) "behind_blank" 3 (D_behind_blank C) false := by
  obtain ⟨f, fd, F, gx⟩ := Z.f_behind_blank
  refine DFn.mk' F sc_behind_blank gx (F.binds (ps := ["text", "at", "deep"]) fun _ _ _ _ _ _ us hl => match us, hl with | [_, _, _], _ => rfl) rfl (fun X E hK hM hX hr hg => ?_) (fun z => Bool.noConfusion z)
  obtain ⟨cdv, A, outer, s, H, rfl⟩ := hX
  exact s_cons (s_if (t_cmp (op_neA (hu64 hr)) v_ne (e_slice (e_var 0) (o_some (e_var 1)) (o_some (e_op2 op_addA v_add (e_var 1) (e_int)))) (e_str) rfl)
    (s_one (s_ret (e_non)))
    (s_nil))
    (s_one (s_ret (e_call ih (hr.mono (by omega)) hg (takes_of rfl rfl rfl rfl) (a_cons (e_var 0) (a_cons (e_op2 op_addA v_add (e_var 1) (e_int)) (a_cons (e_var 2) (a_nil)))))))
abbrev s_number_in : Stmt := topS 9
theorem sc_number_in : FnScope ["word", "most", "sign"] ["word", "most"] (defScope s_number_in) := ⟨rfl, rfl, rfl, by decide +kernel, rfl, by decide +kernel, by decide +kernel⟩
def D_number_in : DFun := defD 3 2 (sSeq (sIf (tOrD (tNotD (tBl (eChain dLe dLe (eC (.int 1)) (eLenT (aCons (eV 0) (aNil))) (eV 1)))) (tNotD (tTru (eB dAll (aCons (eComp [2] (iVal (eV 0)) (gN 2) (tAll) (eOp2 dIn (eV 2) (eC (.str "0123456789")))) (aNil))))))
    (sRet (eC .non))
    (sSkip))
    (sSeq (sIf (tAndD (tBl (eOp2 dEq (eOp2S dIxT (eV 0) (eC (.int 0))) (eC (.str "0")))) (tBl (eOp2 dGt (eLenT (aCons (eV 0) (aNil))) (eC (.int 1)))))
    (sRet (eC .non))
    (sSkip))
    (sRet (eB dInt (aCons (eV 0) (aNil))))))
theorem ok_number_in (Z : Facts K mg) : DFn P w K mg base 1 "number_in" 2 D_number_in false := by
  obtain ⟨f, fd, F, gx⟩ := Z.f_number_in
  refine DFn.mk' F sc_number_in gx (F.binds (ps := ["word", "most"]) fun _ _ _ _ _ _ us hl => match us, hl with | [_, _], _ => rfl) rfl (fun X E hK hM hX hr hg => ?_) (fun z => Bool.noConfusion z)
  obtain ⟨cdv, A, outer, s, H, rfl⟩ := hX
  exact s_cons (s_if (PW.pt (w_or (t_not (t_chain op_le v_le op_le v_le (e_int) (e_lenT Z.b_len (a_cons (e_var 0) (a_nil))) (e_var 1))) (w_or1 (t_not (t_truth (e_callB (cr_all rfl) v_all Z.b_all (a_cons (e_ofF (f_comp [("sign", 2)] rfl sc_number_in.nd (i_val (e_var 0)) (blkOk_by (by change blkC ["word", "most", "sign"] (defScope s_number_in) _ _ = true; decide +kernel)) (fun _ _ _ _ _ => g_name 2 sc_number_in.nd) (fun _ _ _ _ _ => ts_nil) (fun _ _ _ _ _ => e_cmp (op_inA (hu65 hr)) v_in (e_var 2) (e_kst Z.c_FIGURES) rfl))) (a_nil))))))))
    (s_one (s_ret (e_non)))
    (s_nil))
    (s_cons (s_if (PW.pt (w_and (t_cmp (op_eqA (hu64 hr)) v_eq (e_ixT (e_var 0) (e_int)) (e_str) rfl) (w_and1 (t_cmp op_gt v_gt (e_lenT Z.b_len (a_cons (e_var 0) (a_nil))) (e_int) rfl))))
    (s_one (s_ret (e_non)))
    (s_nil))
    (s_one (s_ret (e_callTy c_int v_int Z.b_int (a_cons (e_var 0) (a_nil))))))
abbrev s_rule_in : Stmt := topS 11
theorem sc_rule_in : FnScope ["text", "at", "deep", "end", "number", "swapped", "walker", "empty"] ["text", "at", "deep"] (defScope s_rule_in) := ⟨rfl, rfl, rfl, by decide +kernel, rfl, by decide +kernel, by decide +kernel⟩
def D_rule_in (C : DFun) : DFun := defD 8 3 (sSeq (sSet 3 (eFind3 (eV 0) (eC (.str " ")) (eV 1)))
    (sSeq (sIf (tBl (eOp2 dLt (eV 3) (eC (.int 0))))
    (sRet (eC .non))
    (sSkip))
    (sSeq (sSet 4 (eCall D_number_in (aCons (eSl (eV 0) (oSome (eV 1)) (oSome (eV 3))) (aCons (eC (.int 2)) (aNil)))))
    (sSeq (sSet 5 (eTup (aCons (eC .non) (aCons (eOp2 dAdd (eV 3) (eC (.int 2))) (aNil)))))
    (sSeq (sIf (tBl (eOp2 dNe (eSl (eV 0) (oSome (eV 3)) (oSome (eOp2 dAdd (eV 3) (eC (.int 3))))) (eC (.str " - "))))
    (sSet 5 (eCall (D_behind_blank C) (aCons (eV 0) (aCons (eV 3) (aCons (eV 2) (aNil))))))
    (sSkip))
    (sSeq (sIf (tOrD (tBl (eOp2 dIs (eV 4) (eC .non))) (tOrD (tBl (eOp2 dGt (eV 4) (eC (.int 11)))) (tBl (eOp2 dIs (eV 5) (eC .non)))))
    (sRet (eC .non))
    (sSkip))
    (sSeq (sSet 6 (eCall (D_behind_blank C) (aCons (eV 0) (aCons (eOp2S dIxT (eV 5) (eC (.int 1))) (aCons (eV 2) (aNil))))))
    (sSeq (sIf (tBl (eOp2 dIs (eV 6) (eC .non)))
    (sRet (eC .non))
    (sSkip))
    (sSeq (sSet 7 (eCall (D_behind_blank C) (aCons (eV 0) (aCons (eOp2S dIxT (eV 6) (eC (.int 1))) (aCons (eV 2) (aNil))))))
    (sSeq (sIf (tOrD (tBl (eOp2 dIs (eV 7) (eC .non))) (tBl (eOp2 dNe (eSl (eV 0) (oSome (eOp2S dIxT (eV 7) (eC (.int 1)))) (oSome (eOp2 dAdd (eOp2S dIxT (eV 7) (eC (.int 1))) (eC (.int 1))))) (eC (.str ")")))))
    (sRet (eC .non))
    (sSkip))
    (sRet (eTup (aCons (eTup (aCons (eC (.str "rule")) (aCons (eV 4) (aCons (eOp2S dIxT (eV 5) (eC (.int 0))) (aCons (eOp2S dIxT (eV 6) (eC (.int 0))) (aCons (eOp2S dIxT (eV 7) (eC (.int 0))) (aNil))))))) (aCons (eOp2 dAdd (eOp2S dIxT (eV 7) (eC (.int 1))) (eC (.int 1))) (aNil)))))))))))))))
theorem ok_rule_in (Z : Facts K mg) (C : DFun) (nn : Nat) (hnn : 1 ≤ nn) (ih : DFn P w K mg base nn "tree_in" 3 C false) : DFn P w K mg base (nn + 2) "rule_in" 3 (D_rule_in C) false := by
  obtain ⟨f, fd, F, gx⟩ := Z.f_rule_in
  refine DFn.mk' F sc_rule_in gx (F.binds (ps := ["text", "at", "deep"]) fun _ _ _ _ _ _ us hl => match us, hl with | [_, _, _], _ => rfl) rfl (fun X E hK hM hX hr hg => ?_) (fun z => Bool.noConfusion z)
  obtain ⟨cdv, A, outer, s, H, rfl⟩ := hX
  exact s_cons (s_set (i := 3) (e_find3 (e_var 0) (e_str) (e_var 1)) sc_rule_in.nd)
    (s_cons (s_if (t_cmp op_lt v_lt (e_var 3) (e_int) rfl)
    (s_one (s_ret (e_non)))
    (s_nil))
    (s_cons (s_set (i := 4) (e_call (ok_number_in Z) (hr.mono (by omega)) hg (takes_of rfl rfl rfl rfl) (a_cons (e_slice (e_var 0) (o_some (e_var 1)) (o_some (e_var 3))) (a_cons (e_int) (a_nil)))) sc_rule_in.nd)
    (s_cons (s_set (i := 5) (e_tup (a_cons (e_non) (a_cons (e_op2 op_addA v_add (e_var 3) (e_int)) (a_nil)))) sc_rule_in.nd)
    (s_cons (s_if (t_cmp (op_neA (hu64 hr)) v_ne (e_slice (e_var 0) (o_some (e_var 3)) (o_some (e_op2 op_addA v_add (e_var 3) (e_int)))) (e_str) rfl)
    (s_one (s_set (i := 5) (e_call (ok_behind_blank Z C nn (by omega) ih) (hr.mono (by omega)) hg (takes_of rfl rfl rfl rfl) (a_cons (e_var 0) (a_cons (e_var 3) (a_cons (e_var 2) (a_nil))))) sc_rule_in.nd))
    (s_nil))
    (s_cons (s_if (PW.pt (w_or (t_cmp op_isA v_is (e_var 4) (e_non) rfl) (w_or (t_cmp op_gt v_gt (e_var 4) (e_kst Z.c_MOST_PLACE) rfl) (w_or1 (t_cmp op_isA v_is (e_var 5) (e_non) rfl)))))
    (s_one (s_ret (e_non)))
    (s_nil))
    (s_cons (s_set (i := 6) (e_call (ok_behind_blank Z C nn (by omega) ih) (hr.mono (by omega)) hg (takes_of rfl rfl rfl rfl) (a_cons (e_var 0) (a_cons (e_ixT (e_var 5) (e_int)) (a_cons (e_var 2) (a_nil))))) sc_rule_in.nd)
    (s_cons (s_if (t_cmp op_isA v_is (e_var 6) (e_non) rfl)
    (s_one (s_ret (e_non)))
    (s_nil))
    (s_cons (s_set (i := 7) (e_call (ok_behind_blank Z C nn (by omega) ih) (hr.mono (by omega)) hg (takes_of rfl rfl rfl rfl) (a_cons (e_var 0) (a_cons (e_ixT (e_var 6) (e_int)) (a_cons (e_var 2) (a_nil))))) sc_rule_in.nd)
    (s_cons (s_if (PW.pt (w_or (t_cmp op_isA v_is (e_var 7) (e_non) rfl) (w_or1 (t_cmp (op_neA (hu64 hr)) v_ne (e_slice (e_var 0) (o_some (e_ixT (e_var 7) (e_int))) (o_some (e_op2 op_addA v_add (e_ixT (e_var 7) (e_int)) (e_int)))) (e_str) rfl))))
    (s_one (s_ret (e_non)))
    (s_nil))
    (s_one (s_ret (e_tup (a_cons (e_tup (a_cons (e_str) (a_cons (e_var 4) (a_cons (e_ixT (e_var 5) (e_int)) (a_cons (e_ixT (e_var 6) (e_int)) (a_cons (e_ixT (e_var 7) (e_int)) (a_nil))))))) (a_cons (e_op2 op_addA v_add (e_ixT (e_var 7) (e_int)) (e_int)) (a_nil)))))))))))))))
abbrev s_show_steps : Stmt := topS 1
theorem sc_show_steps : FnScope ["tree", "word", "at", "swapped", "walker", "empty", "ahead"] ["tree"] (defScope s_show_steps) := ⟨rfl, rfl, rfl, by decide +kernel, rfl, by decide +kernel, by decide +kernel⟩
def D_show_steps : Nat → DFun
  | 0 => fun _ _ => .bad
  | rk + 1 => defD 7 1 (sSeq (sIf (tBl (eOp2 dEq (eOp2S dIxT (eV 0) (eC (.int 0))) (eC (.str "none"))))
    (sRet (eC (.str "n")))
    (sSkip))
    (sSeq (sIf (tBl (eOp2 dEq (eOp2S dIxT (eV 0) (eC (.int 0))) (eC (.str "come"))))
    (sRet (eOp2 dAdd (eC (.str "c")) (eCall (D_show_steps rk) (aCons (eOp2S dIxT (eV 0) (eC (.int 1))) (aNil)))))
    (sSkip))
    (sSeq (sIf (tBl (eOp2 dEq (eOp2S dIxT (eV 0) (eC (.int 0))) (eC (.str "go"))))
    (sRet (eOp2 dAdd (eC (.str "g")) (eCall (D_show_steps rk) (aCons (eOp2S dIxT (eV 0) (eC (.int 1))) (aNil)))))
    (sSkip))
    (sSeq (sUnp (gT 5 (gsCons (gN 1) (gsCons (gN 2) (gsCons (gN 3) (gsCons (gN 4) (gsCons (gN 5) (gsNil))))))) (eV 0))
    (sSeq (sSet 6 (eC (.str "-")))
    (sSeq (sIf (tBl (eOp2 dIsnt (eV 3) (eC .non)))
    (sSet 6 (eCall (D_show_steps rk) (aCons (eV 3) (aNil))))
    (sSkip))
    (sRet (eJs ((eC (.str "(")) :: (eFmt (eV 2)) :: (eC (.str " ")) :: (eFmt (eV 6)) :: (eC (.str " ")) :: (eFmt (eCall (D_show_steps rk) (aCons (eV 4) (aNil)))) :: (eC (.str " ")) :: (eFmt (eCall (D_show_steps rk) (aCons (eV 5) (aNil)))) :: (eC (.str ")")) :: [])))))))))
theorem okS_show_steps (Z : Facts K mg) (rk : Nat) (ih : DFn P w K mg base (0 + rk) "show_steps" 1 (D_show_steps rk) false) : DFn P w K mg base (0 + rk + 1) "show_steps" 1 (D_show_steps (rk + 1)) false := by
  obtain ⟨f, fd, F, gx⟩ := Z.f_show_steps
  refine DFn.mk' F sc_show_steps gx (F.binds (ps := ["tree"]) fun _ _ _ _ _ _ us hl => match us, hl with | [_], _ => rfl) rfl (fun X E hK hM hX hr hg => ?_) (fun z => Bool.noConfusion z)
  obtain ⟨cdv, A, outer, s, H, rfl⟩ := hX
  exact s_cons (s_if (t_cmp (op_eqA (hu64 hr)) v_eq (e_ixT (e_var 0) (e_int)) (e_str) rfl)
    (s_one (s_ret (e_str)))
    (s_nil))
    (s_cons (s_if (t_cmp (op_eqA (hu64 hr)) v_eq (e_ixT (e_var 0) (e_int)) (e_str) rfl)
    (s_one (s_ret (e_op2 op_addA v_add (e_str) (e_call ih hr hg (takes_of rfl rfl rfl rfl) (a_cons (e_ixT (e_var 0) (e_int)) (a_nil))))))
    (s_nil))
    (s_cons (s_if (t_cmp (op_eqA (hu64 hr)) v_eq (e_ixT (e_var 0) (e_int)) (e_str) rfl)
    (s_one (s_ret (e_op2 op_addA v_add (e_str) (e_call ih hr hg (takes_of rfl rfl rfl rfl) (a_cons (e_ixT (e_var 0) (e_int)) (a_nil))))))
    (s_nil))
    (s_cons (s_unp [1, 2, 3, 4, 5] (e_var 0) (g_tup (n := 5) rfl (gs_cons (g_name 1 sc_show_steps.nd) (gs_cons (g_name 2 sc_show_steps.nd) (gs_cons (g_name 3 sc_show_steps.nd) (gs_cons (g_name 4 sc_show_steps.nd) (gs_cons (g_name 5 sc_show_steps.nd) (gs_nil))))))))
    (s_cons (s_set (i := 6) (e_str) sc_show_steps.nd)
    (s_cons (s_if (t_cmp op_isntA v_isnt (e_var 3) (e_non) rfl)
    (s_one (s_set (i := 6) (e_call ih hr hg (takes_of rfl rfl rfl rfl) (a_cons (e_var 3) (a_nil))) sc_show_steps.nd))
    (s_nil))
    (s_one (s_ret (e_joined (.cons (e_str) (.cons (e_fmt (e_var 2)) (.cons (e_str) (.cons (e_fmt (e_var 6)) (.cons (e_str) (.cons (e_fmt (e_call ih hr hg (takes_of rfl rfl rfl rfl) (a_cons (e_var 4) (a_nil)))) (.cons (e_str) (.cons (e_fmt (e_call ih hr hg (takes_of rfl rfl rfl rfl) (a_cons (e_var 5) (a_nil)))) (.cons (e_str) (.nil))))))))))))))))))
theorem ok_show_steps (Z : Facts K mg) : ∀ rk : Nat, DFn P w K mg base (0 + rk) "show_steps" 1 (D_show_steps rk) false
  | 0 => by
    obtain ⟨f, fd, F, gx⟩ := Z.f_show_steps
    exact DFn.zero F sc_show_steps gx (F.binds (ps := ["tree"]) fun _ _ _ _ _ _ us hl => match us, hl with | [_], _ => rfl) rfl
  | rk + 1 => okS_show_steps Z rk (ok_show_steps Z rk)
abbrev s_tree_in : Stmt := topS 12
theorem sc_tree_in : FnScope ["text", "at", "deep", "sign", "inner"] ["text", "at", "deep"] (defScope s_tree_in) := ⟨rfl, rfl, rfl, by decide +kernel, rfl, by decide +kernel, by decide +kernel⟩
def D_tree_in : Nat → DFun
  | 0 => fun _ _ => .bad
  | rk + 1 => defD 5 3 (sSeq (sSet 3 (eSl (eV 0) (oSome (eV 1)) (oSome (eOp2 dAdd (eV 1) (eC (.int 1))))))
    (sSeq (sIf (tBl (eOp2 dEq (eV 2) (eC (.int 0))))
    (sRet (eC .non))
    (sSkip))
    (sSeq (sIf (tBl (eOp2 dEq (eV 3) (eC (.str "n"))))
    (sRet (eTup (aCons (eTup (aCons (eC (.str "none")) (aNil))) (aCons (eOp2 dAdd (eV 1) (eC (.int 1))) (aNil)))))
    (sSkip))
    (sSeq (sIf (tBl (eOp2 dEq (eV 3) (eC (.str "("))))
    (sRet (eCall (D_rule_in (D_tree_in rk)) (aCons (eV 0) (aCons (eOp2 dAdd (eV 1) (eC (.int 1))) (aCons (eOp2 dSub (eV 2) (eC (.int 1))) (aNil))))))
    (sSkip))
    (sSeq (sIf (tBl (eOp2 dNotIn (eV 3) (eTup (aCons (eC (.str "c")) (aCons (eC (.str "g")) (aNil))))))
    (sRet (eC .non))
    (sSkip))
    (sSeq (sSet 4 (eCall (D_tree_in rk) (aCons (eV 0) (aCons (eOp2 dAdd (eV 1) (eC (.int 1))) (aCons (eOp2 dSub (eV 2) (eC (.int 1))) (aNil))))))
    (sSeq (sIf (tBl (eOp2 dIs (eV 4) (eC .non)))
    (sRet (eC .non))
    (sSkip))
    (sRet (eTup (aCons (eTup (aCons (eOp2S dIxC (eDisp ((eC (.str "c"), eC (.str "come")) :: (eC (.str "g"), eC (.str "go")) :: [])) (eV 3)) (aCons (eOp2S dIxT (eV 4) (eC (.int 0))) (aNil)))) (aCons (eOp2S dIxT (eV 4) (eC (.int 1))) (aNil))))))))))))
theorem okS_tree_in (Z : Facts K mg) (rk : Nat) (ih : DFn P w K mg base (1 + 3 * rk) "tree_in" 3 (D_tree_in rk) false) : DFn P w K mg base (1 + 3 * rk + 3) "tree_in" 3 (D_tree_in (rk + 1)) false := by
  obtain ⟨f, fd, F, gx⟩ := Z.f_tree_in
  refine DFn.mk' F sc_tree_in gx (F.binds (ps := ["text", "at", "deep"]) fun _ _ _ _ _ _ us hl => match us, hl with | [_, _, _], _ => rfl) rfl (fun X E hK hM hX hr hg => ?_) (fun z => Bool.noConfusion z)
  obtain ⟨cdv, A, outer, s, H, rfl⟩ := hX
  exact s_cons (s_set (i := 3) (e_slice (e_var 0) (o_some (e_var 1)) (o_some (e_op2 op_addA v_add (e_var 1) (e_int)))) sc_tree_in.nd)
    (s_cons (s_if (t_cmp (op_eqA (hu64 hr)) v_eq (e_var 2) (e_int) rfl)
    (s_one (s_ret (e_non)))
    (s_nil))
    (s_cons (s_if (t_cmp (op_eqA (hu64 hr)) v_eq (e_var 3) (e_str) rfl)
    (s_one (s_ret (e_tup (a_cons (e_tup (a_cons (e_str) (a_nil))) (a_cons (e_op2 op_addA v_add (e_var 1) (e_int)) (a_nil))))))
    (s_nil))
    (s_cons (s_if (t_cmp (op_eqA (hu64 hr)) v_eq (e_var 3) (e_str) rfl)
    (s_one (s_ret (e_call (ok_rule_in Z _ _ (by omega) ih) (hr.mono (by omega)) hg (takes_of rfl rfl rfl rfl) (a_cons (e_var 0) (a_cons (e_op2 op_addA v_add (e_var 1) (e_int)) (a_cons (e_op2 op_sub v_sub (e_var 2) (e_int)) (a_nil)))))))
    (s_nil))
    (s_cons (s_if (t_cmp (op_notInA (hu65 hr)) v_notIn (e_var 3) (e_tup (a_cons (e_str) (a_cons (e_str) (a_nil)))) rfl)
    (s_one (s_ret (e_non)))
    (s_nil))
    (s_cons (s_set (i := 4) (e_call ih (hr.mono (by omega)) hg (takes_of rfl rfl rfl rfl) (a_cons (e_var 0) (a_cons (e_op2 op_addA v_add (e_var 1) (e_int)) (a_cons (e_op2 op_sub v_sub (e_var 2) (e_int)) (a_nil))))) sc_tree_in.nd)
    (s_cons (s_if (t_cmp op_isA v_is (e_var 4) (e_non) rfl)
    (s_one (s_ret (e_non)))
    (s_nil))
    (s_one (s_ret (e_tup (a_cons (e_tup (a_cons (e_ixC (e_disp (ps_cons (e_str) (e_str) (ps_cons (e_str) (e_str) (ps_nil)))) (e_var 3) (hu64 hr)) (a_cons (e_ixT (e_var 4) (e_int)) (a_nil)))) (a_cons (e_ixT (e_var 4) (e_int)) (a_nil))))))))))))
theorem ok_tree_in (Z : Facts K mg) : ∀ rk : Nat, DFn P w K mg base (1 + 3 * rk) "tree_in" 3 (D_tree_in rk) false
  | 0 => by
    obtain ⟨f, fd, F, gx⟩ := Z.f_tree_in
    exact DFn.zero F sc_tree_in gx (F.binds (ps := ["text", "at", "deep"]) fun _ _ _ _ _ _ us hl => match us, hl with | [_, _, _], _ => rfl) rfl
  | rk + 1 => okS_tree_in Z rk (ok_tree_in Z rk)
abbrev s_read_steps : Stmt := topS 13
theorem sc_read_steps : FnScope ["text", "found"] ["text"] (defScope s_read_steps) := ⟨rfl, rfl, rfl, by decide +kernel, rfl, by decide +kernel, by decide +kernel⟩
def D_read_steps : DFun := defD 2 1 (sSeq (sIf (tNotD (tTru (eB dIsi (aCons (eV 0) (aCons (eC (.ty "str")) (aNil))))))
    (sRaise "NoText")
    (sSkip))
    (sSeq (sSet 1 (eCall (D_tree_in 72) (aCons (eV 0) (aCons (eC (.int 0)) (aCons (eC (.int 70)) (aNil))))))
    (sSeq (sIf (tOrD (tBl (eOp2 dIs (eV 1) (eC .non))) (tBl (eOp2 dNe (eOp2S dIxT (eV 1) (eC (.int 1))) (eLenT (aCons (eV 0) (aNil))))))
    (sRaise "NoText")
    (sSkip))
    (sRet (eOp2S dIxT (eV 1) (eC (.int 0)))))))
theorem ok_read_steps (Z : Facts K mg) : DFn P w K mg base 218 "read_steps" 1 D_read_steps false := by
  obtain ⟨f, fd, F, gx⟩ := Z.f_read_steps
  refine DFn.mk' F sc_read_steps gx (F.binds (ps := ["text"]) fun _ _ _ _ _ _ us hl => match us, hl with | [_], _ => rfl) rfl (fun X E hK hM hX hr hg => ?_) (fun z => Bool.noConfusion z)
  obtain ⟨cdv, A, outer, s, H, rfl⟩ := hX
  exact s_cons (s_if (t_not (t_truth (e_callB call_isi v_isi Z.b_isinstance (a_cons (e_var 0) (a_cons (e_ty Z.b_str) (a_nil))))))
    (s_one (s_raise Z.x_NoText rfl (takes_of rfl rfl rfl rfl)))
    (s_nil))
    (s_cons (s_set (i := 1) (e_call (ok_tree_in Z 72) (hr.mono (by decide)) hg (takes_of rfl rfl rfl rfl) (a_cons (e_var 0) (a_cons (e_int) (a_cons (e_kst Z.c_MOST_DEEP) (a_nil))))) sc_read_steps.nd)
    (s_cons (s_if (PW.pt (w_or (t_cmp op_isA v_is (e_var 1) (e_non) rfl) (w_or1 (t_cmp (op_neA (hu64 hr)) v_ne (e_ixT (e_var 1) (e_int)) (e_lenT Z.b_len (a_cons (e_var 0) (a_nil))) rfl))))
    (s_one (s_raise Z.x_NoText rfl (takes_of rfl rfl rfl rfl)))
    (s_nil))
    (s_one (s_ret (e_ixT (e_var 1) (e_int))))))
abbrev s__law_pen : Stmt := topS 15
theorem sc__law_pen : FnScope ["_law_script"] ["_law_script"] (defScope s__law_pen) := ⟨rfl, rfl, rfl, by decide +kernel, rfl, by decide +kernel, by decide +kernel⟩
def D__law_pen : DFun := defD 1 1 (sRet (ePub (eLst (aCons (ePub (eB dLstOf (aCons (eSl (eV 0) (oNone) (oSome (eC (.int 63)))) (aNil)))) (aCons (eC (.int 0)) (aCons (eC (.int 0)) (aNil)))))))
theorem ok__law_pen (Z : Facts K mg) : DFn P w K mg base 1 "_law_pen" 1 D__law_pen false := by
  obtain ⟨f, fd, F, gx⟩ := Z.f__law_pen
  refine DFn.mk' F sc__law_pen gx (F.binds (ps := ["_law_script"]) fun _ _ _ _ _ _ us hl => match us, hl with | [_], _ => rfl) rfl (fun X E hK hM hX hr hg => ?_) (fun z => Bool.noConfusion z)
  obtain ⟨cdv, A, outer, s, H, rfl⟩ := hX
  exact s_one (s_ret (e_pub (f_lst (a_cons (e_pub (f_callTy c_lst vF_lst Z.b_list (a_cons (e_slice (e_var 0) (o_none) (o_some (e_int))) (a_nil)))) (a_cons (e_int) (a_cons (e_int) (a_nil)))))))
abbrev s__law_draw : Stmt := topS 16
theorem sc__law_draw : FnScope ["_law_pen_here", "_law_many", "_law_found", "_law_at", "_law_cell", "_law_one", "_law_two"] ["_law_pen_here", "_law_many"] (defScope s__law_draw) := ⟨rfl, rfl, rfl, by decide +kernel, rfl, by decide +kernel, by decide +kernel⟩
def D__law_draw : DFun := defD 7 2 (sSeq (sIf (tBl (eOp2 dGt (eOp2S dIxT (eV 0) (eC (.int 2))) (eC (.int 0))))
    (sSeq (sSet 2 (eOp2 dMod (eOp2S dIxT (eV 0) (eC (.int 2))) (eV 1)))
    (sSeq (sPutT (eV 0) (eC (.int 2)) (eOp2 dFdiv (eOp2S dIxT (eV 0) (eC (.int 2))) (eV 1)))
    (sRet (eV 2))))
    (sSkip))
    (sSeq (sSet 3 (eOp2S dIxT (eV 0) (eC (.int 1))))
    (sSeq (sPutT (eV 0) (eC (.int 1)) (eOp2 dAdd (eV 3) (eC (.int 1))))
    (sSeq (sSet 4 (eOp2 dAdd (eOp2 dAdd (eOp2 dMul (eOp2 dMul (eC (.int 60013)) (eV 3)) (eV 3)) (eOp2 dMul (eC (.int 97)) (eV 3))) (eC (.int 19))))
    (sSeq (sIf (tBl (eOp2 dGt (eLenT (aCons (eOp2S dIxT (eV 0) (eC (.int 0))) (aNil))) (eC (.int 0))))
    (sSet 4 (eOp2S dIxT (eOp2S dIxT (eV 0) (eC (.int 0))) (eOp2 dMod (eV 3) (eLenT (aCons (eOp2S dIxT (eV 0) (eC (.int 0))) (aNil))))))
    (sSkip))
    (sSeq (sIf (tAndD (tBl (eOp2 dLt (eV 3) (eLenT (aCons (eOp2S dIxT (eV 0) (eC (.int 0))) (aNil))))) (tBl (eOp2 dGe (eB dAbs (aCons (eV 4) (aNil))) (eOp2 dPow (eC (.int 10)) (eC (.int 18))))))
    (sSeq (sPutT (eV 0) (eC (.int 2)) (eOp2 dFdiv (eB dAbs (aCons (eV 4) (aNil))) (eV 1)))
    (sRet (eOp2 dMod (eB dAbs (aCons (eV 4) (aNil))) (eV 1))))
    (sSkip))
    (sSeq (sSet 5 (eOp2 dMod (eOp2 dPow (eOp2 dAdd (eOp2 dAdd (eOp2 dMod (eV 4) (eC (.int 2147483549))) (eOp2 dMul (eC (.int 40093)) (eV 3))) (eC (.int 3))) (eC (.int 3))) (eC (.int 2147483629))))
    (sSeq (sSet 6 (eOp2 dMod (eOp2 dPow (eOp2 dAdd (eOp2 dAdd (eV 5) (eOp2 dMul (eOp2 dMul (eC (.int 911)) (eV 3)) (eV 3))) (eC (.int 7))) (eC (.int 5))) (eC (.int 2147483587))))
    (sRet (eOp2 dMod (eOp2 dFdiv (eOp2 dMod (eOp2 dMul (eV 6) (eOp2 dAdd (eOp2 dMod (eV 5) (eC (.int 65537))) (eC (.int 1)))) (eC (.int 2147483563))) (eC (.int 64))) (eV 1)))))))))))
theorem ok__law_draw (Z : Facts K mg) : DFn P w K mg base 1 "_law_draw" 2 D__law_draw false := by
  obtain ⟨f, fd, F, gx⟩ := Z.f__law_draw
  refine DFn.mk' F sc__law_draw gx (F.binds (ps := ["_law_pen_here", "_law_many"]) fun _ _ _ _ _ _ us hl => match us, hl with | [_, _], _ => rfl) rfl (fun X E hK hM hX hr hg => ?_) (fun z => Bool.noConfusion z)
  obtain ⟨cdv, A, outer, s, H, rfl⟩ := hX
  exact s_cons (s_if (t_cmp op_gt v_gt (e_ixT (e_var 0) (e_int)) (e_int) rfl)
    (s_cons (s_set (i := 2) (e_op2 op_modN v_mod (e_ixT (e_var 0) (e_int)) (e_var 1)) sc__law_draw.nd)
    (s_cons (s_putT (e_op2 op_fdivX v_fdiv (e_ixT (e_var 0) (e_int)) (e_var 1)) (e_var 0) (e_int))
    (s_one (s_ret (e_var 2)))))
    (s_nil))
    (s_cons (s_set (i := 3) (e_ixT (e_var 0) (e_int)) sc__law_draw.nd)
    (s_cons (s_putT (e_op2 op_addA v_add (e_var 3) (e_int)) (e_var 0) (e_int))
    (s_cons (s_set (i := 4) (e_op2 op_addA v_add (e_op2 op_addA v_add (e_op2 op_mulA v_mul (e_op2 op_mulA v_mul (e_int) (e_var 3)) (e_var 3)) (e_op2 op_mulA v_mul (e_int) (e_var 3))) (e_int)) sc__law_draw.nd)
    (s_cons (s_if (t_cmp op_gt v_gt (e_lenT Z.b_len (a_cons (e_ixT (e_var 0) (e_int)) (a_nil))) (e_int) rfl)
    (s_one (s_set (i := 4) (e_ixT (e_ixT (e_var 0) (e_int)) (e_op2 op_modN v_mod (e_var 3) (e_lenT Z.b_len (a_cons (e_ixT (e_var 0) (e_int)) (a_nil))))) sc__law_draw.nd))
    (s_nil))
    (s_cons (s_if (PW.pt (w_and (t_cmp op_lt v_lt (e_var 3) (e_lenT Z.b_len (a_cons (e_ixT (e_var 0) (e_int)) (a_nil))) rfl) (w_and1 (t_cmp op_ge v_ge (e_callB c_abs v_abs Z.b_abs (a_cons (e_var 4) (a_nil))) (e_op2 op_powX v_pow (e_int) (e_int)) rfl))))
    (s_cons (s_putT (e_op2 op_fdivX v_fdiv (e_callB c_abs v_abs Z.b_abs (a_cons (e_var 4) (a_nil))) (e_var 1)) (e_var 0) (e_int))
    (s_one (s_ret (e_op2 op_modN v_mod (e_callB c_abs v_abs Z.b_abs (a_cons (e_var 4) (a_nil))) (e_var 1)))))
    (s_nil))
    (s_cons (s_set (i := 5) (e_op2 op_modN v_mod (e_op2 op_powX v_pow (e_op2 op_addA v_add (e_op2 op_addA v_add (e_op2 op_modN v_mod (e_var 4) (e_int)) (e_op2 op_mulA v_mul (e_int) (e_var 3))) (e_int)) (e_int)) (e_int)) sc__law_draw.nd)
    (s_cons (s_set (i := 6) (e_op2 op_modN v_mod (e_op2 op_powX v_pow (e_op2 op_addA v_add (e_op2 op_addA v_add (e_var 5) (e_op2 op_mulA v_mul (e_op2 op_mulA v_mul (e_int) (e_var 3)) (e_var 3))) (e_int)) (e_int)) (e_int)) sc__law_draw.nd)
    (s_one (s_ret (e_op2 op_modN v_mod (e_op2 op_fdivX v_fdiv (e_op2 op_modN v_mod (e_op2 op_mulA v_mul (e_var 6) (e_op2 op_addA v_add (e_op2 op_modN v_mod (e_var 5) (e_int)) (e_int))) (e_int)) (e_int)) (e_var 1)))))))))))
abbrev s__law_wrapped : Stmt := topS 18
theorem sc__law_wrapped : FnScope ["_law_pen_here", "_law_tree_here", "_law_one", "_law_other", "_law_way", "_law_at", "_law_some"] ["_law_pen_here", "_law_tree_here", "_law_one", "_law_other"] (defScope s__law_wrapped) := ⟨rfl, rfl, rfl, by decide +kernel, rfl, by decide +kernel, by decide +kernel⟩
def D__law_wrapped : DFun := defD 7 4 (sSeq (sSet 4 (eCall D__law_draw (aCons (eV 0) (aCons (eC (.int 7)) (aNil)))))
    (sSeq (sSet 5 (eOp2S dIxT (eLst (aCons (eCall D__law_draw (aCons (eV 0) (aCons (eC (.int 12)) (aNil)))) (aCons (eC (.int 11)) (aNil)))) (eB dInt (aCons (eOp2 dEq (eCall D__law_draw (aCons (eV 0) (aCons (eC (.int 6)) (aNil)))) (eC (.int 5))) (aNil)))))
    (sSeq (sSet 6 (eLst (aCons (eTup (aCons (eC (.str "come")) (aCons (eV 1) (aNil)))) (aCons (eTup (aCons (eC (.str "go")) (aCons (eV 1) (aNil)))) (aCons (eTup (aCons (eC (.str "rule")) (aCons (eV 5) (aCons (eV 1) (aCons (eV 2) (aCons (eV 3) (aNil))))))) (aCons (eTup (aCons (eC (.str "rule")) (aCons (eV 5) (aCons (eV 2) (aCons (eV 1) (aCons (eV 3) (aNil))))))) (aNil)))))))
    (sSeq (sSet 6 (eOp2 dAddL (eV 6) (eLst (aCons (eTup (aCons (eC (.str "rule")) (aCons (eV 5) (aCons (eV 2) (aCons (eV 3) (aCons (eV 1) (aNil))))))) (aCons (eTup (aCons (eC (.str "rule")) (aCons (eV 5) (aCons (eC .non) (aCons (eV 1) (aCons (eV 3) (aNil))))))) (aCons (eTup (aCons (eC (.str "rule")) (aCons (eV 5) (aCons (eC .non) (aCons (eV 2) (aCons (eV 1) (aNil))))))) (aNil)))))))
    (sRet (eOp2S dIxT (eV 6) (eV 4)))))))
theorem ok__law_wrapped (Z : Facts K mg) : DFn P w K mg base 2 "_law_wrapped" 4 D__law_wrapped false := by
  obtain ⟨f, fd, F, gx⟩ := Z.f__law_wrapped
  refine DFn.mk' F sc__law_wrapped gx (F.binds (ps := ["_law_pen_here", "_law_tree_here", "_law_one", "_law_other"]) fun _ _ _ _ _ _ us hl => match us, hl with | [_, _, _, _], _ => rfl) rfl (fun X E hK hM hX hr hg => ?_) (fun z => Bool.noConfusion z)
  obtain ⟨cdv, A, outer, s, H, rfl⟩ := hX
  exact s_cons (s_set (i := 4) (e_call (ok__law_draw Z) (hr.mono (by decide)) hg (takes_of rfl rfl rfl rfl) (a_cons (e_var 0) (a_cons (e_int) (a_nil)))) sc__law_wrapped.nd)
    (s_cons (s_set (i := 5) (e_ixT (e_ofF (f_lst (a_cons (e_call (ok__law_draw Z) (hr.mono (by decide)) hg (takes_of rfl rfl rfl rfl) (a_cons (e_var 0) (a_cons (e_int) (a_nil)))) (a_cons (e_int) (a_nil))))) (e_callTy c_int v_int Z.b_int (a_cons (e_cmp (op_eqA (hu64 hr)) v_eq (e_call (ok__law_draw Z) (hr.mono (by decide)) hg (takes_of rfl rfl rfl rfl) (a_cons (e_var 0) (a_cons (e_int) (a_nil)))) (e_int) rfl) (a_nil)))) sc__law_wrapped.nd)
    (s_cons (s_set (i := 6) (e_ofF (f_lst (a_cons (e_tup (a_cons (e_str) (a_cons (e_var 1) (a_nil)))) (a_cons (e_tup (a_cons (e_str) (a_cons (e_var 1) (a_nil)))) (a_cons (e_tup (a_cons (e_str) (a_cons (e_var 5) (a_cons (e_var 1) (a_cons (e_var 2) (a_cons (e_var 3) (a_nil))))))) (a_cons (e_tup (a_cons (e_str) (a_cons (e_var 5) (a_cons (e_var 2) (a_cons (e_var 1) (a_cons (e_var 3) (a_nil))))))) (a_nil))))))) sc__law_wrapped.nd)
    (s_cons (s_set (i := 6) (e_ofF (f_op2 op_cat vF_add (e_var 6) (e_ofF (f_lst (a_cons (e_tup (a_cons (e_str) (a_cons (e_var 5) (a_cons (e_var 2) (a_cons (e_var 3) (a_cons (e_var 1) (a_nil))))))) (a_cons (e_tup (a_cons (e_str) (a_cons (e_var 5) (a_cons (e_non) (a_cons (e_var 1) (a_cons (e_var 3) (a_nil))))))) (a_cons (e_tup (a_cons (e_str) (a_cons (e_var 5) (a_cons (e_non) (a_cons (e_var 2) (a_cons (e_var 1) (a_nil))))))) (a_nil)))))))) sc__law_wrapped.nd)
    (s_one (s_ret (e_ixT (e_var 6) (e_var 4)))))))
abbrev s__law_small : Stmt := topS 17
theorem sc__law_small : FnScope ["_law_pen_here", "_law_tree_here", "_law_turn"] ["_law_pen_here"] (defScope s__law_small) := ⟨rfl, rfl, rfl, by decide +kernel, rfl, by decide +kernel, by decide +kernel⟩
def D__law_small : DFun := defD 3 1 (sSeq (sSet 1 (eTup (aCons (eC (.str "none")) (aNil))))
    (sSeq (sFor [2] (iRange1 (aCons (eCall D__law_draw (aCons (eV 0) (aCons (eC (.int 3)) (aNil)))) (aNil))) (gN 2)
    (sSet 1 (eCall D__law_wrapped (aCons (eV 0) (aCons (eV 1) (aCons (eTup (aCons (eC (.str "none")) (aNil))) (aCons (eTup (aCons (eC (.str "none")) (aNil))) (aNil))))))))
    (sRet (eV 1))))
theorem ok__law_small (Z : Facts K mg) : DFn P w K mg base 3 "_law_small" 1 D__law_small false := by
  obtain ⟨f, fd, F, gx⟩ := Z.f__law_small
  refine DFn.mk' F sc__law_small gx (F.binds (ps := ["_law_pen_here"]) fun _ _ _ _ _ _ us hl => match us, hl with | [_], _ => rfl) rfl (fun X E hK hM hX hr hg => ?_) (fun z => Bool.noConfusion z)
  obtain ⟨cdv, A, outer, s, H, rfl⟩ := hX
  exact s_cons (s_set (i := 1) (e_tup (a_cons (e_str) (a_nil))) sc__law_small.nd)
    (s_cons (s_for (vs := [2]) [2] (passes_of rfl) rfl (i_range1 Z.b_range (a_cons (e_call (ok__law_draw Z) (hr.mono (by decide)) hg (takes_of rfl rfl rfl rfl) (a_cons (e_var 0) (a_cons (e_int) (a_nil)))) (a_nil))) (g_name 2 sc__law_small.nd)
    (s_one (s_set (i := 1) (e_call (ok__law_wrapped Z) (hr.mono (by decide)) hg (takes_of rfl rfl rfl rfl) (a_cons (e_var 0) (a_cons (e_var 1) (a_cons (e_tup (a_cons (e_str) (a_nil))) (a_cons (e_tup (a_cons (e_str) (a_nil))) (a_nil)))))) sc__law_small.nd)))
    (s_one (s_ret (e_var 1))))
abbrev s__law_tree : Stmt := topS 19
theorem sc__law_tree : FnScope ["_law_pen_here", "_law_way", "_law_deep", "_law_tree_here", "_law_turn", "_law_one"] ["_law_pen_here"] (defScope s__law_tree) := ⟨rfl, rfl, rfl, by decide +kernel, rfl, by decide +kernel, by decide +kernel⟩
def D__law_tree : DFun := defD 6 1 (sSeq (sSet 1 (eCall D__law_draw (aCons (eV 0) (aCons (eC (.int 3)) (aNil)))))
    (sSeq (sSet 2 (eOp2S dIxT (eLst (aCons (eCall D__law_draw (aCons (eV 0) (aCons (eC (.int 8)) (aNil)))) (aCons (eCall D__law_draw (aCons (eV 0) (aCons (eC (.int 70)) (aNil)))) (aCons (eC (.int 69)) (aNil))))) (eV 1)))
    (sSeq (sSet 3 (eTup (aCons (eC (.str "none")) (aNil))))
    (sSeq (sFor [4, 5] (iRange1 (aCons (eV 2) (aNil))) (gN 4)
    (sSeq (sSet 5 (eTup (aCons (eC (.str "none")) (aNil))))
    (sSeq (sIf (tBl (eChain dLt dLt (eC (.int 2)) (eV 4) (eC (.int 60))))
    (sSet 5 (eCall D__law_small (aCons (eV 0) (aNil))))
    (sSkip))
    (sSet 3 (eCall D__law_wrapped (aCons (eV 0) (aCons (eV 3) (aCons (eV 5) (aCons (eIf (tBl (eOp2 dGt (eV 4) (eC (.int 0)))) (eTup (aCons (eC (.str "go")) (aCons (eTup (aCons (eC (.str "none")) (aNil))) (aNil)))) (eTup (aCons (eC (.str "none")) (aNil)))) (aNil))))))))))
    (sRet (eV 3))))))
theorem ok__law_tree (Z : Facts K mg) : DFn P w K mg base 4 "_law_tree" 1 D__law_tree false := by
  obtain ⟨f, fd, F, gx⟩ := Z.f__law_tree
  refine DFn.mk' F sc__law_tree gx (F.binds (ps := ["_law_pen_here"]) fun _ _ _ _ _ _ us hl => match us, hl with | [_], _ => rfl) rfl (fun X E hK hM hX hr hg => ?_) (fun z => Bool.noConfusion z)
  obtain ⟨cdv, A, outer, s, H, rfl⟩ := hX
  exact s_cons (s_set (i := 1) (e_call (ok__law_draw Z) (hr.mono (by decide)) hg (takes_of rfl rfl rfl rfl) (a_cons (e_var 0) (a_cons (e_int) (a_nil)))) sc__law_tree.nd)
    (s_cons (s_set (i := 2) (e_ixT (e_ofF (f_lst (a_cons (e_call (ok__law_draw Z) (hr.mono (by decide)) hg (takes_of rfl rfl rfl rfl) (a_cons (e_var 0) (a_cons (e_int) (a_nil)))) (a_cons (e_call (ok__law_draw Z) (hr.mono (by decide)) hg (takes_of rfl rfl rfl rfl) (a_cons (e_var 0) (a_cons (e_int) (a_nil)))) (a_cons (e_int) (a_nil)))))) (e_var 1)) sc__law_tree.nd)
    (s_cons (s_set (i := 3) (e_tup (a_cons (e_str) (a_nil))) sc__law_tree.nd)
    (s_cons (s_for (vs := [4]) [4, 5] (passes_of rfl) rfl (i_range1 Z.b_range (a_cons (e_var 2) (a_nil))) (g_name 4 sc__law_tree.nd)
    (s_cons (s_set (i := 5) (e_tup (a_cons (e_str) (a_nil))) sc__law_tree.nd)
    (s_cons (s_if (t_chain op_lt v_lt op_lt v_lt (e_int) (e_var 4) (e_int))
    (s_one (s_set (i := 5) (e_call (ok__law_small Z) (hr.mono (by decide)) hg (takes_of rfl rfl rfl rfl) (a_cons (e_var 0) (a_nil))) sc__law_tree.nd))
    (s_nil))
    (s_one (s_set (i := 3) (e_call (ok__law_wrapped Z) (hr.mono (by decide)) hg (takes_of rfl rfl rfl rfl) (a_cons (e_var 0) (a_cons (e_var 3) (a_cons (e_var 5) (a_cons (e_if (t_cmp op_gt v_gt (e_var 4) (e_int) rfl) (e_tup (a_cons (e_str) (a_cons (e_tup (a_cons (e_str) (a_nil))) (a_nil)))) (e_tup (a_cons (e_str) (a_nil)))) (a_nil)))))) sc__law_tree.nd)))))
    (s_one (s_ret (e_var 3))))))
abbrev s__law_tree_text : Stmt := topS 20
theorem sc__law_tree_text : FnScope ["_law_tree_here", "_law_left", "_law_words", "_law_one"] ["_law_tree_here"] (defScope s__law_tree_text) := ⟨rfl, rfl, rfl, by decide +kernel, rfl, by decide +kernel, by decide +kernel⟩
def D__law_tree_text : DFun := scopeD (defD 4 1 (sSeq (sSet 1 (ePub (eLst (aCons (eV 0) (aNil)))))
    (sSeq (sOwn 2 (eLst (aNil)))
    (sSeq (sWhile [3] (tBl (eOp2S dNeE (eV 1) (eLst (aNil))))
    (sSeq (sSet 3 (ePop0T (eV 1)))
    (sIf (tTru (eB dIsi (aCons (eV 3) (aCons (eC (.ty "str")) (aNil)))))
    (sApp 2 (eV 3))
    (sIf (tBl (eOp2 dIs (eV 3) (eC .non)))
    (sApp 2 (eC (.str "-")))
    (sIf (tBl (eOp2 dEq (eLenT (aCons (eV 3) (aNil))) (eC (.int 1))))
    (sApp 2 (eC (.str "n")))
    (sIf (tBl (eOp2 dEq (eLenT (aCons (eV 3) (aNil))) (eC (.int 2))))
    (sSeq (sApp 2 (eOp2S dIxC (eDisp ((eC (.str "come"), eC (.str "c")) :: (eC (.str "go"), eC (.str "g")) :: [])) (eOp2S dIxT (eV 3) (eC (.int 0)))))
    (sAppT (eV 1) (eOp2S dIxT (eV 3) (eC (.int 1)))))
    (sSeq (sApp 2 (eOp2 dAdd (eOp2 dAdd (eC (.str "(")) (eB dStr (aCons (eOp2S dIxT (eV 3) (eC (.int 1))) (aNil)))) (eC (.str " "))))
    (sExtT (eV 1) (eLst (aCons (eC (.str ")")) (aCons (eOp2S dIxT (eV 3) (eC (.int 4))) (aCons (eC (.str " ")) (aCons (eOp2S dIxT (eV 3) (eC (.int 3))) (aCons (eC (.str " ")) (aCons (eOp2S dIxT (eV 3) (eC (.int 2))) (aNil))))))))))))))))
    (sRet (bor flat 2 (eMs1 dJoin (eC (.str "")) (eV 2))))))))
theorem ok__law_tree_text (Z : Facts K mg) : DFn P w K mg base 1 "_law_tree_text" 1 D__law_tree_text false := by
  obtain ⟨f, fd, F, gx⟩ := Z.f__law_tree_text
  apply DFn.scope
  refine DFn.mk' F sc__law_tree_text gx (F.binds (ps := ["_law_tree_here"]) fun _ _ _ _ _ _ us hl => match us, hl with | [_], _ => rfl) rfl (fun X E hK hM hX hr hg => ?_) (fun z => Bool.noConfusion z)
  obtain ⟨cdv, A, outer, s, H, rfl⟩ := hX
  exact s_cons (s_set (i := 1) (e_pub (f_lst (a_cons (e_var 0) (a_nil)))) sc__law_tree_text.nd)
    (s_cons (s_own (i := 2) (f_lst (a_nil)) sc__law_tree_text.nd)
    (s_cons (s_while [3] (passes_of rfl) (t_cmpS (op_neE (hu64 hr)) v_neE (e_var 1) (e_ofF (f_lst (a_nil))) rfl)
    (s_cons (s_set (i := 3) (e_pop0T (e_var 1)) sc__law_tree_text.nd)
    (s_one (s_if (t_truth (e_callB call_isi v_isi Z.b_isinstance (a_cons (e_var 3) (a_cons (e_ty Z.b_str) (a_nil)))))
    (s_one (s_app 2 (e_var 3)))
    (s_one (s_if (t_cmp op_isA v_is (e_var 3) (e_non) rfl)
    (s_one (s_app 2 (e_str)))
    (s_one (s_if (t_cmp (op_eqA (hu64 hr)) v_eq (e_lenT Z.b_len (a_cons (e_var 3) (a_nil))) (e_int) rfl)
    (s_one (s_app 2 (e_str)))
    (s_one (s_if (t_cmp (op_eqA (hu64 hr)) v_eq (e_lenT Z.b_len (a_cons (e_var 3) (a_nil))) (e_int) rfl)
    (s_cons (s_app 2 (e_ixC (e_disp (ps_cons (e_str) (e_str) (ps_cons (e_str) (e_str) (ps_nil)))) (e_ixT (e_var 3) (e_int)) (hu64 hr)))
    (s_one (s_appT (e_var 1) (e_ixT (e_var 3) (e_int)))))
    (s_cons (s_app 2 (e_op2 op_addA v_add (e_op2 op_addA v_add (e_str) (e_callTy c_str v_str Z.b_str (a_cons (e_ixT (e_var 3) (e_int)) (a_nil)))) (e_str)))
    (s_one (s_extT (e_var 1) (e_ofF (f_lst (a_cons (e_str) (a_cons (e_ixT (e_var 3) (e_int)) (a_cons (e_str) (a_cons (e_ixT (e_var 3) (e_int)) (a_cons (e_str) (a_cons (e_ixT (e_var 3) (e_int)) (a_nil))))))))))))))))))))))
    (s_one (s_ret (e_bor 2 (e_join (e_str) (e_var 2)))))))
abbrev s__law_alike : Stmt := topS 21
theorem sc__law_alike : FnScope ["_law_found", "_law_due", "_law_left", "_law_one", "_law_other"] ["_law_found", "_law_due"] (defScope s__law_alike) := ⟨rfl, rfl, rfl, by decide +kernel, rfl, by decide +kernel, by decide +kernel⟩
def D__law_alike : DFun := scopeD (defD 5 2 (sSeq (sSet 2 (ePub (eLst (aCons (eTup (aCons (eV 0) (aCons (eV 1) (aNil)))) (aNil)))))
    (sSeq (sWhile [3, 4] (tBl (eOp2S dNeE (eV 2) (eLst (aNil))))
    (sSeq (sUnp (gT 2 (gsCons (gN 3) (gsCons (gN 4) (gsNil)))) (ePop0T (eV 2)))
    (sIf (tTru (eB dIsi (aCons (eV 4) (aCons (eC (.ty "tuple")) (aNil)))))
    (sSeq (sIf (tOrD (tNotD (tTru (eB dIsi (aCons (eV 3) (aCons (eC (.ty "tuple")) (aNil)))))) (tBl (eOp2 dNe (eLenT (aCons (eV 3) (aNil))) (eLenT (aCons (eV 4) (aNil))))))
    (sRet (eC (.bl false)))
    (sSkip))
    (sExtT (eV 2) (eB dLZT (aCons (eV 3) (aCons (eV 4) (aNil))))))
    (sIf (tBl (eOp2 dIs (eV 4) (eC .non)))
    (sIf (tBl (eOp2 dIsnt (eV 3) (eC .non)))
    (sRet (eC (.bl false)))
    (sSkip))
    (sIf (tOrD (tBl (eOp2 dNe (eV 3) (eV 4))) (tOrD (tTru (eB dIsi (aCons (eV 3) (aCons (eC (.ty "bool")) (aNil))))) (tBl (eOp2 dNe (eB dIsi (aCons (eV 3) (aCons (eC (.ty "str")) (aNil)))) (eB dIsi (aCons (eV 4) (aCons (eC (.ty "str")) (aNil))))))))
    (sRet (eC (.bl false)))
    (sSkip))))))
    (sRet (eC (.bl true))))))
theorem ok__law_alike (Z : Facts K mg) : DFn P w K mg base 1 "_law_alike" 2 D__law_alike false := by
  obtain ⟨f, fd, F, gx⟩ := Z.f__law_alike
  apply DFn.scope
  refine DFn.mk' F sc__law_alike gx (F.binds (ps := ["_law_found", "_law_due"]) fun _ _ _ _ _ _ us hl => match us, hl with | [_, _], _ => rfl) rfl (fun X E hK hM hX hr hg => ?_) (fun z => Bool.noConfusion z)
  obtain ⟨cdv, A, outer, s, H, rfl⟩ := hX
  exact s_cons (s_set (i := 2) (e_pub (f_lst (a_cons (e_tup (a_cons (e_var 0) (a_cons (e_var 1) (a_nil)))) (a_nil)))) sc__law_alike.nd)
    (s_cons (s_while [3, 4] (passes_of rfl) (t_cmpS (op_neE (hu64 hr)) v_neE (e_var 2) (e_ofF (f_lst (a_nil))) rfl)
    (s_cons (s_unp [3, 4] (e_pop0T (e_var 2)) (g_tup (n := 2) rfl (gs_cons (g_name 3 sc__law_alike.nd) (gs_cons (g_name 4 sc__law_alike.nd) (gs_nil)))))
    (s_one (s_if (t_truth (e_callB call_isi v_isi Z.b_isinstance (a_cons (e_var 4) (a_cons (e_ty Z.b_tuple) (a_nil)))))
    (s_cons (s_if (PW.pt (w_or (t_not (t_truth (e_callB call_isi v_isi Z.b_isinstance (a_cons (e_var 3) (a_cons (e_ty Z.b_tuple) (a_nil)))))) (w_or1 (t_cmp (op_neA (hu64 hr)) v_ne (e_lenT Z.b_len (a_cons (e_var 3) (a_nil))) (e_lenT Z.b_len (a_cons (e_var 4) (a_nil))) rfl))))
    (s_one (s_ret (e_bl)))
    (s_nil))
    (s_one (s_extT (e_var 2) (e_lzT rfl Z.b_list Z.b_zip (a_cons (e_var 3) (a_cons (e_var 4) (a_nil)))))))
    (s_one (s_if (t_cmp op_isA v_is (e_var 4) (e_non) rfl)
    (s_one (s_if (t_cmp op_isntA v_isnt (e_var 3) (e_non) rfl)
    (s_one (s_ret (e_bl)))
    (s_nil)))
    (s_one (s_if (PW.pt (w_or (t_cmp (op_neA (hu64 hr)) v_ne (e_var 3) (e_var 4) rfl) (w_or (t_truth (e_callB call_isi v_isi Z.b_isinstance (a_cons (e_var 3) (a_cons (e_ty Z.b_bool) (a_nil))))) (w_or1 (t_cmp (op_neA (hu64 hr)) v_ne (e_callB call_isi v_isi Z.b_isinstance (a_cons (e_var 3) (a_cons (e_ty Z.b_str) (a_nil)))) (e_callB call_isi v_isi Z.b_isinstance (a_cons (e_var 4) (a_cons (e_ty Z.b_str) (a_nil)))) rfl)))))
    (s_one (s_ret (e_bl)))
    (s_nil)))))))))
    (s_one (s_ret (e_bl))))
abbrev s_law : Stmt := topS 22
theorem sc_law : FnScope ["_law_script", "_law_pen_here", "_law_trees", "_law_kept", "_law_tree_here", "_law_text", "_law_shown", "_law_turn"] ["_law_script"] (defScope s_law) := ⟨rfl, rfl, rfl, by decide +kernel, rfl, by decide +kernel, by decide +kernel⟩
def D_law : DFun := defD 8 1 (sSeq (sSet 1 (eCall D__law_pen (aCons (eV 0) (aNil))))
    (sSeq (sSet 2 (eComp [7] (iRange1 (aCons (eC (.int 3)) (aNil))) (gN 7) (tAll) (eCall D__law_tree (aCons (eV 1) (aNil)))))
    (sSeq (sSet 3 (eB (dRepr 1920) (aCons (eV 2) (aNil))))
    (sSeq (sFor [4, 5, 6] (iVal (eOp2 dAdd (eV 2) (eRevS (eV 2)))) (gN 4)
    (sSeq (sSet 5 (eCall D__law_tree_text (aCons (eV 4) (aNil))))
    (sSeq (sSet 6 (eCall (D_show_steps 90) (aCons (eV 4) (aNil))))
    (sIf (tOrD (tNotD (tTru (eB dIsi (aCons (eV 6) (aCons (eC (.ty "str")) (aNil)))))) (tOrD (tBl (eOp2 dNe (eV 6) (eV 5))) (tNotD (tTru (eCall D__law_alike (aCons (eCall D_read_steps (aCons (eV 5) (aNil))) (aCons (eV 4) (aNil))))))))
    (sRet (eC (.bl false)))
    (sSkip)))))
    (sRet (eAnd (eOp2 dEq (eB (dRepr 1920) (aCons (eV 2) (aNil))) (eV 3)) (eAnd (eOp2 dEq (eCall (D_show_steps 90) (aCons (eTup (aCons (eC (.str "none")) (aNil))) (aNil))) (eC (.str "n"))) (eOp2 dEq (eCall D_read_steps (aCons (eC (.str "n")) (aNil))) (eTup (aCons (eC (.str "none")) (aNil)))))))))))
theorem ok_law (Z : Facts K mg) {f : Addr} {fd : FuncData} (F : Fun K "law" "law" s_law f fd) : FnG P w K mg base 219 f fd ["_law_script"] (spD K mg D_law false 1) := by
  refine fnG_mk F sc_law rfl (fun X E hK hM hX hr hg => ?_) (fun z => Bool.noConfusion z)
  obtain ⟨cdv, A, outer, s, H, rfl⟩ := hX
  exact s_cons (s_set (i := 1) (e_call (ok__law_pen Z) (hr.mono (by decide)) hg (takes_of rfl rfl rfl rfl) (a_cons (e_var 0) (a_nil))) sc_law.nd)
    (s_cons (s_setC (i := 2) [("_law_turn", 7)] rfl sc_law.nd (i_range1 Z.b_range (a_cons (e_int) (a_nil))) (blkOk_by (by change blkC ["_law_script", "_law_pen_here", "_law_trees", "_law_kept", "_law_tree_here", "_law_text", "_law_shown", "_law_turn"] (defScope s_law) _ _ = true; decide +kernel)) (fun _ _ _ _ _ => g_name 7 sc_law.nd) (fun _ _ _ _ _ => ts_nil) (fun _ _ _ _ _ => e_call (ok__law_tree Z) (hr.mono (by decide)) hg takes0 (a_cons (e_var 1) (a_nil))))
    (s_cons (s_set (i := 3) (e_callB (c_reprL (.inl (Nat.le_refl _)) hg (hu94 hr)) v_repr Z.b_repr (a_cons (e_var 2) (a_nil))) sc_law.nd)
    (s_cons (s_for (vs := [4]) [4, 5, 6] (passes_of rfl) rfl (i_val (e_op2 op_addA v_add (e_var 2) (e_revS (e_var 2)))) (g_name 4 sc_law.nd)
    (s_cons (s_set (i := 5) (e_call (ok__law_tree_text Z) (hr.mono (by decide)) hg (takes_of rfl rfl rfl rfl) (a_cons (e_var 4) (a_nil))) sc_law.nd)
    (s_cons (s_set (i := 6) (e_call (ok_show_steps Z 90) (hr.mono (by decide)) hg (takes_of rfl rfl rfl rfl) (a_cons (e_var 4) (a_nil))) sc_law.nd)
    (s_one (s_if (PW.pt (w_or (t_not (t_truth (e_callB call_isi v_isi Z.b_isinstance (a_cons (e_var 6) (a_cons (e_ty Z.b_str) (a_nil)))))) (w_or (t_cmp (op_neA (hu64 hr)) v_ne (e_var 6) (e_var 5) rfl) (w_or1 (t_not (t_truth (e_call (ok__law_alike Z) (hr.mono (by decide)) hg (takes_of rfl rfl rfl rfl) (a_cons (e_call (ok_read_steps Z) (hr.mono (by decide)) hg (takes_of rfl rfl rfl rfl) (a_cons (e_var 5) (a_nil))) (a_cons (e_var 4) (a_nil))))))))))
    (s_one (s_ret (e_bl)))
    (s_nil))))))
    (s_one (s_ret (e_and (e_cmp (op_eqA (hu64 hr)) v_eq (e_callB (c_reprL (.inl (Nat.le_refl _)) hg (hu94 hr)) v_repr Z.b_repr (a_cons (e_var 2) (a_nil))) (e_var 3) rfl) (e_and (e_cmp (op_eqA (hu64 hr)) v_eq (e_call (ok_show_steps Z 90) (hr.mono (by decide)) hg (takes_of rfl rfl rfl rfl) (a_cons (e_tup (a_cons (e_str) (a_nil))) (a_nil))) (e_str) rfl) (e_one (e_cmp (op_eqA (hu64 hr)) v_eq (e_call (ok_read_steps Z) (hr.mono (by decide)) hg (takes_of rfl rfl rfl rfl) (a_cons (e_str) (a_nil))) (e_tup (a_cons (e_str) (a_nil))) rfl)))))))))
end
theorem law_mk {l : PySem.W.OpenLaw} {w : World} {K : PySem.W.Frag} {h : Heap} {mg : Str → Option Value} {fa f : Addr} {oc kV dc pm cd ct : Value} {od an : Option Addr} {sl : Array (Option Value)} (X : K.In h) (G : h.Ns mainGlobals mg) (hfa : mg "law" = some (.ref fa)) (Z : Facts K mg)
    (a : PySem.W.nsIn K mainGlobals "law" = some (some (.ref f))) (l1 : K.lookup f = some ⟨oc, od, .func (PySem.W.fnOf "law" "law" (defArgs s_law) (defBody s_law) (defScope s_law) .none kV dc pm an cd ct), sl⟩) (c : PySem.W.codeIn K cd "law" = true) (k : PySem.W.keepIn K (.ref f) = true) :
    ∃ fd : FuncData, (∀ (s : Shared) (u : Value), BindsTo s fd ⟨[u], []⟩ [("_law_script", u)]) ∧ ∀ base : Heap, K.In base → base.Ns mainGlobals mg → FnG l.prog w K mg base 219 fa fd ["_law_script"] (spD K mg D_law false 1) := by
  have e := hfa.symm.trans (PySem.W.mg_of X G a)
  cases e
  exact ⟨_, fun s v => .of_eq rfl, fun base _ _ => ok_law Z (fun_mk l1 c k)⟩
local macro_rules | `(tactic| walk_at "d") => `(tactic| simp only [↓wp_repT, ↓q_plUse, ↓q_retPl, ↓q_unpPd, ↓q_retPd, ↓q_swapD, ↓wp_sortS, ↓x_mn3, ↓wp_tell, ↓wp_callP, ↓wp_aFn, ↓wp_aLam, ↓wp_aSl, ↓wp_aGl, ↓wp_fmtL, ↓wp_fld, ↓x_stL, ↓x_stLs, ↓wp_getK, ↓wp_callE, ↓wp_lstR3, ↓wps_fld, ↓wp_meth, ↓wp_make, ↓wp_pop0T, ↓q_tryS2, ↓q_gTL, ↓wp_lstV, ↓q_forV, ↓wp_lstKT, ↓wp_setdT, ↓wp_getO1, ↓q_updO, ↓q_dispC, ↓wp_sumV, ↓q_dictO, ↓q_cpyO, ↓q_exprY, ↓wpy_slN, x_dictEn, x_fdivP, ↓wp_row, ↓fnx_0, ↓fnx_1, ↓fnx_2, ↓fnx_3, ↓fnx_4, ↓fnx_5, ↓fnx_6, ↓fnx_7, ↓fnx_8, ↓fnx_9, ↓fnx_10, ↓fnx_11, rowI_len, fs_ownD, ↓q_newD, ↓q_dispO, ↓q_putO, ↓wp_getO, ↓wp_ixD, ↓wp_keysF, ↓q_fd, ↓wp_valsF, ↓wp_itmsF, ↓wp_dispF, ↓wp_inO, ↓x_fdT, ↓x_lstF, ↓d_0, ↓lk_0, ↓ld_0, ↓d_1, ↓lk_1, ↓ld_1, ↓d_2, ↓lk_2, ↓ld_2, ↓d_3, ↓lk_3, ↓ld_3, ↓d_4, ↓lk_4, ↓ld_4, ↓d_5, ↓lk_5, ↓ld_5, ↓d_6, ↓lk_6, ↓ld_6, ↓d_7, ↓lk_7, ↓ld_7, ↓d_8, ↓lk_8, ↓ld_8, ↓d_9, ↓lk_9, ↓ld_9, ↓d_10, ↓lk_10, ↓ld_10, ↓d_11, ↓lk_11, ↓ld_11, ↓d_12, ↓lk_12, ↓ld_12, ↓d_13, ↓lk_13, ↓ld_13, ↓d_14, ↓lk_14, ↓ld_14, ↓d_15, ↓lk_15, ↓ld_15, ↓d_16, ↓lk_16, ↓ld_16, ↓d_17, ↓lk_17, ↓ld_17, ↓d_18, ↓lk_18, ↓ld_18, ↓d_19, ↓lk_19, ↓ld_19, ↓d_20, ↓lk_20, ↓ld_20, ↓d_21, ↓lk_21, ↓ld_21, ↓d_22, ↓lk_22, ↓ld_22, ↓d_23, ↓lk_23, ↓ld_23, ↓d_24, ↓lk_24, ↓ld_24, ↓d_25, ↓lk_25, ↓ld_25, ↓q_swap, ↓q_tup2, ↓wp_idx, ↓wp_cnt, ↓wp_popT, ↓wp_fin, ↓wp_iZip3, ↓zp_3, ↓wp_lenC, ↓wp_iZip3X, ↓zp_3X, ↓x_rat0, ↓x_rat1, ↓q_move, ↓wps_appT, ↓wpy_pop, ↓wpy_popI, ↓wpy_op2, ↓q_appY, ↓wp_fmt, ↓wp_js, ↓wp_js0, ↓wp_js1, ↓x_dm, ↓wp_chain3, ↓wp_iZipM, ↓zp_m, ↓wp_iRange3, ↓q_r3, ↓wps_putC, ↓wp_get2, ↓wp_newK, ↓wp_newT, ↓wp_dispK, ↓wp_dispT, ↓wp_evp, ↓wp_evp0, ↓x_pcells, ↓x_pat, ↓x_pleft, ↓x_wat, ↓x_wleft, ↓q_popI, ↓wp_lstR1, ↓wp_lstR2, ↓wp_revR1, ↓wp_revR2, ↓q_sput, ↓wp_ixO, ↓wp_tupT, ↓x_tt_tok, ↓x_tt_tup, ↓x_tt_lst, ↓x_nileq, ↓x_nilne, ↓x_mulL, ↓x_addL, ↓wp_iEnum, ↓wp_iZip, ↓wp_iRev, ↓en_lst, ↓en_tup, ↓zp_lst, ↓zp_tup, ↓rv_lst, ↓rv_tup, ↓wps_raise, ↓q_app, ↓q_ext, ↓q_rev, ↓q_clr, ↓q_retOwn, ↓q_frz, ↓q_bor, flatB_true, ↓wp_revS, ↓x_revt, ↓x_revl, ↓q_ins, fs_own, fs_dat, fs_emp, ↓o_0, ↓f_0, ↓o_1, ↓f_1, ↓o_2, ↓f_2, ↓o_3, ↓f_3, ↓o_4, ↓f_4, ↓o_5, ↓f_5, ↓o_6, ↓f_6, ↓o_7, ↓f_7, ↓o_8, ↓f_8, ↓o_9, ↓f_9, ↓o_10, ↓f_10, ↓o_11, ↓f_11, ↓o_12, ↓f_12, ↓o_13, ↓f_13, ↓o_14, ↓f_14, ↓o_15, ↓f_15, ↓o_16, ↓f_16, ↓o_17, ↓f_17, ↓o_18, ↓f_18, ↓o_19, ↓f_19, ↓o_20, ↓f_20, ↓o_21, ↓f_21, ↓o_22, ↓f_22, ↓o_23, ↓f_23, ↓o_24, ↓f_24, ↓o_25, ↓f_25, ↓x_at_ite, ↓x_bls1, ↓x_bls2, ↓x_bls3, ↓x_bls4, decide_true, decide_false, Bool.and_self, Bool.true_and, Bool.and_true, List.all_cons, List.all_nil, id_def, ↓x_nebls, ↓x_nonnon, ↓x_tupnon, ↓x_excnon, ↓x_intnon, ↓x_nnonnon, ↓x_ntupnon, ↓x_eqt2, ↓x_net2, nc_0, nc_1, nc_2, nc_3, nc_4, nc_5, nc_6, nc_7, nc_8, nc_9, nc_10, nc_11, nc_12, nc_13, nc_14, nc_15, nc_16, nc_17, nc_18, nc_19, nc_20, nc_21, nc_22, nc_23, nc_24, nc_25, nc_26, nc_27, nc_28, nc_29, nc_30, nc_31, nc_32, ii_int, ii_bl, ii_non, ii_str, ii_tup, ii_ktp, ii_lst, ii_frz, ii_dct, Bool.not_false, reduceCtorEq, Bool.true_eq_false, ↓q_tryE, ↓q_tryA, ↓x_isX1, ↓x_isXv, ↓x_isXt, ↓wp_ok, ↓wp_bad, ↓wp_bind, ↓wp_ofO, ↓wp_eC, ↓wp_pub, ↓wp_ms1, ↓wp_ms0, ↓q_str, ↓wp_ev0, ↓wp_ev1, ↓wp_disp, ↓x_dki, ↓x_dks, ↓wp_tAll, ↓wp_op2, ↓wp_op2S, ↓wp_op1, ↓wp_aNil, ↓wp_aCons, ↓wp_eB, ↓wp_eTup, ↓wp_eLst, ↓wp_tBl, ↓wp_tTru, ↓wp_and, ↓wp_or, ↓wp_not, ↓wp_eIf, ↓wp_eNot, ↓wp_eAnd, ↓wp_eOr, ↓wp_eChain, ↓wp_lenT, ↓wp_oNone, ↓wp_oSome, ↓wp_eSl, ↓wp_iVal, ↓wp_iRange1, ↓wp_iRange2, ↓wps_seq, ↓wps_ret, ↓wps_expr, ↓wps_if, ↓wps_skip, ↓wps_brk, ↓wps_cont, ↓wps_unp, ↓wps_putT, ↓ex_some, ↓ex_ite, ↓ex_none, ↓wpn_nil, ↓q_call, ↓q_comp, ↓q_for, ↓q_while, ↓q_set, ↓q_own, ↓q_par, ↓q_par2, ↓q_gN, ↓q_gT, ↓q_gTk, ↓q_gsNil, ↓q_gsCons, ↓q_tbl, ↓q_oint, ↓q_lst, ↓q_r1, ↓q_r2, ↓q_put, ↓v_0, ↓n_0, ↓v_1, ↓n_1, ↓v_2, ↓n_2, ↓v_3, ↓n_3, ↓v_4, ↓n_4, ↓v_5, ↓n_5, ↓v_6, ↓n_6, ↓v_7, ↓n_7, ↓v_8, ↓n_8, ↓v_9, ↓n_9, ↓v_10, ↓n_10, ↓v_11, ↓n_11, ↓v_12, ↓n_12, ↓v_13, ↓n_13, ↓v_14, ↓n_14, ↓v_15, ↓n_15, ↓v_16, ↓n_16, ↓v_17, ↓n_17, ↓v_18, ↓n_18, ↓v_19, ↓n_19, ↓v_20, ↓n_20, ↓v_21, ↓n_21, ↓v_22, ↓n_22, ↓v_23, ↓n_23, ↓v_24, ↓n_24, ↓v_25, ↓n_25, ↓v_26, ↓n_26, ↓v_27, ↓n_27, ↓v_28, ↓n_28, ↓v_29, ↓n_29, ↓v_30, ↓n_30, ↓v_31, ↓n_31, ↓v_32, ↓n_32, ↓v_33, ↓n_33, ↓x_is_non_int, ↓x_is_non_bool, ↓x_is_non_tuple, ↓x_is_non_str, ↓x_is_non_list, ↓x_is_non_dict, ↓x_is_bl_int, ↓x_is_bl_bool, ↓x_is_bl_tuple, ↓x_is_bl_str, ↓x_is_bl_list, ↓x_is_bl_dict, ↓x_is_int_int, ↓x_is_int_bool, ↓x_is_int_tuple, ↓x_is_int_str, ↓x_is_int_list, ↓x_is_int_dict, ↓x_is_str_int, ↓x_is_str_bool, ↓x_is_str_tuple, ↓x_is_str_str, ↓x_is_str_list, ↓x_is_str_dict, ↓x_is_tup_int, ↓x_is_tup_bool, ↓x_is_tup_tuple, ↓x_is_tup_str, ↓x_is_tup_list, ↓x_is_tup_dict, ↓x_is_lst_int, ↓x_is_lst_bool, ↓x_is_lst_tuple, ↓x_is_lst_str, ↓x_is_lst_list, ↓x_is_lst_dict, ↓x_is_frz_int, ↓x_is_frz_bool, ↓x_is_frz_tuple, ↓x_is_frz_str, ↓x_is_frz_list, ↓x_is_frz_dict, ↓x_is_dct_int, ↓x_is_dct_bool, ↓x_is_dct_tuple, ↓x_is_dct_str, ↓x_is_dct_list, ↓x_is_dct_dict, ↓x_is_ktp_int, ↓x_is_ktp_bool, ↓x_is_ktp_tuple, ↓x_is_ktp_str, ↓x_is_ktp_list, ↓x_is_ktp_dict, ↓x_eq_int, ↓x_ne_int, ↓x_eq_bl, ↓x_ne_bl, ↓x_eq_str, ↓x_ne_str, ↓x_tr_bl, ↓x_tr_int, ↓x_ad_int, ↓x_sb_int, ↓x_ng_int, ↓x_lt_int, ↓x_le_int, ↓x_gt_int, ↓x_ge_int, ↓x_md_int, ↓x_fd_int, ↓x_pw_int, ↓x_ml_int, ↓x_ml_tup, ↓x_ad_tup, ↓x_ad_lst, ↓x_ad_str, ↓x_ab_int, ↓x_ln_tup, ↓x_ln_lst, ↓x_ln_frz, ↓x_ln_ktp, ↓x_ln_dct, ↓x_dI_tup, ↓x_dI_lst, ↓x_dI_frz, ↓x_dI_ktp, ↓x_dI_str, ↓x_to_lst, ↓x_to_tup, ↓x_to_frz, ↓x_lo_lst, ↓x_lo_tup, ↓x_lo_frz, ↓x_sl_tup, ↓x_sl_lst, ↓x_sl_frz, ↓x_al_add, ↓x_st_int, ↓x_st_str, ↓x_nt_int, ↓x_nt_bl, ↓x_mx_int, ↓x_mn_int, ↓x_is_bl, ↓x_isnt_bl, ↓x_cle, ↓x_clt, ↓x_lntok, ↓x_ixtok, ↓x_ixtup, ↓x_ixlst, ↓x_ixfrz, ↓x_ixktp, ↓x_all, ↓x_any, ↓x_sum, ↓x_neT, ↓x_at0, ↓x_at1, ↓x_at2, ↓x_at3, ↓x_at4, ↓x_tk0, ↓x_tk1, ↓x_ix30, ↓x_ix31, ↓x_ix32, List.map_cons, List.map_nil, List.length_cons, List.length_nil, List.cons_append, List.nil_append, List.replicate, Nat.reduceSub, Nat.reduceAdd, Nat.zero_add, Nat.reduceLeDiff, true_and, and_true, Bool.not_true, Bool.not_false, if_true, if_false, Bool.false_eq_true, eq_self, not_true_eq_false, not_false_eq_true, st_1, List.set_cons_zero, List.set_cons_succ, flat, decide_eq_true_eq, Bool.not_eq_true', decide_eq_false_iff_not])
local macro_rules | `(tactic| walk_at "b") => `(tactic| (rw [wp_defD]; refine ⟨rfl, ?_⟩; simp only [List.map_cons, List.map_nil, Nat.reduceSub, List.replicate, List.cons_append, List.nil_append]))
local macro_rules | `(tactic| walk_at "bd") => `(tactic| repeat (first | assumption | apply bd_sub | apply bd_add | apply bd_mul | apply bd_pow | (apply bd_fmod; (first | assumption | decide)) | exact bd_of (n := 64) (by decide)))
local macro_rules | `(tactic| walk_at "sz") => `(tactic| repeat (first | refine And.intro (c_mul (by walk_at "bd") (by walk_at "bd") (by decide)) ?_ | refine And.intro (c_pow3 (by walk_at "bd") (by decide)) ?_ | refine And.intro (c_pow5 (by walk_at "bd") (by decide)) ?_ | refine And.intro (c_pow2 (by walk_at "bd") (by decide)) ?_ | refine And.intro (cfd_of (by omega) (by omega)) ?_ | refine And.intro (by omega) ?_))
local macro_rules | `(tactic| walk_at "w") => `(tactic| simp only [wipeD, List.set_cons_zero, List.set_cons_succ] at *)
local macro_rules | `(tactic| walk_at "th") => `(tactic| (apply Thing.mono; (repeat (first | assumption | exact th_bl | exact th_non | exact th_dct0 | exact th_lit (by decide) (by decide) | exact th_int (by assumption) (by decide) | exact th_str (by decide) (Nat.le_refl _) | exact ths_nil | apply th_tups | apply th_lsts | apply ths_cons | apply th_mrg | apply th_dct1)); all_goals decide))
local macro_rules | `(tactic| walk_at "ths") => `(tactic| ((try simp only [List.forall_mem_cons, List.not_mem_nil, false_implies, implies_true, and_true]); repeat (first | walk_at "th" | refine And.intro (by walk_at "th") ?_)))
local macro_rules | `(tactic| walk_at "u") => `(tactic| simp only [updL, wipeD, List.set_cons_zero, List.set_cons_succ] at *)
theorem pen_ok {ns : List Int} (h : ns.length ≤ 63) : wp (D__law_pen [.frz (ns.map .int)] []) (fun a s' => a = .tok 1 ∧ Pen 0 [] s') fun _ _ => False := by
  unfold D__law_pen
  walk_at "b"
  (try walk_at "d")
  rw [cutL_map]
  refine ⟨flats_ints _, by simp [flats, flat], cutL ns none (some 63), 0, 0, rfl, by decide, by decide, by decide⟩
theorem pen_mono {k k' : Int} {r s : S} (h : Pen k r s) (hk : k ≤ k') : Pen k' r s := by
  obtain ⟨ns, p, l, e, h1, h2, h3⟩ := h
  exact ⟨ns, p, l, e, h1, by omega, h3⟩
open TL
def digB (c : Nat) : Bool := decide (48 ≤ c ∧ c ≤ 57)
def numP (most : Nat) (l : List Nat) : Option Nat :=
  if 1 ≤ l.length ∧ l.length ≤ most ∧ l.all digB = true ∧ ¬ (l.head? = some 48 ∧ 1 < l.length) then some (NumText.digitsVal l) else none
def optI (o : Option Nat) : D := match o with
  | some n => .int (n : Int)
  | none => .non
theorem figs_tl : tl (Str.ofString "0123456789") = [48, 49, 50, 51, 52, 53, 54, 55, 56, 57] := by rw [tl_ofString]; rfl
theorem fig_in (c : Nat) : dIn (.str ⟨#[c]⟩) (.str "0123456789") = some (.bl (digB c)) := by
  show some (D.bl (!(Builtin.Str.occurrences (Str.ofString "0123456789") ⟨#[c]⟩ 0 (Str.ofString "0123456789").length 1).isEmpty)) = _
  rw [PySem.StrLaws.found_one]
  congr 2
  unfold digB
  refine decide_eq_decide.mpr ?_
  rw [show (Str.ofString "0123456789").cps.toList = [48, 49, 50, 51, 52, 53, 54, 55, 56, 57] from figs_tl]
  simp only [List.mem_cons, List.not_mem_nil, or_false]
  omega
theorem blsM {α : Type} (f : α → Bool) : ∀ l : List α, blsOf (l.map fun c => D.bl (f c)) = some (l.map f)
  | [] => rfl
  | c :: l => by
    show (blsOf (l.map fun c => D.bl (f c))).map _ = _
    rw [blsM f l]
    rfl
theorem sign_is (c n : Nat) (z : Str) (h : tl z = [n]) : ((⟨#[c]⟩ : Str) = z) ↔ c = n := by
  constructor
  · intro e
    have : tl ⟨#[c]⟩ = tl z := by rw [e]
    rw [h] at this
    exact List.head_eq_of_cons_eq this
  · intro e
    subst e
    exact ext_tl h.symm
theorem str_at0 {x : Str} {c : Nat} {r : List Nat} {s : S} (hl : x.length ≤ 16777216) (e : tl x = c :: r) : dIxT s (.str x) (.int 0) = some (.str ⟨#[c]⟩) := by
  show (if x.length ≤ 16777216 then (atI x.cps.toList 0).map fun c => D.str ⟨#[c]⟩ else none) = _
  rw [if_pos hl, show x.cps.toList = c :: r from e]
  have a0 : atI (c :: r) 0 = some c := by
    unfold atI ixN
    simp
  rw [a0]
  rfl
theorem zero_tl : tl (Str.ofString "0") = [48] := by rw [tl_ofString]; rfl
theorem digs_all {l : List Nat} (h : l.all digB = true) : NumText.AllDigits l := fun c hc => of_decide_eq_true (List.all_eq_true.mp h c hc)
theorem number_in_ok {x : Str} {most : Nat} {s : S} (hm : most ≤ 60) (hl : x.length ≤ 16777216) : wp (D_number_in [.str x, .int (most : Int)] s) (fun a s' => a = optI (numP most (tl x)) ∧ s' = s) fun _ _ => False := by
  have el := len_tl x
  unfold D_number_in
  walk_at "b"
  (try walk_at "d")
  have le : lenT s [.str x] = some (.int ((tl x).length : Int)) := by
    show (if x.length ≤ 16777216 then some (D.int x.length) else none) = _
    rw [if_pos hl, el]
  refine ⟨_, le, decide (1 ≤ ((tl x).length : Int)), rfl, ?_⟩
  by_cases h1 : 1 ≤ (tl x).length
  · rw [if_pos (decide_eq_true (by omega))]
    refine ⟨_, rfl, decide (((tl x).length : Int) ≤ (most : Int)), rfl, ?_⟩
    by_cases h2 : (tl x).length ≤ most
    · rw [if_neg (by rw [decide_eq_true (by omega)]; decide)]
      have sd : strD x = (tl x).map fun c => D.str ⟨#[c]⟩ := rfl
      rw [sd]
      refine wpk_of (by rw [List.length_map]; omega) (comp_map (fun d => match d with
        | .str a => .bl (digB (a.cps.toList.headD 0))
        | d => d) fun d hd => ?_) ?_
      · obtain ⟨c, hc, rfl⟩ := List.mem_map.mp hd
        refine ⟨_, rfl, by walk_at "d", ?_⟩
        walk_at "u"
        (try walk_at "d")
        exact ⟨_, fig_in c, rfl⟩
      rintro _ _ ⟨rfl, rfl⟩
      (try walk_at "d")
      rw [List.map_map]
      refine ⟨(tl x).map digB, blsM digB (tl x), ?_⟩
      rw [show ((tl x).map digB).all id = (tl x).all digB by rw [List.all_map]; rfl]
      cases h3 : (tl x).all digB with
      | false =>
        rw [if_pos rfl]
        unfold numP
        rw [if_neg (by rw [h3]; simp)]
        rfl
      | true =>
        rw [if_neg (by decide)]
        obtain ⟨c, r, e⟩ : ∃ c r, tl x = c :: r := by
          cases h : tl x with
          | nil => rw [h] at h1; simp at h1
          | cons c r => exact ⟨c, r, rfl⟩
        refine ⟨_, str_at0 hl e, _, rfl, decide (c = 48), by rw [show decide ((⟨#[c]⟩ : Str) = Str.ofString "0") = decide (c = 48) from decide_eq_decide.mpr (sign_is c 48 _ zero_tl)], ?_⟩
        have di : dInt [.str x] = some (.int ((NumText.digitsVal (tl x) : Nat) : Int)) := by
          show (if x.length ≤ 640 then (PySem.intText? x).map D.int else none) = _
          rw [if_pos (by omega), intText_digits (digs_all h3) (by rw [show x.cps.toList = c :: r from e]; simp) (by omega)]
          rfl
        have fin : ¬ (c = 48 ∧ 1 < (tl x).length) → ∃ z, dInt [D.str x] = some z ∧ z = optI (numP most (tl x)) := fun q => by
          refine ⟨_, di, ?_⟩
          unfold numP
          rw [if_pos ⟨h1, h2, h3, by rw [e]; rw [e] at q; simpa using q⟩]
          rfl
        by_cases h4 : c = 48
        · rw [if_pos (decide_eq_true h4)]
          have le2 : ∀ s', lenT s' [.str x] = some (.int ((tl x).length : Int)) := fun s' => by
            show (if x.length ≤ 16777216 then some (D.int x.length) else none) = _
            rw [if_pos hl, el]
          refine ⟨_, le2 _, _, rfl, decide (1 < ((tl x).length : Int)), rfl, ?_⟩
          by_cases h5 : 1 < (tl x).length
          · rw [if_pos (decide_eq_true (by omega))]
            unfold numP
            rw [if_neg fun q => q.2.2.2 ⟨by rw [e, h4]; rfl, h5⟩]
            rfl
          · rw [if_neg (by rw [decide_eq_false (by omega)]; decide)]
            exact fin fun z => h5 z.2
        · rw [if_neg (by rw [decide_eq_false h4]; decide)]
          exact fin fun z => h4 z.1
    · rw [if_pos (by rw [decide_eq_false (by omega)])]
      unfold numP
      rw [if_neg (by omega)]
      rfl
  · rw [if_neg (by rw [decide_eq_false (by omega)]; decide)]
    unfold numP
    rw [if_neg (by omega)]
    rfl
theorem draw_ok {m k : Int} {r s : S} (hm : 0 < m) (hm2 : m < 2 ^ 64) (hk : k < 2 ^ 200) (h : Pen k r s) : wp (D__law_draw [.tok 1, .int m] s) (Drawn m k r) fun _ _ => False := by
  obtain ⟨ns, p, left, rfl, p0, pk, l0⟩ := h
  have bp : Bd p 200 := bd_rng p0 pk hk
  have m0 : m ≠ 0 := by omega
  have fm : ∀ x, CFd x m := fun x => cfd_64 hm hm2
  have fin : ∀ (x q : Int), 0 ≤ q → Drawn m k r (.int (x.fmod m)) (.l (ns.map .int) :: .l [.tok 0, .int (p + 1), .int q] :: r) := fun x q hq =>
    ⟨_, rfl, (fmod_rng hm).1, (fmod_rng hm).2, ns, p + 1, q, rfl, by omega, by omega, hq⟩
  unfold D__law_draw
  walk_at "b"
  (try walk_at "d")
  by_cases hl : 0 < left
  · rw [if_pos hl]
    exact ⟨m0, fm _, _, rfl, (fmod_rng hm).1, (fmod_rng hm).2, ns, p, _, rfl, p0, by omega, fdiv_nn l0 hm⟩
  rw [if_neg hl]
  have hl0 : left = 0 := by omega
  subst hl0
  have p10 : CPw 10 18 := by decide
  have b1 : CMulX 60013 p := c_mul (n := 64) (bd_of (by decide)) bp (by decide)
  have b2 : CMulX (60013 * p) p := c_mul (bd_mul (n := 64) (bd_of (by decide)) bp) bp (by decide)
  have b3 : CMulX 97 p := c_mul (n := 64) (bd_of (by decide)) bp (by decide)
  refine ⟨b1, b2, b3, ?_⟩
  by_cases he : 0 < ((ns.map D.int).length : Int)
  · rw [if_pos he]
    obtain ⟨c, ec⟩ := at_map (fmod_rng (i := p) he).1 (fmod_rng (i := p) he).2
    refine ⟨by omega, _, ec, ?_⟩
    (try walk_at "d")
    refine ite2 (fun _ => ⟨p10, ite2 (fun _ => ⟨fm _, m0, fin _ _ (fdiv_nn (by split <;> omega) hm)⟩) (fun _ => ?_)⟩) (fun _ => ?_)
    · walk_at "sz"
      exact fin _ _ l0
    · walk_at "sz"
      exact fin _ _ l0
  · rw [if_neg he]
    refine ite2 (fun _ => ⟨p10, ite2 (fun _ => ⟨fm _, m0, fin _ _ (fdiv_nn (by split <;> omega) hm)⟩) (fun _ => ?_)⟩) (fun _ => ?_)
    · walk_at "sz"
      exact fin _ _ l0
    · walk_at "sz"
      exact fin _ _ l0
theorem numL_head {n c : Nat} {r : List Nat} (h : numL n = c :: r) (hr : r ≠ []) : c ≠ 48 := by
  induction n using Nat.strongRecOn generalizing c r with
  | ind n ih =>
    rcases Nat.lt_or_ge n 10 with q | q
    · rw [numL_lt q] at h
      injection h with h1 h2
      exact absurd h2.symm hr
    · rw [numL_step q] at h
      cases hm : numL (n / 10) with
      | nil => exact absurd hm (numL_ne _)
      | cons d t =>
        rw [hm] at h
        have h1 : d = c := (List.cons.inj h).1
        cases t with
        | nil =>
          have q2 : n / 10 < 10 ∨ 10 ≤ n / 10 := Nat.lt_or_ge _ _
          rcases q2 with q2 | q2
          · rw [numL_lt q2] at hm
            have := (List.cons.inj hm).1
            omega
          · rw [numL_step q2] at hm
            have := congrArg List.length hm
            have ne := List.length_pos_iff.mpr (numL_ne (n / 10 / 10))
            rw [List.length_append] at this
            simp only [List.length_cons, List.length_nil] at this
            omega
        | cons e t =>
          rw [← h1]
          exact ih (n / 10) (by omega) hm (by simp)
theorem numP_num {most n : Nat} (h0 : 0 < most) (h : n < 10 ^ most) : numP most (numL n) = some n := by
  have ne := List.length_pos_iff.mpr (numL_ne n)
  have len := numL_len h0 h
  unfold numP
  rw [if_pos, numL_val]
  refine ⟨by omega, len, ?_, fun q => ?_⟩
  · rw [List.all_eq_true]
    intro c hc
    exact decide_eq_true (numL_digits n c hc)
  · cases hm : numL n with
    | nil => exact absurd hm (numL_ne n)
    | cons c r =>
      rw [hm] at q
      have c48 : c = 48 := by simpa using q.1
      have : r ≠ [] := fun z => by rw [z] at q; simp at q
      exact numL_head hm this c48
theorem tl_nat (n : Nat) : tl (Str.ofString (toString ((n : Nat) : Int))) = numL n := tl_num n
theorem log_big {k n L : Nat} (h : n < 10 ^ k) (hb : 10 ^ k ≤ 2 ^ L) (h0 : 0 < L) : n.log2 < L := by
  rcases Nat.eq_zero_or_pos n with e | e
  · subst e; exact h0
  · have a : 2 ^ n.log2 ≤ n := Nat.log2_self_le (by omega)
    exact (Nat.pow_lt_pow_iff_right (by decide)).mp (Nat.lt_of_le_of_lt a (Nat.lt_of_lt_of_le h hb))
theorem log_ok {n : Nat} (h : n < 10 ^ 60) : n.log2 < 1920 := log_big h (by decide +kernel) (by decide)
theorem stepX {x : Str} {y : Str} : x = y ↔ tl x = tl y := ⟨fun h => by rw [h], fun h => by
  obtain ⟨a⟩ := x
  obtain ⟨b⟩ := y
  have h : a.toList = b.toList := h
  rw [Array.toList_inj.mp h]⟩
def stL (L : List Nat) : Str := ⟨L.toArray⟩
theorem st_of {z : Str} {L : List Nat} (h : tl z = L) : z = stL L := by
  subst h
  rfl
theorem tl_stL (L : List Nat) : tl (stL L) = L := rfl
/-- a piece of a text -/
theorem tl_cut {x : Str} {i j : Nat} (hj : i + j ≤ x.length) : tl (cutS x (some (i : Int)) (some ((i : Int) + (j : Int)))) = ((tl x).drop i).take j := by
  unfold cutS
  rw [tl_mk, ← Int.natCast_add, HT.sIx_nat, HT.sIx_nat, Nat.min_eq_left (by omega), Nat.min_eq_left (by omega), show i + j - i = j by omega]
theorem find_blank {x : Str} {pre ds post : List Nat} (h : tl x = pre ++ (ds ++ 32 :: post)) (hf : 32 ∉ ds) : Txt.find3 x (Str.ofString " ") (pre.length : Int) = ((pre.length + ds.length : Nat) : Int) := by
  have lx := len_tl x
  have hy : (Str.ofString " ") = ⟨#[32]⟩ := by rw [stepX, tl_ofString]; rfl
  have fi : fromIndex x.length (pre.length : Int) = pre.length := by
    unfold fromIndex
    rw [if_neg (by omega)]
    omega
  have at_iff : ∀ i, StrLaws.At x (Str.ofString " ") x.length i ↔ (tl x)[i]? = some 32 := fun i => by
    rw [hy]
    unfold StrLaws.At Builtin.Str.subAt
    have e1 : (⟨#[32]⟩ : Str).length = 1 := rfl
    have e2 : (x.cps.extract i (i + 1) == #[32]) = true ↔ ((tl x).drop i).take 1 = [32] := by
      rw [beq_iff_eq, ← Array.toList_inj, Array.toList_extract]
      show List.extract _ _ _ = _ ↔ _
      rw [List.extract_eq_take_drop, Nat.add_sub_cancel_left]
    rw [e1, e2, ← List.head?_drop]
    cases hd : (tl x).drop i with
    | nil => simp
    | cons c r =>
      have : i < (tl x).length := by
        rcases Nat.lt_or_ge i (tl x).length with q | q
        · exact q
        · rw [List.drop_of_length_le q] at hd; cases hd
      simp
      intro _
      omega
  have ht : (tl x)[pre.length + ds.length]? = some 32 := by
    rw [h, List.getElem?_append_right (by omega), List.getElem?_append_right (by omega)]
    simp
  unfold Txt.find3
  rw [fi]
  rcases StrLaws.occ_head_from x (Str.ofString " ") pre.length 1 (Nat.le_refl _) with ⟨e, no⟩ | ⟨i, r, e, lo, at', no⟩
  · exact absurd ((at_iff _).mpr ht) (no _ (by omega))
  · rw [e]
    have hi := (at_iff i).mp at'
    have : i = pre.length + ds.length := by
      rcases Nat.lt_trichotomy i (pre.length + ds.length) with q | q | q
      · exfalso
        rw [h, List.getElem?_append_right (by omega), List.getElem?_append_left (by omega)] at hi
        exact hf (List.mem_of_getElem? hi)
      · exact q
      · exact absurd ((at_iff _).mpr ht) (no _ (by omega) q)
    rw [this]
open TL
/-! ### trees of steps -/
inductive Tr where
  | none
  | come (t : Tr)
  | go (t : Tr)
  | rs (k : Nat) (a b c : Tr)
  | rn (k : Nat) (b c : Tr)
def trD : Tr → D
  | .none => .tup [.str "none"]
  | .come t => .tup [.str "come", trD t]
  | .go t => .tup [.str "go", trD t]
  | .rs k a b c => .tup [.str "rule", .int (k : Int), trD a, trD b, trD c]
  | .rn k b c => .tup [.str "rule", .int (k : Int), .non, trD b, trD c]
def trL : Tr → List Nat
  | .none => [110]
  | .come t => 99 :: trL t
  | .go t => 103 :: trL t
  | .rs k a b c => 40 :: (numL k ++ 32 :: (trL a ++ 32 :: (trL b ++ 32 :: (trL c ++ [41]))))
  | .rn k b c => 40 :: (numL k ++ 32 :: 45 :: 32 :: (trL b ++ 32 :: (trL c ++ [41])))
def dep : Tr → Nat
  | .none => 1
  | .come t => dep t + 1
  | .go t => dep t + 1
  | .rs _ a b c => max (dep a) (max (dep b) (dep c)) + 1
  | .rn _ b c => max (dep b) (dep c) + 1
def okT : Tr → Prop
  | .none => True
  | .come t => okT t
  | .go t => okT t
  | .rs k a b c => k < 12 ∧ okT a ∧ okT b ∧ okT c
  | .rn k b c => k < 12 ∧ okT b ∧ okT c
theorem trL_ne : ∀ t : Tr, 1 ≤ (trL t).length
  | .none => by simp [trL]
  | .come t => by simp [trL]
  | .go t => by simp [trL]
  | .rs k a b c => by simp [trL]
  | .rn k b c => by simp [trL]
theorem isnt_tr (a : Tr) : dIsnt (trD a) .non = some (.bl true) := by cases a <;> rfl
theorem tlp : tl (Str.ofString "(") = [40] := by rw [tl_ofString]; rfl
theorem tls : tl (Str.ofString " ") = [32] := by rw [tl_ofString]; rfl
theorem tlr : tl (Str.ofString ")") = [41] := by rw [tl_ofString]; rfl
theorem tlm : tl (Str.ofString "-") = [45] := by rw [tl_ofString]; rfl
theorem tlc : tl (Str.ofString "c") = [99] := by rw [tl_ofString]; rfl
theorem tlg : tl (Str.ofString "g") = [103] := by rw [tl_ofString]; rfl
theorem tle : tl Str.empty = [] := rfl
theorem show_ok : ∀ (t : Tr) (rk : Nat) (s : S), dep t ≤ rk → okT t → (trL t).length ≤ 1000000 → wp (D_show_steps rk [trD t] s) (fun a s' => a = .str (stL (trL t)) ∧ s' = s) fun _ _ => False
  | t, 0, s, hd, _, _ => by cases t <;> simp [dep] at hd
  | .none, rk + 1, s, hd, hk, hl => by
    rw [D_show_steps.eq_2]
    unfold trD
    walk_at "b"
    (try walk_at "d")
    rw [show Str.ofString "n" = stL (trL .none) from stepX.mpr (by rw [tl_ofString]; rfl)]
  | .come t, rk + 1, s, hd, hk, hl => by
    have ih := fun s => show_ok t rk s (by simp [dep] at hd; omega) hk (by simp [trL] at hl; omega)
    rw [D_show_steps.eq_2]
    unfold trD
    walk_at "b"
    (try walk_at "d")
    rw [if_neg (by decide)]
    refine wpc_of (ih s) ?_
    rintro _ _ ⟨rfl, rfl⟩
    (try walk_at "d")
    have e : Str.ofString "c" ++ stL (trL t) = stL (trL (.come t)) := stepX.mpr (by rw [tl_append, tl_ofString]; rfl)
    rw [e]
    exact ⟨by simp only [len_tl, tlc, tl_stL, List.length_cons, List.length_nil]; simp [trL] at hl; omega, rfl⟩
  | .go t, rk + 1, s, hd, hk, hl => by
    have ih := fun s => show_ok t rk s (by simp [dep] at hd; omega) hk (by simp [trL] at hl; omega)
    rw [D_show_steps.eq_2]
    unfold trD
    walk_at "b"
    (try walk_at "d")
    rw [if_neg (by decide), if_neg (by decide)]
    refine wpc_of (ih s) ?_
    rintro _ _ ⟨rfl, rfl⟩
    (try walk_at "d")
    have e : Str.ofString "g" ++ stL (trL t) = stL (trL (.go t)) := stepX.mpr (by rw [tl_append, tl_ofString]; rfl)
    rw [e]
    exact ⟨by simp only [len_tl, tlg, tl_stL, List.length_cons, List.length_nil]; simp [trL] at hl; omega, rfl⟩
  | .rs k a b c, rk + 1, s, hd, hk, hl => by
    have l1 : (trL a).length ≤ 1000000 := by simp [trL] at hl; omega
    have ia := fun s => show_ok a rk s (by simp [dep] at hd; omega) hk.2.1 l1
    have ib := fun s => show_ok b rk s (by simp [dep] at hd; omega) hk.2.2.1 (by simp [trL] at hl; omega)
    have ic := fun s => show_ok c rk s (by simp [dep] at hd; omega) hk.2.2.2 (by simp [trL] at hl; omega)
    rw [D_show_steps.eq_2]
    unfold trD
    walk_at "b"
    (try walk_at "d")
    rw [if_neg (by decide), if_neg (by decide), if_neg (by decide)]
    refine ⟨_, isnt_tr a, _, rfl, ?_⟩
    rw [if_pos rfl]
    refine wpc_of (ia s) ?_
    rintro _ _ ⟨rfl, rfl⟩
    rename_i s
    (try walk_at "d")
    have kl := numL_len (n := k) (k := 2) (by decide) (by have := hk.1; omega)
    have hl2 := hl
    simp [trL] at hl2
    refine ⟨by simp only [len_tl, tl_append, tle, tlp, List.length_append, List.length_cons, List.length_nil]; omega, log_ok (Nat.lt_trans hk.1 (by decide)), ?_⟩
    refine ⟨by simp only [len_tl, tl_append, tle, tlp, tl_nat, List.length_append, List.length_cons, List.length_nil]; omega, ?_⟩
    refine ⟨by simp only [len_tl, tl_append, tle, tlp, tls, tl_nat, List.length_append, List.length_cons, List.length_nil]; omega, ?_⟩
    refine ⟨by simp only [len_tl, tl_stL]; omega, ?_⟩
    refine ⟨by simp only [len_tl, tl_append, tle, tlp, tls, tl_nat, tl_stL, List.length_append, List.length_cons, List.length_nil]; omega, ?_⟩
    refine ⟨by simp only [len_tl, tl_append, tle, tlp, tls, tl_nat, tl_stL, List.length_append, List.length_cons, List.length_nil]; omega, ?_⟩
    refine wpc_of (ib s) ?_
    rintro _ _ ⟨rfl, rfl⟩
    rename_i s
    (try walk_at "d")
    refine ⟨by simp only [len_tl, tl_append, tle, tlp, tls, tlr, tlm, tl_nat, tl_stL, List.length_append, List.length_cons, List.length_nil]; omega, by simp only [len_tl, tl_append, tle, tlp, tls, tlr, tlm, tl_nat, tl_stL, List.length_append, List.length_cons, List.length_nil]; omega, by simp only [len_tl, tl_append, tle, tlp, tls, tlr, tlm, tl_nat, tl_stL, List.length_append, List.length_cons, List.length_nil]; omega, ?_⟩
    refine wpc_of (ic s) ?_
    rintro _ _ ⟨rfl, rfl⟩
    rename_i s
    (try walk_at "d")
    refine ⟨by simp only [len_tl, tl_append, tle, tlp, tls, tlr, tlm, tl_nat, tl_stL, List.length_append, List.length_cons, List.length_nil]; omega, by simp only [len_tl, tl_append, tle, tlp, tls, tlr, tlm, tl_nat, tl_stL, List.length_append, List.length_cons, List.length_nil]; omega, by simp only [len_tl, tl_append, tle, tlp, tls, tlr, tlm, tl_nat, tl_stL, List.length_append, List.length_cons, List.length_nil]; omega, ?_⟩
    congr 1
    refine stepX.mpr ?_
    simp only [tl_append, tle, tlp, tls, tlr, tlm, tl_nat, tl_stL, trL]
    simp
  | .rn k b c, rk + 1, s, hd, hk, hl => by
    have ib := fun s => show_ok b rk s (by simp [dep] at hd; omega) hk.2.1 (by simp [trL] at hl; omega)
    have ic := fun s => show_ok c rk s (by simp [dep] at hd; omega) hk.2.2 (by simp [trL] at hl; omega)
    rw [D_show_steps.eq_2]
    unfold trD
    walk_at "b"
    (try walk_at "d")
    rw [if_neg (by decide), if_neg (by decide), if_neg (by decide)]
    have kl := numL_len (n := k) (k := 2) (by decide) (by have := hk.1; omega)
    have hl2 := hl
    simp [trL] at hl2
    refine ⟨by simp only [len_tl, tl_append, tle, tlp, tls, tlr, tlm, tl_nat, tl_stL, List.length_append, List.length_cons, List.length_nil]; omega, log_ok (Nat.lt_trans hk.1 (by decide)), by simp only [len_tl, tl_append, tle, tlp, tls, tlr, tlm, tl_nat, tl_stL, List.length_append, List.length_cons, List.length_nil]; omega, by simp only [len_tl, tl_append, tle, tlp, tls, tlr, tlm, tl_nat, tl_stL, List.length_append, List.length_cons, List.length_nil]; omega, by simp only [len_tl, tl_append, tle, tlp, tls, tlr, tlm, tl_nat, tl_stL, List.length_append, List.length_cons, List.length_nil]; omega, by simp only [len_tl, tl_append, tle, tlp, tls, tlr, tlm, tl_nat, tl_stL, List.length_append, List.length_cons, List.length_nil]; omega, by simp only [len_tl, tl_append, tle, tlp, tls, tlr, tlm, tl_nat, tl_stL, List.length_append, List.length_cons, List.length_nil]; omega, ?_⟩
    refine wpc_of (ib s) ?_
    rintro _ _ ⟨rfl, rfl⟩
    rename_i s
    (try walk_at "d")
    refine ⟨by simp only [len_tl, tl_append, tle, tlp, tls, tlr, tlm, tl_nat, tl_stL, List.length_append, List.length_cons, List.length_nil]; omega, by simp only [len_tl, tl_append, tle, tlp, tls, tlr, tlm, tl_nat, tl_stL, List.length_append, List.length_cons, List.length_nil]; omega, by simp only [len_tl, tl_append, tle, tlp, tls, tlr, tlm, tl_nat, tl_stL, List.length_append, List.length_cons, List.length_nil]; omega, ?_⟩
    refine wpc_of (ic s) ?_
    rintro _ _ ⟨rfl, rfl⟩
    rename_i s
    (try walk_at "d")
    refine ⟨by simp only [len_tl, tl_append, tle, tlp, tls, tlr, tlm, tl_nat, tl_stL, List.length_append, List.length_cons, List.length_nil]; omega, by simp only [len_tl, tl_append, tle, tlp, tls, tlr, tlm, tl_nat, tl_stL, List.length_append, List.length_cons, List.length_nil]; omega, by simp only [len_tl, tl_append, tle, tlp, tls, tlr, tlm, tl_nat, tl_stL, List.length_append, List.length_cons, List.length_nil]; omega, ?_⟩
    congr 1
    refine stepX.mpr ?_
    simp only [tl_append, tle, tlp, tls, tlr, tlm, tl_nat, tl_stL, trL]
    simp
open TL
/-! ### trees read -/
theorem sign_at {x : Str} {pre r : List Nat} {c : Nat} (h : tl x = pre ++ c :: r) : cutS x (some (pre.length : Int)) (some ((pre.length : Int) + 1)) = stL [c] := by
  have lx := len_tl x
  rw [h] at lx
  simp at lx
  refine st_of ?_
  have := tl_cut (x := x) (i := pre.length) (j := 1) (by omega)
  rw [show ((1 : Nat) : Int) = 1 from rfl] at this
  rw [this, h]
  simp
theorem wp_find3 {f h k : DE} {ρ : List Sl} {s : S} {Q : D → S → Prop} {X : Str → S → Prop} : wp (eFind3 f h k ρ s) Q X = wp (f ρ s) (fun x s1 => ∃ a, x = .str a ∧ wp (h ρ s1) (fun y s2 => wp (k ρ s2) (fun z s3 => ∃ b i, y = .str b ∧ z = .int i ∧ Q (.int (Txt.find3 a b i)) s3) X) X) X := by
  unfold eFind3
  rw [wp_bind]
  congr 1
  funext x s1
  cases x with
  | str a =>
    simp only [D.str.injEq, exists_eq_left']
    rw [wp_bind]
    congr 1
    funext y s2
    rw [wp_bind]
    congr 1
    funext z s3
    cases y <;> cases z <;> simp [wp_ok, wp_bad]
  | _ => simp [wp_bad]
theorem sl_str {x : Str} {lo hi : Option Int} (h : x.length ≤ 1000000) : dSl (.str x) lo hi = some (.str (cutS x lo hi)) := by
  show (if x.length ≤ 16777216 then some (D.str (cutS x lo hi)) else none) = _
  rw [if_pos (by omega)]
theorem behind_ok {C : DFun} {x : Str} {pre r : List Nat} {t : Tr} {deep : Nat} {s : S} (hx : x.length ≤ 1000000) (h : tl x = pre ++ 32 :: r) (ih : ∀ s, wp (C [.str x, .int ((pre.length + 1 : Nat) : Int), .int (deep : Int)] s) (fun a s' => a = .tup [trD t, .int ((pre.length + 1 + (trL t).length : Nat) : Int)] ∧ s' = s) fun _ _ => False) :
    wp (D_behind_blank C [.str x, .int (pre.length : Int), .int (deep : Int)] s) (fun a s' => a = .tup [trD t, .int ((pre.length + 1 + (trL t).length : Nat) : Int)] ∧ s' = s) fun _ _ => False := by
  unfold D_behind_blank
  walk_at "b"
  (try walk_at "d")
  rw [sl_str hx, sign_at h]
  have e : stL [32] = Str.ofString " " := stepX.mpr (by rw [tls]; rfl)
  rw [e]
  refine ⟨_, rfl, _, rfl, _, rfl, ?_⟩
  rw [if_neg (by simp)]
  exact wpc_of (ih s) fun _ _ z => z
theorem seg_at {x : Str} {pre ds r : List Nat} (h : tl x = pre ++ (ds ++ r)) : cutS x (some (pre.length : Int)) (some ((pre.length + ds.length : Nat) : Int)) = stL ds := by
  have lx := len_tl x
  rw [h] at lx
  simp at lx
  refine st_of ?_
  have := tl_cut (x := x) (i := pre.length) (j := ds.length) (by omega)
  rw [← Int.natCast_add] at this
  rw [this, h]
  simp
theorem three_at {x : Str} {pre r : List Nat} (h : tl x = pre ++ r) (h3 : 3 ≤ r.length) : cutS x (some (pre.length : Int)) (some ((pre.length : Int) + 3)) = stL (r.take 3) := by
  have lx := len_tl x
  rw [h] at lx
  simp at lx
  refine st_of ?_
  have := tl_cut (x := x) (i := pre.length) (j := 3) (by omega)
  rw [show ((3 : Nat) : Int) = 3 from rfl] at this
  rw [this, h]
  simp
theorem trL_head (t : Tr) : ∃ c r, trL t = c :: r ∧ c ≠ 45 := by
  cases t <;> exact ⟨_, _, rfl, by decide⟩
theorem rule_ok3 {C : DFun} {x : Str} {pre post : List Nat} {k : Nat} {a b c : Tr} {deep : Nat} {s : S} (hx : x.length ≤ 1000000) (hk : k < 12) (h : tl x = pre ++ (numL k ++ 32 :: (trL a ++ 32 :: (trL b ++ 32 :: (trL c ++ 41 :: post)))))
    (ih : ∀ (t : Tr) (p q : List Nat), (t = a ∨ t = b ∨ t = c) → tl x = p ++ (trL t ++ q) → ∀ s, wp (C [.str x, .int (p.length : Int), .int (deep : Int)] s) (fun z s' => z = .tup [trD t, .int ((p.length + (trL t).length : Nat) : Int)] ∧ s' = s) fun _ _ => False) :
    wp (D_rule_in C [.str x, .int (pre.length : Int), .int (deep : Int)] s) (fun z s' => z = .tup [trD (.rs k a b c), .int ((pre.length + (numL k ++ 32 :: (trL a ++ 32 :: (trL b ++ 32 :: (trL c ++ [41])))).length : Nat) : Int)] ∧ s' = s) fun _ _ => False := by
  have fb := find_blank h (numL_free (by decide))
  unfold D_rule_in
  walk_at "b"
  (try walk_at "d")
  rw [wp_find3]
  (try walk_at "d")
  refine ⟨_, _, rfl, rfl, ?_⟩
  rw [fb, if_neg (by omega)]
  rw [sl_str hx, seg_at h]
  refine ⟨_, rfl, ?_⟩
  refine wpc_of (number_in_ok (most := 2) (by decide) (by rw [len_tl, tl_stL]; have := numL_len (n := k) (k := 2) (by decide) (by omega); omega)) ?_
  rintro _ _ ⟨rfl, rfl⟩
  rename_i s
  rw [tl_stL, numP_num (by decide) (by omega)]
  have h1 : tl x = (pre ++ numL k) ++ 32 :: (trL a ++ 32 :: (trL b ++ 32 :: (trL c ++ 41 :: post))) := by rw [h]; simp
  have l1 : pre.length + (numL k).length = (pre ++ numL k).length := by simp
  rw [l1]
  generalize pre ++ numL k = P1 at *
  unfold optI
  (try walk_at "d")
  have r3 : 3 ≤ (32 :: (trL a ++ 32 :: (trL b ++ 32 :: (trL c ++ 41 :: post)))).length := by have := trL_ne a; simp; omega
  rw [sl_str hx, three_at h1 r3]
  refine ⟨_, rfl, _, rfl, _, rfl, ?_⟩
  obtain ⟨c0, r0, ea, ne⟩ := trL_head a
  have ne3 : ¬ stL ((32 :: (trL a ++ 32 :: (trL b ++ 32 :: (trL c ++ 41 :: post)))).take 3) = Str.ofString " - " := fun q => by
    have q := stepX.mp q
    rw [tl_stL, ea, tl_ofString] at q
    have q : 32 :: c0 :: _ = [32, 45, 32] := q
    simp at q
    exact ne q.1
  rw [if_pos (by rw [decide_eq_false ne3]; rfl)]
  refine wpc_of (behind_ok (t := a) hx h1 (fun s => ?_)) ?_
  · have := ih a (P1 ++ [32]) (32 :: (trL b ++ 32 :: (trL c ++ 41 :: post))) (.inl rfl) (by rw [h1]; simp) s
    rw [List.length_append, List.length_singleton] at this
    exact this
  rintro _ _ ⟨rfl, rfl⟩
  rename_i s
  (try walk_at "d")
  rw [if_neg (by omega)]
  have h2 : tl x = (P1 ++ 32 :: trL a) ++ 32 :: (trL b ++ 32 :: (trL c ++ 41 :: post)) := by rw [h1]; simp
  have l2 : P1.length + 1 + (trL a).length = (P1 ++ 32 :: trL a).length := by simp; omega
  rw [l2]
  generalize P1 ++ 32 :: trL a = P2 at *
  have l3 : P2.length + 1 + (trL b).length = (P2 ++ 32 :: trL b).length := by simp; omega
  have h3 : tl x = (P2 ++ 32 :: trL b) ++ 32 :: (trL c ++ 41 :: post) := by rw [h2]; simp
  refine wpc_of (behind_ok (t := b) hx h2 (fun s => ?_)) ?_
  · have := ih b (P2 ++ [32]) (32 :: (trL c ++ 41 :: post)) (.inr (.inl rfl)) (by rw [h2]; simp) s
    rw [List.length_append, List.length_singleton] at this
    exact this
  rintro _ _ ⟨rfl, rfl⟩
  rename_i s
  rw [l3]
  generalize P2 ++ 32 :: trL b = P3 at *
  (try walk_at "d")
  refine wpc_of (behind_ok (t := c) hx h3 (fun s => ?_)) ?_
  · have := ih c (P3 ++ [32]) (41 :: post) (.inr (.inr rfl)) (by rw [h3]; simp) s
    rw [List.length_append, List.length_singleton] at this
    exact this
  rintro _ _ ⟨rfl, rfl⟩
  rename_i s
  have l4 : P3.length + 1 + (trL c).length = (P3 ++ 32 :: trL c).length := by simp; omega
  have h4 : tl x = (P3 ++ 32 :: trL c) ++ 41 :: post := by rw [h3]; simp
  rw [l4]
  generalize P3 ++ 32 :: trL c = P4 at *
  (try walk_at "d")
  rw [sl_str hx, sign_at h4, show stL [41] = Str.ofString ")" from stepX.mpr (by rw [tlr]; rfl)]
  refine ⟨_, rfl, _, rfl, _, rfl, ?_⟩
  rw [if_neg (by simp)]
  have e : (P4.length : Int) + 1 = ((pre.length + (numL k ++ 32 :: (trL a ++ 32 :: (trL b ++ 32 :: (trL c ++ [41])))).length : Nat) : Int) := by simp; omega
  rw [← e]
  rfl
theorem rule_ok2 {C : DFun} {x : Str} {pre post : List Nat} {k : Nat} {b c : Tr} {deep : Nat} {s : S} (hx : x.length ≤ 1000000) (hk : k < 12) (h : tl x = pre ++ (numL k ++ 32 :: (45 :: 32 :: (trL b ++ 32 :: (trL c ++ 41 :: post)))))
    (ih : ∀ (t : Tr) (p q : List Nat), (t = b ∨ t = c) → tl x = p ++ (trL t ++ q) → ∀ s, wp (C [.str x, .int (p.length : Int), .int (deep : Int)] s) (fun z s' => z = .tup [trD t, .int ((p.length + (trL t).length : Nat) : Int)] ∧ s' = s) fun _ _ => False) :
    wp (D_rule_in C [.str x, .int (pre.length : Int), .int (deep : Int)] s) (fun z s' => z = .tup [trD (.rn k b c), .int ((pre.length + (numL k ++ 32 :: 45 :: 32 :: (trL b ++ 32 :: (trL c ++ [41]))).length : Nat) : Int)] ∧ s' = s) fun _ _ => False := by
  have fb := find_blank h (numL_free (by decide))
  unfold D_rule_in
  walk_at "b"
  (try walk_at "d")
  rw [wp_find3]
  (try walk_at "d")
  refine ⟨_, _, rfl, rfl, ?_⟩
  rw [fb, if_neg (by omega)]
  rw [sl_str hx, seg_at h]
  refine ⟨_, rfl, ?_⟩
  refine wpc_of (number_in_ok (most := 2) (by decide) (by rw [len_tl, tl_stL]; have := numL_len (n := k) (k := 2) (by decide) (by omega); omega)) ?_
  rintro _ _ ⟨rfl, rfl⟩
  rename_i s
  rw [tl_stL, numP_num (by decide) (by omega)]
  have h1 : tl x = (pre ++ numL k) ++ (32 :: 45 :: 32 :: (trL b ++ 32 :: (trL c ++ 41 :: post))) := by rw [h]; simp
  have l1 : pre.length + (numL k).length = (pre ++ numL k).length := by simp
  rw [l1]
  generalize pre ++ numL k = P1 at *
  unfold optI
  (try walk_at "d")
  rw [sl_str hx, three_at h1 (by simp)]
  refine ⟨_, rfl, _, rfl, _, rfl, ?_⟩
  have e3 : stL ((32 :: 45 :: 32 :: (trL b ++ 32 :: (trL c ++ 41 :: post))).take 3) = Str.ofString " - " := stepX.mpr (by rw [tl_stL, tl_ofString]; rfl)
  rw [if_neg (by rw [decide_eq_true e3]; decide), if_neg (by omega)]
  have h2 : tl x = (P1 ++ [32, 45]) ++ 32 :: (trL b ++ 32 :: (trL c ++ 41 :: post)) := by rw [h1]; simp
  have l2 : P1.length + 2 = (P1 ++ [32, 45]).length := by simp
  rw [show (P1.length : Int) + 2 = ((P1.length + 2 : Nat) : Int) by omega, l2]
  generalize P1 ++ [32, 45] = P2 at *
  have l3 : P2.length + 1 + (trL b).length = (P2 ++ 32 :: trL b).length := by simp; omega
  have h3 : tl x = (P2 ++ 32 :: trL b) ++ 32 :: (trL c ++ 41 :: post) := by rw [h2]; simp
  refine wpc_of (behind_ok (t := b) hx h2 (fun s => ?_)) ?_
  · have := ih b (P2 ++ [32]) (32 :: (trL c ++ 41 :: post)) (.inl rfl) (by rw [h2]; simp) s
    rw [List.length_append, List.length_singleton] at this
    exact this
  rintro _ _ ⟨rfl, rfl⟩
  rename_i s
  rw [l3]
  generalize P2 ++ 32 :: trL b = P3 at *
  (try walk_at "d")
  refine wpc_of (behind_ok (t := c) hx h3 (fun s => ?_)) ?_
  · have := ih c (P3 ++ [32]) (41 :: post) (.inr rfl) (by rw [h3]; simp) s
    rw [List.length_append, List.length_singleton] at this
    exact this
  rintro _ _ ⟨rfl, rfl⟩
  rename_i s
  have l4 : P3.length + 1 + (trL c).length = (P3 ++ 32 :: trL c).length := by simp; omega
  have h4 : tl x = (P3 ++ 32 :: trL c) ++ 41 :: post := by rw [h3]; simp
  rw [l4]
  generalize P3 ++ 32 :: trL c = P4 at *
  (try walk_at "d")
  rw [sl_str hx, sign_at h4, show stL [41] = Str.ofString ")" from stepX.mpr (by rw [tlr]; rfl)]
  refine ⟨_, rfl, _, rfl, _, rfl, ?_⟩
  rw [if_neg (by simp)]
  have e : (P4.length : Int) + 1 = ((pre.length + (numL k ++ 32 :: 45 :: 32 :: (trL b ++ 32 :: (trL c ++ [41]))).length : Nat) : Int) := by simp; omega
  rw [← e]
  rfl
def cgD : List D := [.str "c", .str "g"]
theorem nin_cg {W : Str} (h : (ready (.str W) && ready (.tup cgD)) = true) (k : inB (.str W) cgD = true) : dNotIn (.str W) (.tup [.str "c", .str "g"]) = some (.bl false) := by
  show (if ready (.str W) && ready (.tup cgD) then some (D.bl (!inB (.str W) cgD)) else none) = _
  rw [if_pos h, k]
  rfl
theorem nin_c : dNotIn (.str "c") (.tup [.str "c", .str "g"]) = some (.bl false) := nin_cg (by decide +kernel) (by decide +kernel)
theorem nin_g : dNotIn (.str "g") (.tup [.str "c", .str "g"]) = some (.bl false) := nin_cg (by decide +kernel) (by decide +kernel)
theorem ix_c {s : S} : dIxC s (.dct (mergeD [(Sum.inr (Str.ofString "c"), D.str (Str.ofString "come")), (Sum.inr (Str.ofString "g"), D.str (Str.ofString "go"))])) (.str (Str.ofString "c")) = some (.str (Str.ofString "come")) := by rfl
theorem ix_g {s : S} : dIxC s (.dct (mergeD [(Sum.inr (Str.ofString "c"), D.str (Str.ofString "come")), (Sum.inr (Str.ofString "g"), D.str (Str.ofString "go"))])) (.str (Str.ofString "g")) = some (.str (Str.ofString "go")) := by rfl
theorem read_ok : ∀ (t : Tr) (rk deep : Nat) (x : Str) (pre post : List Nat) (s : S), tl x = pre ++ (trL t ++ post) → x.length ≤ 1000000 → okT t → dep t ≤ deep → dep t ≤ rk →
    wp (D_tree_in rk [.str x, .int (pre.length : Int), .int (deep : Int)] s) (fun a s' => a = .tup [trD t, .int ((pre.length + (trL t).length : Nat) : Int)] ∧ s' = s) fun _ _ => False
  | t, 0, deep, x, pre, post, s, h, hx, hk, hd, hr => by cases t <;> simp [dep] at hr
  | .none, rk + 1, deep, x, pre, post, s, h, hx, hk, hd, hr => by
    have d1 : 1 ≤ deep := by simp [dep] at hd; omega
    rw [D_tree_in.eq_2]
    walk_at "b"
    (try walk_at "d")
    rw [sl_str hx, sign_at (show tl x = pre ++ 110 :: post from h), show stL [110] = Str.ofString "n" from stepX.mpr (by rw [tl_ofString]; rfl)]
    refine ⟨_, rfl, ?_⟩
    (try walk_at "d")
    rw [if_neg (by omega)]
    rfl
  | .come t, rk + 1, deep, x, pre, post, s, h, hx, hk, hd, hr => by
    have d1 : dep t ≤ deep - 1 := by simp [dep] at hd; omega
    have d2 : 1 ≤ deep := by simp [dep] at hd; omega
    have ih := fun s => read_ok t rk (deep - 1) x (pre ++ [99]) post s (by rw [h]; simp [trL]) hx hk d1 (by simp [dep] at hr; omega)
    rw [List.length_append, List.length_singleton] at ih
    rw [D_tree_in.eq_2]
    walk_at "b"
    (try walk_at "d")
    rw [sl_str hx, sign_at (show tl x = pre ++ 99 :: (trL t ++ post) from h), show stL [99] = Str.ofString "c" from stepX.mpr (by rw [tl_ofString]; rfl)]
    refine ⟨_, rfl, ?_⟩
    (try walk_at "d")
    rw [if_neg (by omega), if_neg (by decide), if_neg (by decide)]
    refine ⟨_, nin_c, _, rfl, ?_⟩
    rw [if_neg (by decide), show (deep : Int) - 1 = ((deep - 1 : Nat) : Int) by omega, show (pre.length : Int) + 1 = ((pre.length + 1 : Nat) : Int) by omega]
    refine wpc_of (ih s) ?_
    rintro _ _ ⟨rfl, rfl⟩
    rename_i s
    (try walk_at "d")
    have e : pre.length + 1 + (trL t).length = pre.length + (trL (.come t)).length := by simp [trL]; omega
    rw [e]
    exact ⟨_, ix_c, rfl⟩
  | .go t, rk + 1, deep, x, pre, post, s, h, hx, hk, hd, hr => by
    have d1 : dep t ≤ deep - 1 := by simp [dep] at hd; omega
    have d2 : 1 ≤ deep := by simp [dep] at hd; omega
    have ih := fun s => read_ok t rk (deep - 1) x (pre ++ [103]) post s (by rw [h]; simp [trL]) hx hk d1 (by simp [dep] at hr; omega)
    rw [List.length_append, List.length_singleton] at ih
    rw [D_tree_in.eq_2]
    walk_at "b"
    (try walk_at "d")
    rw [sl_str hx, sign_at (show tl x = pre ++ 103 :: (trL t ++ post) from h), show stL [103] = Str.ofString "g" from stepX.mpr (by rw [tl_ofString]; rfl)]
    refine ⟨_, rfl, ?_⟩
    (try walk_at "d")
    rw [if_neg (by omega), if_neg (by decide), if_neg (by decide)]
    refine ⟨_, nin_g, _, rfl, ?_⟩
    rw [if_neg (by decide), show (deep : Int) - 1 = ((deep - 1 : Nat) : Int) by omega, show (pre.length : Int) + 1 = ((pre.length + 1 : Nat) : Int) by omega]
    refine wpc_of (ih s) ?_
    rintro _ _ ⟨rfl, rfl⟩
    rename_i s
    (try walk_at "d")
    have e : pre.length + 1 + (trL t).length = pre.length + (trL (.go t)).length := by simp [trL]; omega
    rw [e]
    exact ⟨_, ix_g, rfl⟩
  | .rs k a b c, rk + 1, deep, x, pre, post, s, h, hx, hk, hd, hr => by
    have d1 : dep a ≤ deep - 1 ∧ dep b ≤ deep - 1 ∧ dep c ≤ deep - 1 := by simp [dep] at hd; omega
    have d2 : 1 ≤ deep := by simp [dep] at hd; omega
    have d3 : dep a ≤ rk ∧ dep b ≤ rk ∧ dep c ≤ rk := by simp [dep] at hr; omega
    have ih : ∀ (t : Tr) (p q : List Nat), (t = a ∨ t = b ∨ t = c) → tl x = p ++ (trL t ++ q) → ∀ s, wp (D_tree_in rk [.str x, .int (p.length : Int), .int ((deep - 1 : Nat) : Int)] s) (fun z s' => z = .tup [trD t, .int ((p.length + (trL t).length : Nat) : Int)] ∧ s' = s) fun _ _ => False := fun t p q ht e s => by
      rcases ht with rfl | rfl | rfl
      · exact read_ok t rk (deep - 1) x p q s e hx hk.2.1 d1.1 d3.1
      · exact read_ok t rk (deep - 1) x p q s e hx hk.2.2.1 d1.2.1 d3.2.1
      · exact read_ok t rk (deep - 1) x p q s e hx hk.2.2.2 d1.2.2 d3.2.2
    have h' : tl x = (pre ++ [40]) ++ (numL k ++ 32 :: (trL a ++ 32 :: (trL b ++ 32 :: (trL c ++ 41 :: post)))) := by rw [h]; simp [trL]
    have go := fun s => rule_ok3 (s := s) hx hk.1 h' ih
    rw [List.length_append, List.length_singleton] at go
    rw [D_tree_in.eq_2]
    walk_at "b"
    (try walk_at "d")
    rw [sl_str hx, sign_at (show tl x = pre ++ 40 :: _ from h), show stL [40] = Str.ofString "(" from stepX.mpr (by rw [tl_ofString]; rfl)]
    refine ⟨_, rfl, ?_⟩
    (try walk_at "d")
    rw [if_neg (by omega), if_neg (by decide), show (deep : Int) - 1 = ((deep - 1 : Nat) : Int) by omega, show (pre.length : Int) + 1 = ((pre.length + 1 : Nat) : Int) by omega]
    refine wpc_of (go s) ?_
    rintro _ _ ⟨rfl, rfl⟩
    have e : pre.length + 1 + (numL k ++ 32 :: (trL a ++ 32 :: (trL b ++ 32 :: (trL c ++ [41])))).length = pre.length + (trL (.rs k a b c)).length := by simp [trL]; omega
    rw [e]
    exact ⟨rfl, rfl⟩
  | .rn k b c, rk + 1, deep, x, pre, post, s, h, hx, hk, hd, hr => by
    have d1 : dep b ≤ deep - 1 ∧ dep c ≤ deep - 1 := by simp [dep] at hd; omega
    have d2 : 1 ≤ deep := by simp [dep] at hd; omega
    have d3 : dep b ≤ rk ∧ dep c ≤ rk := by simp [dep] at hr; omega
    have ih : ∀ (t : Tr) (p q : List Nat), (t = b ∨ t = c) → tl x = p ++ (trL t ++ q) → ∀ s, wp (D_tree_in rk [.str x, .int (p.length : Int), .int ((deep - 1 : Nat) : Int)] s) (fun z s' => z = .tup [trD t, .int ((p.length + (trL t).length : Nat) : Int)] ∧ s' = s) fun _ _ => False := fun t p q ht e s => by
      rcases ht with rfl | rfl
      · exact read_ok t rk (deep - 1) x p q s e hx hk.2.1 d1.1 d3.1
      · exact read_ok t rk (deep - 1) x p q s e hx hk.2.2 d1.2 d3.2
    have h' : tl x = (pre ++ [40]) ++ (numL k ++ 32 :: (45 :: 32 :: (trL b ++ 32 :: (trL c ++ 41 :: post)))) := by rw [h]; simp [trL]
    have go := fun s => rule_ok2 (s := s) hx hk.1 h' ih
    rw [List.length_append, List.length_singleton] at go
    rw [D_tree_in.eq_2]
    walk_at "b"
    (try walk_at "d")
    rw [sl_str hx, sign_at (show tl x = pre ++ 40 :: _ from h), show stL [40] = Str.ofString "(" from stepX.mpr (by rw [tl_ofString]; rfl)]
    refine ⟨_, rfl, ?_⟩
    (try walk_at "d")
    rw [if_neg (by omega), if_neg (by decide), show (deep : Int) - 1 = ((deep - 1 : Nat) : Int) by omega, show (pre.length : Int) + 1 = ((pre.length + 1 : Nat) : Int) by omega]
    refine wpc_of (go s) ?_
    rintro _ _ ⟨rfl, rfl⟩
    have e : pre.length + 1 + (numL k ++ 32 :: 45 :: 32 :: (trL b ++ 32 :: (trL c ++ [41]))).length = pre.length + (trL (.rn k b c)).length := by simp [trL]; omega
    rw [e]
    exact ⟨rfl, rfl⟩
open TL
theorem wps_whileS {clr : List Nat} {c : DT} {b : DS} (I : List Sl → S → Prop) (m : List Sl → S → Nat) (h0 : I (wipeD ρ clr) s)
    (hs : ∀ ρ s, I ρ s → wp (c ρ s) (fun k s1 => if k = true then wps (b ρ s1) (fun ρ2 s2 => I (wipeD ρ2 clr) s2 ∧ m (wipeD ρ2 clr) s2 < m ρ s) N (fun ρ2 s2 => I (wipeD ρ2 clr) s2 ∧ m (wipeD ρ2 clr) s2 < m ρ s) R X else N ρ s1) X) : wps (sWhile clr c b ρ s) N B C R X := by
  have key : ∀ n ρ s, I ρ s → m ρ s < n → ∃ r, whileN clr c b n ρ s = some r ∧ wps r N B C R X := by
    intro n
    induction n with
    | zero => intro ρ s _ h; omega
    | succ n ih =>
      intro ρ s hI hm
      have h := hs ρ s hI
      unfold whileN
      cases hc : c ρ s with
      | ok k s1 =>
        rw [hc] at h
        cases k with
        | true =>
          have h' : wps (b ρ s1) (fun ρ2 s2 => I (wipeD ρ2 clr) s2 ∧ m (wipeD ρ2 clr) s2 < m ρ s) N (fun ρ2 s2 => I (wipeD ρ2 clr) s2 ∧ m (wipeD ρ2 clr) s2 < m ρ s) R X := by rw [wp_ok] at h; simpa using h
          simp only
          cases hb : b ρ s1 with
          | next ρ2 s2 => rw [hb, wz_next] at h'; exact ih _ _ h'.1 (by have := h'.2; omega)
          | cont ρ2 s2 => rw [hb, wz_cont] at h'; exact ih _ _ h'.1 (by have := h'.2; omega)
          | brk ρ2 s2 => rw [hb, wz_brk] at h'; exact ⟨_, rfl, by rw [wz_next]; exact h'⟩
          | ret d s2 => rw [hb, wz_ret] at h'; exact ⟨_, rfl, by rw [wz_ret]; exact h'⟩
          | exc c s2 => rw [hb, wz_exc] at h'; exact ⟨_, rfl, by rw [wz_exc]; exact h'⟩
          | bad => rw [hb, wz_bad] at h'; exact h'.elim
        | false =>
          have h' : N ρ s1 := by rw [wp_ok] at h; simpa using h
          exact ⟨_, rfl, by rw [wz_next]; exact h'⟩
      | exc c s1 => rw [hc, wp_exc] at h; exact ⟨_, rfl, by rw [wz_exc]; exact h⟩
      | bad => rw [hc, wp_bad] at h; exact h.elim
  obtain ⟨r, e, h⟩ := key _ _ _ h0 (Nat.lt_succ_self _)
  rw [sWhile_of e]
  exact h
theorem wpw_ofS {ρ : List Sl} {s : S} {N B C : List Sl → S → Prop} {R : D → S → Prop} {X : Str → S → Prop} {clr : List Nat} {c : DT} {b : DS} {w : Wits N B C R X} (I : List Sl → S → Prop) (m : List Sl → S → Nat) (h0 : I (wipeD ρ clr) s)
    (hs : ∀ ρ s, I ρ s → wp (c ρ s) (fun k s1 => if k = true then wps (b ρ s1) (fun ρ2 s2 => I (wipeD ρ2 clr) s2 ∧ m (wipeD ρ2 clr) s2 < m ρ s) N (fun ρ2 s2 => I (wipeD ρ2 clr) s2 ∧ m (wipeD ρ2 clr) s2 < m ρ s) R X else N ρ s1) X) : wpw clr c b ρ s N B C R X w := wps_whileS I m h0 hs
theorem read_steps_ok {t : Tr} {x : Str} {s : S} (h : tl x = trL t) (hx : x.length ≤ 1000000) (hk : okT t) (hd : dep t ≤ 70) : wp (D_read_steps [.str x] s) (fun a s' => a = trD t ∧ s' = s) fun _ _ => False := by
  unfold D_read_steps
  walk_at "b"
  (try walk_at "d")
  have ro := fun s => read_ok t 72 70 x [] [] s (by rw [h]; simp) hx hk hd (by omega)
  refine wpc_of (ro s) ?_
  rintro _ _ ⟨rfl, rfl⟩
  (try walk_at "d")
  rename_i s
  have le : lenT s [.str x] = some (.int ((trL t).length : Int)) := by
    show (if x.length ≤ 16777216 then some (D.int x.length) else none) = _
    rw [if_pos (by omega), len_tl, h]
  refine ⟨_, le, ?_⟩
  (try walk_at "d")
/-! ### the law's own text of a tree -/
inductive It where
  | w (L : List Nat)
  | n
  | t (x : Tr)
def itD : It → D
  | .w L => .str (stL L)
  | .n => .non
  | .t x => trD x
def itL : It → List Nat
  | .w L => L
  | .n => [45]
  | .t x => trL x
def trN : Tr → Nat
  | .none => 1
  | .come t => 1 + trN t
  | .go t => 1 + trN t
  | .rs _ a b c => 1 + (trN a + (1 + (trN b + (1 + (trN c + 1)))))
  | .rn _ b c => 1 + (1 + (1 + (trN b + (1 + (trN c + 1)))))
def itN : It → Nat
  | .w _ => 1
  | .n => 1
  | .t x => trN x
def itOk : It → Prop
  | .w L => L = [41] ∨ L = [32]
  | .n => True
  | .t x => okT x
def remL (Sk : List It) : List Nat := (Sk.reverse.map itL).flatten
def remN (Sk : List It) : Nat := (Sk.map itN).sum
theorem remL_snoc (Sk : List It) (x : It) : remL (Sk ++ [x]) = itL x ++ remL Sk := by simp [remL]
theorem remN_snoc (Sk : List It) (x : It) : remN (Sk ++ [x]) = itN x + remN Sk := by simp [remN]; omega
theorem trN_pos : ∀ t : Tr, 1 ≤ trN t
  | .none => by simp [trN]
  | .come t => by simp [trN]
  | .go t => by simp [trN]
  | .rs k a b c => by simp [trN]
  | .rn k b c => by simp [trN]
theorem ok_tr : ∀ t : Tr, okD (trD t) = true
  | .none => by decide +kernel
  | .come t => by
    have := ok_tr t
    have e : okD (.str "come") = true := by decide +kernel
    show okDs [D.str "come", trD t] = true
    simp [okDs, e, this]
  | .go t => by
    have := ok_tr t
    have e : okD (.str "go") = true := by decide +kernel
    show okDs [D.str "go", trD t] = true
    simp [okDs, e, this]
  | .rs k a b c => by
    have := ok_tr a
    have := ok_tr b
    have := ok_tr c
    have e : okD (.str "rule") = true := by decide +kernel
    have e2 : okD (.int (k : Int)) = true := rfl
    show okDs [D.str "rule", .int (k : Int), trD a, trD b, trD c] = true
    simp [okDs, *]
  | .rn k b c => by
    have := ok_tr b
    have := ok_tr c
    have e : okD (.str "rule") = true := by decide +kernel
    have e2 : okD (.int (k : Int)) = true := rfl
    have e3 : okD .non = true := rfl
    show okDs [D.str "rule", .int (k : Int), .non, trD b, trD c] = true
    simp [okDs, *]
theorem flat_tr : ∀ t : Tr, flat (trD t) = true
  | .none => rfl
  | .come t => by have := flat_tr t; simp [trD, flat, flats, this]
  | .go t => by have := flat_tr t; simp [trD, flat, flats, this]
  | .rs k a b c => by have := flat_tr a; have := flat_tr b; have := flat_tr c; simp [trD, flat, flats, *]
  | .rn k b c => by have := flat_tr b; have := flat_tr c; simp [trD, flat, flats, *]
theorem ok_it {x : It} (h : itOk x) : okD (itD x) = true := by
  cases x with
  | w L => rcases h with rfl | rfl <;> decide +kernel
  | n => rfl
  | t x => exact ok_tr x
theorem oks_its : ∀ {Sk : List It}, (∀ x ∈ Sk, itOk x) → okDs (Sk.map itD) = true
  | [], _ => rfl
  | x :: Sk, h => by simp [okDs, ok_it (h x (by simp)), oks_its fun y hy => h y (List.mem_cons_of_mem _ hy)]
theorem joinL_flat : ∀ ps : List (List Nat), joinL [] ps = ps.flatten
  | [] => rfl
  | [p] => by simp [joinL]
  | p :: q :: r => by
    have := joinL_flat (q :: r)
    simp [joinL] at this ⊢
    exact this
theorem strs_map : ∀ zs : List Str, strsOf (zs.map D.str) = some zs
  | [] => rfl
  | z :: zs => by show (strsOf (zs.map D.str)).map (z :: ·) = _; rw [strs_map zs]; rfl
theorem tl0 : tl (Str.ofString "") = [] := by rw [tl_ofString]; rfl
theorem new_at (s : S) (c : Cell) : (s ++ [c])[s.length]? = some c := by simp
theorem tokL_of {s : S} {t : Nat} {ds : List D} (h : s[t]? = some (.l ds)) : tokL s t = some ds := by
  unfold tokL
  rw [h]
theorem pop_at {s : S} {k : Nat} {ds : List D} {d : D} (h : s[k]? = some (.l (ds ++ [d]))) : popL s (.tok k) = some (d, s.set k (.l ds)) := by
  show (match tokL s k with
      | some ds => match ds.getLast? with
        | some d => some (d, s.set k (.l ds.dropLast))
        | none => none
      | none => none) = _
  rw [tokL_of h]
  simp
theorem ne_nilE {s : S} {k : Nat} {ds : List D} (h : s[k]? = some (.l ds)) (ok : okDs ds = true) : dNeE s (.tok k) (.lst []) = some (.bl (!ds.isEmpty)) := by
  show (tokL s k).bind (fun ds => if okDs ds = true then some (D.bl (!ds.isEmpty)) else none) = _
  rw [tokL_of h]
  show (if okDs ds = true then some (D.bl (!ds.isEmpty)) else none) = _
  rw [if_pos ok]
theorem len_tup {s : S} {xs : List D} : lenT s [.tup xs] = some (.int (xs.length : Int)) := rfl
theorem ix_come {s : S} : dIxC s (.dct (mergeD [(Sum.inr (Str.ofString "come"), D.str (Str.ofString "c")), (Sum.inr (Str.ofString "go"), D.str (Str.ofString "g"))])) (.str (Str.ofString "come")) = some (.str (Str.ofString "c")) := by rfl
theorem ix_go {s : S} : dIxC s (.dct (mergeD [(Sum.inr (Str.ofString "come"), D.str (Str.ofString "c")), (Sum.inr (Str.ofString "go"), D.str (Str.ofString "g"))])) (.str (Str.ofString "go")) = some (.str (Str.ofString "g")) := by rfl
theorem app_at {s : S} {ds : List D} {d : D} (hf : flat d = true) (hl : ds.length < 16777216) : appS (s ++ [.l ds]) (.tok s.length) d = some (s ++ [.l (ds ++ [d])]) := by
  show (match tokL (s ++ [.l ds]) s.length with
      | some ds' => if flat d = true ∧ ds'.length < 16777216 then some ((s ++ [Cell.l ds]).set s.length (.l (ds' ++ [d]))) else none
      | none => none) = _
  rw [tokL_of (new_at s _)]
  simp only
  rw [if_pos ⟨hf, hl⟩, List.set_append_right _ _ (Nat.le_refl _)]
  simp
theorem ext_at {s : S} {ds es : List D} (hf : flats es = true) (hl : ds.length + es.length ≤ 16777216) : extS (s ++ [.l ds]) (.tok s.length) (.lst es) = some (s ++ [.l (ds ++ es)]) := by
  show (match tokL (s ++ [.l ds]) s.length with
      | some ds' => if flats es = true ∧ ds'.length + es.length ≤ 16777216 then some ((s ++ [Cell.l ds]).set s.length (.l (ds' ++ es))) else none
      | none => none) = _
  rw [tokL_of (new_at s _)]
  simp only
  rw [if_pos ⟨hf, hl⟩, List.set_append_right _ _ (Nat.le_refl _)]
  simp
theorem isTok_at {s : S} {ds : List D} : isTokL (s ++ [.l ds]) (.tok s.length) = true := by
  show (tokL (s ++ [.l ds]) s.length).isSome = true
  rw [tokL_of (new_at s _)]
  rfl
theorem remN_le {Sk : List It} : Sk.length ≤ remN Sk := by
  induction Sk with
  | nil => simp [remN]
  | cons x Sk ih =>
    have : 1 ≤ itN x := by
      cases x with
      | w L => exact Nat.le_refl _
      | n => exact Nat.le_refl _
      | t y => exact trN_pos y
    simp [remN] at ih ⊢
    omega
theorem wps_extT {f fv : DE} {ρ : List Sl} {s : S} {N B C : List Sl → S → Prop} {R : D → S → Prop} {X : Str → S → Prop} : wps (sExtT f fv ρ s) N B C R X = wp (f ρ s) (fun t s1 => isTokL s1 t = true ∧ wp (fv ρ s1) (fun d s2 => ∃ s3, extS s2 t d = some s3 ∧ N ρ s3) X) X := by
  unfold sExtT
  rw [wps_then]
  congr 1
  funext t s1
  by_cases h : isTokL s1 t = true
  · rw [if_pos h, wps_then]
    refine propext ⟨fun q => ⟨h, ?_⟩, fun q => ?_⟩
    · refine wp_mono q (fun d s2 q => ?_) fun _ _ z => z
      cases ha : extS s2 t d with
      | none => rw [ha] at q; simp [wps] at q
      | some s3 => rw [ha] at q; exact ⟨s3, rfl, by simpa [wps] using q⟩
    · refine wp_mono q.2 (fun d s2 q => ?_) fun _ _ z => z
      obtain ⟨s3, e, q⟩ := q
      rw [e]
      simpa [wps] using q
  · rw [if_neg h]
    exact propext ⟨fun q => by simp [wps] at q, fun q => absurd q.1 h⟩
theorem tree_text_ok {t : Tr} {s : S} (hk : okT t) (hl : (trL t).length ≤ 100000) (hn : trN t ≤ 100000) : wp (D__law_tree_text [trD t] s) (fun a s' => a = .str (stL (trL t)) ∧ s' = s) fun _ _ => False := by
  refine wp_scope ?_
  walk_at "b"
  (try walk_at "d")
  refine ⟨by simp [flats, flat_tr], ?_⟩
  refine wpw_of (fun ρ s' => ∃ (Sk : List It) (ws : List (List Nat)), ρ = [.dat (trD t), .dat (.tok s.length), .own (ws.map fun w => D.str (stL w)), .emp] ∧ s' = s ++ [.l (Sk.map itD)] ∧ (∀ x ∈ Sk, itOk x) ∧ ws.flatten ++ remL Sk = trL t ∧ ws.length + remN Sk = trN t) (fun ρ => match ρ with
    | [_, _, .own ds, _] => trN t - ds.length
    | _ => 0) ⟨[.t t], [], rfl, rfl, fun x hx => by rw [List.mem_singleton.mp hx]; exact hk, by simp [remL, itL], by simp [remN, itN]⟩ ?_
  rintro _ _ ⟨Sk, ws, rfl, rfl, ok, eL, eN⟩
  (try walk_at "d")
  refine ⟨_, ne_nilE (new_at s _) (oks_its ok), ?_⟩
  rcases List.eq_nil_or_concat Sk with rfl | ⟨Sk, x, rfl⟩
  · refine ⟨_, rfl, ?_⟩
    rw [if_neg (by simp)]
    (try walk_at "d")
    have eL : ws.flatten = trL t := by simpa [remL] using eL
    have eN : ws.length = trN t := by simpa [remN] using eN
    have sm : ((ws.map stL).map fun z : Str => z.length).sum = (trL t).length := by
      rw [← eL, List.length_flatten, List.map_map]
      congr 1
    have jo : dJoin (Str.ofString "") (.lst (ws.map fun w => D.str (stL w))) = some (.str (stL (trL t))) := by
      have e1 : (ws.map fun w => D.str (stL w)) = (ws.map stL).map D.str := by rw [List.map_map]; rfl
      rw [e1]
      unfold dJoin
      show (match strsOf ((ws.map stL).map D.str) with
        | some ys => if (ys.map fun z : Str => z.length).sum + ys.length * (Str.ofString "").length ≤ 16777216 then some (D.str (Txt.join (Str.ofString "") ys)) else none
        | none => none) = _
      rw [strs_map]
      simp only
      rw [if_pos (by rw [sm, len_tl (Str.ofString ""), tl0]; simp; omega)]
      congr 2
      refine stepX.mpr ?_
      show tl (Txt.join _ _) = trL t
      rw [join_eq, tl_join, tl0, joinL_flat, List.map_map]
      rw [show ws.map (tl ∘ stL) = ws from (List.map_congr_left fun w _ => rfl).trans (List.map_id ws)]
      exact eL
    exact ⟨_, jo, rfl, ⟨_, rfl⟩, rfl, rfl⟩
  · rw [List.concat_eq_append] at *
    refine ⟨_, rfl, ?_⟩
    rw [if_pos (by simp)]
    have ox := ok x (by simp)
    have oS : ∀ y ∈ Sk, itOk y := fun y hy => ok y (List.mem_append_left _ hy)
    rw [remL_snoc] at eL
    rw [remN_snoc] at eN
    walk_at "u"
    (try walk_at "d")
    refine ⟨_, pop_at (ds := Sk.map itD) (d := itD x) (by rw [new_at]; simp), ?_⟩
    have es : (s ++ [Cell.l ((Sk ++ [x]).map itD)]).set s.length (.l (Sk.map itD)) = s ++ [.l (Sk.map itD)] := by
      rw [List.set_append_right _ _ (Nat.le_refl _)]
      simp
    rw [es]
    (try walk_at "d")
    have wl : ws.length ≤ 100000 := by omega
    cases x with
    | w L =>
      refine ⟨_, rfl, _, rfl, ?_⟩
      rw [if_pos rfl]
      have xn : itN (.w L) = 1 := rfl
      exact ⟨by simp; omega, ⟨Sk, ws ++ [L], by simp [itD], rfl, oS, by rw [← eL]; simp [itL], by simp; omega⟩, by simp; omega⟩
    | n =>
      refine ⟨_, rfl, _, rfl, ?_⟩
      rw [if_neg (by decide)]
      refine ⟨_, rfl, _, rfl, ?_⟩
      rw [if_pos rfl, show Str.ofString "-" = stL [45] from stepX.mpr (by rw [tlm]; rfl)]
      have xn : itN .n = 1 := rfl
      exact ⟨by simp; omega, ⟨Sk, ws ++ [[45]], by simp, rfl, oS, by rw [← eL]; simp [itL], by simp; omega⟩, by simp; omega⟩
    | t y =>
      cases y with
      | none =>
        refine ⟨_, rfl, _, rfl, ?_⟩
        rw [if_neg (by decide)]
        refine ⟨_, rfl, _, rfl, ?_⟩
        rw [if_neg (by decide)]
        refine ⟨_, rfl, _, rfl, _, rfl, ?_⟩
        rw [if_pos (by decide), show Str.ofString "n" = stL [110] from stepX.mpr (by rw [tl_ofString]; rfl)]
        have xn : itN (.t .none) = 1 := rfl
        exact ⟨by simp; omega, ⟨Sk, ws ++ [[110]], by simp, rfl, oS, by rw [← eL]; simp [itL, trL], by simp; omega⟩, by simp; omega⟩
      | come y =>
        have ex : itD (.t (.come y)) = .tup [.str "come", trD y] := rfl
        rw [ex]
        (try walk_at "d")
        (try rw [if_neg (by decide)])
        (try rw [if_pos (by decide)])
        refine ⟨_, ix_come, by simp; omega, isTok_at, _, app_at (flat_tr y) (by have := remN_le (Sk := Sk); simp; omega), ?_⟩
        have xn : itN (.t (.come y)) = 1 + trN y := rfl
        rw [show Str.ofString "c" = stL [99] from stepX.mpr (by rw [tlc]; rfl)]
        exact ⟨⟨Sk ++ [.t y], ws ++ [[99]], by simp, by simp [itD], fun z hz => by
          rcases List.mem_append.mp hz with hz | hz
          · exact oS z hz
          · rw [List.mem_singleton.mp hz]; exact ox, by rw [← eL, remL_snoc]; simp [itL, trL], by rw [remN_snoc]; simp [itN]; omega⟩, by simp; omega⟩
      | go y =>
        have ex : itD (.t (.go y)) = .tup [.str "go", trD y] := rfl
        rw [ex]
        (try walk_at "d")
        (try rw [if_neg (by decide)])
        (try rw [if_pos (by decide)])
        refine ⟨_, ix_go, by simp; omega, isTok_at, _, app_at (flat_tr y) (by have := remN_le (Sk := Sk); simp; omega), ?_⟩
        have xn : itN (.t (.go y)) = 1 + trN y := rfl
        rw [show Str.ofString "g" = stL [103] from stepX.mpr (by rw [tlg]; rfl)]
        exact ⟨⟨Sk ++ [.t y], ws ++ [[103]], by simp, by simp [itD], fun z hz => by
          rcases List.mem_append.mp hz with hz | hz
          · exact oS z hz
          · rw [List.mem_singleton.mp hz]; exact ox, by rw [← eL, remL_snoc]; simp [itL, trL], by rw [remN_snoc]; simp [itN]; omega⟩, by simp; omega⟩
      | rs k a b c =>
        have ex : itD (.t (.rs k a b c)) = .tup [.str "rule", .int (k : Int), trD a, trD b, trD c] := rfl
        rw [ex]
        (try walk_at "d")
        have kl := numL_len (n := k) (k := 2) (by decide) (by have h12 : k < 12 := ox.1; omega)
        have sl := remN_le (Sk := Sk)
        rw [if_neg (by decide), if_neg (by decide)]
        refine ⟨log_ok (Nat.lt_trans ox.1 (by decide)), by simp only [len_tl, tlp, tl_nat, List.length_cons, List.length_nil]; omega, by simp only [len_tl, tl_append, tlp, tls, tl_nat, List.length_append, List.length_cons, List.length_nil]; omega, by simp; omega, ?_⟩
        rw [wps_extT]
        (try walk_at "d")
        refine ⟨isTok_at, _, ext_at (by simp [flats, flat, flat_tr]) (by simp; omega), ?_⟩
        rw [show Str.ofString "(" ++ Str.ofString (toString ((k : Nat) : Int)) ++ Str.ofString " " = stL (40 :: (numL k ++ [32])) from stepX.mpr (by rw [tl_append, tl_append, tlp, tls, tl_nat]; simp [tl_stL]),
          show Str.ofString ")" = stL [41] from stepX.mpr (by rw [tlr]; rfl), show Str.ofString " " = stL [32] from stepX.mpr (by rw [tls]; rfl)]
        exact ⟨⟨Sk ++ [.w [41], .t c, .w [32], .t b, .w [32], .t a], ws ++ [40 :: (numL k ++ [32])], by simp, by simp [itD], fun z hz => by
          rcases List.mem_append.mp hz with hz | hz
          · exact oS z hz
          · simp only [List.mem_cons, List.not_mem_nil, or_false] at hz
            rcases hz with rfl | rfl | rfl | rfl | rfl | rfl
            · exact .inl rfl
            · exact ox.2.2.2
            · exact .inr rfl
            · exact ox.2.2.1
            · exact .inr rfl
            · exact ox.2.1, by rw [← eL]; simp [remL, itL, trL], by simp [remN, itN, trN] at eN ⊢; omega⟩, by simp [itN, trN] at eN ⊢; omega⟩
      | rn k b c =>
        have ex : itD (.t (.rn k b c)) = .tup [.str "rule", .int (k : Int), .non, trD b, trD c] := rfl
        rw [ex]
        (try walk_at "d")
        have kl := numL_len (n := k) (k := 2) (by decide) (by have h12 : k < 12 := ox.1; omega)
        have sl := remN_le (Sk := Sk)
        rw [if_neg (by decide), if_neg (by decide)]
        refine ⟨log_ok (Nat.lt_trans ox.1 (by decide)), by simp only [len_tl, tlp, tl_nat, List.length_cons, List.length_nil]; omega, by simp only [len_tl, tl_append, tlp, tls, tl_nat, List.length_append, List.length_cons, List.length_nil]; omega, by simp; omega, ?_⟩
        rw [wps_extT]
        (try walk_at "d")
        refine ⟨isTok_at, _, ext_at (by simp [flats, flat, flat_tr]) (by simp; omega), ?_⟩
        rw [show Str.ofString "(" ++ Str.ofString (toString ((k : Nat) : Int)) ++ Str.ofString " " = stL (40 :: (numL k ++ [32])) from stepX.mpr (by rw [tl_append, tl_append, tlp, tls, tl_nat]; simp [tl_stL]),
          show Str.ofString ")" = stL [41] from stepX.mpr (by rw [tlr]; rfl), show Str.ofString " " = stL [32] from stepX.mpr (by rw [tls]; rfl)]
        exact ⟨⟨Sk ++ [.w [41], .t c, .w [32], .t b, .w [32], .n], ws ++ [40 :: (numL k ++ [32])], by simp, by simp [itD], fun z hz => by
          rcases List.mem_append.mp hz with hz | hz
          · exact oS z hz
          · simp only [List.mem_cons, List.not_mem_nil, or_false] at hz
            rcases hz with rfl | rfl | rfl | rfl | rfl | rfl
            · exact .inl rfl
            · exact ox.2.2
            · exact .inr rfl
            · exact ox.2.1
            · exact .inr rfl
            · exact trivial, by rw [← eL]; simp [remL, itL, trL], by simp [remN, itN, trN] at eN ⊢; omega⟩, by simp [itN, trN] at eN ⊢; omega⟩
open TL
/-! ### alike -/
mutual
def dW : D → Nat
  | .tup xs => dWs xs + 1
  | _ => 1
def dWs : List D → Nat
  | [] => 0
  | x :: xs => dW x + dWs xs
end
def pW : D → Nat
  | .tup (a :: _) => dW a
  | _ => 0
theorem dW_pos (d : D) : 1 ≤ dW d := by cases d <;> simp [dW]
def two (d : D) : D := .tup [d, d]
structure Part (d : D) : Prop where
  ok : okD d = true
  fl : flat d = true
  k : d = .non ∨ (∃ x, d = .str x) ∨ (∃ i : Int, d = .int i) ∨ ∃ t, d = trD t
theorem part_non : Part .non := ⟨rfl, rfl, .inl rfl⟩
theorem part_str {x : Str} (h : okD (.str x) = true) : Part (.str x) := ⟨h, rfl, .inr (.inl ⟨x, rfl⟩)⟩
theorem part_int (i : Int) : Part (.int i) := ⟨rfl, rfl, .inr (.inr (.inl ⟨i, rfl⟩))⟩
theorem part_tr (t : Tr) : Part (trD t) := ⟨ok_tr t, flat_tr t, .inr (.inr (.inr ⟨t, rfl⟩))⟩
theorem parts_tr (t : Tr) : ∃ xs, trD t = .tup xs ∧ (∀ d ∈ xs, Part d) ∧ xs.length ≤ 5 := by
  have n1 : Part (.str "none") := part_str (by decide +kernel)
  have n2 : Part (.str "come") := part_str (by decide +kernel)
  have n3 : Part (.str "go") := part_str (by decide +kernel)
  have n4 : Part (.str "rule") := part_str (by decide +kernel)
  cases t with
  | none => exact ⟨_, rfl, by simp only [List.forall_mem_cons, List.not_mem_nil, false_implies, implies_true, and_true]; exact n1, by simp⟩
  | come t => exact ⟨_, rfl, by simp only [List.forall_mem_cons, List.not_mem_nil, false_implies, implies_true, and_true]; exact ⟨n2, part_tr _⟩, by simp⟩
  | go t => exact ⟨_, rfl, by simp only [List.forall_mem_cons, List.not_mem_nil, false_implies, implies_true, and_true]; exact ⟨n3, part_tr _⟩, by simp⟩
  | rs k a b c => exact ⟨_, rfl, by simp only [List.forall_mem_cons, List.not_mem_nil, false_implies, implies_true, and_true]; exact ⟨n4, part_int _, part_tr _, part_tr _, part_tr _⟩, by simp⟩
  | rn k b c => exact ⟨_, rfl, by simp only [List.forall_mem_cons, List.not_mem_nil, false_implies, implies_true, and_true]; exact ⟨n4, part_int _, part_non, part_tr _, part_tr _⟩, by simp⟩
theorem zip_two : ∀ xs : List D, zipD xs xs = xs.map two
  | [] => rfl
  | x :: xs => by
    have := zip_two xs
    unfold zipD at this ⊢
    rw [List.zipWith_cons_cons, this, List.map_cons]
    rfl
theorem sum_two : ∀ xs : List D, ((xs.map two).map pW).sum = dWs xs
  | [] => rfl
  | x :: xs => by
    have := sum_two xs
    simp only [List.map_cons, List.sum_cons, this, dWs]
    rfl
theorem oks_two : ∀ {P : List D}, (∀ d ∈ P, Part d) → okDs (P.map two) = true
  | [], _ => rfl
  | x :: P, h => by
    have := (h x (by simp)).ok
    have := oks_two fun y hy => h y (List.mem_cons_of_mem _ hy)
    simp [okDs, okD, two, *]
theorem flats_two : ∀ {P : List D}, (∀ d ∈ P, Part d) → flats (P.map two) = true
  | [], _ => rfl
  | x :: P, h => by
    have := (h x (by simp)).fl
    have := flats_two fun y hy => h y (List.mem_cons_of_mem _ hy)
    simp [flats, flat, two, *]
theorem len_two : ∀ P : List D, P.length ≤ ((P.map two).map pW).sum
  | [] => by simp
  | x :: P => by
    have := len_two P
    have h : pW (two x) = dW x := rfl
    have := dW_pos x
    simp only [List.map_cons, List.sum_cons, List.length_cons, h]
    omega
theorem alike_ok {t : Tr} {s : S} (hn : dW (trD t) ≤ 1000000) : wp (D__law_alike [trD t, trD t] s) (fun a s' => a = .bl true ∧ s' = s) fun _ _ => False := by
  refine wp_scope ?_
  walk_at "b"
  (try walk_at "d")
  refine ⟨by simp [flats, flat, flat_tr], ?_⟩
  refine wpw_ofS (fun ρ s' => ∃ P : List D, ρ = [.dat (trD t), .dat (trD t), .dat (.tok s.length), .emp, .emp] ∧ s' = s ++ [.l (P.map two)] ∧ (∀ d ∈ P, Part d) ∧ ((P.map two).map pW).sum ≤ 1000000) (fun _ s' => match s'[s.length]? with
    | some (.l ds) => (ds.map pW).sum
    | _ => 0) ⟨[trD t], rfl, rfl, fun d hd => by rw [List.mem_singleton.mp hd]; exact part_tr t, by simp [two, pW]; exact hn⟩ ?_
  rintro _ _ ⟨P, rfl, rfl, ok, hm⟩
  (try walk_at "d")
  refine ⟨_, ne_nilE (new_at s _) (oks_two ok), ?_⟩
  rcases List.eq_nil_or_concat P with rfl | ⟨P, d, rfl⟩
  · refine ⟨_, rfl, ?_⟩
    rw [if_neg (by simp)]
    (try walk_at "d")
    exact ⟨⟨_, rfl⟩, rfl⟩
  · rw [List.concat_eq_append] at *
    refine ⟨_, rfl, ?_⟩
    rw [if_pos (by simp)]
    have od := ok d (by simp)
    have oP : ∀ y ∈ P, Part y := fun y hy => ok y (List.mem_append_left _ hy)
    have es : (s ++ [Cell.l ((P ++ [d]).map two)]).set s.length (.l (P.map two)) = s ++ [.l (P.map two)] := by
      rw [List.set_append_right _ _ (Nat.le_refl _)]
      simp
    walk_at "u"
    (try walk_at "d")
    refine ⟨_, pop_at (ds := P.map two) (d := two d) (by rw [new_at]; simp), ?_⟩
    rw [es]
    rw [show two d = D.tup [d, d] from rfl]
    have e0 : (((P ++ [d]).map two).map pW).sum = ((P.map two).map pW).sum + dW d := by
      rw [List.map_append, List.map_append, List.sum_append]
      simp [two, pW]
    have lP := len_two P
    (try walk_at "d")
    rcases od.k with rfl | ⟨x, rfl⟩ | ⟨i, rfl⟩ | ⟨y, rfl⟩
    · refine ⟨_, rfl, _, rfl, ?_⟩
      rw [if_neg (by decide)]
      (try walk_at "d")
      have d1 : dW D.non = 1 := by simp [dW]
      rw [d1] at e0
      refine ⟨⟨P, rfl, oP, by omega⟩, ?_⟩
      rw [new_at, new_at]
      show ((P.map two).map pW).sum < (((P ++ [D.non]).map two).map pW).sum
      omega
    · refine ⟨_, rfl, _, rfl, ?_⟩
      rw [if_neg (by decide)]
      (try walk_at "d")
      refine ⟨_, rfl, _, rfl, ?_⟩
      rw [if_neg (by decide)]
      have d1 : dW (D.str x) = 1 := by simp [dW]
      rw [d1] at e0
      refine ⟨⟨P, rfl, oP, by omega⟩, ?_⟩
      rw [new_at, new_at]
      show ((P.map two).map pW).sum < (((P ++ [(D.str x)]).map two).map pW).sum
      omega
    · refine ⟨_, rfl, _, rfl, ?_⟩
      rw [if_neg (by decide)]
      (try walk_at "d")
      have d1 : dW (D.int i) = 1 := by simp [dW]
      rw [d1] at e0
      refine ⟨⟨P, rfl, oP, by omega⟩, ?_⟩
      rw [new_at, new_at]
      show ((P.map two).map pW).sum < (((P ++ [(D.int i)]).map two).map pW).sum
      omega
    · obtain ⟨xs, ex, px, l5⟩ := parts_tr y
      rw [ex] at e0 hm
      rw [ex]
      refine ⟨_, rfl, _, rfl, ?_⟩
      rw [if_pos rfl]
      refine ⟨_, rfl, _, rfl, ?_⟩
      rw [if_neg (by decide)]
      refine ⟨_, len_tup, _, len_tup, ?_⟩
      (try walk_at "d")
      rw [wps_extT]
      (try walk_at "d")
      have lz : dLZT [D.tup xs, D.tup xs] = some (.lst (xs.map two)) := by
        show (if xs.length = xs.length then some (D.lst (zipD xs xs)) else none) = _
        rw [if_pos rfl, zip_two]
      have dx : dW (D.tup xs) = dWs xs + 1 := by simp [dW]
      have sx := sum_two xs
      rw [dx] at e0
      have lx := len_two xs
      refine ⟨isTok_at, _, lz, _, ext_at (flats_two px) (by simp; omega), ⟨P ++ xs, by simp, fun z hz => ?_, by rw [List.map_append, List.map_append, List.sum_append]; omega⟩, ?_⟩
      · rcases List.mem_append.mp hz with hz | hz
        · exact oP z hz
        · exact px z hz
      · rw [new_at, new_at]
        show ((P.map two ++ xs.map two).map pW).sum < (((P ++ [D.tup xs]).map two).map pW).sum
        rw [List.map_append, List.sum_append]
        omega
open TL
/-! ### trees drawn -/
structure Sm (M : Nat) (t : Tr) : Prop where
  ok : okT t
  l : (trL t).length ≤ M
  n : trN t ≤ M
  w : dW (trD t) ≤ M
theorem w_none : dW (trD .none) = 2 := by simp [trD, dW, dWs]
theorem w_come (t : Tr) : dW (trD (.come t)) = dW (trD t) + 2 := by simp [trD, dW, dWs]; omega
theorem w_go (t : Tr) : dW (trD (.go t)) = dW (trD t) + 2 := by simp [trD, dW, dWs]; omega
theorem w_rs (k : Nat) (a b c : Tr) : dW (trD (.rs k a b c)) = dW (trD a) + dW (trD b) + dW (trD c) + 3 := by simp [trD, dW, dWs]; omega
theorem w_rn (k : Nat) (b c : Tr) : dW (trD (.rn k b c)) = dW (trD b) + dW (trD c) + 4 := by simp [trD, dW, dWs]; omega
theorem sm_none : Sm 2 .none := ⟨trivial, by decide, by decide, by rw [w_none]; decide⟩
theorem Sm.mono {M N : Nat} {t : Tr} (h : Sm M t) (hM : M ≤ N) : Sm N t := ⟨h.ok, Nat.le_trans h.l hM, Nat.le_trans h.n hM, Nat.le_trans h.w hM⟩
theorem sm_come {M : Nat} {t : Tr} (h : Sm M t) : Sm (M + 2) (.come t) := ⟨h.ok, by have := h.l; simp [trL]; omega, by have := h.n; simp [trN]; omega, by have := h.w; rw [w_come]; omega⟩
theorem sm_go {M : Nat} {t : Tr} (h : Sm M t) : Sm (M + 2) (.go t) := ⟨h.ok, by have := h.l; simp [trL]; omega, by have := h.n; simp [trN]; omega, by have := h.w; rw [w_go]; omega⟩
theorem sm_rs {A B C k : Nat} {a b c : Tr} (hk : k < 12) (ha : Sm A a) (hb : Sm B b) (hc : Sm C c) : Sm (A + B + C + 12) (.rs k a b c) := ⟨⟨hk, ha.ok, hb.ok, hc.ok⟩, by
    have := numL_len (n := k) (k := 2) (by decide) (by omega)
    have := ha.l; have := hb.l; have := hc.l; simp [trL]; omega, by have := ha.n; have := hb.n; have := hc.n; simp [trN]; omega, by have := ha.w; have := hb.w; have := hc.w; rw [w_rs]; omega⟩
theorem sm_rn {B C k : Nat} {b c : Tr} (hk : k < 12) (hb : Sm B b) (hc : Sm C c) : Sm (B + C + 12) (.rn k b c) := ⟨⟨hk, hb.ok, hc.ok⟩, by
    have := numL_len (n := k) (k := 2) (by decide) (by omega)
    have := hb.l; have := hc.l; simp [trL]; omega, by have := hb.n; have := hc.n; simp [trN]; omega, by have := hb.w; have := hc.w; rw [w_rn]; omega⟩
def WrT (M d : Nat) (x : D) : Prop := ∃ t, x = trD t ∧ Sm M t ∧ dep t ≤ d
theorem wrapped_ok {a b c : Tr} {A B C : Nat} {K : Int} {r s : S} (ha : Sm A a) (hb : Sm B b) (hc : Sm C c) (hK : K ≤ 60000) (h : Pen K r s) :
    wp (D__law_wrapped [.tok 1, trD a, trD b, trD c] s) (PenD (WrT (A + B + C + 12) (max (dep a) (max (dep b) (dep c)) + 1)) (K + 3) r) fun _ _ => False := by
  unfold D__law_wrapped
  walk_at "b"
  (try walk_at "d")
  refine wpc_of (draw_ok (by decide) (by decide) (by rw [p200]; omega) h) ?_
  rintro _ s1 ⟨y1, rfl, y10, y11, p1⟩
  (try walk_at "d")
  refine wpc_of (draw_ok (by decide) (by decide) (by rw [p200]; omega) p1) ?_
  rintro _ s2 ⟨y2, rfl, y20, y21, p2⟩
  (try walk_at "d")
  refine wpc_of (draw_ok (by decide) (by decide) (by rw [p200]; omega) p2) ?_
  rintro _ s3 ⟨y3, rfl, y30, y31, p3⟩
  (try walk_at "d")
  have al : ∀ k : Nat, k < 12 → ∀ x ∈ [D.tup [D.str (Str.ofString "come"), trD a], D.tup [D.str (Str.ofString "go"), trD a],
              D.tup [D.str (Str.ofString "rule"), D.int (k : Int), trD a, trD b, trD c],
              D.tup [D.str (Str.ofString "rule"), D.int (k : Int), trD b, trD a, trD c],
              D.tup [D.str (Str.ofString "rule"), D.int (k : Int), trD b, trD c, trD a],
              D.tup [D.str (Str.ofString "rule"), D.int (k : Int), D.non, trD a, trD c],
              D.tup [D.str (Str.ofString "rule"), D.int (k : Int), D.non, trD b, trD a]], WrT (A + B + C + 12) (max (dep a) (max (dep b) (dep c)) + 1) x := fun k hk x hx => by
    simp only [List.mem_cons, List.not_mem_nil, or_false] at hx
    rcases hx with rfl | rfl | rfl | rfl | rfl | rfl | rfl
    · exact ⟨.come a, rfl, (sm_come ha).mono (by omega), by simp [dep]; omega⟩
    · exact ⟨.go a, rfl, (sm_go ha).mono (by omega), by simp [dep]; omega⟩
    · exact ⟨.rs k a b c, rfl, (sm_rs hk ha hb hc).mono (by omega), by simp [dep]⟩
    · exact ⟨.rs k b a c, rfl, (sm_rs hk hb ha hc).mono (by omega), by simp [dep]; omega⟩
    · exact ⟨.rs k b c a, rfl, (sm_rs hk hb hc ha).mono (by omega), by simp [dep]; omega⟩
    · exact ⟨.rn k a c, rfl, (sm_rn hk ha hc).mono (by omega), by simp [dep]; omega⟩
    · exact ⟨.rn k b a, rfl, (sm_rn hk hb ha).mono (by omega), by simp [dep]; omega⟩
  refine ite2 (fun _ => ?_) (fun _ => ?_)
  · exact at_allD (al 11 (by decide)) y10 y11 fun x hx => ⟨hx, pen_mono p3 (by omega)⟩
  · obtain ⟨k, rfl⟩ := Int.eq_ofNat_of_zero_le y20
    exact at_allD (al k (by omega)) y10 y11 fun x hx => ⟨hx, pen_mono p3 (by omega)⟩
theorem small_ok {K : Int} {r s : S} (hK : K ≤ 50000) (h : Pen K r s) : wp (D__law_small [.tok 1] s) (PenD (WrT 40 3) (K + 7) r) fun _ _ => False := by
  unfold D__law_small
  walk_at "b"
  (try walk_at "d")
  refine wpc_of (draw_ok (by decide) (by decide) (by rw [p200]; omega) h) ?_
  rintro _ s1 ⟨y1, rfl, y10, y11, p1⟩
  (try walk_at "d")
  refine ⟨by omega, ?_⟩
  refine wpl_u (fun z : Tr => [(1, .dat (trD z))]) (fun i z s' => Sm (2 + 16 * i) z ∧ dep z ≤ i + 1 ∧ Pen (K + 1 + 3 * (i : Int)) r s') .none rfl ⟨sm_none, by decide, by simpa using p1⟩ (fun i d z s' hd hz => ?_) (fun z s' hz => ?_)
  · obtain ⟨hi, rfl⟩ := rng0 hd
    obtain ⟨z1, z2, z3⟩ := hz
    refine ⟨_, rfl, ?_⟩
    walk_at "u"
    (try walk_at "d")
    refine wpc_of (wrapped_ok (b := .none) (c := .none) z1 sm_none sm_none (by omega) z3) ?_
    rintro _ s2 ⟨⟨t, rfl, t1, t2⟩, p2⟩
    (try walk_at "d")
    exact ⟨t, rfl, t1.mono (by omega), by simp [dep] at t2; omega, pen_mono p2 (by omega)⟩
  · obtain ⟨z1, z2, z3⟩ := hz
    rw [rngD_len] at z1 z2 z3
    walk_at "u"
    (try walk_at "d")
    exact ⟨⟨z, rfl, z1.mono (by omega), by omega⟩, pen_mono z3 (by omega)⟩
theorem tree_ok {K : Int} {r s : S} (hK : K ≤ 30000) (h : Pen K r s) : wp (D__law_tree [.tok 1] s) (PenD (WrT 5000 70) (K + 900) r) fun _ _ => False := by
  unfold D__law_tree
  walk_at "b"
  (try walk_at "d")
  refine wpc_of (draw_ok (by decide) (by decide) (by rw [p200]; omega) h) ?_
  rintro _ s1 ⟨y1, rfl, y10, y11, p1⟩
  (try walk_at "d")
  refine wpc_of (draw_ok (by decide) (by decide) (by rw [p200]; omega) p1) ?_
  rintro _ s2 ⟨y2, rfl, y20, y21, p2⟩
  (try walk_at "d")
  refine wpc_of (draw_ok (by decide) (by decide) (by rw [p200]; omega) p2) ?_
  rintro _ s3 ⟨y3, rfl, y30, y31, p3⟩
  (try walk_at "d")
  have pick : ∃ m : Nat, atI [D.int y2, .int y3, .int 69] y1 = some (.int (m : Int)) ∧ m ≤ 69 := by
    have : y1 = 0 ∨ y1 = 1 ∨ y1 = 2 := by omega
    rcases this with rfl | rfl | rfl
    · exact ⟨y2.toNat, by rw [Int.toNat_of_nonneg y20]; rfl, by omega⟩
    · exact ⟨y3.toNat, by rw [Int.toNat_of_nonneg y30]; rfl, by omega⟩
    · exact ⟨69, rfl, by omega⟩
  obtain ⟨m, em, hm⟩ := pick
  refine ⟨_, em, ?_⟩
  (try walk_at "d")
  refine ⟨by omega, ?_⟩
  rw [Int.toNat_natCast]
  refine wpl_u (fun z : Tr => [(3, .dat (trD z))]) (fun i z s' => Sm (2 + 60 * i) z ∧ dep z ≤ i + 1 ∧ Pen (K + 3 + 10 * (i : Int)) r s') .none rfl ⟨sm_none, by decide, by simpa using pen_mono p3 (by omega)⟩ (fun i d z s' hd hz => ?_) (fun z s' hz => ?_)
  · obtain ⟨hi, rfl⟩ := rng0 hd
    obtain ⟨z1, z2, z3⟩ := hz
    refine ⟨_, rfl, ?_⟩
    walk_at "u"
    (try walk_at "d")
    have gn : Sm 4 (.go .none) := sm_go sm_none
    refine ite2 (fun i2 => ?_) (fun i2 => ?_)
    · refine ite2 (fun i60 => ?_) (fun i60 => ?_)
      · refine wpc_of (small_ok (by omega) z3) ?_
        rintro _ s5 ⟨⟨o, rfl, o1, o2⟩, p5⟩
        (try walk_at "d")
        rw [if_pos (by omega)]
        refine wpc_of (wrapped_ok (b := o) (c := .go .none) z1 o1 gn (by omega) p5) ?_
        rintro _ s2 ⟨⟨t', rfl, t1', t2'⟩, p2'⟩
        (try walk_at "d")
        exact ⟨t', rfl, t1'.mono (by omega), by simp [dep] at t2'; omega, pen_mono p2' (by omega)⟩
      · rw [if_pos (by omega)]
        refine wpc_of (wrapped_ok (b := .none) (c := .go .none) z1 sm_none gn (by omega) z3) ?_
        rintro _ s2 ⟨⟨t', rfl, t1', t2'⟩, p2'⟩
        (try walk_at "d")
        exact ⟨t', rfl, t1'.mono (by omega), by simp [dep] at t2'; omega, pen_mono p2' (by omega)⟩
    · refine ite2 (fun i0 => ?_) (fun i0 => ?_)
      · skip
        refine wpc_of (wrapped_ok (b := .none) (c := .go .none) z1 sm_none gn (by omega) z3) ?_
        rintro _ s2 ⟨⟨t', rfl, t1', t2'⟩, p2'⟩
        (try walk_at "d")
        exact ⟨t', rfl, t1'.mono (by omega), by simp [dep] at t2'; omega, pen_mono p2' (by omega)⟩
      · skip
        refine wpc_of (wrapped_ok (b := .none) (c := .none) z1 sm_none sm_none (by omega) z3) ?_
        rintro _ s2 ⟨⟨t', rfl, t1', t2'⟩, p2'⟩
        (try walk_at "d")
        exact ⟨t', rfl, t1'.mono (by omega), by simp [dep] at t2'; omega, pen_mono p2' (by omega)⟩
  · obtain ⟨z1, z2, z3⟩ := hz
    rw [rngD_len] at z1 z2 z3
    walk_at "u"
    (try walk_at "d")
    exact ⟨⟨z, rfl, z1.mono (by omega), by omega⟩, pen_mono z3 (by omega)⟩
open TL
/-! ### the law */ -/
def ThT (t : Tr) : Prop := Thing 1920 (dep t) (60 * dW (trD t)) (trD t)
theorem th_w {x : Str} (h : (x.cps.toList.all fun c => decide (c < 16 ^ 8)) = true) (hl : x.length ≤ 4) : Thing 1920 0 42 (.str x) := th_str (k := 4) h hl
theorem th_tr : ∀ t : Tr, okT t → ThT t
  | .none, _ => by
    have a : Thing 1920 0 42 (.str "none") := th_w (by decide +kernel) (by decide +kernel)
    unfold ThT
    rw [w_none]
    exact (th_tups (ths_cons a ths_nil)).mono (by decide) (by decide)
  | .come t, h => by
    have a : Thing 1920 0 42 (.str "come") := th_w (by decide +kernel) (by decide +kernel)
    have ih := th_tr t h
    unfold ThT at ih ⊢
    rw [w_come]
    exact (th_tups (ths_cons a (ths_cons ih ths_nil))).mono (by simp [dep]) (by omega)
  | .go t, h => by
    have a : Thing 1920 0 42 (.str "go") := th_w (by decide +kernel) (by decide +kernel)
    have ih := th_tr t h
    unfold ThT at ih ⊢
    rw [w_go]
    exact (th_tups (ths_cons a (ths_cons ih ths_nil))).mono (by simp [dep]) (by omega)
  | .rs k a b c, h => by
    have n : Thing 1920 0 42 (.str "rule") := th_w (by decide +kernel) (by decide +kernel)
    have i : Thing 1920 0 66 (.int (k : Int)) := th_lit (by rw [Int.natAbs_natCast]; exact Nat.lt_trans h.1 (by decide)) (by decide)
    have ia := th_tr a h.2.1
    have ib := th_tr b h.2.2.1
    have ic := th_tr c h.2.2.2
    unfold ThT at ia ib ic ⊢
    rw [w_rs]
    exact (th_tups (ths_cons n (ths_cons i (ths_cons ia (ths_cons ib (ths_cons ic ths_nil)))))).mono (by simp [dep]) (by omega)
  | .rn k b c, h => by
    have n : Thing 1920 0 42 (.str "rule") := th_w (by decide +kernel) (by decide +kernel)
    have i : Thing 1920 0 66 (.int (k : Int)) := th_lit (by rw [Int.natAbs_natCast]; exact Nat.lt_trans h.1 (by decide)) (by decide)
    have ib := th_tr b h.2.1
    have ic := th_tr c h.2.2
    unfold ThT at ib ic ⊢
    rw [w_rn]
    exact (th_tups (ths_cons n (ths_cons i (ths_cons th_non (ths_cons ib (ths_cons ic ths_nil)))))).mono (by simp [dep]) (by omega)
structure Good (t : Tr) : Prop where
  sm : Sm 5000 t
  d : dep t ≤ 70
theorem rep_trees {ts : List Tr} (h : ∀ t ∈ ts, Good t) (hl : ts.length ≤ 3) : repD 1920 (.lst (ts.map trD)) = some (.str (toPy (.lst (ts.map trD))).shown) :=
  th_rep (th_lst (n := 70) (w := 300000) (m := 3) (fun x hx => by
    obtain ⟨t, ht, rfl⟩ := List.mem_map.mp hx
    have g := h t ht
    exact (th_tr t g.sm.ok).mono g.d (by have := g.sm.w; omega)) (by rw [List.length_map]; exact hl)) (by decide) (by decide)
theorem law_ok : LawOk D_law := fun ns hns => ok_of_wp <| by
  unfold D_law
  walk_at "b"
  (try walk_at "d")
  refine wpc_of (pen_ok hns) ?_
  rintro _ s0 ⟨rfl, h0⟩
  (try walk_at "d")
  refine ⟨by decide, ?_⟩
  refine wpk_of (by rw [rngD_len]; decide) (comp_inv (fun i acc s' => ∃ ts : List Tr, acc = ts.map trD ∧ ts.length = i ∧ (∀ t ∈ ts, Good t) ∧ Pen (900 * (i : Int)) [] s') ⟨[], rfl, rfl, fun _ h => (nomatch h), by simpa using h0⟩ (fun i d acc s' hd ⟨ts, e1, e2, e3, e4⟩ => ?_) (fun ys s' z => z)) ?_
  · obtain ⟨hi, rfl⟩ := rng0 hd
    have hi : i < 3 := hi
    refine ⟨_, rfl, ?_⟩
    walk_at "u"
    (try walk_at "d")
    refine wpc_of (tree_ok (by omega) e4) ?_
    rintro _ s2 ⟨⟨t, rfl, t1, t2⟩, p2⟩
    (try walk_at "d")
    refine ⟨ts ++ [t], by rw [e1]; simp, by simp [e2], fun z hz => ?_, pen_mono p2 (by omega)⟩
    rcases List.mem_append.mp hz with hz | hz
    · exact e3 z hz
    · rw [List.mem_singleton.mp hz]; exact ⟨t1, t2⟩
  rintro ys s1 ⟨ts, rfl, e2, e3, e4⟩
  rw [rngD_len] at e2
  have e2 : ts.length = 3 := e2
  clear e4
  have rt := rep_trees e3 (by omega)
  (try walk_at "d")
  refine ⟨_, rt, by simp; omega, ?_⟩
  refine wpl_n (fun _ => []) rfl (fun i d hd => ?_) ?_
  · have hm := List.mem_of_getElem? hd
    obtain ⟨t, ht, rfl⟩ : ∃ t ∈ ts, trD t = d := by
      rcases List.mem_append.mp hm with hm | hm
      · exact List.mem_map.mp hm
      · exact List.mem_map.mp (List.mem_reverse.mp hm)
    have g := e3 t ht
    have gl := g.sm.l
    have gn := g.sm.n
    have gw := g.sm.w
    refine ⟨_, rfl, ?_⟩
    walk_at "u"
    (try walk_at "d")
    refine wpc_of (tree_text_ok g.sm.ok (by omega) (by omega)) ?_
    rintro _ _ ⟨rfl, rfl⟩
    (try walk_at "d")
    refine wpc_of (show_ok t 90 _ (by have := g.d; omega) g.sm.ok (by omega)) ?_
    rintro _ _ ⟨rfl, rfl⟩
    (try walk_at "d")
    refine wpc_of (read_steps_ok (t := t) (tl_stL _) (by rw [len_tl, tl_stL]; omega) g.sm.ok g.d) ?_
    rintro _ _ ⟨rfl, rfl⟩
    (try walk_at "d")
    refine wpc_of (alike_ok (by omega)) ?_
    rintro _ _ ⟨rfl, rfl⟩
    (try walk_at "d")
    try exact True.intro
  · walk_at "u"
    (try walk_at "d")
    have en : stL (trL .none) = Str.ofString "n" := stepX.mpr (by rw [tl_ofString]; rfl)
    refine ⟨_, rt, ?_⟩
    (try walk_at "d")
    refine wpc_of (show_ok .none 90 _ (by decide) trivial (by decide)) ?_
    rintro _ _ ⟨rfl, rfl⟩
    rw [en]
    (try walk_at "d")
    refine wpc_of (read_steps_ok (t := .none) (x := Str.ofString "n") (by rw [tl_ofString]; rfl) (by rw [len_tl, tl_ofString]; decide) trivial (by decide)) ?_
    rintro _ _ ⟨rfl, rfl⟩
    (try walk_at "d")
    refine ⟨.bl true, ?_, rfl⟩
    have r : (ready (trD .none) && ready (trD .none)) = true := by decide +kernel
    have q : eqB (trD .none) (trD .none) = true := by decide +kernel
    show (if (ready (trD .none) && ready (trD .none)) = true then some (D.bl (eqB (trD .none) (trD .none))) else none) = _
    rw [if_pos r, q]
end DL
end
open PySem PySem.W PyProof.Rows
set_option maxRecDepth 100000 in
set_option maxHeartbeats 0 in
theorem PySem.Challenge.cw_nopassing_k77_trees_written_and_read_holds : PySem.Challenge.rw_nopassing_k77_trees_written_and_read.Holds := by
  w_on; o_law; k_head; (case hw => w_witness2)
  k_fill
  refine DL.walk_ofG (l := PySem.Challenge.rw_nopassing_k77_trees_written_and_read) (k := 219) (x := "_law_script") rfl rfl ⟨rfl, by decide, by decide⟩ (fun w h Y => PySem.W.kIn_of Y) DL.law_ok ?F
  case F =>
    intro w mg fa h KX G hmg
    refine' DL.law_mk KX G hmg ⟨DL.mkF KX G ?a0 ?l0 ?c0 ?k0, DL.mkF KX G ?a1 ?l1 ?c1 ?k1, DL.mkF KX G ?a2 ?l2 ?c2 ?k2, DL.mkF KX G ?a3 ?l3 ?c3 ?k3, DL.mkF KX G ?a4 ?l4 ?c4 ?k4, DL.mkF KX G ?a5 ?l5 ?c5 ?k5, DL.mkF KX G ?a6 ?l6 ?c6 ?k6, DL.mkF KX G ?a7 ?l7 ?c7 ?k7, DL.mkF KX G ?a8 ?l8 ?c8 ?k8, DL.mkF KX G ?a9 ?l9 ?c9 ?k9, DL.mkF KX G ?a10 ?l10 ?c10 ?k10, DL.mkF KX G ?a11 ?l11 ?c11 ?k11, DL.mkF KX G ?a12 ?l12 ?c12 ?k12, DL.mkS KX G ?u0, DL.mkI KX G ?u1, DL.mkI KX G ?u2, DL.mkN KX G ?z0, DL.mkN KX G ?z1, DL.mkN KX G ?z2, DL.mkN KX G ?z3, DL.mkN KX G ?z4, DL.mkN KX G ?z5, DL.mkN KX G ?z6, DL.mkN KX G ?z7, DL.mkN KX G ?z8, DL.mkN KX G ?z9, DL.mkN KX G ?z10, DL.mkN KX G ?z11, DL.mkXC KX G ?xa0 ?xe0 ?xk0 ?xb0 ?xt0 ⟨?ec0_0, ?ec0_1, ?ec0_2, ?ec0_3, ?ec0_4, ?ec0_5, ?ec0_6, ?ec0_7⟩⟩ ?aL ?lL ?cL ?kL
    (case a0 => k_is); (case l0 => k_is); (case c0 => k_is); (case k0 => k_is); (case a1 => k_is); (case l1 => k_is); (case c1 => k_is); (case k1 => k_is); (case a2 => k_is); (case l2 => k_is); (case c2 => k_is); (case k2 => k_is); (case a3 => k_is); (case l3 => k_is); (case c3 => k_is); (case k3 => k_is); (case a4 => k_is); (case l4 => k_is); (case c4 => k_is); (case k4 => k_is); (case a5 => k_is); (case l5 => k_is); (case c5 => k_is); (case k5 => k_is); (case a6 => k_is); (case l6 => k_is); (case c6 => k_is); (case k6 => k_is); (case a7 => k_is); (case l7 => k_is); (case c7 => k_is); (case k7 => k_is); (case a8 => k_is); (case l8 => k_is); (case c8 => k_is); (case k8 => k_is); (case a9 => k_is); (case l9 => k_is); (case c9 => k_is); (case k9 => k_is); (case a10 => k_is); (case l10 => k_is); (case c10 => k_is); (case k10 => k_is); (case a11 => k_is); (case l11 => k_is); (case c11 => k_is); (case k11 => k_is); (case a12 => k_is); (case l12 => k_is); (case c12 => k_is); (case k12 => k_is); (case u0 => k_is); (case u1 => k_is); (case u2 => k_is); (case z0 => k_is); (case z1 => k_is); (case z2 => k_is); (case z3 => k_is); (case z4 => k_is); (case z5 => k_is); (case z6 => k_is); (case z7 => k_is); (case z8 => k_is); (case z9 => k_is); (case z10 => k_is); (case z11 => k_is); (case xa0 => k_is); (case xe0 => k_exc); (case xk0 => k_is); (case xb0 => k_is); (case xt0 => k_is); (case ec0_0 => first | k_is | rfl | decide +kernel); (case ec0_1 => first | k_is | rfl | decide +kernel); (case ec0_2 => first | k_is | rfl | decide +kernel); (case ec0_3 => first | k_is | rfl | decide +kernel); (case ec0_4 => first | k_is | rfl | decide +kernel); (case ec0_5 => first | k_is | rfl | decide +kernel); (case ec0_6 => first | k_is | rfl | decide +kernel); (case ec0_7 => first | k_is | rfl | decide +kernel); (case aL => k_is); (case lL => k_is); (case cL => k_is); (case kL => k_is)
