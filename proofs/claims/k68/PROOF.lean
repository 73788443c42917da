import PyProof.Rows.All
import HandS.ForMost
import HandS.ForExc
import HandS.Flow
import HandS.IsInst
import HandS.Wide
import HandS.Deep
import HandS.WideBits
import HandS.TupAny
import HandS.TupMul
import HandS.Style
import PyProof.ReprRoads
import HandS.Exc
import HandS.ExcOwn
import HandS.ExcIs
import KE.KIsAll
import HandS.Lambda
import HandS.Walk
import HandS.Zip
import HandS.Rev
import HandS.RevRange
import HandS.TupLen
import HandS.RaiseMore
import HandS.Text
import HandS.Dict
import HandS.More
import HandS.ExcValue
import KE.GoesMore
import KE.GoesEnum
import KE.SortData
import KE.DataCmp
import PyProof.TupleOfSeq
import KE.KDictDisplayH
import HandS.Small
import KE.GoesZip
import HandS.FStr
import HandS.EndTab
import HandS.SetFor
import PyProof.P3Eq
import PyProof.ReprLen
import PySem.Challenge.RW_nopassing_k68_all_lines_for_a_stand
set_option Elab.async false
set_option linter.all false
set_option maxRecDepth 100000
set_option maxHeartbeats 40000000
namespace DL
open PySem PySem.Spec PyProof.Rows L2

/-- data as trees -/
inductive D where
  | non | bl (b : Bool) | int (i : Int) | str (x : Str)
  | tup (xs : List D) | lst (xs : List D) | frz (xs : List D) | dct (kvs : List (D × D))
  | tok (n : Nat) | ty (n : String) | glb (x : Str) | ktp (xs : List D)
  | exc (c : Str)
/-- a caught exception, kept -/
def KeptX (C : Value) (a : Addr) : HO := .ext fun h => ∃ (ob : Obj) (us : Array Value), h.get? a = some ob ∧ Zc C none ob ∧ ob.data = .fields us
/-- what a special object holds: a list, an instance of the class c -/
inductive Cell where
  | l (ds : List D)
  | o (c : Str) (fs : List (Str × D))
  | d (fs : List (Key × D))
  | t (fs : List (List Key × D))
abbrev S := List Cell
inductive Res (α : Type) where
  | ok (a : α) (s : S)
  | exc (c : Str) (s : S)
  | bad
/-- a name's slot: nothing, data, a list or dict of its own -/
inductive Sl where
  | emp | dat (d : D) | own (ds : List D) | ownD (t : Bool) (kvs : List (D × D))
def Sl.isOwn : Sl → Bool
  | .own _ => true
  | .ownD _ _ => true
  | _ => false
def kD : Key → D
  | .inl i => .int i
  | .inr x => .str x
def kT (k : List Key) : D := .tup (k.map kD)

mutual
/-- data that hang on no list or dict -/
def flat : D → Bool
  | .non => true
  | .bl _ => true
  | .int _ => true
  | .str _ => true
  | .tup xs => flats xs
  | .lst _ => false
  | .frz _ => false
  | .dct _ => false
  | .tok _ => true
  | .ty _ => true
  | .glb _ => true
  | .ktp xs => flats xs
  | .exc _ => false
def flats : List D → Bool
  | [] => true
  | x :: xs => flat x && flats xs
end
def flatC : Cell → Bool
  | .l ds => flats ds
  | .o _ fs => flats (fs.map (·.2))
  | .d fs => flats (fs.map (·.2))
  | .t fs => flats (fs.map (·.2))
mutual
inductive Rep (K : PySem.W.Frag) (mg : Str → Option Value) (G : Hp) (τ : List Addr) : V → D → Prop
  | non : Rep K mg G τ .non .non
  | bl (b : Bool) : Rep K mg G τ (.bl b) (.bl b)
  | int (i : Int) : Rep K mg G τ (.int i) (.int i)
  | str (x : Str) : Rep K mg G τ (.str x) (.str x)
  | tup {a : Addr} {xs : List V} {ds : List D} : G a = some (.tup xs) → RepAll K mg G τ xs ds → Rep K mg G τ (.ref a) (.tup ds)
  | lst {a : Addr} {xs : List V} {ds : List D} : G a = some (.lst xs) → RepAll K mg G τ xs ds → Rep K mg G τ (.ref a) (.lst ds)
  | frz {a : Addr} {xs : List V} {ds : List D} : SqL K G a xs → RepAll K mg G τ xs ds → Rep K mg G τ (.ref a) (.frz ds)
  | dK {a : Addr} {kvs : List (Key × V)} {vs : List D} : G a = some (.dK kvs) → RepAll K mg G τ (kvs.map (·.2)) vs → Rep K mg G τ (.ref a) (.dct ((kvs.map fun p => kD p.1).zip vs))
  | dT {a : Addr} {kvs : List (List Key × V)} {vs : List D} : G a = some (.dT kvs) → RepAll K mg G τ (kvs.map (·.2)) vs → Rep K mg G τ (.ref a) (.dct ((kvs.map fun p => kT p.1).zip vs))
  | tok {n : Nat} {a : Addr} : τ[n]? = some a → Rep K mg G τ (.ref a) (.tok n)
  | ty (n : String) : Rep K mg G τ (.ty n) (.ty n)
  | glb {x : Str} {u : Value} {v : V} : mg x = some u → RelV v u → Rep K mg G τ v (.glb x)
  | ktp {a : Addr} {xs : List V} {ds : List D} : SqT K G a xs → RepAll K mg G τ xs ds → Rep K mg G τ (.ref a) (.ktp ds)
  | exc {c : Str} {C a : Addr} : mg c = some (.ref C) → G a = some (KeptX (.ref C) a) → Rep K mg G τ (.ref a) (.exc c)
inductive RepAll (K : PySem.W.Frag) (mg : Str → Option Value) (G : Hp) (τ : List Addr) : List V → List D → Prop
  | nil : RepAll K mg G τ [] []
  | cons {v : V} {vs : List V} {d : D} {ds : List D} : Rep K mg G τ v d → RepAll K mg G τ vs ds → RepAll K mg G τ (v :: vs) (d :: ds)
end

section
variable {K : PySem.W.Frag} {mg : Str → Option Value} {G G' : Hp} {τ τ' : List Addr}
theorem seqT {H H' : Hp} {a : Addr} {xs : List V} (e : Same H H') (h : SqT K H a xs) : SqT K H' a xs := by
  rcases h with (h | ⟨o, h⟩) | h
  · exact .inl (.inl (e _ _ h))
  · exact .inl (.inr ⟨o, e _ _ h⟩)
  · exact .inr h
mutual
theorem Rep.mono (hg : Same G G') (ht : τ <+: τ') : ∀ {v : V} {d : D}, Rep K mg G τ v d → Rep K mg G' τ' v d
  | _, _, .non => .non
  | _, _, .bl b => .bl b
  | _, _, .int i => .int i
  | _, _, .str x => .str x
  | _, _, .tup h r => .tup (hg _ _ h) (RepAll.mono hg ht r)
  | _, _, .lst h r => .lst (hg _ _ h) (RepAll.mono hg ht r)
  | _, _, .frz h r => .frz (hg.seq h) (RepAll.mono hg ht r)
  | _, _, .dK h r => .dK (hg _ _ h) (RepAll.mono hg ht r)
  | _, _, .dT h r => .dT (hg _ _ h) (RepAll.mono hg ht r)
  | _, _, .tok h => .tok (by obtain ⟨m, rfl⟩ := ht; rw [List.getElem?_append_left (List.getElem?_eq_some_iff.mp h).1]; exact h)
  | _, _, .ty n => .ty n
  | _, _, .glb h r => .glb h r
  | _, _, .ktp h r => .ktp (seqT hg h) (RepAll.mono hg ht r)
  | _, _, .exc h r => .exc h (hg _ _ r)
theorem RepAll.mono (hg : Same G G') (ht : τ <+: τ') : ∀ {vs : List V} {ds : List D}, RepAll K mg G τ vs ds → RepAll K mg G' τ' vs ds
  | _, _, .nil => .nil
  | _, _, .cons h r => .cons (Rep.mono hg ht h) (RepAll.mono hg ht r)
end
/-- the frozen part without an object -/
def less (G : Hp) (a : Addr) : Hp := fun b => if b = a then none else G b
theorem less_ne {G : Hp} {a b : Addr} (h : b ≠ a) : less G a b = G b := by unfold less; rw [if_neg h]
theorem less_same {G : Hp} {a : Addr} : less G a a = none := by unfold less; rw [if_pos rfl]
theorem less_tup {a b : Addr} {xs : List V} (n : ∀ o, G a = some o → (∀ ys, o ≠ .tup ys) ∧ ∀ u ys, o ≠ .frz u (.tup ys)) (h : SqT K G b xs) : SqT K (less G a) b xs := by
  rcases h with (h | ⟨o, h⟩) | h
  · exact .inl (.inl ((less_ne fun e : b = a => (n _ (e ▸ h)).1 xs rfl).trans h))
  · exact .inl (.inr ⟨o, (less_ne fun e : b = a => (n _ (e ▸ h)).2 o xs rfl).trans h⟩)
  · exact .inr h
mutual
theorem Rep.less {a : Addr} (n : ∀ o, G a = some o → (∀ ys, o ≠ .tup ys) ∧ ∀ u ys, o ≠ .frz u (.tup ys)) : ∀ {v : V} {d : D}, Rep K mg G τ v d → flat d = true → Rep K mg (less G a) τ v d
  | _, _, .non, _ => .non
  | _, _, .bl b, _ => .bl b
  | _, _, .int i, _ => .int i
  | _, _, .str x, _ => .str x
  | _, _, .tup h r, f => .tup ((less_ne fun e => (n _ (e ▸ h)).1 _ rfl).trans h) (RepAll.less n r (by simpa [flat] using f))
  | _, _, .lst _ _, f => by simp [flat] at f
  | _, _, .frz _ _, f => by simp [flat] at f
  | _, _, .dK _ _, f => by simp [flat] at f
  | _, _, .dT _ _, f => by simp [flat] at f
  | _, _, .tok h, _ => .tok h
  | _, _, .ty n, _ => .ty n
  | _, _, .glb h r, _ => .glb h r
  | _, _, .ktp h r, f => .ktp (less_tup n h) (RepAll.less n r (by simpa [flat] using f))
  | _, _, .exc _ _, f => by simp [flat] at f
theorem RepAll.less {a : Addr} (n : ∀ o, G a = some o → (∀ ys, o ≠ .tup ys) ∧ ∀ u ys, o ≠ .frz u (.tup ys)) : ∀ {vs : List V} {ds : List D}, RepAll K mg G τ vs ds → flats ds = true → RepAll K mg (less G a) τ vs ds
  | _, _, .nil, _ => .nil
  | _, _, .cons h r, f => .cons (Rep.less n h (by simp [flats] at f; exact f.1)) (RepAll.less n r (by simp [flats] at f; exact f.2))
end
theorem RepAll.length : ∀ {vs : List V} {ds : List D}, RepAll K mg G τ vs ds → vs.length = ds.length
  | _, _, .nil => rfl
  | _, _, .cons _ r => congrArg (· + 1) (RepAll.length r)
theorem RepAll.get : ∀ {vs : List V} {ds : List D} {i : Nat} {v : V}, RepAll K mg G τ vs ds → vs[i]? = some v → ∃ d, ds[i]? = some d ∧ Rep K mg G τ v d
  | _, _, _, _, .nil, h => by simp at h
  | _, _, 0, _, .cons r _, h => by simp at h; subst h; exact ⟨_, rfl, r⟩
  | _, _, i + 1, _, .cons _ r, h => by simpa using RepAll.get (i := i) r (by simpa using h)
theorem RepAll.getD : ∀ {vs : List V} {ds : List D} {i : Nat} {d : D}, RepAll K mg G τ vs ds → ds[i]? = some d → ∃ v, vs[i]? = some v ∧ Rep K mg G τ v d
  | _, _, _, _, .nil, h => by simp at h
  | _, _, 0, _, .cons r _, h => by simp at h; subst h; exact ⟨_, rfl, r⟩
  | _, _, i + 1, _, .cons _ r, h => by simpa using RepAll.getD (i := i) r (by simpa using h)
theorem RepAll.append : ∀ {vs us : List V} {ds es : List D}, RepAll K mg G τ vs ds → RepAll K mg G τ us es → RepAll K mg G τ (vs ++ us) (ds ++ es)
  | _, _, _, _, .nil, h => h
  | _, _, _, _, .cons r t, h => .cons r (t.append h)
theorem RepAll.snoc {vs : List V} {v : V} {ds : List D} {d : D} (h : RepAll K mg G τ vs ds) (r : Rep K mg G τ v d) : RepAll K mg G τ (vs ++ [v]) (ds ++ [d]) := h.append (.cons r .nil)
theorem RepAll.take : ∀ {vs : List V} {ds : List D} (n : Nat), RepAll K mg G τ vs ds → RepAll K mg G τ (vs.take n) (ds.take n)
  | _, _, 0, _ => .nil
  | _, _, _ + 1, .nil => .nil
  | _, _, n + 1, .cons r t => .cons r (t.take n)
theorem RepAll.drop : ∀ {vs : List V} {ds : List D} (n : Nat), RepAll K mg G τ vs ds → RepAll K mg G τ (vs.drop n) (ds.drop n)
  | _, _, 0, h => h
  | _, _, _ + 1, .nil => .nil
  | _, _, n + 1, .cons _ t => t.drop n
theorem RepAll.set {v : V} {d : D} (r : Rep K mg G τ v d) : ∀ {vs : List V} {ds : List D} (n : Nat), RepAll K mg G τ vs ds → RepAll K mg G τ (vs.set n v) (ds.set n d)
  | _, _, _, .nil => .nil
  | _, _, 0, .cons _ t => .cons r t
  | _, _, n + 1, .cons q t => .cons q (t.set r n)
theorem RepAll.reverse {vs : List V} {ds : List D} (h : RepAll K mg G τ vs ds) : RepAll K mg G τ vs.reverse ds.reverse := by
  induction vs generalizing ds with
  | nil => cases h; exact .nil
  | cons v vs ih =>
    cases h with
    | cons r t =>
      rw [List.reverse_cons, List.reverse_cons]
      exact (ih t).snoc r
theorem RepAll.rep {vs : List V} {ds : List D} (h : RepAll K mg G τ vs ds) : ∀ n : Nat, RepAll K mg G τ (List.replicate n vs).flatten (List.replicate n ds).flatten
  | 0 => .nil
  | n + 1 => by
    rw [List.replicate_succ, List.replicate_succ, List.flatten_cons, List.flatten_cons]
    exact h.append (h.rep n)
theorem RepAll.one {v : V} {d : D} (r : Rep K mg G τ v d) : RepAll K mg G τ [v] [d] := .cons r .nil
theorem RepAll.eraseIdx : ∀ {vs : List V} {ds : List D} (n : Nat), RepAll K mg G τ vs ds → RepAll K mg G τ (vs.eraseIdx n) (ds.eraseIdx n)
  | _, _, _, .nil => .nil
  | _, _, 0, .cons _ t => t
  | _, _, n + 1, .cons q t => .cons q (t.eraseIdx n)
theorem RepAll.split {us : List D} : ∀ {vs : List V} {ds : List D}, RepAll K mg G τ vs (ds ++ us) → ∃ a b, vs = a ++ b ∧ RepAll K mg G τ a ds ∧ RepAll K mg G τ b us
  | vs, [], h => ⟨[], vs, rfl, .nil, h⟩
  | _, d :: ds, .cons r t => by
    obtain ⟨a, b, rfl, h1, h2⟩ := RepAll.split (ds := ds) t
    exact ⟨_ :: a, b, rfl, .cons r h1, h2⟩
end

/-- the abstract heap, its frozen part, the special objects -/
structure Hw where
  H : Hp
  G : Hp
  τ : List Addr
def CellOk (K : PySem.W.Frag) (mg : Str → Option Value) (W : Hw) (a : Addr) : Cell → Prop
  | .l ds => ∃ vs, W.H a = some (.lst vs) ∧ RepAll K mg W.G W.τ vs ds
  | .o c fs => ∃ C dx vs, mg c = some (.ref C) ∧ W.H a = some (.ins C dx ((fs.map (·.1)).zip vs)) ∧ RepAll K mg W.G W.τ vs (fs.map (·.2))
  | .d fs => ∃ vs, W.H a = some (.dK ((fs.map (·.1)).zip vs)) ∧ RepAll K mg W.G W.τ vs (fs.map (·.2))
  | .t fs => ∃ vs, W.H a = some (.dT ((fs.map (·.1)).zip vs)) ∧ RepAll K mg W.G W.τ vs (fs.map (·.2))
/-- tables of code objects that all texts must know -/
class LawT where
  T : List (Addr × Str)
variable [LT : LawT]
structure Base (K : PySem.W.Frag) (mg : Str → Option Value) (W : Hw) (s : S) : Prop where
  sub : Same W.G W.H
  tupI : ∀ b xs, W.H b = some (.tup xs) → W.G b = some (.tup xs)
  spc : ∀ b ∈ W.τ, W.G b = none
  nd : W.τ.Nodup
  len : s.length = W.τ.length
  cel : ∀ (n : Nat) (c : Cell) (a : Addr), s[n]? = some c → W.τ[n]? = some a → CellOk K mg W a c
  flt : ∀ c ∈ s, flatC c = true
  tab : LamX.Tabs LawT.T W.H
  nog : ∀ b ps, W.G b ≠ some (.tbl ps)
  all : ∀ b ps, W.H b = some (.tbl ps) → ∃ q, (b, q) ∈ LawT.T
structure Ext (W W' : Hw) : Prop where
  keep0 : ∀ b o, W.H b = some o → b ∉ W.τ → W'.H b = some o ∨ ∃ ps ps', o = .tbl ps ∧ W'.H b = some (.tbl ps')
  grow : Same W.G W'.G
  out : ∀ b, W.H b ≠ none → W'.G b = W.G b
  tpre : W.τ <+: W'.τ
  tnew : ∀ b ∈ W'.τ, b ∉ W.τ → W.H b = none
  tab : LamX.Tabs LawT.T W.H → LamX.Tabs LawT.T W'.H
theorem Ext.keep {W W' : Hw} (E : Ext W W') (b : Addr) (o : HO) (h : W.H b = some o) (n : b ∉ W.τ) (nt : ∀ ps, o ≠ .tbl ps := by exact fun _ z => nomatch z) : W'.H b = some o := by
  rcases E.keep0 b o h n with z | ⟨ps, _, e, _⟩
  · exact z
  · exact absurd e (nt ps)
theorem Ext.dom {W W' : Hw} (E : Ext W W') {b : Addr} {o : HO} (h : W.H b = some o) (n : b ∉ W.τ) : W'.H b ≠ none := by
  rcases E.keep0 b o h n with z | ⟨_, _, _, z⟩ <;> rw [z] <;> exact fun q => nomatch q
omit LT in
/-- a place that is neither a table nor a code object gets something -/
theorem tabs_upd {T : List (Addr × Str)} {H : Hp} {a : Addr} {o : HO} (h : ∀ u, H a = some u → (∀ ps, u ≠ .tbl ps) ∧ ∀ q, u ≠ LamX.CodeO a q) (t : LamX.Tabs T H) : LamX.Tabs T (upd H a o) := fun p hp => by
  obtain ⟨ps, h1, h2, h3⟩ := t p hp
  refine ⟨ps, ?_, h2, fun pos cv hc => ?_⟩
  · refine (upd_ne fun z => ?_).trans h1
    rw [z] at h1
    exact (h _ h1).1 ps rfl
  · obtain ⟨c, e1, e2⟩ := h3 pos cv hc
    refine ⟨c, e1, (upd_ne fun z => ?_).trans e2⟩
    rw [z] at e2
    exact (h _ e2).2 p.2 rfl
omit LT in
theorem nog_upd {G : Hp} {a : Addr} {o : HO} (nt : ∀ ps, o ≠ .tbl ps) (h : ∀ b ps, G b ≠ some (.tbl ps)) : ∀ b ps, upd G a o b ≠ some (.tbl ps) := fun b ps z => by
  by_cases hb : b = a
  · rw [hb, upd_same] at z; exact nt ps (Option.some.inj z)
  · rw [upd_ne hb] at z; exact h b ps z
theorem all_upd {H : Hp} {a : Addr} {o : HO} (nt : ∀ ps, o ≠ .tbl ps) (h : ∀ b ps, H b = some (.tbl ps) → ∃ q, (b, q) ∈ LT.T) : ∀ b ps, upd H a o b = some (.tbl ps) → ∃ q, (b, q) ∈ LT.T := fun b ps z => by
  by_cases hb : b = a
  · rw [hb, upd_same] at z; exact absurd (Option.some.inj z) (nt ps)
  · rw [upd_ne hb] at z; exact h b ps z
omit LT in
theorem tabs_new {T : List (Addr × Str)} {H : Hp} {a : Addr} {o : HO} (h : H a = none) (t : LamX.Tabs T H) : LamX.Tabs T (upd H a o) := tabs_upd (fun u e => by rw [h] at e; cases e) t
omit LT in
theorem tabs_same {T : List (Addr × Str)} {H H' : Hp} (e : H = H') (t : LamX.Tabs T H) : LamX.Tabs T H' := e ▸ t
section
variable {K : PySem.W.Frag} {mg : Str → Option Value} {W W' W'' W0 : Hw} {s s' : S}
theorem Ext.refl (W : Hw) : Ext W W := ⟨fun _ _ h _ => .inl h, fun _ _ h => h, fun _ _ => rfl, List.prefix_refl _, fun _ h n => absurd h n, fun t => t⟩
theorem Base.tau_some (B : Base K mg W s) {b : Addr} (h : b ∈ W.τ) : W.H b ≠ none := by
  obtain ⟨n, hn, e⟩ := List.getElem_of_mem h
  have hs : n < s.length := by rw [B.len]; exact hn
  have z := B.cel n s[n] b (List.getElem?_eq_getElem hs) (by rw [List.getElem?_eq_getElem hn, e])
  cases hc : s[n] with
  | l ds => rw [hc] at z; obtain ⟨vs, z, _⟩ := z; rw [z]; exact fun q => nomatch q
  | o c fs => rw [hc] at z; obtain ⟨C, dx, vs, _, z, _⟩ := z; rw [z]; exact fun q => nomatch q
  | d fs => rw [hc] at z; obtain ⟨vs, z, _⟩ := z; rw [z]; exact fun q => nomatch q
  | t fs => rw [hc] at z; obtain ⟨vs, z, _⟩ := z; rw [z]; exact fun q => nomatch q
theorem Base.tau_plain (B : Base K mg W s) {b : Addr} (h : b ∈ W.τ) : ∀ u, W.H b = some u → (∀ ps, u ≠ .tbl ps) ∧ ∀ q, u ≠ LamX.CodeO b q := fun u hu => by
  obtain ⟨n, hn, e⟩ := List.getElem_of_mem h
  have hs : n < s.length := by rw [B.len]; exact hn
  have z := B.cel n s[n] b (List.getElem?_eq_getElem hs) (by rw [List.getElem?_eq_getElem hn, e])
  cases hc : s[n] with
  | l ds => rw [hc] at z; obtain ⟨vs, z, _⟩ := z; rw [z] at hu; cases hu; exact ⟨(fun _ q => nomatch q), (fun _ q => nomatch q)⟩
  | o c fs => rw [hc] at z; obtain ⟨C, dx, vs, _, z, _⟩ := z; rw [z] at hu; cases hu; exact ⟨(fun _ q => nomatch q), (fun _ q => nomatch q)⟩
  | d fs => rw [hc] at z; obtain ⟨vs, z, _⟩ := z; rw [z] at hu; cases hu; exact ⟨(fun _ q => nomatch q), (fun _ q => nomatch q)⟩
  | t fs => rw [hc] at z; obtain ⟨vs, z, _⟩ := z; rw [z] at hu; cases hu; exact ⟨(fun _ q => nomatch q), (fun _ q => nomatch q)⟩
theorem Ext.trans (B : Base K mg W' s') (a : Ext W W') (b : Ext W' W'') : Ext W W'' := by
  have nt : ∀ c o, W.H c = some o → c ∉ W.τ → c ∉ W'.τ := fun c o h n m => by
    have := a.tnew c m n
    rw [h] at this; cases this
  refine ⟨fun c o h n => ?_, a.grow.trans b.grow, fun c h => ?_, a.tpre.trans b.tpre, fun c h n => ?_, fun t => b.tab (a.tab t)⟩
  · rcases a.keep0 c o h n with z | ⟨ps, ps', e, z⟩
    · exact b.keep0 c o z (nt c o h n)
    · rcases b.keep0 c _ z (nt c o h n) with y | ⟨_, ps2, _, y⟩
      · exact .inr ⟨ps, ps', e, y⟩
      · exact .inr ⟨ps, ps2, e, y⟩
  · refine (b.out c ?_).trans (a.out c h)
    by_cases m : c ∈ W.τ
    · obtain ⟨r, e⟩ := a.tpre
      exact B.tau_some (by rw [← e]; exact List.mem_append_left _ m)
    · cases q : W.H c with
      | none => exact absurd q h
      | some o => exact a.dom q m
  · by_cases m : c ∈ W'.τ
    · exact a.tnew c m n
    · cases q : W.H c with
      | none => rfl
      | some o =>
        have := b.tnew c h m
        exact absurd this (a.dom q n)
theorem Rep.ext (E : Ext W W') {v : V} {d : D} (r : Rep K mg W.G W.τ v d) : Rep K mg W'.G W'.τ v d := r.mono E.grow E.tpre
theorem RepAll.ext (E : Ext W W') {v : List V} {d : List D} (r : RepAll K mg W.G W.τ v d) : RepAll K mg W'.G W'.τ v d := r.mono E.grow E.tpre
end

/-- an object of a slot's own -/
structure OwnAt (W0 W : Hw) (a : Addr) : Prop where
  old : W0.H a = none
  frz : W.G a = none
  spc : a ∉ W.τ
inductive SlOk (K : PySem.W.Frag) (mg : Str → Option Value) (W0 W : Hw) : Option V → Sl → Prop
  | emp {x : Option V} : SlOk K mg W0 W x .emp
  | dat {v : V} {d : D} : Rep K mg W.G W.τ v d → SlOk K mg W0 W (some v) (.dat d)
  | own {a : Addr} {vs : List V} {ds : List D} : OwnAt W0 W a → W.H a = some (.lst vs) → RepAll K mg W.G W.τ vs ds → SlOk K mg W0 W (some (.ref a)) (.own ds)
  | ownK {a : Addr} {kvs : List (Key × V)} {vs : List D} : OwnAt W0 W a → W.H a = some (.dK kvs) → RepAll K mg W.G W.τ (kvs.map (·.2)) vs → SlOk K mg W0 W (some (.ref a)) (.ownD false ((kvs.map fun p => kD p.1).zip vs))
  | ownT {a : Addr} {kvs : List (List Key × V)} {vs : List D} : OwnAt W0 W a → W.H a = some (.dT kvs) → RepAll K mg W.G W.τ (kvs.map (·.2)) vs → SlOk K mg W0 W (some (.ref a)) (.ownD true ((kvs.map fun p => kT p.1).zip vs))
structure SSt (K : PySem.W.Frag) (mg : Str → Option Value) (W0 W : Hw) (s : S) (σ : L2.St) (ρ : List Sl) : Prop where
  ext : Ext W0 W
  base : Base K mg W s
  len : σ.length = ρ.length
  sl : ∀ (i : Nat) (x : Option V) (y : Sl), σ[i]? = some x → ρ[i]? = some y → SlOk K mg W0 W x y
  dist : ∀ (i j : Nat) (a : Addr) (y z : Sl), i ≠ j → σ[i]? = some (some (.ref a)) → σ[j]? = some (some (.ref a)) → ρ[i]? = some y → ρ[j]? = some z → y.isOwn = true → z.isOwn = true → False
section
variable {K : PySem.W.Frag} {mg : Str → Option Value} {W W' W'' W0 : Hw} {s s' : S} {σ σ' : L2.St} {ρ ρ' : List Sl}
theorem OwnAt.ext {a : Addr} (E : Ext W W') (o : OwnAt W0 W a) (h : W.H a ≠ none) : OwnAt W0 W' a :=
  ⟨o.old, (E.out a h).trans o.frz, fun m => h (E.tnew a m o.spc)⟩
theorem SlOk.ext (E : Ext W W') {x : Option V} {y : Sl} (h : SlOk K mg W0 W x y) : SlOk K mg W0 W' x y := by
  cases h with
  | emp => exact .emp
  | dat r => exact .dat (r.ext E)
  | own o e r => exact .own (o.ext E (by rw [e]; exact fun z => nomatch z)) (E.keep _ _ e o.spc) (r.ext E)
  | ownK o e r => exact .ownK (o.ext E (by rw [e]; exact fun z => nomatch z)) (E.keep _ _ e o.spc) (r.ext E)
  | ownT o e r => exact .ownT (o.ext E (by rw [e]; exact fun z => nomatch z)) (E.keep _ _ e o.spc) (r.ext E)
theorem SSt.step (h : SSt K mg W0 W s σ ρ) (E : Ext W W') (B : Base K mg W' s') : SSt K mg W0 W' s' σ ρ :=
  ⟨h.ext.trans h.base E, B, h.len, fun i x y e1 e2 => (h.sl i x y e1 e2).ext E, h.dist⟩
/-- a slot gets data -/
theorem SSt.setDat (h : SSt K mg W0 W s σ ρ) {v : V} {d : D} (r : Rep K mg W.G W.τ v d) (i : Nat) : SSt K mg W0 W s (σ.set i (some v)) (ρ.set i (.dat d)) := by
  refine ⟨h.ext, h.base, by simp [h.len], fun j x y e1 e2 => ?_, fun j k a y z ne e1 e2 e3 e4 o1 o2 => ?_⟩
  · by_cases hj : j = i
    · subst hj
      have hl : j < σ.length := by
        by_cases q : j < σ.length
        · exact q
        · rw [List.getElem?_eq_none (by simpa using q)] at e1; cases e1
      rw [List.getElem?_set_self hl] at e1
      rw [List.getElem?_set_self (by rw [← h.len]; exact hl)] at e2
      cases e1; cases e2
      exact .dat r
    · rw [List.getElem?_set_ne (Ne.symm hj)] at e1 e2
      exact h.sl j x y e1 e2
  · have go : ∀ (j : Nat) y, (ρ.set i (.dat d))[j]? = some y → y.isOwn = true → j ≠ i := fun j y e o q => by
      subst q
      rw [List.getElem?_set] at e
      simp only [if_true] at e
      split at e
      · cases e; exact Bool.noConfusion o
      · cases e
    have n1 := go j y e3 o1
    have n2 := go k z e4 o2
    rw [List.getElem?_set_ne (Ne.symm n1)] at e1 e3
    rw [List.getElem?_set_ne (Ne.symm n2)] at e2 e4
    exact h.dist j k a y z ne e1 e2 e3 e4 o1 o2
/-- a slot's content is forgotten -/
theorem SSt.clear (h : SSt K mg W0 W s σ ρ) (i : Nat) : SSt K mg W0 W s σ (ρ.set i .emp) := by
  refine ⟨h.ext, h.base, by simp [h.len], fun j x y e1 e2 => ?_, fun j k a y z ne e1 e2 e3 e4 o1 o2 => ?_⟩
  · by_cases hj : j = i
    · subst hj
      rw [List.getElem?_set] at e2
      simp only [if_true] at e2
      split at e2
      · cases e2; exact .emp
      · cases e2
    · rw [List.getElem?_set_ne (Ne.symm hj)] at e2
      exact h.sl j x y e1 e2
  · have go : ∀ (j : Nat) y, (ρ.set i .emp)[j]? = some y → y.isOwn = true → j ≠ i := fun j y e o q => by
      subst q
      rw [List.getElem?_set] at e
      simp only [if_true] at e
      split at e
      · cases e; exact Bool.noConfusion o
      · cases e
    rw [List.getElem?_set_ne (Ne.symm (go j y e3 o1))] at e3
    rw [List.getElem?_set_ne (Ne.symm (go k z e4 o2))] at e4
    exact h.dist j k a y z ne e1 e2 e3 e4 o1 o2
end
end DL
namespace DL
open PySem PySem.Spec PyProof.Rows L2
variable [LT : LawT]

def Res.bind {α β : Type} (r : Res α) (f : α → S → Res β) : Res β :=
  match r with
  | .ok a s => f a s
  | .exc c s => .exc c s
  | .bad => .bad
def Res.ofO {α : Type} (o : Option α) (s : S) : Res α :=
  match o with
  | some a => .ok a s
  | none => .bad

/-- what is wanted behind a result -/
def Post {α β : Type} (K : PySem.W.Frag) (mg : Str → Option Value) (rel : Hw → β → α → Prop) (E : XK) (r : Res α) (W : Hw) (Q : β → Hp → Prop) : Prop :=
  match r with
  | .ok a s => ∀ x W', Ext W W' → Base K mg W' s → rel W' x a → Q x W'.H
  | .exc c s => ∀ W' u, Ext W W' → Base K mg W' s → mg c = some u → E u none W'.H
  | .bad => False
abbrev relE (K : PySem.W.Frag) (mg : Str → Option Value) : Hw → V → D → Prop := fun W v d => Rep K mg W.G W.τ v d
abbrev relA (K : PySem.W.Frag) (mg : Str → Option Value) : Hw → List V → List D → Prop := fun W v d => RepAll K mg W.G W.τ v d
abbrev relT : Hw → Bool → Bool → Prop := fun _ b c => b = c
/-- a new list of its own, not frozen -/
def relF (K : PySem.W.Frag) (mg : Str → Option Value) (W0 : Hw) : Hw → V → D → Prop := fun W v d => ∃ a vs ds, v = .ref a ∧ d = .lst ds ∧ W0.H a = none ∧ W.G a = none ∧ a ∉ W.τ ∧ W.H a = some (.lst vs) ∧ RepAll K mg W.G W.τ vs ds
section
variable {α β γ δ : Type} {K : PySem.W.Frag} {mg : Str → Option Value} {rel : Hw → β → α → Prop} {rel' : Hw → δ → γ → Prop} {E : XK} {W W' W0 : Hw} {s s' : S} {Q Q' : β → Hp → Prop}
theorem Post.ext {r : Res α} (e : Ext W W') (B : Base K mg W' s) (p : Post K mg rel E r W Q) : Post K mg rel E r W' Q := by
  cases r with
  | ok a s1 => exact fun x W2 e2 B2 r2 => p x W2 (e.trans B e2) B2 r2
  | exc c s1 => exact fun W2 u e2 B2 hu => p W2 u (e.trans B e2) B2 hu
  | bad => exact p
theorem Post.imp {r : Res α} (p : Post K mg rel E r W Q) (h : ∀ x H, Q x H → Q' x H) : Post K mg rel E r W Q' := by
  cases r with
  | ok a s1 => exact fun x W2 e2 B2 r2 => h _ _ (p x W2 e2 B2 r2)
  | exc c s1 => exact p
  | bad => exact p
theorem Post.of_ok {a : α} (p : Post K mg rel E (.ok a s) W Q) (B : Base K mg W s) {x : β} (r : rel W x a) : Q x W.H := p x W (Ext.refl W) B r
end

/-- the reading by a denotation -/
def tX {α β : Type} (K : PySem.W.Frag) (mg : Str → Option Value) (rel : Hw → Hw → β → α → Prop) (E : WX) (f : List Sl → S → Res α) : L2.St → Hp → (β → Hp → Prop) → Prop := fun σ H Q =>
  ∃ (W0 W : Hw) (s : S) (ρ : List Sl), W.H = H ∧ SSt K mg W0 W s σ ρ ∧ Post K mg (rel W) (fun u d H' => E u d σ H') (f ρ s) W Q
abbrev DE := List Sl → S → Res D
abbrev DA := List Sl → S → Res (List D)
abbrev DT := List Sl → S → Res Bool
abbrev tE (K : PySem.W.Frag) (mg : Str → Option Value) (E : WX) (f : DE) : TE := tX K mg (fun _ => relE K mg) E f
abbrev tF (K : PySem.W.Frag) (mg : Str → Option Value) (E : WX) (f : DE) : TE := tX K mg (relF K mg) E f
abbrev tA (K : PySem.W.Frag) (mg : Str → Option Value) (E : WX) (f : DA) : TA := tX K mg (fun _ => relA K mg) E f
abbrev tT (K : PySem.W.Frag) (mg : Str → Option Value) (E : WX) (f : DT) : TT := tX K mg (fun _ => relT) E f
section
variable {α β γ δ : Type} {K : PySem.W.Frag} {mg : Str → Option Value} {rel : Hw → Hw → β → α → Prop} {rel' : Hw → δ → γ → Prop} {E : WX} {σ : L2.St} {H : Hp} {W W0 : Hw} {s : S} {ρ : List Sl} {Q Q' : β → Hp → Prop}
theorem tX.imp {f : List Sl → S → Res α} (h : tX K mg rel E f σ H Q) (i : ∀ x H, Q x H → Q' x H) : tX K mg rel E f σ H Q' := by
  obtain ⟨W0, W, s, ρ, e, st, p⟩ := h
  exact ⟨W0, W, s, ρ, e, st, p.imp i⟩
/-- one step of a bind -/
theorem go {f : List Sl → S → Res α} {k : α → S → Res γ} {R : δ → Hp → Prop} (st : SSt K mg W0 W s σ ρ) (p : Post K mg rel' (fun u d H' => E u d σ H') ((f ρ s).bind k) W R) :
    tX K mg rel E f σ W.H (fun x H1 => ∃ W1 s1 a, W1.H = H1 ∧ rel W W1 x a ∧ Ext W W1 ∧ SSt K mg W0 W1 s1 σ ρ ∧ Post K mg rel' (fun u d H' => E u d σ H') (k a s1) W1 R) := by
  refine ⟨W0, W, s, ρ, rfl, st, ?_⟩
  cases hf : f ρ s with
  | ok a s1 =>
    rw [hf] at p
    exact fun x W1 e B r => ⟨W1, s1, a, rfl, r, e, st.step e B, Post.ext e B p⟩
  | exc c s1 =>
    rw [hf] at p
    exact p
  | bad =>
    rw [hf] at p
    exact p.elim
end
section
variable {X : Cx} {e a b : Expr} {t t' : TE} {pos : Pos} {E : WX}
theorem PE.mono (h : PE X e t) (i : ∀ σ H Q, t' σ H Q → t σ H Q) : PE X e t' := ⟨fun pins s σ H Q I q => h.run pins s σ H Q I (i σ H Q q)⟩
theorem PE.or (h : PE X e t) (h' : PE X e t') : PE X e (fun σ H Q => t σ H Q ∨ t' σ H Q) := ⟨fun pins s σ H Q I q => q.elim (h.run pins s σ H Q I) (h'.run pins s σ H Q I)⟩
theorem PT.mono {t t' : TT} (h : PT X e t) (i : ∀ σ H Q, t' σ H Q → t σ H Q) : PT X e t' := ⟨fun pins s σ H Q I q => h.run pins s σ H Q I (i σ H Q q)⟩
theorem PW.mono {t t' : TT} (h : PW X e t) (i : ∀ σ H Q, t' σ H Q → t σ H Q) : PW X e t' := ⟨fun wh pins s σ H Q I q => h.run wh pins s σ H Q I (i σ H Q q)⟩
theorem PA.mono {es : List Expr} {t t' : TA} (h : PA X es t) (i : ∀ σ H Q, t' σ H Q → t σ H Q) : PA X es t' := ⟨fun p pins s σ H Q I q => h.run p pins s σ H Q I (i σ H Q q)⟩
theorem PS.mono {st : Stmt} {t t' : TS} (h : PS X st t) (i : ∀ σ H D, t' D σ H → t D σ H) : PS X st t' := ⟨fun pins s σ H D I q => h.run pins s σ H D I (i σ H D q)⟩
theorem PSs.mono {st : List Stmt} {t t' : TS} (h : PSs X st t) (i : ∀ σ H D, t' D σ H → t D σ H) : PSs X st t' := ⟨fun pins s σ H D I q => h.run pins s σ H D I (i σ H D q)⟩
theorem OpR.or {f : Value → Value → Sem Value} {r r' : R2} (h : OpR X f r) (h' : OpR X f r') : OpR X f (fun x y H Q => r x y H Q ∨ r' x y H Q) :=
  fun pins s σ H x y v u Q I rx ry q => q.elim (h pins s σ H x y v u Q I rx ry) (h' pins s σ H x y v u Q I rx ry)

/-! ### names, constants -/
def eV (i : Nat) : DE := fun ρ s => match ρ[i]? with
  | some (.dat d) => .ok d s
  | _ => .bad
def eC (d : D) : DE := fun _ s => .ok d s
theorem e_var (i : Nat) {x : Str} (hN : X.N[i]? = some x := by rfl) (hv : Vis X.env.scope x := by first | exact Or.inl rfl | exact Or.inr (Or.inl rfl) | exact Or.inr (Or.inr rfl)) (hd : (x == ("__debug__" : Str)) = false := by decide)
    (hcd : (x == ("__classdict__" : Str)) = false := by decide) : PE X (.Name x pos) (tE X.K X.mg E (eV i)) := by
  refine PE.mono (pv i hN hv hd hcd) fun σ H Q h => ?_
  obtain ⟨W0, W, s, ρ, rfl, st, p⟩ := h
  unfold eV at p
  cases hr : ρ[i]? with
  | none => rw [hr] at p; exact p.elim
  | some y =>
    rw [hr] at p
    cases y with
    | dat d =>
      have hl : i < σ.length := by rw [st.len]; exact (List.getElem?_eq_some_iff.mp hr).1
      have z := st.sl i _ _ (List.getElem?_eq_getElem hl) hr
      generalize hx : σ[i] = x at z
      cases z with
      | dat r => exact ⟨_, by rw [List.getElem?_eq_getElem hl, hx], p.of_ok st.base r⟩
    | emp => exact p.elim
    | own ds => exact p.elim
    | ownD t kvs => exact p.elim
theorem e_const {v : V} {d : D} (h : PE X e (tC v)) (r : ∀ G τ, Rep X.K X.mg G τ v d) : PE X e (tE X.K X.mg E (eC d)) := by
  refine PE.mono h fun σ H Q h => ?_
  obtain ⟨W0, W, s, ρ, rfl, st, p⟩ := h
  exact p.of_ok st.base (r _ _)
theorem e_int {i : Int} {j : Nat} : PE X (.Constant (.int i) j pos) (tE X.K X.mg E (eC (.int i))) := e_const pe_int fun _ _ => .int i
theorem e_bl {i : Bool} {j : Nat} : PE X (.Constant (.bool i) j pos) (tE X.K X.mg E (eC (.bl i))) := e_const pe_bl fun _ _ => .bl i
theorem e_non {j : Nat} : PE X (.Constant .none j pos) (tE X.K X.mg E (eC .non)) := e_const pe_non fun _ _ => .non
theorem e_str {x : Str} {j : Nat} : PE X (.Constant (.str x) j pos) (tE X.K X.mg E (eC (.str x))) := e_const pe_str fun _ _ => .str x

/-! ### what Rep says -/
section
variable {K : PySem.W.Frag} {mg : Str → Option Value} {G : Hp} {τ : List Addr} {v : V}
theorem Rep.int_inv {i : Int} (h : Rep K mg G τ v (.int i)) : v = .int i := by cases h; rfl
theorem Rep.bl_inv {i : Bool} (h : Rep K mg G τ v (.bl i)) : v = .bl i := by cases h; rfl
theorem Rep.str_inv {i : Str} (h : Rep K mg G τ v (.str i)) : v = .str i := by cases h; rfl
theorem Rep.non_inv (h : Rep K mg G τ v .non) : v = .non := by cases h; rfl
theorem Rep.ty_inv {i : String} (h : Rep K mg G τ v (.ty i)) : v = .ty i := by cases h; rfl
theorem Rep.tup_inv' {ds : List D} (h : Rep K mg G τ v (.tup ds)) : ∃ a xs, v = .ref a ∧ G a = some (.tup xs) ∧ RepAll K mg G τ xs ds := by cases h with | tup h r => exact ⟨_, _, rfl, h, r⟩
theorem Rep.tup_inv {ds : List D} (h : Rep K mg G τ v (.tup ds)) : ∃ a xs, v = .ref a ∧ SqT K G a xs ∧ RepAll K mg G τ xs ds := by cases h with | tup h r => exact ⟨_, _, rfl, .of h, r⟩
theorem Rep.lst_inv {ds : List D} (h : Rep K mg G τ v (.lst ds)) : ∃ a xs, v = .ref a ∧ G a = some (.lst xs) ∧ RepAll K mg G τ xs ds := by cases h with | lst h r => exact ⟨_, _, rfl, h, r⟩
theorem Rep.ktp_inv {ds : List D} (h : Rep K mg G τ v (.ktp ds)) : ∃ a xs, v = .ref a ∧ SqT K G a xs ∧ RepAll K mg G τ xs ds := by cases h with | ktp h r => exact ⟨_, _, rfl, h, r⟩
theorem Rep.frz_inv {ds : List D} (h : Rep K mg G τ v (.frz ds)) : ∃ a xs, v = .ref a ∧ SqL K G a xs ∧ RepAll K mg G τ xs ds := by cases h with | frz h r => exact ⟨_, _, rfl, h, r⟩
theorem RepAll.nil_inv {vs : List V} (h : RepAll K mg G τ vs []) : vs = [] := by cases h; rfl
theorem RepAll.cons_inv {vs : List V} {d : D} {ds : List D} (h : RepAll K mg G τ vs (d :: ds)) : ∃ v us, vs = v :: us ∧ Rep K mg G τ v d ∧ RepAll K mg G τ us ds := by cases h with | cons h r => exact ⟨_, _, rfl, h, r⟩
theorem RepAll.one_inv {vs : List V} {d : D} (h : RepAll K mg G τ vs [d]) : ∃ v, vs = [v] ∧ Rep K mg G τ v d := by
  obtain ⟨v, us, rfl, r, h⟩ := h.cons_inv
  rw [h.nil_inv]
  exact ⟨v, rfl, r⟩
theorem RepAll.two_inv {vs : List V} {d e : D} (h : RepAll K mg G τ vs [d, e]) : ∃ v u, vs = [v, u] ∧ Rep K mg G τ v d ∧ Rep K mg G τ u e := by
  obtain ⟨v, us, rfl, r, h⟩ := h.cons_inv
  obtain ⟨u, rfl, q⟩ := h.one_inv
  exact ⟨v, u, rfl, r, q⟩
end

/-! ### new objects -/
section
variable {K : PySem.W.Frag} {mg : Str → Option Value} {W : Hw} {s : S} {p : Addr}
theorem upd_new {H : Hp} {o : HO} (h : H p = none) : Same H (upd H p o) := fun b x e => by rw [upd_ne (ne_of_none e h)]; exact e
theorem Base.frz_none (B : Base K mg W s) (h : W.H p = none) : W.G p = none := B.sub.free h
/-- a new object, frozen -/
theorem Base.newO (B : Base K mg W s) (h : W.H p = none) (o : HO) (nt : ∀ ps, o ≠ .tbl ps := by exact fun _ z => nomatch z) : Base K mg ⟨upd W.H p o, upd W.G p o, W.τ⟩ s ∧ Ext W ⟨upd W.H p o, upd W.G p o, W.τ⟩ := by
  have hG := B.frz_none h
  have ht : p ∉ W.τ := fun m => B.tau_some m h
  have E : Ext W ⟨upd W.H p o, upd W.G p o, W.τ⟩ :=
    ⟨fun b o' e _ => .inl (upd_new h b o' e), upd_new hG, fun b e => upd_ne fun z => e (z ▸ h), List.prefix_refl _, fun _ m n => absurd m n, fun t => tabs_new h t⟩
  refine ⟨⟨fun b o' e => ?_, fun b xs e => ?_, fun b m => ?_, B.nd, B.len, fun n c a h1 h2 => ?_, B.flt, tabs_new h B.tab, nog_upd nt B.nog, all_upd nt B.all⟩, E⟩
  · dsimp only at e ⊢
    by_cases hb : b = p
    · subst hb; rw [upd_same] at e ⊢; exact e
    · rw [upd_ne hb] at e ⊢; exact B.sub b o' e
  · dsimp only at e ⊢
    by_cases hb : b = p
    · subst hb; rw [upd_same] at e ⊢; exact e
    · rw [upd_ne hb] at e ⊢; exact B.tupI b xs e
  · show upd W.G p _ b = none
    rw [upd_ne (fun z : b = p => ht (z ▸ m))]
    exact B.spc b m
  · have na : a ≠ p := fun z => ht (z ▸ List.mem_of_getElem? h2)
    have q := B.cel n c a h1 h2
    cases c with
    | l ds =>
      obtain ⟨us, e, r⟩ := q
      exact ⟨us, (upd_ne na).trans e, r.ext E⟩
    | o c fs =>
      obtain ⟨C, dx, us, e0, e, r⟩ := q
      exact ⟨C, dx, us, e0, (upd_ne na).trans e, r.ext E⟩
    | d fs =>
      obtain ⟨us, e, r⟩ := q
      exact ⟨us, (upd_ne na).trans e, r.ext E⟩
    | t fs =>
      obtain ⟨us, e, r⟩ := q
      exact ⟨us, (upd_ne na).trans e, r.ext E⟩
/-- a new list, not frozen -/
theorem Base.newL (B : Base K mg W s) (h : W.H p = none) {o : HO} (no : ∀ vs, o ≠ .tup vs) (nt : ∀ ps, o ≠ .tbl ps := by exact fun _ z => nomatch z) : Base K mg ⟨upd W.H p o, W.G, W.τ⟩ s ∧ Ext W ⟨upd W.H p o, W.G, W.τ⟩ := by
  have hG := B.frz_none h
  have ht : p ∉ W.τ := fun m => B.tau_some m h
  have E : Ext W ⟨upd W.H p o, W.G, W.τ⟩ := ⟨fun b o e _ => .inl (upd_new h b o e), fun _ _ e => e, fun b e => rfl, List.prefix_refl _, fun _ m n => absurd m n, fun t => tabs_new h t⟩
  refine ⟨⟨fun b o e => upd_new h b o (B.sub b o e), fun b xs e => ?_, B.spc, B.nd, B.len, fun n c a h1 h2 => ?_, B.flt, tabs_new h B.tab, B.nog, all_upd nt B.all⟩, E⟩
  · by_cases hb : b = p
    · subst hb
      have e' : upd W.H b o b = some (.tup xs) := e
      rw [upd_same] at e'
      exact absurd (Option.some.inj e') (no xs)
    · have e' : upd W.H p o b = some (.tup xs) := e
      rw [upd_ne hb] at e'
      exact B.tupI b xs e'
  · have na : a ≠ p := fun z => ht (z ▸ List.mem_of_getElem? h2)
    have q := B.cel n c a h1 h2
    cases c with
    | l ds =>
      obtain ⟨us, e, r⟩ := q
      exact ⟨us, (upd_ne na).trans e, r⟩
    | o c fs =>
      obtain ⟨C, dx, us, e0, e, r⟩ := q
      exact ⟨C, dx, us, e0, (upd_ne na).trans e, r⟩
    | d fs =>
      obtain ⟨us, e, r⟩ := q
      exact ⟨us, (upd_ne na).trans e, r⟩
    | t fs =>
      obtain ⟨us, e, r⟩ := q
      exact ⟨us, (upd_ne na).trans e, r⟩
/-- an object that isn't special and isn't frozen is frozen -/
theorem Base.freeze (B : Base K mg W s) {o : HO} (h : W.H p = some o) (hG : W.G p = none) (ht : p ∉ W.τ) (no : ∀ vs, o ≠ .tup vs) (nt : ∀ ps, o ≠ .tbl ps := by exact fun _ z => nomatch z) :
    Base K mg ⟨W.H, upd W.G p o, W.τ⟩ s := by
  have mono : Same W.G (upd W.G p o) := upd_new hG
  refine ⟨fun b x e => ?_, fun b xs e => ?_, fun b m => ?_, B.nd, B.len, fun n c a h1 h2 => ?_, B.flt, B.tab, nog_upd nt B.nog, B.all⟩
  · dsimp only at e ⊢
    by_cases hb : b = p
    · subst hb; rw [upd_same] at e; rw [← e]; exact h
    · rw [upd_ne hb] at e; exact B.sub b x e
  · exact mono _ _ (B.tupI b xs e)
  · show upd W.G p o b = none
    rw [upd_ne (fun z : b = p => ht (z ▸ m))]
    exact B.spc b m
  · have q := B.cel n c a h1 h2
    cases c with
    | l ds =>
      obtain ⟨us, e, r⟩ := q
      exact ⟨us, e, r.mono mono (List.prefix_refl _)⟩
    | o c fs =>
      obtain ⟨C, dx, us, e0, e, r⟩ := q
      exact ⟨C, dx, us, e0, e, r.mono mono (List.prefix_refl _)⟩
    | d fs =>
      obtain ⟨us, e, r⟩ := q
      exact ⟨us, e, r.mono mono (List.prefix_refl _)⟩
    | t fs =>
      obtain ⟨us, e, r⟩ := q
      exact ⟨us, e, r.mono mono (List.prefix_refl _)⟩
end
/-- a new list of its own may be taken for data -/
theorem r_ofF {f : DE} {K : PySem.W.Frag} {mg : Str → Option Value} : ∀ σ H Q, tE K mg E f σ H Q → tF K mg E f σ H Q := fun σ H Q h => by
  obtain ⟨W0, W, s, ρ, rfl, st, p⟩ := h
  refine ⟨W0, W, s, ρ, rfl, st, ?_⟩
  cases hf : f ρ s with
  | exc c s1 => rw [hf] at p; exact p
  | bad => rw [hf] at p; exact p
  | ok d s1 =>
    rw [hf] at p
    refine fun x W1 e B r => ?_
    obtain ⟨a, vs, ds, rfl, rfl, n0, nG, nt, eH, rv⟩ := r
    have B2 := B.freeze eH nG nt (fun _ z => nomatch z)
    have mono : Same W1.G (upd W1.G a (.lst vs)) := upd_new nG
    refine p (.ref a) ⟨W1.H, upd W1.G a (.lst vs), W1.τ⟩ ⟨e.keep0, e.grow.trans mono, fun b hb => ?_, e.tpre, e.tnew, e.tab⟩ B2 (.lst upd_same (rv.mono mono (List.prefix_refl _)))
    show upd W1.G a _ b = W.G b
    rw [upd_ne (fun z : b = a => hb (z ▸ n0))]
    exact e.out b hb
theorem e_ofF {f : DE} (h : PE X e (tF X.K X.mg E f)) : PE X e (tE X.K X.mg E f) := PE.mono h r_ofF
/-! ### arguments -/
def aNil : DA := fun _ s => .ok [] s
def aCons (f : DE) (g : DA) : DA := fun ρ s => (f ρ s).bind fun d s1 => (g ρ s1).bind fun ds s2 => .ok (d :: ds) s2
theorem a_nil : PA X [] (tA X.K X.mg E aNil) := PA.mono pa_nil fun σ H Q h => by
  obtain ⟨W0, W, s, ρ, rfl, st, p⟩ := h
  exact p.of_ok (x := []) st.base .nil
theorem a_cons {es : List Expr} {f : DE} {g : DA} (h : PE X e (tE X.K X.mg E f)) (hs : PA X es (tA X.K X.mg E g))
    (he : starEach (e :: es) X.env = (false, eval e X.env) :: starEach es X.env := by rfl) : PA X (e :: es) (tA X.K X.mg E (aCons f g)) := PA.mono (pa_cons h hs he) fun σ H Q h => by
  obtain ⟨W0, W, s, ρ, rfl, st, p⟩ := h
  refine (go st p).imp fun x H1 ⟨W1, s1, a, e1, r1, x1, st1, p1⟩ => ?_
  subst e1
  refine (go st1 p1).imp fun y H2 ⟨W2, s2, b, e2, r2, x2, st2, p2⟩ => ?_
  subst e2
  exact p2.of_ok (x := x :: y) st2.base (.cons (r1.ext x2) r2)
end
end DL
namespace DL
open PySem PySem.Spec PyProof.Rows L2
variable [LT : LawT]

/-! ### data of the library's kind -/
mutual
def toPy : D → PyData
  | .non => .none
  | .bl b => .bool b
  | .int i => .int i
  | .str x => .str x
  | .tup xs => .tuple (toPys xs)
  | .lst xs => .list (toPys xs)
  | .frz xs => .list (toPys xs)
  | .dct kvs => .dict (toPyKv kvs)
  | .tok _ => .none
  | .ty _ => .none
  | .glb _ => .none
  | .ktp xs => .tuple (toPys xs)
  | .exc _ => .none
def toPys : List D → List PyData
  | [] => []
  | x :: xs => toPy x :: toPys xs
def toPyKv : List (D × D) → List (PyData × PyData)
  | [] => []
  | (k, v) :: r => (toPy k, toPy v) :: toPyKv r
end
mutual
/-- data without dicts, classes and the like -/
def okD : D → Bool
  | .non => true
  | .bl _ => true
  | .int _ => true
  | .str x => PyData.canLay0 (.str x)
  | .tup xs => okDs xs
  | .lst xs => okDs xs
  | .frz xs => okDs xs
  | .dct _ => false
  | .tok _ => false
  | .ty _ => false
  | .glb _ => false
  | .ktp xs => okDs xs
  | .exc _ => false
def okDs : List D → Bool
  | [] => true
  | x :: xs => okD x && okDs xs
end
def ready (x : D) : Bool := okD x && decide ((toPy x).depth ≤ 64)
def eqB (x y : D) : Bool := PyData.eqv (toPy x) (toPy y)

section
variable {K : PySem.W.Frag} {mg : Str → Option Value} {G H : Hp} {τ : List Addr}
mutual
theorem dp_of (hs : Same G H) : ∀ {v : V} {d : D}, Rep K mg G τ v d → okD d = true → Dp K H v (toPy d)
  | _, _, .non, _ => .non
  | _, _, .bl b, _ => .bl b
  | _, _, .int i, _ => .int i
  | _, _, .str x, _ => .str x
  | _, _, .tup h r, q => .tup (.of (hs _ _ h)) (dps_of hs r (by simpa [okD] using q))
  | _, _, .lst h r, q => .lst (.of (hs _ _ h)) (dps_of hs r (by simpa [okD] using q))
  | _, _, .frz h r, q => .lst (hs.seq h) (dps_of hs r (by simpa [okD] using q))
  | _, _, .dK _ _, q => by simp [okD] at q
  | _, _, .dT _ _, q => by simp [okD] at q
  | _, _, .tok _, q => by simp [okD] at q
  | _, _, .ty _, q => by simp [okD] at q
  | _, _, .glb _ _, q => by simp [okD] at q
  | _, _, .ktp h r, q => .tup (seqT hs h) (dps_of hs r (by simpa [okD] using q))
  | _, _, .exc _ _, q => by simp [okD] at q
theorem dps_of (hs : Same G H) : ∀ {vs : List V} {ds : List D}, RepAll K mg G τ vs ds → okDs ds = true → DpAll K H vs (toPys ds)
  | _, _, .nil, _ => .nil
  | _, _, .cons h r, q => .cons (dp_of hs h (by simp [okDs] at q; exact q.1)) (dps_of hs r (by simp [okDs] at q; exact q.2))
end
end
mutual
theorem canLay_of : ∀ d : D, okD d = true → (toPy d).canLay0 = true
  | .non, _ => by simp [toPy, PyData.canLay0]
  | .bl _, _ => by simp [toPy, PyData.canLay0]
  | .int _, _ => by simp [toPy, PyData.canLay0]
  | .str x, h => by simpa [okD, toPy] using h
  | .tup xs, h => by simpa [toPy, PyData.canLay0] using canLays_of xs (by simpa [okD] using h)
  | .lst xs, h => by simpa [toPy, PyData.canLay0] using canLays_of xs (by simpa [okD] using h)
  | .frz xs, h => by simpa [toPy, PyData.canLay0] using canLays_of xs (by simpa [okD] using h)
  | .dct _, h => by simp [okD] at h
  | .tok _, h => by simp [okD] at h
  | .ty _, h => by simp [okD] at h
  | .glb _, h => by simp [okD] at h
  | .ktp xs, h => by simpa [toPy, PyData.canLay0] using canLays_of xs (by simpa [okD] using h)
  | .exc _, h => by simp [okD] at h
theorem canLays_of : ∀ ds : List D, okDs ds = true → PyData.canLayAll0 (toPys ds) = true
  | [], _ => by simp [toPys, PyData.canLayAll0]
  | x :: xs, h => by
    simp [okDs] at h
    simp [toPys, PyData.canLayAll0, canLay_of x h.1, canLays_of xs h.2]
end
theorem shaped_of {d : D} (h : ready d = true) : SeqAt.shaped (toPy d) = true := by
  simp [ready] at h
  simp [SeqAt.shaped, canLay_of d h.1, h.2]
theorem ready_ok {d : D} (h : ready d = true) : okD d = true := by
  simp [ready] at h
  exact h.1

/-! ### two values in, one out -/
abbrev F2 := D → D → Option D
def eOp2 (g : F2) (f h : DE) : DE := fun ρ s => (f ρ s).bind fun a s1 => (h ρ s1).bind fun b s2 => Res.ofO (g a b) s2
def V2 (K : PySem.W.Frag) (mg : Str → Option Value) (r : R2) (g : F2) : Prop :=
  ∀ (W : Hw) (s : S) (x y : V) (d e z : D) (Q : VK), Base K mg W s → Rep K mg W.G W.τ x d → Rep K mg W.G W.τ y e → g d e = some z → (∀ v W', Ext W W' → Base K mg W' s → Rep K mg W'.G W'.τ v z → Q v W'.H) → r x y W.H Q
def V2F (K : PySem.W.Frag) (mg : Str → Option Value) (r : R2) (g : F2) : Prop :=
  ∀ (W : Hw) (s : S) (x y : V) (d e z : D) (Q : VK), Base K mg W s → Rep K mg W.G W.τ x d → Rep K mg W.G W.τ y e → g d e = some z → (∀ v W', Ext W W' → Base K mg W' s → relF K mg W W' v z → Q v W'.H) → r x y W.H Q
section
variable {K : PySem.W.Frag} {mg : Str → Option Value} {r r' : R2} {g g' : F2}
theorem V2.inl (h : V2 K mg r g) : V2 K mg (fun x y H Q => r x y H Q ∨ r' x y H Q) g := fun W s x y d e z Q B rx ry hz q => .inl (h W s x y d e z Q B rx ry hz q)
theorem V2.inr (h : V2 K mg r' g) : V2 K mg (fun x y H Q => r x y H Q ∨ r' x y H Q) g := fun W s x y d e z Q B rx ry hz q => .inr (h W s x y d e z Q B rx ry hz q)
theorem stay {W : Hw} {s : S} (B : Base K mg W s) {z : D} {Q : VK} (q : ∀ v W', Ext W W' → Base K mg W' s → Rep K mg W'.G W'.τ v z → Q v W'.H) {v : V} (r : Rep K mg W.G W.τ v z) : Q v W.H := q v W (Ext.refl W) B r
theorem relF.mono {W W1 W2 : Hw} {v : V} {d : D} (e : Ext W W1) (B : Base K mg W1 s) (h : relF K mg W1 W2 v d) : relF K mg W W2 v d := by
  obtain ⟨a, vs, ds, rfl, rfl, n0, x⟩ := h
  refine ⟨a, vs, ds, rfl, rfl, ?_, x⟩
  cases q : W.H a with
  | none => rfl
  | some o =>
    by_cases m : a ∈ W.τ
    · obtain ⟨l, el⟩ := e.tpre
      exact absurd n0 (B.tau_some (by rw [← el]; exact List.mem_append_left _ m))
    · exact absurd n0 (e.dom q m)
end
section
variable {X : Cx} {a b c : Expr} {f h fc : DE} {pos : Pos} {E : WX} {r r' : R2} {g g' : F2}
theorem r_op2 (hv : V2 X.K X.mg r g) : ∀ σ H Q, tE X.K X.mg E (eOp2 g f h) σ H Q → tOp r (tE X.K X.mg E f) (tE X.K X.mg E h) σ H Q := fun σ H Q q => by
  obtain ⟨W0, W, s, ρ, rfl, st, p⟩ := q
  refine (go st p).imp fun x H1 ⟨W1, s1, d1, e1, r1, x1, st1, p1⟩ => ?_
  subst e1
  refine (go st1 p1).imp fun y H2 ⟨W2, s2, d2, e2, r2, x2, st2, p2⟩ => ?_
  subst e2
  cases hz : g d1 d2 with
  | none => rw [hz] at p2; exact p2.elim
  | some z =>
    rw [hz] at p2
    exact hv W2 s2 x y d1 d2 z Q st2.base (r1.ext x2) r2 hz p2
theorem e_op2 {op : Operator} (ho : OpR X (binaryOp op) r) (hv : V2 X.K X.mg r g) (ha : PE X a (tE X.K X.mg E f)) (hb : PE X b (tE X.K X.mg E h)) : PE X (.BinOp a op b pos) (tE X.K X.mg E (eOp2 g f h)) :=
  PE.mono (pe_op ho ha hb) (r_op2 hv)
theorem f_op2 {op : Operator} (ho : OpR X (binaryOp op) r) (hv : V2F X.K X.mg r g) (ha : PE X a (tE X.K X.mg E f)) (hb : PE X b (tE X.K X.mg E h)) : PE X (.BinOp a op b pos) (tF X.K X.mg E (eOp2 g f h)) := by
  refine PE.mono (pe_op ho ha hb) fun σ H Q q => ?_
  obtain ⟨W0, W, s, ρ, rfl, st, p⟩ := q
  refine (go st p).imp fun x H1 ⟨W1, s1, d1, e1, r1, x1, st1, p1⟩ => ?_
  subst e1
  refine (go st1 p1).imp fun y H2 ⟨W2, s2, d2, e2, r2, x2, st2, p2⟩ => ?_
  subst e2
  cases hz : g d1 d2 with
  | none => rw [hz] at p2; exact p2.elim
  | some z =>
    rw [hz] at p2
    exact hv W2 s2 x y d1 d2 z Q st2.base (r1.ext x2) r2 hz fun v W' e B rf => p2 v W' e B ((rf.mono x2 st2.base).mono x1 st1.base)
theorem e_cmp {op : CmpOp} (ho : OpR X (compareOp op) r) (hv : V2 X.K X.mg r g) (ha : PE X a (tE X.K X.mg E f)) (hb : PE X b (tE X.K X.mg E h)) (hm : behindInMarks op b = false) : PE X (.Compare a [op] [b] pos) (tE X.K X.mg E (eOp2 g f h)) :=
  PE.mono (pe_cmpR ho ha hb hm) (r_op2 hv)
/-- a truth as a test -/
def tBl (f : DE) : DT := fun ρ s => (f ρ s).bind fun d s1 => match d with
  | .bl b => .ok b s1
  | _ => .bad
theorem r_bl {te : TE} (hf : ∀ σ H Q, tE X.K X.mg E f σ H Q → te σ H Q) : ∀ σ H Q, tT X.K X.mg E (tBl f) σ H Q → tTest te σ H Q := fun σ H Q q => by
  obtain ⟨W0, W, s, ρ, rfl, st, p⟩ := q
  refine hf _ _ _ ((go st p).imp fun x H1 ⟨W1, s1, d1, e1, r1, x1, st1, p1⟩ => ?_)
  subst e1
  cases d1 with
  | bl b => exact ⟨b, r1.bl_inv, p1.of_ok st1.base rfl⟩
  | _ => exact p1.elim
theorem t_cmp {op : CmpOp} (ho : OpR X (compareOp op) r) (hv : V2 X.K X.mg r g) (ha : PE X a (tE X.K X.mg E f)) (hb : PE X b (tE X.K X.mg E h)) (hm : behindInMarks op b = false) : PT X (.Compare a [op] [b] pos) (tT X.K X.mg E (tBl (eOp2 g f h))) :=
  PT.mono (pt_cmpR ho ha hb hm) (r_bl (r_op2 hv))
/-- a op b op' c -/
def eChain (g g' : F2) (f h k : DE) : DE := fun ρ s => (f ρ s).bind fun x s1 => (h ρ s1).bind fun y s2 => match g x y with
  | some (.bl true) => (k ρ s2).bind fun z s3 => Res.ofO (g' y z) s3
  | some (.bl false) => .ok (.bl false) s2
  | _ => .bad
theorem r_chain (hv : V2 X.K X.mg r g) (hv' : V2 X.K X.mg r' g') : ∀ σ H Q, tE X.K X.mg E (eChain g g' f h fc) σ H Q → tChain r r' (tE X.K X.mg E f) (tE X.K X.mg E h) (tE X.K X.mg E fc) σ H Q := fun σ H Q q => by
  obtain ⟨W0, W, s, ρ, rfl, st, p⟩ := q
  refine (go st p).imp fun x H1 ⟨W1, s1, d1, e1, r1, x1, st1, p1⟩ => ?_
  subst e1
  refine (go st1 p1).imp fun y H2 ⟨W2, s2, d2, e2, r2, x2, st2, p2⟩ => ?_
  subst e2
  cases hz : g d1 d2 with
  | none => rw [hz] at p2; exact p2.elim
  | some z =>
    rw [hz] at p2
    refine hv W2 s2 x y d1 d2 z _ st2.base (r1.ext x2) r2 hz fun v W3 x3 B3 r3 => ?_
    cases z with
    | bl k =>
      refine ⟨k, r3.bl_inv, ?_⟩
      cases k with
      | true =>
        refine iteT ((go (st2.step x3 B3) (Post.ext x3 B3 p2)).imp fun w' H4 ⟨W4, s4, d4, e4, r4, x4, st4, p4⟩ => ?_)
        subst e4
        cases hz' : g' d2 d4 with
        | none => rw [hz'] at p4; exact p4.elim
        | some z' =>
          rw [hz'] at p4
          exact hv' W4 s4 y w' d2 d4 z' Q st4.base ((r2.ext x3).ext x4) r4 hz' p4
      | false => exact iteF (p2 _ W3 x3 B3 (.bl false))
    | _ => exact p2.elim
theorem e_chain {op op' : CmpOp} (ho : OpR X (compareOp op) r) (hv : V2 X.K X.mg r g) (ho' : OpR X (compareOp op') r') (hv' : V2 X.K X.mg r' g') (ha : PE X a (tE X.K X.mg E f)) (hb : PE X b (tE X.K X.mg E h)) (hc : PE X c (tE X.K X.mg E fc))
    (hm : lastMarks [op, op'] [b, c] = false := by with_unfolding_all rfl) : PE X (.Compare a [op, op'] [b, c] pos) (tE X.K X.mg E (eChain g g' f h fc)) := PE.mono (pe_chain ho ho' ha hb hc hm) (r_chain hv hv')
theorem t_chain {op op' : CmpOp} (ho : OpR X (compareOp op) r) (hv : V2 X.K X.mg r g) (ho' : OpR X (compareOp op') r') (hv' : V2 X.K X.mg r' g') (ha : PE X a (tE X.K X.mg E f)) (hb : PE X b (tE X.K X.mg E h)) (hc : PE X c (tE X.K X.mg E fc))
    (hm : lastMarks [op, op'] [b, c] = false := by with_unfolding_all rfl) : PT X (.Compare a [op, op'] [b, c] pos) (tT X.K X.mg E (tBl (eChain g g' f h fc))) := PT.mono (pt_chain ho ho' ha hb hc hm) (r_bl (r_chain hv hv'))
end

/-! ### the operators -/
def dIntB (p : Int → Int → Bool) : F2 := fun x y => match x, y with
  | .int i, .int j => some (.bl (p i j))
  | _, _ => none
def dLt : F2 := dIntB fun i j => decide (i < j)
def dLe : F2 := dIntB fun i j => decide (i ≤ j)
def dGt : F2 := dIntB fun i j => decide (j < i)
def dGe : F2 := dIntB fun i j => decide (j ≤ i)
def dSub : F2 := fun x y => match x, y with
  | .int i, .int j => some (.int (i - j))
  | _, _ => none
def dMod : F2 := fun x y => match x, y with
  | .int i, .int j => if j ≠ 0 then some (.int (i.fmod j)) else none
  | _, _ => none
def CFd (i j : Int) : Prop := j ≠ 0 ∧ Builtin.divisionGoesByPylong i j = false
instance (i j : Int) : Decidable (CFd i j) := by unfold CFd; exact inferInstance
def dFdiv : F2 := fun x y => match x, y with
  | .int i, .int j => if CFd i j then some (.int (i.fdiv j)) else none
  | _, _ => none
def CPw (i j : Int) : Prop := 0 ≤ j ∧ (Builtin.Int.intBits i : Int) * j ≤ 2 ^ 27
instance (i j : Int) : Decidable (CPw i j) := by unfold CPw; exact inferInstance
def dPow : F2 := fun x y => match x, y with
  | .int i, .int j => if CPw i j then some (.int (i ^ j.toNat)) else none
  | _, _ => none
instance (i j : Int) : Decidable (CShl i j) := by unfold CShl; exact inferInstance
def dShl : F2 := fun x y => match x, y with
  | .int i, .int j => if CShl i j then some (.int (i * 2 ^ j.toNat)) else none
  | _, _ => none
def dShr : F2 := fun x y => match x, y with
  | .int i, .int j => if 0 ≤ j then some (.int (i / 2 ^ j.toNat)) else none
  | _, _ => none
def dAnd : F2 := fun x y => match x, y with
  | .int i, .int j => some (.int (Builtin.bitAnd i j))
  | _, _ => none
instance (i j : Int) : Decidable (CMulX i j) := by unfold CMulX; exact inferInstance
def dAdd : F2 := fun x y => match x, y with
  | .int i, .int j => some (.int (i + j))
  | .tup a, .tup b => if a.length + b.length ≤ 16777216 then some (.tup (a ++ b)) else none
  | .lst a, .lst b => if a.length + b.length ≤ 16777216 then some (.lst (a ++ b)) else none
  | .str a, .str b => if a.length + b.length ≤ 16777216 then some (.str (a ++ b)) else none
  | _, _ => none
def dMul : F2 := fun x y => match x, y with
  | .int i, .int j => if CMulX i j then some (.int (i * j)) else none
  | .tup a, .int k => if a.length ≤ 1000 ∧ k ≤ 1000 ∧ -1000 ≤ k then some (.tup (List.replicate k.toNat a).flatten) else none
  | .lst a, .int k => if a.length * k.toNat ≤ 16777216 ∧ k ≤ 1000000 ∧ -1000000 ≤ k then some (.lst (List.replicate k.toNat a).flatten) else none
  | _, _ => none
def dEq : F2 := fun x y => match x, y with
  | .str a, .str b => some (.bl (decide (a = b)))
  | x, y => if ready x && ready y then some (.bl (eqB x y)) else none
def dNe : F2 := fun x y => match x, y with
  | .str a, .str b => some (.bl (!decide (a = b)))
  | x, y => if ready x && ready y then some (.bl (!eqB x y)) else none

section
variable {X : Cx} {K : PySem.W.Frag} {mg : Str → Option Value}
theorem vI {C : Int → Int → Prop} {g : Int → Int → V} {k : F2} (h : ∀ x y z, k x y = some z → ∃ i j, x = .int i ∧ y = .int j ∧ C i j ∧ ∀ G τ, Rep K mg G τ (g i j) z) : V2 K mg (rI C g) k := fun W s x y d e z Q B rx ry hz q => by
  obtain ⟨i, j, rfl, rfl, hc, hr⟩ := h d e z hz
  exact ⟨i, j, rx.int_inv, ry.int_inv, hc, stay B q (hr _ _)⟩
theorem vI0 {g : Int → Int → V} {k : F2} (h : ∀ x y z, k x y = some z → ∃ i j, x = .int i ∧ y = .int j ∧ ∀ G τ, Rep K mg G τ (g i j) z) : V2 K mg (rI0 g) k := fun W s x y d e z Q B rx ry hz q => by
  obtain ⟨i, j, rfl, rfl, hr⟩ := h d e z hz
  exact ⟨i, j, rx.int_inv, ry.int_inv, stay B q (hr _ _)⟩
theorem v_cmpI (p : Int → Int → Bool) : V2 K mg (rI0 fun i j => .bl (p i j)) (dIntB p) := vI0 fun x y z h => by
  unfold dIntB at h
  split at h
  · cases h; exact ⟨_, _, rfl, rfl, fun _ _ => .bl _⟩
  · cases h
theorem v_lt : V2 K mg (rI0 fun i j => .bl (decide (i < j))) dLt := v_cmpI _
theorem v_le : V2 K mg (rI0 fun i j => .bl (decide (i ≤ j))) dLe := v_cmpI _
theorem v_gt : V2 K mg (rI0 fun i j => .bl (decide (j < i))) dGt := v_cmpI _
theorem v_ge : V2 K mg (rI0 fun i j => .bl (decide (j ≤ i))) dGe := v_cmpI _
theorem v_sub : V2 K mg (rI0 fun i j => .int (i - j)) dSub := vI0 fun x y z h => by
  unfold dSub at h
  split at h
  · cases h; exact ⟨_, _, rfl, rfl, fun _ _ => .int _⟩
  · cases h
theorem v_and : V2 K mg (rI0 fun i j => .int (Builtin.bitAnd i j)) dAnd := vI0 fun x y z h => by
  unfold dAnd at h
  split at h
  · cases h; exact ⟨_, _, rfl, rfl, fun _ _ => .int _⟩
  · cases h
theorem v_mod : V2 K mg (rI (fun _ j => j ≠ 0) fun i j => .int (i.fmod j)) dMod := vI fun x y z h => by
  unfold dMod at h
  split at h
  · split at h
    · cases h; exact ⟨_, _, rfl, rfl, by assumption, fun _ _ => .int _⟩
    · cases h
  · cases h
theorem v_fdiv : V2 K mg (rI CFd fun i j => .int (i.fdiv j)) dFdiv := vI fun x y z h => by
  unfold dFdiv at h
  split at h
  · split at h
    · cases h; exact ⟨_, _, rfl, rfl, by assumption, fun _ _ => .int _⟩
    · cases h
  · cases h
theorem v_pow : V2 K mg (rI CPw fun i j => .int (i ^ j.toNat)) dPow := vI fun x y z h => by
  unfold dPow at h
  split at h
  · split at h
    · cases h; exact ⟨_, _, rfl, rfl, by assumption, fun _ _ => .int _⟩
    · cases h
  · cases h
theorem v_shl : V2 K mg (rI CShl fun i j => .int (i * 2 ^ j.toNat)) dShl := vI fun x y z h => by
  unfold dShl at h
  split at h
  · split at h
    · cases h; exact ⟨_, _, rfl, rfl, by assumption, fun _ _ => .int _⟩
    · cases h
  · cases h
theorem v_shr : V2 K mg (rI (fun _ j => 0 ≤ j) fun i j => .int (i / 2 ^ j.toNat)) dShr := vI fun x y z h => by
  unfold dShr at h
  split at h
  · split at h
    · cases h; exact ⟨_, _, rfl, rfl, by assumption, fun _ _ => .int _⟩
    · cases h
  · cases h
theorem op_fdivX : OpR X (binaryOp .FloorDiv) (rI CFd fun i j => .int (i.fdiv j)) := opI fun i j _ _ _ _ _ hc q => floordiv_int hc.1 q (.inl hc.2)
theorem op_powX : OpR X (binaryOp .Pow) (rI CPw fun i j => .int (i ^ j.toNat)) := opI fun _ _ _ _ _ _ _ hc q => pow_int hc.1 hc.2 q
end
end DL
namespace DL
open PySem PySem.Spec PyProof.Rows L2
theorem tup_mul_same (l : Addr) (items : Array Value) (n : Nat) (dd : Option Addr) (sl : Array (Option Value)) (x : Int) (u : Tok) (c0 : (decide (x < -(2 ^ 63)) || decide (x ≥ 2 ^ 63)) = false) (c1 : (items.isEmpty || x == 1) = true) :
    Meets (Builtin.«tuple.__mul__» ⟨[.ref l, .int x u], []⟩) (fun _ R s => s.heap.get? l = some { cls := .type "tuple", dict := dd, data := .seq items n, slots := sl } ∧ R (.ok (.ret (Value.ref l))) s) :=
  .of_wp fun prog w A R s h => by
    obtain ⟨hp, g, d, tk, os⟩ := s
    obtain ⟨hl, h⟩ := h
    have f1 := AutoSeq1.idx_int
    wp_walk using wpAny_loadPart' hl
    refine wpAny_ite_false (decide_eq_false (by rw [c0]; exact Bool.false_ne_true)) ?_
    wp_walk using wpAny_loadPart' hl
    exact ⟨_, rfl, h⟩
theorem tup_mul_none (l : Addr) (items : Array Value) (n : Nat) (dd : Option Addr) (sl : Array (Option Value)) (x : Int) (u : Tok) (c0 : (decide (x < -(2 ^ 63)) || decide (x ≥ 2 ^ 63)) = false) (c1 : (items.isEmpty || x == 1) = false) (c2 : (decide (x ≤ 0) || items.isEmpty) = true) :
    Meets (Builtin.«tuple.__mul__» ⟨[.ref l, .int x u], []⟩) (fun _ R s => s.heap.get? l = some { cls := .type "tuple", dict := dd, data := .seq items n, slots := sl } ∧
      R (.ok (.ret (Value.ref s.heap.objs.size))) { s with heap := s.heap.push { cls := Value.type "tuple", data := Data.seq #[] }, toks := s.toks }) :=
  .of_wp fun prog w A R s h => by
    obtain ⟨hp, g, d, tk, os⟩ := s
    obtain ⟨hl, h⟩ := h
    have f1 := AutoSeq1.idx_int
    wp_walk using wpAny_loadPart' hl
    repeat (first
      | (refine wpAny_ite_false (decide_eq_false (by rw [c0]; exact Bool.false_ne_true)) ?_; wp_walk using wpAny_loadPart' hl)
      | (refine wpAny_ite_false (decide_eq_false (by rw [c1]; exact Bool.false_ne_true)) ?_; wp_walk using wpAny_loadPart' hl)
      | (refine wpAny_ite_true (decide_eq_true (by rw [c2])) ?_; wp_walk using wpAny_loadPart' hl))
    exact ⟨_, rfl, h⟩
section
variable {X : Cx}
/-- a tuple times any int -/
def rRepA (K : PySem.W.Frag) : R2 := fun x y H Q => ∃ l k xs, x = .ref l ∧ y = .int k ∧ SqT K H l xs ∧ -1000 ≤ k ∧ k ≤ 1000 ∧ xs.length ≤ 1000 ∧
  ((xs = [] ∨ k = 1) → Q (.ref l) H) ∧ ((xs ≠ [] ∧ k ≠ 1) → ∀ p, H p = none → Q (.ref p) (upd H p (.tup (List.replicate k.toNat xs).flatten)))
theorem op_repA : OpR X (binaryOp .Mult) (rRepA X.K) := by
  intro pins s σ H x y v u Q I rx ry h
  obtain ⟨l, k, xs, ex, ey, hT, hk0, hk1, hz, q0, q1⟩ := h
  by_cases hs : xs = [] ∨ k = 1
  · subst ex ey
    cases rx
    obtain ⟨t, rfl⟩ := ry
    obtain ⟨its, r, ⟨⟨cls, dd, data, sl⟩, ho, hc, n, hd⟩, hz2⟩ := I.tuple hT
    simp only at hc hd
    subst hc hd
    have c0 : (decide (k < -(2 ^ 63)) || decide (k ≥ 2 ^ 63)) = false := by
      rw [decide_eq_false (by omega), decide_eq_false (by omega)] <;> rfl
    have c1 : (its.toArray.isEmpty || k == 1) = true := by
      rcases hs with e | e
      · subst e; cases r; rfl
      · subst e; simp
    exact wpAny_binaryOp_repeat_ref (T := "tuple") (U := "int") (by decide) ⟨_, ho, rfl⟩ (fun s' => typeIs_int s' k t) noFill_tuple_mul F.fills_int_mul F.slot_int_rmul repeat_tuple F.slot_int_index.lookup
      (call_meets F.slot_int_rmul (typeIs_int s k t) F.entry_int_rmul (F.args_int_rmul_2 _ _) (int_rmul_tuple k t l its.toArray n dd sl)
        ⟨ho, rfl, ⟨_, ho, rfl⟩, call_meets F.slot_tuple_mul ⟨_, ho, rfl⟩ F.entry_tuple_mul (F.args_tuple_mul_2 _ _) (tup_mul_same l its.toArray n dd sl k t c0 c1) ⟨ho, ⟨.ref l, H, I, rfl, q0 hs⟩⟩⟩)
  · have hn : xs ≠ [] := fun e => hs (.inl e)
    have h1 : k ≠ 1 := fun e => hs (.inr e)
    by_cases h2 : 2 ≤ k
    · exact op_repT pins s σ H x y v u Q I rx ry ⟨l, k, xs, ex, ey, hT, hn, h2, hk1, hz, q1 ⟨hn, h1⟩⟩
    · subst ex ey
      cases rx
      obtain ⟨t, rfl⟩ := ry
      obtain ⟨its, r, ⟨⟨cls, dd, data, sl⟩, ho, hc, n, hd⟩, hz2⟩ := I.tuple hT
      simp only at hc hd
      subst hc hd
      have c0 : (decide (k < -(2 ^ 63)) || decide (k ≥ 2 ^ 63)) = false := by
        rw [decide_eq_false (by omega), decide_eq_false (by omega)] <;> rfl
      have c1 : (its.toArray.isEmpty || k == 1) = false := by
        have e1 : its.toArray.isEmpty = false := by
          cases r with
          | nil => exact absurd rfl hn
          | cons _ _ => rfl
        rw [e1, Bool.false_or]
        exact beq_eq_false_iff_ne.mpr h1
      have c2 : (decide (k ≤ 0) || its.toArray.isEmpty) = true := by rw [decide_eq_true (by omega)]; rfl
      have e0 : k.toNat = 0 := by omega
      have hq := q1 ⟨hn, h1⟩ s.heap.objs.size I.fresh
      rw [e0] at hq
      exact wpAny_binaryOp_repeat_ref (T := "tuple") (U := "int") (by decide) ⟨_, ho, rfl⟩ (fun s' => typeIs_int s' k t) noFill_tuple_mul F.fills_int_mul F.slot_int_rmul repeat_tuple F.slot_int_index.lookup
        (call_meets F.slot_int_rmul (typeIs_int s k t) F.entry_int_rmul (F.args_int_rmul_2 _ _) (int_rmul_tuple k t l its.toArray n dd sl)
          ⟨ho, rfl, ⟨_, ho, rfl⟩, call_meets F.slot_tuple_mul ⟨_, ho, rfl⟩ F.entry_tuple_mul (F.args_tuple_mul_2 _ _) (tup_mul_none l its.toArray n dd sl k t c0 c1 c2)
            ⟨ho, ⟨.ref s.heap.objs.size, _, I.laid (o := .tup []) (t' := s.toks) (fun b o e => Heap.get?_push_of_some _ e) (Nat.le_refl _) ⟨Nat.zero_le _, [], .nil, ⟨_, Heap.get?_push_size _ rfl, rfl, _, rfl⟩⟩, rfl, hq⟩⟩⟩)
end
end DL
namespace DL
open PySem PySem.Spec PyProof.Rows L2
variable [LT : LawT]

theorem line_le {n : Nat} (h : n ≤ 16777216) : n ≤ sizeLine := by rw [sizeLine_eq]; exact h
section
variable {K : PySem.W.Frag} {mg : Str → Option Value} {W : Hw} {s : S}
/-- a new list, taken for data -/
theorem newFrz (B : Base K mg W s) {p : Addr} (h : W.H p = none) (o : HO) {z : D} {Q : VK} (q : ∀ v W', Ext W W' → Base K mg W' s → Rep K mg W'.G W'.τ v z → Q v W'.H)
    (r : ∀ W', Ext W W' → W'.G p = some o → Rep K mg W'.G W'.τ (.ref p) z) (nt : ∀ ps, o ≠ .tbl ps := by exact fun _ z => nomatch z) : Q (.ref p) (upd W.H p o) := by
  obtain ⟨B1, E1⟩ := B.newO h o nt
  exact q (.ref p) _ E1 B1 (r _ E1 upd_same)
end

/-! ### + -/
def rAdd (K : PySem.W.Frag) : R2 := fun x y H Q => rI0 (fun i j => .int (i + j)) x y H Q ∨ rCatA K x y H Q ∨ rCat x y H Q ∨ ∃ i j, x = .str i ∧ y = .str j ∧ i.length + j.length ≤ sizeLine ∧ Q (.str (i ++ j)) H
section
variable {X : Cx} {K : PySem.W.Frag} {mg : Str → Option Value}
theorem op_addA : OpR X (binaryOp .Add) (rAdd X.K) := OpR.or op_add (OpR.or op_catA (OpR.or op_cat op_add_str))
theorem v_add : V2 K mg (rAdd K) dAdd := fun W s x y d e z Q B rx ry hz q => by
  unfold dAdd at hz
  split at hz
  · cases hz
    exact .inl ⟨_, _, rx.int_inv, ry.int_inv, stay B q (.int _)⟩
  · split at hz
    · cases hz
      rename_i a b hl
      obtain ⟨a1, xs, rfl, h1, r1⟩ := rx.tup_inv'
      obtain ⟨b1, ys, rfl, h2, r2⟩ := ry.tup_inv'
      have l1 := r1.length
      have l2 := r2.length
      refine .inr (.inl ⟨a1, b1, xs, ys, rfl, rfl, .of (B.sub _ _ h1), .of (B.sub _ _ h2), line_le (by omega), fun e => ?_, fun e1 e2 => ?_, fun e1 e2 p hp => ?_⟩)
      · subst e
        cases r1
        exact stay B q (.tup h2 (by simpa using r2))
      · subst e2
        cases r2
        exact stay B q (.tup h1 (by simpa using r1))
      · exact newFrz B hp _ q fun W' E' e' => .tup e' ((r1.append r2).ext E')
    · cases hz
  · split at hz
    · cases hz
      rename_i a b hl
      obtain ⟨a1, xs, rfl, h1, r1⟩ := rx.lst_inv
      obtain ⟨b1, ys, rfl, h2, r2⟩ := ry.lst_inv
      have l1 := r1.length
      have l2 := r2.length
      exact .inr (.inr (.inl ⟨a1, b1, xs, ys, rfl, rfl, B.sub _ _ h1, B.sub _ _ h2, line_le (by omega), fun p hp => newFrz B hp _ q fun W' E' e' => .lst e' ((r1.append r2).ext E')⟩))
    · cases hz
  · split at hz
    · cases hz
      exact .inr (.inr (.inr ⟨_, _, rx.str_inv, ry.str_inv, line_le (by assumption), stay B q (.str _)⟩))
    · cases hz
  · cases hz
/-- list + list, a new list of its own -/
def dAddL : F2 := fun x y => match x, y with
  | .lst a, .lst b => if a.length + b.length ≤ 16777216 then some (.lst (a ++ b)) else none
  | _, _ => none
theorem newOwn {W : Hw} {s : S} (B : Base K mg W s) {p : Addr} (h : W.H p = none) {vs : List V} {ds : List D} {Q : VK} (q : ∀ v W', Ext W W' → Base K mg W' s → relF K mg W W' v (.lst ds) → Q v W'.H) (r : RepAll K mg W.G W.τ vs ds) : Q (.ref p) (upd W.H p (.lst vs)) := by
  obtain ⟨B1, E1⟩ := B.newL h (o := .lst vs) (fun _ z => nomatch z)
  exact q (.ref p) _ E1 B1 ⟨p, vs, ds, rfl, rfl, h, B.frz_none h, fun m => B.tau_some m h, upd_same, r⟩
theorem vF_add : V2F K mg rCat dAddL := fun W s x y d e z Q B rx ry hz q => by
  unfold dAddL at hz
  split at hz
  · split at hz
    · cases hz
      rename_i a b hl
      obtain ⟨a1, xs, rfl, h1, r1⟩ := rx.lst_inv
      obtain ⟨b1, ys, rfl, h2, r2⟩ := ry.lst_inv
      have l1 := r1.length
      have l2 := r2.length
      exact ⟨a1, b1, xs, ys, rfl, rfl, B.sub _ _ h1, B.sub _ _ h2, line_le (by omega), fun p hp => newOwn B hp q (r1.append r2)⟩
    · cases hz
  · cases hz

/-! ### * -/
def rMul (K : PySem.W.Frag) : R2 := fun x y H Q => rI CMulX (fun i j => .int (i * j)) x y H Q ∨ rRepA K x y H Q ∨ rRep x y H Q
theorem op_mulA : OpR X (binaryOp .Mult) (rMul X.K) := OpR.or op_mulX (OpR.or op_repA op_rep)
theorem rep_one {α : Type} (xs : List α) : (List.replicate (1 : Int).toNat xs).flatten = xs := by simp
theorem rep_nil {α : Type} (n : Nat) : (List.replicate n ([] : List α)).flatten = [] := by simp
theorem v_mul : V2 K mg (rMul K) dMul := fun W s x y d e z Q B rx ry hz q => by
  unfold dMul at hz
  split at hz
  · split at hz
    · cases hz
      exact .inl ⟨_, _, rx.int_inv, ry.int_inv, by assumption, stay B q (.int _)⟩
    · cases hz
  · split at hz
    · cases hz
      rename_i a k hl
      obtain ⟨a1, xs, rfl, h1, r1⟩ := rx.tup_inv'
      cases ry.int_inv
      have l1 := r1.length
      refine .inr (.inl ⟨a1, k, xs, rfl, rfl, .of (B.sub _ _ h1), hl.2.2, hl.2.1, by omega, fun e => ?_, fun e p hp => ?_⟩)
      · rcases e with e | e
        · subst e
          cases r1
          rw [rep_nil] at q
          exact stay B q (.tup h1 .nil)
        · subst e
          rw [rep_one] at q
          exact stay B q (.tup h1 r1)
      · exact newFrz B hp _ q fun W' E' e' => .tup e' ((r1.rep _).ext E')
    · cases hz
  · split at hz
    · cases hz
      rename_i a k hl
      obtain ⟨a1, xs, rfl, h1, r1⟩ := rx.lst_inv
      cases ry.int_inv
      have l1 := r1.length
      exact .inr (.inr ⟨a1, k, xs, rfl, rfl, B.sub _ _ h1, by omega, by omega, line_le (by rw [l1]; exact hl.1), fun p hp => newFrz B hp _ q fun W' E' e' => .lst e' ((r1.rep _).ext E')⟩)
    · cases hz
  · cases hz
def dMulL : F2 := fun x y => match x, y with
  | .lst a, .int k => if a.length * k.toNat ≤ 16777216 ∧ k ≤ 1000000 ∧ -1000000 ≤ k then some (.lst (List.replicate k.toNat a).flatten) else none
  | _, _ => none
theorem vF_mul : V2F K mg rRep dMulL := fun W s x y d e z Q B rx ry hz q => by
  unfold dMulL at hz
  split at hz
  · split at hz
    · cases hz
      rename_i a k hl
      obtain ⟨a1, xs, rfl, h1, r1⟩ := rx.lst_inv
      cases ry.int_inv
      have l1 := r1.length
      exact ⟨a1, k, xs, rfl, rfl, B.sub _ _ h1, by omega, by omega, line_le (by rw [l1]; exact hl.1), fun p hp => newOwn B hp q (r1.rep _)⟩
    · cases hz
  · cases hz

/-! ### == -/
def rEqA (K : PySem.W.Frag) : R2 := fun x y H Q => rEq x y H Q ∨ rEqD K x y H Q
def rNeA (K : PySem.W.Frag) : R2 := fun x y H Q => rNe x y H Q ∨ rNeD K x y H Q
theorem op_eqA (hu : X.A.units + 64 < cLine) : OpR X (compareOp .Eq) (rEqA X.K) := OpR.or op_eq (op_eqD hu)
theorem op_neA (hu : X.A.units + 64 < cLine) : OpR X (compareOp .NotEq) (rNeA X.K) := OpR.or op_ne (op_neD hu)
theorem v_eq : V2 K mg (rEqA K) dEq := fun W s x y d e z Q B rx ry hz q => by
  unfold dEq at hz
  split at hz
  · cases hz
    cases rx.str_inv
    cases ry.str_inv
    refine .inl ⟨rfl, ?_⟩
    simp only [V.str.injEq]
    exact stay B q (.bl _)
  · split at hz
    · cases hz
      rename_i hr
      rw [Bool.and_eq_true] at hr
      exact .inr ⟨_, _, dp_of B.sub rx (ready_ok hr.1), dp_of B.sub ry (ready_ok hr.2), shaped_of hr.1, shaped_of hr.2, stay B q (.bl _)⟩
    · cases hz
theorem v_ne : V2 K mg (rNeA K) dNe := fun W s x y d e z Q B rx ry hz q => by
  unfold dNe at hz
  split at hz
  · cases hz
    cases rx.str_inv
    cases ry.str_inv
    refine .inl ⟨rfl, ?_⟩
    simp only [V.str.injEq]
    exact stay B q (.bl _)
  · split at hz
    · cases hz
      rename_i hr
      rw [Bool.and_eq_true] at hr
      exact .inr ⟨_, _, dp_of B.sub rx (ready_ok hr.1), dp_of B.sub ry (ready_ok hr.2), shaped_of hr.1, shaped_of hr.2, stay B q (.bl _)⟩
    · cases hz
/-! ### is None, is of truths -/
def rIs : R2 := fun x y H Q => (y = .non ∧ Q (.bl (decide (x = .non))) H) ∨ rIsB x y H Q
def rIsnt : R2 := fun x y H Q => (y = .non ∧ Q (.bl (!decide (x = .non))) H) ∨ rNotB x y H Q
def isNon : D → Option Bool
  | .non => some true
  | .glb _ => none
  | .ty _ => some false
  | _ => some false
def dIs : F2 := fun x y => match x, y with
  | x, .non => (isNon x).map .bl
  | .bl a, .bl b => some (.bl (decide (a = b)))
  | _, _ => none
def dIsnt : F2 := fun x y => match x, y with
  | x, .non => (isNon x).map fun b => .bl (!b)
  | .bl a, .bl b => some (.bl (!decide (a = b)))
  | _, _ => none
theorem op_isA : OpR X (compareOp .Is) rIs := OpR.or op_isN op_isBl
theorem op_isntA : OpR X (compareOp .IsNot) rIsnt := OpR.or op_notN op_notBl
theorem isNon_of {W : Hw} {v : V} {d : D} {b : Bool} (r : Rep K mg W.G W.τ v d) (h : isNon d = some b) : decide (v = .non) = b := by
  cases r <;> first
    | (simp [isNon] at h; subst h; simp)
    | (simp [isNon] at h)
theorem v_is : V2 K mg rIs dIs := fun W s x y d e z Q B rx ry hz q => by
  unfold dIs at hz
  split at hz
  · cases ry.non_inv
    cases hn : isNon d with
    | none => rw [hn] at hz; cases hz
    | some b =>
      rw [hn] at hz
      cases hz
      refine .inl ⟨rfl, ?_⟩
      rw [isNon_of rx hn]
      exact stay B q (.bl _)
  · cases hz
    cases rx.bl_inv
    cases ry.bl_inv
    exact .inr ⟨_, _, rfl, rfl, stay B q (.bl _)⟩
  · cases hz
theorem v_isnt : V2 K mg rIsnt dIsnt := fun W s x y d e z Q B rx ry hz q => by
  unfold dIsnt at hz
  split at hz
  · cases ry.non_inv
    cases hn : isNon d with
    | none => rw [hn] at hz; cases hz
    | some b =>
      rw [hn] at hz
      cases hz
      refine .inl ⟨rfl, ?_⟩
      rw [isNon_of rx hn]
      exact stay B q (.bl _)
  · cases hz
    cases rx.bl_inv
    cases ry.bl_inv
    exact .inr ⟨_, _, rfl, rfl, stay B q (.bl _)⟩
  · cases hz
/-! ### in, of data -/
def rInT (K : PySem.W.Frag) : R2 := fun x y H Q => ∃ d ds, Dp K H x d ∧ Dp K H y (.tuple ds) ∧ SeqAt.shaped d = true ∧ SeqAt.shaped (.tuple ds) = true ∧ Q (.bl (ds.any fun z => PyData.eqv z d)) H
def rNotInT (K : PySem.W.Frag) : R2 := fun x y H Q => ∃ d ds, Dp K H x d ∧ Dp K H y (.tuple ds) ∧ SeqAt.shaped d = true ∧ SeqAt.shaped (.tuple ds) = true ∧ Q (.bl (!ds.any fun z => PyData.eqv z d)) H
theorem room_in {A : Around} {d : PyData} {ds : List PyData} (h : SeqAt.shaped d = true) (hu : A.units + 65 < cLine) : A.units + 1 + min (PyData.depthAll ds) d.depth < cLine := by
  have h1 := SeqAt.depth_of_shaped h
  have h2 : min (PyData.depthAll ds) d.depth ≤ d.depth := Nat.min_le_right _ _
  omega
theorem op_inT (hu : X.A.units + 65 < cLine) : OpR X (compareOp .In) (rInT X.K) := by
  intro pins s σ H x y v u Q I rx ry h
  obtain ⟨d, ds, hd, he, sd, se, q⟩ := h
  obtain ⟨as, r1⟩ := Dp.reads I d x v hd rx
  obtain ⟨bs, r2⟩ := Dp.reads I (.tuple ds) y u he ry
  have c2 : PyData.canLayAll0 ds = true := by have := SeqAt.canLay_of_shaped se; simpa [PyData.canLay0] using this
  exact SeqAt.in_tuple_reads r2 r1 c2 (SeqAt.canLay_of_shaped sd) (room_in sd hu) ⟨.bl _, H, I, rfl, q⟩
theorem op_notInT (hu : X.A.units + 65 < cLine) : OpR X (compareOp .NotIn) (rNotInT X.K) := by
  intro pins s σ H x y v u Q I rx ry h
  obtain ⟨d, ds, hd, he, sd, se, q⟩ := h
  obtain ⟨as, r1⟩ := Dp.reads I d x v hd rx
  obtain ⟨bs, r2⟩ := Dp.reads I (.tuple ds) y u he ry
  have c2 : PyData.canLayAll0 ds = true := by have := SeqAt.canLay_of_shaped se; simpa [PyData.canLay0] using this
  exact SeqAt.notIn_tuple_reads r2 r1 c2 (SeqAt.canLay_of_shaped sd) (room_in sd hu) ⟨.bl _, H, I, rfl, q⟩
def inB (x : D) (ys : List D) : Bool := ys.any fun z => eqB z x
def dIn : F2 := fun x y => match y with
  | .lst ds => if ready x && ready (.lst ds) then some (.bl (inB x ds)) else none
  | .tup ds => if ready x && ready (.tup ds) then some (.bl (inB x ds)) else none
  | .str b => match x with
    | .str a => some (.bl (!(Builtin.Str.occurrences b a 0 b.length 1).isEmpty))
    | _ => none
  | _ => none
def dNotIn : F2 := fun x y => match y with
  | .lst ds => if ready x && ready (.lst ds) then some (.bl (!inB x ds)) else none
  | .tup ds => if ready x && ready (.tup ds) then some (.bl (!inB x ds)) else none
  | .str b => match x with
    | .str a => some (.bl (!!(Builtin.Str.occurrences b a 0 b.length 1).isEmpty))
    | _ => none
  | _ => none
def rInA (K : PySem.W.Frag) : R2 := fun x y H Q => rInD K x y H Q ∨ rInT K x y H Q ∨ ∃ i j, x = .str i ∧ y = .str j ∧ Q (.bl (!(Builtin.Str.occurrences j i 0 j.length 1).isEmpty)) H
def rNotInA (K : PySem.W.Frag) : R2 := fun x y H Q => rNotInD K x y H Q ∨ rNotInT K x y H Q ∨ ∃ i j, x = .str i ∧ y = .str j ∧ Q (.bl (!(!(Builtin.Str.occurrences j i 0 j.length 1).isEmpty))) H
theorem op_inA (hu : X.A.units + 65 < cLine) : OpR X (compareOp .In) (rInA X.K) := OpR.or (op_inD hu) (OpR.or (op_inT hu) op_in_str)
theorem op_notInA (hu : X.A.units + 65 < cLine) : OpR X (compareOp .NotIn) (rNotInA X.K) := OpR.or (op_notInD hu) (OpR.or (op_notInT hu) op_notIn_str)
theorem toPys_map (ds : List D) : toPys ds = ds.map toPy := by
  induction ds with
  | nil => rfl
  | cons d ds ih => simp [toPys, ih]
theorem inB_py (x : D) (ds : List D) : ((toPys ds).any fun z => PyData.eqv z (toPy x)) = inB x ds := by
  rw [toPys_map, List.any_map]
  rfl
theorem v_in : V2 K mg (rInA K) dIn := fun W s x y d e z Q B rx ry hz q => by
  unfold dIn at hz
  split at hz
  · split at hz
    · cases hz
      rename_i ds hr
      rw [Bool.and_eq_true] at hr
      refine .inl ⟨toPy d, toPys ds, dp_of B.sub rx (ready_ok hr.1), by simpa [toPy] using dp_of B.sub ry (ready_ok hr.2), shaped_of hr.1, by simpa [toPy] using shaped_of hr.2, ?_⟩
      rw [inB_py]
      exact stay B q (.bl _)
    · cases hz
  · split at hz
    · cases hz
      rename_i ds hr
      rw [Bool.and_eq_true] at hr
      refine .inr (.inl ⟨toPy d, toPys ds, dp_of B.sub rx (ready_ok hr.1), by simpa [toPy] using dp_of B.sub ry (ready_ok hr.2), shaped_of hr.1, by simpa [toPy] using shaped_of hr.2, ?_⟩)
      rw [inB_py]
      exact stay B q (.bl _)
    · cases hz
  · split at hz
    · cases hz
      exact .inr (.inr ⟨_, _, rx.str_inv, ry.str_inv, stay B q (.bl _)⟩)
    · cases hz
  · cases hz
theorem v_notIn : V2 K mg (rNotInA K) dNotIn := fun W s x y d e z Q B rx ry hz q => by
  unfold dNotIn at hz
  split at hz
  · split at hz
    · cases hz
      rename_i ds hr
      rw [Bool.and_eq_true] at hr
      refine .inl ⟨toPy d, toPys ds, dp_of B.sub rx (ready_ok hr.1), by simpa [toPy] using dp_of B.sub ry (ready_ok hr.2), shaped_of hr.1, by simpa [toPy] using shaped_of hr.2, ?_⟩
      rw [inB_py]
      exact stay B q (.bl _)
    · cases hz
  · split at hz
    · cases hz
      rename_i ds hr
      rw [Bool.and_eq_true] at hr
      refine .inr (.inl ⟨toPy d, toPys ds, dp_of B.sub rx (ready_ok hr.1), by simpa [toPy] using dp_of B.sub ry (ready_ok hr.2), shaped_of hr.1, by simpa [toPy] using shaped_of hr.2, ?_⟩)
      rw [inB_py]
      exact stay B q (.bl _)
    · cases hz
  · split at hz
    · cases hz
      exact .inr (.inr ⟨_, _, rx.str_inv, ry.str_inv, stay B q (.bl _)⟩)
    · cases hz
  · cases hz
end
end DL
namespace DL
open PySem PySem.Spec PyProof.Rows L2
variable [LT : LawT]

/-! ### truth, and, or, not, if else -/
def dTruth : D → Option Bool
  | .non => some false
  | .bl b => some b
  | .int i => some (i != 0)
  | .str x => if x.length ≤ 16777216 then some ((x.length : Int) != 0) else none
  | .tup xs => some (!xs.isEmpty)
  | .lst xs => some (!xs.isEmpty)
  | .frz xs => some (!xs.isEmpty)
  | _ => none
def tTru (f : DE) : DT := fun ρ s => (f ρ s).bind fun d s1 => Res.ofO (dTruth d) s1
def eAnd (f g : DE) : DE := fun ρ s => (f ρ s).bind fun d s1 => match dTruth d with
  | some true => g ρ s1
  | some false => .ok d s1
  | none => .bad
def eOr (f g : DE) : DE := fun ρ s => (f ρ s).bind fun d s1 => match dTruth d with
  | some true => .ok d s1
  | some false => g ρ s1
  | none => .bad
def eNot (f : DE) : DE := fun ρ s => (f ρ s).bind fun d s1 => match dTruth d with
  | some b => .ok (.bl (!b)) s1
  | none => .bad
def tAndD (f g : DT) : DT := fun ρ s => (f ρ s).bind fun b s1 => if b then g ρ s1 else .ok false s1
def tOrD (f g : DT) : DT := fun ρ s => (f ρ s).bind fun b s1 => if b then .ok true s1 else g ρ s1
def tNotD (f : DT) : DT := fun ρ s => (f ρ s).bind fun b s1 => .ok (!b) s1
def eIf (c : DT) (f g : DE) : DE := fun ρ s => (c ρ s).bind fun b s1 => if b then f ρ s1 else g ρ s1
section
variable {K : PySem.W.Frag} {mg : Str → Option Value} {W : Hw} {s : S} {v : V} {d : D} {b : Bool}
theorem empty_of {vs : List V} {ds : List D} (r : RepAll K mg W.G W.τ vs ds) : vs.isEmpty = ds.isEmpty := by cases r <;> rfl
theorem tru_of (B : Base K mg W s) (r : Rep K mg W.G W.τ v d) (h : dTruth d = some b) : TruV K v W.H b := by
  cases r with
  | non => simp [dTruth] at h; exact h
  | bl c => simp [dTruth] at h; exact h.symm
  | int i => simp [dTruth] at h; exact h.symm
  | str x =>
    simp only [dTruth] at h
    split at h
    · cases h; exact ⟨line_le (by assumption), rfl⟩
    · cases h
  | tup q r => simp only [dTruth, Option.some.injEq] at h; exact .inr (.inl ⟨_, .of (B.sub _ _ q), by rw [empty_of r]; exact h.symm⟩)
  | lst q r => simp only [dTruth, Option.some.injEq] at h; exact .inl ⟨_, .of (B.sub _ _ q), by rw [empty_of r]; exact h.symm⟩
  | frz q r => simp only [dTruth, Option.some.injEq] at h; exact .inl ⟨_, B.sub.seq q, by rw [empty_of r]; exact h.symm⟩
  | _ => simp [dTruth] at h
end
section
variable {X : Cx} {a b c : Expr} {rest : List Expr} {f g h : DE} {p q : DT} {pos : Pos} {E : WX}
theorem t_truth (ha : PE X a (tE X.K X.mg E f)) (he : ∀ whole, isTrue a X.env whole = (do let v ← whole; standAt a.pos; holding [v] (truthy v)) := by intro _; rfl) : PT X a (tT X.K X.mg E (tTru f)) :=
  PT.mono (pt_truth ha he) fun σ H Q z => by
    obtain ⟨W0, W, s, ρ, rfl, st, z⟩ := z
    refine (go st z).imp fun x H1 ⟨W1, s1, d1, e1, r1, x1, st1, z1⟩ => ?_
    subst e1
    cases hd : dTruth d1 with
    | none => rw [hd] at z1; exact z1.elim
    | some k =>
      rw [hd] at z1
      exact ⟨k, tru_of st1.base r1 hd, z1.of_ok st1.base rfl⟩
theorem e_one {op : BoolOp} (h : PE X a (tE X.K X.mg E f)) : PE X (.BoolOp op [a] pos) (tE X.K X.mg E f) := pe_one h
theorem e_and (ha : PE X a (tE X.K X.mg E f)) (hb : PE X (.BoolOp .And (b :: rest) pos) (tE X.K X.mg E g)) : PE X (.BoolOp .And (a :: b :: rest) pos) (tE X.K X.mg E (eAnd f g)) :=
  PE.mono (pe_andT ha hb) fun σ H Q z => by
    obtain ⟨W0, W, s, ρ, rfl, st, z⟩ := z
    refine (go st z).imp fun x H1 ⟨W1, s1, d1, e1, r1, x1, st1, z1⟩ => ?_
    subst e1
    cases hd : dTruth d1 with
    | none => rw [hd] at z1; exact z1.elim
    | some k =>
      rw [hd] at z1
      refine ⟨k, tru_of st1.base r1 hd, ?_⟩
      cases k with
      | true => exact iteT ⟨W0, W1, s1, ρ, rfl, st1, z1⟩
      | false => exact iteF (z1.of_ok st1.base r1)
theorem e_or (ha : PE X a (tE X.K X.mg E f)) (hb : PE X (.BoolOp .Or (b :: rest) pos) (tE X.K X.mg E g)) : PE X (.BoolOp .Or (a :: b :: rest) pos) (tE X.K X.mg E (eOr f g)) :=
  PE.mono (pe_orT ha hb) fun σ H Q z => by
    obtain ⟨W0, W, s, ρ, rfl, st, z⟩ := z
    refine (go st z).imp fun x H1 ⟨W1, s1, d1, e1, r1, x1, st1, z1⟩ => ?_
    subst e1
    cases hd : dTruth d1 with
    | none => rw [hd] at z1; exact z1.elim
    | some k =>
      rw [hd] at z1
      refine ⟨k, tru_of st1.base r1 hd, ?_⟩
      cases k with
      | true => exact iteT (z1.of_ok st1.base r1)
      | false => exact iteF ⟨W0, W1, s1, ρ, rfl, st1, z1⟩
theorem e_not (ha : PE X a (tE X.K X.mg E f)) : PE X (.UnaryOp .Not a pos) (tE X.K X.mg E (eNot f)) :=
  PE.mono (pe_notT ha) fun σ H Q z => by
    obtain ⟨W0, W, s, ρ, rfl, st, z⟩ := z
    refine (go st z).imp fun x H1 ⟨W1, s1, d1, e1, r1, x1, st1, z1⟩ => ?_
    subst e1
    cases hd : dTruth d1 with
    | none => rw [hd] at z1; exact z1.elim
    | some k =>
      rw [hd] at z1
      exact ⟨k, tru_of st1.base r1 hd, z1.of_ok st1.base (.bl _)⟩
theorem w_and1 (ha : PT X a (tT X.K X.mg E p)) : PW X (.BoolOp .And [a] pos) (tT X.K X.mg E p) := pw_and1 ha
theorem w_or1 (ha : PT X a (tT X.K X.mg E p)) : PW X (.BoolOp .Or [a] pos) (tT X.K X.mg E p) := pw_or1 ha
theorem w_and (ha : PT X a (tT X.K X.mg E p)) (hb : PW X (.BoolOp .And (b :: rest) pos) (tT X.K X.mg E q)) : PW X (.BoolOp .And (a :: b :: rest) pos) (tT X.K X.mg E (tAndD p q)) :=
  PW.mono (pw_and ha hb) fun σ H Q z => by
    obtain ⟨W0, W, s, ρ, rfl, st, z⟩ := z
    refine (go st z).imp fun x H1 ⟨W1, s1, d1, e1, r1, x1, st1, z1⟩ => ?_
    subst e1
    cases (show x = d1 from r1)
    cases x with
    | true => exact iteT ⟨W0, W1, s1, ρ, rfl, st1, z1⟩
    | false => exact iteF (z1.of_ok st1.base rfl)
theorem w_or (ha : PT X a (tT X.K X.mg E p)) (hb : PW X (.BoolOp .Or (b :: rest) pos) (tT X.K X.mg E q)) : PW X (.BoolOp .Or (a :: b :: rest) pos) (tT X.K X.mg E (tOrD p q)) :=
  PW.mono (pw_or ha hb) fun σ H Q z => by
    obtain ⟨W0, W, s, ρ, rfl, st, z⟩ := z
    refine (go st z).imp fun x H1 ⟨W1, s1, d1, e1, r1, x1, st1, z1⟩ => ?_
    subst e1
    cases (show x = d1 from r1)
    cases x with
    | true => exact iteT (z1.of_ok st1.base rfl)
    | false => exact iteF ⟨W0, W1, s1, ρ, rfl, st1, z1⟩
theorem t_not (ha : PT X a (tT X.K X.mg E p)) : PT X (.UnaryOp .Not a pos) (tT X.K X.mg E (tNotD p)) :=
  PT.mono (pt_not ha) fun σ H Q z => by
    obtain ⟨W0, W, s, ρ, rfl, st, z⟩ := z
    refine (go st z).imp fun x H1 ⟨W1, s1, d1, e1, r1, x1, st1, z1⟩ => ?_
    subst e1
    cases (show x = d1 from r1)
    exact z1.of_ok st1.base rfl
theorem e_if (hc : PT X c (tT X.K X.mg E p)) (ha : PE X a (tE X.K X.mg E f)) (hb : PE X b (tE X.K X.mg E g)) : PE X (.IfExp c a b pos) (tE X.K X.mg E (eIf p f g)) :=
  PE.mono (pe_ifExp hc ha hb) fun σ H Q z => by
    obtain ⟨W0, W, s, ρ, rfl, st, z⟩ := z
    refine (go st z).imp fun x H1 ⟨W1, s1, d1, e1, r1, x1, st1, z1⟩ => ?_
    subst e1
    cases (show x = d1 from r1)
    cases x with
    | true => exact iteT ⟨W0, W1, s1, ρ, rfl, st1, z1⟩
    | false => exact iteF ⟨W0, W1, s1, ρ, rfl, st1, z1⟩
/-! ### one value in -/
abbrev F1 := D → Option D
def eOp1 (g : F1) (f : DE) : DE := fun ρ s => (f ρ s).bind fun a s1 => Res.ofO (g a) s1
def dNeg : F1 := fun x => match x with
  | .int i => some (.int (-i))
  | _ => none
theorem e_neg (ha : PE X a (tE X.K X.mg E f)) : PE X (.UnaryOp .USub a pos) (tE X.K X.mg E (eOp1 dNeg f)) :=
  PE.mono (pe_un un_neg ha) fun σ H Q z => by
    obtain ⟨W0, W, s, ρ, rfl, st, z⟩ := z
    refine (go st z).imp fun x H1 ⟨W1, s1, d1, e1, r1, x1, st1, z1⟩ => ?_
    subst e1
    cases d1 with
    | int i => exact ⟨i, r1.int_inv, z1.of_ok st1.base (.int _)⟩
    | _ => exact z1.elim
/-! ### displays -/
def eTup (fs : DA) : DE := fun ρ s => (fs ρ s).bind fun ds s1 => if ds.length ≤ 16777216 then .ok (.tup ds) s1 else .bad
def eLst (fs : DA) : DE := fun ρ s => (fs ρ s).bind fun ds s1 => if ds.length ≤ 16777216 then .ok (.lst ds) s1 else .bad
theorem e_tup {es : List Expr} {fs : DA} {k : Nat} (h : PA X es (tA X.K X.mg E fs)) : PE X (.Tuple es k pos) (tE X.K X.mg E (eTup fs)) :=
  PE.mono (pe_tup h) fun σ H Q z => by
    obtain ⟨W0, W, s, ρ, rfl, st, z⟩ := z
    refine (go st z).imp fun x H1 ⟨W1, s1, d1, e1, r1, x1, st1, z1⟩ => ?_
    subst e1
    split at z1
    · refine ⟨line_le (by rw [r1.length]; assumption), fun p hp => ?_⟩
      exact newFrz st1.base hp _ z1 fun W' E' e' => .tup e' (RepAll.ext E' r1)
    · exact z1.elim
theorem f_lst {es : List Expr} {fs : DA} (h : PA X es (tA X.K X.mg E fs)) : PE X (.List es pos) (tF X.K X.mg E (eLst fs)) :=
  PE.mono (pe_lst h) fun σ H Q z => by
    obtain ⟨W0, W, s, ρ, rfl, st, z⟩ := z
    refine (go st z).imp fun x H1 ⟨W1, s1, d1, e1, r1, x1, st1, z1⟩ => ?_
    subst e1
    split at z1
    · refine ⟨line_le (by rw [r1.length]; assumption), fun p hp => ?_⟩
      exact newOwn st1.base hp (fun v W' e B rf => z1 v W' e B (rf.mono x1 st1.base)) r1
    · exact z1.elim
/-! ### x[i] -/
def dIx : F2 := fun x y => match x, y with
  | .lst xs, .int i => atI xs i
  | .tup xs, .int i => atI xs i
  | .frz xs, .int i => atI xs i
  | .ktp xs, .int i => atI xs i
  | .str x, .int i => if x.length ≤ 16777216 then (atI x.cps.toList i).map fun c => .str ⟨#[c]⟩ else none
  | _, _ => none
theorem atI_rep {K : PySem.W.Frag} {mg : Str → Option Value} {G : Hp} {τ : List Addr} {vs : List V} {ds : List D} {i : Int} {d : D} (r : RepAll K mg G τ vs ds) (h : atI ds i = some d) : ∃ v, atI vs i = some v ∧ Rep K mg G τ v d := by
  unfold atI at h ⊢
  rw [r.length]
  cases e : ixN ds.length i with
  | none => rw [e] at h; cases h
  | some j =>
    rw [e] at h
    exact r.getD h
theorem v_ix {K : PySem.W.Frag} {mg : Str → Option Value} : V2 K mg (rIx K) dIx := fun W s x y d e z Q B rx ry hz q => by
  unfold dIx at hz
  split at hz
  · obtain ⟨a, xs, rfl, h1, r1⟩ := rx.lst_inv
    cases ry.int_inv
    obtain ⟨v, hv, rv⟩ := atI_rep r1 hz
    exact .inl ⟨a, xs, _, v, rfl, rfl, .of (B.sub _ _ h1), hv, stay B q rv⟩
  · obtain ⟨a, xs, rfl, h1, r1⟩ := rx.tup_inv
    cases ry.int_inv
    obtain ⟨v, hv, rv⟩ := atI_rep r1 hz
    exact .inr (.inl ⟨a, xs, _, v, rfl, rfl, seqT B.sub h1, hv, stay B q rv⟩)
  · obtain ⟨a, xs, rfl, h1, r1⟩ := rx.frz_inv
    cases ry.int_inv
    obtain ⟨v, hv, rv⟩ := atI_rep r1 hz
    exact .inl ⟨a, xs, _, v, rfl, rfl, B.sub.seq h1, hv, stay B q rv⟩
  · obtain ⟨a, xs, rfl, h1, r1⟩ := rx.ktp_inv
    cases ry.int_inv
    obtain ⟨v, hv, rv⟩ := atI_rep r1 hz
    exact .inr (.inl ⟨a, xs, _, v, rfl, rfl, seqT B.sub h1, hv, stay B q rv⟩)
  · split at hz
    · rename_i x i hl
      cases hc : atI x.cps.toList i with
      | none => rw [hc] at hz; cases hz
      | some c =>
        rw [hc] at hz
        cases hz
        cases rx.str_inv
        cases ry.int_inv
        exact .inr (.inr ⟨_, _, c, rfl, rfl, line_le hl, hc, stay B q (.str _)⟩)
    · cases hz
  · cases hz
theorem e_ix (ha : PE X a (tE X.K X.mg E f)) (hb : PE X b (tE X.K X.mg E g)) (hs : PlainIx b := by exact fun _ _ => rfl) : PE X (.Subscript a b pos) (tE X.K X.mg E (eOp2 dIx f g)) :=
  PE.mono (pe_ix ix_seq ha hb hs) (r_op2 v_ix)
/-! ### slices -/
abbrev DO := List Sl → S → Res (Option Int)
def oNone : DO := fun _ s => .ok none s
def oSome (f : DE) : DO := fun ρ s => (f ρ s).bind fun d s1 => match d with
  | .int i => .ok (some i) s1
  | _ => .bad
def cutL {α : Type} (xs : List α) (lo hi : Option Int) : List α := (xs.drop (HT.sIx xs.length 0 lo)).take (HT.sIx xs.length xs.length hi - HT.sIx xs.length 0 lo)
def dSl (x : D) (lo hi : Option Int) : Option D := match x with
  | .str z => if z.length ≤ 16777216 then some (.str (cutS z lo hi)) else none
  | .tup xs => some (.tup (cutL xs lo hi))
  | .lst xs => some (.lst (cutL xs lo hi))
  | .frz xs => some (.lst (cutL xs lo hi))
  | _ => none
def eSl (f : DE) (l h : DO) : DE := fun ρ s => (f ρ s).bind fun d s1 => (l ρ s1).bind fun lo s2 => (h ρ s2).bind fun hi s3 => Res.ofO (dSl d lo hi) s3
abbrev tO (K : PySem.W.Frag) (mg : Str → Option Value) (E : WX) (f : DO) : TO := tX K mg (fun _ _ (x y : Option Int) => x = y) E f
theorem PO.mono {e : Option Expr} {t t' : TO} (h : PO X e t) (i : ∀ σ H Q, t' σ H Q → t σ H Q) : PO X e t' := ⟨fun pins s σ H Q I q => h.run pins s σ H Q I (i σ H Q q)⟩
theorem o_none : PO X none (tO X.K X.mg E oNone) := PO.mono po_none fun σ H Q z => by
  obtain ⟨W0, W, s, ρ, rfl, st, z⟩ := z
  exact z.of_ok st.base rfl
theorem o_some (ha : PE X a (tE X.K X.mg E f)) : PO X (some a) (tO X.K X.mg E (oSome f)) := PO.mono (po_some ha) fun σ H Q z => by
  obtain ⟨W0, W, s, ρ, rfl, st, z⟩ := z
  refine (go st z).imp fun x H1 ⟨W1, s1, d1, e1, r1, x1, st1, z1⟩ => ?_
  subst e1
  cases d1 with
  | int i => exact ⟨i, r1.int_inv, z1.of_ok st1.base rfl⟩
  | _ => exact z1.elim
theorem cut_rep {K : PySem.W.Frag} {mg : Str → Option Value} {G : Hp} {τ : List Addr} {vs : List V} {ds : List D} (r : RepAll K mg G τ vs ds) (lo hi : Option Int) : RepAll K mg G τ (cutV vs lo hi) (cutL ds lo hi) := by
  unfold cutV cutL
  rw [r.length]
  exact (r.drop _).take _
def rSlAny (K : PySem.W.Frag) : V → Option Int → Option Int → Hp → VK → Prop := fun x lo hi H Q => rSlA K x lo hi H Q ∨ rSlL K x lo hi H Q ∨ rSlS x lo hi H Q
theorem sl_any : SlR X (rSlAny X.K) := sl_tupA.or (sl_list.or sl_str)
theorem cut_whole {α : Type} {xs : List α} {lo hi : Option Int} (h : HT.sIx xs.length 0 lo = 0 ∧ HT.sIx xs.length xs.length hi = xs.length) : cutL xs lo hi = xs := by
  unfold cutL
  rw [h.1, h.2]
  simp
theorem e_slice {lo hi : Option Expr} {l h : DO} {p2 : Pos} (ha : PE X a (tE X.K X.mg E f)) (hl : PO X lo (tO X.K X.mg E l)) (hh : PO X hi (tO X.K X.mg E h)) : PE X (.Subscript a (.Slice lo hi none p2) pos) (tE X.K X.mg E (eSl f l h)) :=
  PE.mono (pe_slice sl_any ha hl hh) fun σ H Q z => by
    obtain ⟨W0, W, s, ρ, rfl, st, z⟩ := z
    refine (go st z).imp fun x H1 ⟨W1, s1, d1, e1, r1, x1, st1, z1⟩ => ?_
    subst e1
    refine (go st1 z1).imp fun y H2 ⟨W2, s2, d2, e2, r2, x2, st2, z2⟩ => ?_
    subst e2
    refine (go st2 z2).imp fun y3 H3 ⟨W3, s3, d3, e3, r3, x3, st3, z3⟩ => ?_
    subst e3
    cases (show y = d2 from r2)
    cases (show y3 = d3 from r3)
    have r1 := (Rep.ext x2 r1).ext x3
    cases d1 with
    | str x =>
      simp only [dSl] at z3
      split at z3
      · cases r1.str_inv
        exact .inr (.inr ⟨_, rfl, line_le (by assumption), z3.of_ok st3.base (.str _)⟩)
      · exact z3.elim
    | tup ds =>
      obtain ⟨p, xs, rfl, h1, rr⟩ := r1.tup_inv'
      refine .inl ⟨p, xs, rfl, .of (st3.base.sub _ _ h1), fun e => ?_, fun ne q hq => ?_⟩
      · have e' : cutL ds y y3 = ds := cut_whole (by rw [← rr.length]; exact e)
        refine z3.of_ok st3.base ?_
        show Rep X.K X.mg W3.G W3.τ (.ref p) (.tup (cutL ds y y3))
        rw [e']
        exact .tup h1 rr
      · exact newFrz st3.base hq _ z3 fun W' E' e' => .tup e' (RepAll.ext E' (cut_rep rr y y3))
    | lst ds =>
      obtain ⟨p, xs, rfl, h1, rr⟩ := r1.lst_inv
      exact .inr (.inl ⟨p, xs, rfl, .of (st3.base.sub _ _ h1), fun q hq => newFrz st3.base hq _ z3 fun W' E' e' => .lst e' (RepAll.ext E' (cut_rep rr y y3))⟩)
    | frz ds =>
      obtain ⟨p, xs, rfl, h1, rr⟩ := r1.frz_inv
      exact .inr (.inl ⟨p, xs, rfl, st3.base.sub.seq h1, fun q hq => newFrz st3.base hq _ z3 fun W' E' e' => .lst e' (RepAll.ext E' (cut_rep rr y y3))⟩)
    | _ => exact z3.elim
/-! ### calls of built-ins -/
abbrev FN := List D → Option D
def eB (g : FN) (fs : DA) : DE := fun ρ s => (fs ρ s).bind fun ds s1 => Res.ofO (g ds) s1
def VC (K : PySem.W.Frag) (mg : Str → Option Value) (r : List V → Hp → VK → Prop) (g : FN) : Prop :=
  ∀ (W : Hw) (s : S) (vs : List V) (ds : List D) (z : D) (Q : VK), Base K mg W s → RepAll K mg W.G W.τ vs ds → g ds = some z → (∀ v W', Ext W W' → Base K mg W' s → Rep K mg W'.G W'.τ v z → Q v W'.H) → r vs W.H Q
def VCF (K : PySem.W.Frag) (mg : Str → Option Value) (r : List V → Hp → VK → Prop) (g : FN) : Prop :=
  ∀ (W : Hw) (s : S) (vs : List V) (ds : List D) (z : D) (Q : VK), Base K mg W s → RepAll K mg W.G W.τ vs ds → g ds = some z → (∀ v W', Ext W W' → Base K mg W' s → relF K mg W W' v z → Q v W'.H) → r vs W.H Q
variable {e : Expr} {es : List Expr} {fs : DA} {gn : FN} {r : List V → Hp → VK → Prop}
theorem r_B {ta : TA} (hv : VC X.K X.mg r gn) : ∀ σ H Q, tE X.K X.mg E (eB gn fs) σ H Q → tCB r (tA X.K X.mg E fs) σ H Q := fun σ H Q z => by
  obtain ⟨W0, W, s, ρ, rfl, st, z⟩ := z
  refine (go st z).imp fun x H1 ⟨W1, s1, d1, e1, r1, x1, st1, z1⟩ => ?_
  subst e1
  cases hz : gn d1 with
  | none => rw [hz] at z1; exact z1.elim
  | some d => rw [hz] at z1; exact hv W1 s1 x d1 d Q st1.base r1 hz z1
theorem rF_B {ta : TA} (hv : VCF X.K X.mg r gn) : ∀ σ H Q, tF X.K X.mg E (eB gn fs) σ H Q → tCB r (tA X.K X.mg E fs) σ H Q := fun σ H Q z => by
  obtain ⟨W0, W, s, ρ, rfl, st, z⟩ := z
  refine (go st z).imp fun x H1 ⟨W1, s1, d1, e1, r1, x1, st1, z1⟩ => ?_
  subst e1
  cases hz : gn d1 with
  | none => rw [hz] at z1; exact z1.elim
  | some d => rw [hz] at z1; exact hv W1 s1 x d1 d Q st1.base r1 hz fun v W' e B rf => z1 v W' e B (rf.mono x1 st1.base)
theorem e_callB {id : String} {x : Str} {p' : Pos} (hc : CallR X (.builtin id) r) (hv : VC X.K X.mg r gn) (hm : X.mg x = none) (ha : PA X (e :: es) (tA X.K X.mg E fs)) (hb : bootBuiltins x = some (.builtin id) := by decide +kernel) (hg : Gl X x := by rfl) (hn : x ≠ "__name__" := by decide) (hdb : (x == ("__debug__" : Str)) = false := by decide)
    (he : starEach (e :: es) X.env = (false, eval e X.env) :: starEach es X.env := by rfl) (hpl : (backTo pos (starEach es X.env)).any (·.1) = false := by rfl) : PE X (.Call (.Name x p') (e :: es) [] pos) (tE X.K X.mg E (eB gn fs)) :=
  PE.mono (pe_callB hc hg hm hb ha hn hdb he hpl) (r_B (ta := tA X.K X.mg E fs) hv)
theorem e_callTy {T : String} {x : Str} {p' : Pos} (hc : CallR X (.type T) r) (hv : VC X.K X.mg r gn) (hm : X.mg x = none) (ha : PA X (e :: es) (tA X.K X.mg E fs)) (hb : bootBuiltins x = some (.type T) := by decide +kernel) (hg : Gl X x := by rfl) (hn : x ≠ "__name__" := by decide) (hdb : (x == ("__debug__" : Str)) = false := by decide)
    (he : starEach (e :: es) X.env = (false, eval e X.env) :: starEach es X.env := by rfl) (hpl : (backTo pos (starEach es X.env)).any (·.1) = false := by rfl) : PE X (.Call (.Name x p') (e :: es) [] pos) (tE X.K X.mg E (eB gn fs)) :=
  PE.mono (pe_callTy hc hg hm hb ha hn hdb he hpl) (r_B (ta := tA X.K X.mg E fs) hv)
theorem f_callTy {T : String} {x : Str} {p' : Pos} (hc : CallR X (.type T) r) (hv : VCF X.K X.mg r gn) (hm : X.mg x = none) (ha : PA X (e :: es) (tA X.K X.mg E fs)) (hb : bootBuiltins x = some (.type T) := by decide +kernel) (hg : Gl X x := by rfl) (hn : x ≠ "__name__" := by decide) (hdb : (x == ("__debug__" : Str)) = false := by decide)
    (he : starEach (e :: es) X.env = (false, eval e X.env) :: starEach es X.env := by rfl) (hpl : (backTo pos (starEach es X.env)).any (·.1) = false := by rfl) : PE X (.Call (.Name x p') (e :: es) [] pos) (tF X.K X.mg E (eB gn fs)) :=
  PE.mono (pe_callTy hc hg hm hb ha hn hdb he hpl) (rF_B (ta := tA X.K X.mg E fs) hv)
theorem f_callB {id : String} {x : Str} {p' : Pos} (hc : CallR X (.builtin id) r) (hv : VCF X.K X.mg r gn) (hm : X.mg x = none) (ha : PA X (e :: es) (tA X.K X.mg E fs)) (hb : bootBuiltins x = some (.builtin id) := by decide +kernel) (hg : Gl X x := by rfl) (hn : x ≠ "__name__" := by decide) (hdb : (x == ("__debug__" : Str)) = false := by decide)
    (he : starEach (e :: es) X.env = (false, eval e X.env) :: starEach es X.env := by rfl) (hpl : (backTo pos (starEach es X.env)).any (·.1) = false := by rfl) : PE X (.Call (.Name x p') (e :: es) [] pos) (tF X.K X.mg E (eB gn fs)) :=
  PE.mono (pe_callB hc hg hm hb ha hn hdb he hpl) (rF_B (ta := tA X.K X.mg E fs) hv)
end
end DL
namespace DL
open PySem PySem.Spec PyProof.Rows L2
variable [LT : LawT]

/-- what a statement comes to -/
inductive Fl where
  | next (ρ : List Sl) (s : S) | ret (d : D) (s : S) | brk (ρ : List Sl) (s : S) | cont (ρ : List Sl) (s : S) | exc (c : Str) (s : S) | bad
abbrev DS := List Sl → S → Fl
def relR (K : PySem.W.Frag) (mg : Str → Option Value) (fr : Bool) (W0 W : Hw) (v : V) (d : D) : Prop := if fr = true then relF K mg W0 W v d else Rep K mg W.G W.τ v d
def PostS (K : PySem.W.Frag) (mg : Str → Option Value) (E : WX) (fr : Bool) (W0 : Hw) (g : Fl) (T : Ends) : Prop :=
  match g with
  | .next ρ s => ∀ σ W, SSt K mg W0 W s σ ρ → T.nx σ W.H
  | .brk ρ s => ∀ σ W, SSt K mg W0 W s σ ρ → T.bk σ W.H
  | .cont ρ s => ∀ σ W, SSt K mg W0 W s σ ρ → T.ct σ W.H
  | .ret d s => ∀ v W, Ext W0 W → Base K mg W s → relR K mg fr W0 W v d → T.rt v W.H
  | .exc c s => ∀ σ W u, Ext W0 W → Base K mg W s → mg c = some u → E u none σ W.H
  | .bad => False
def tS (K : PySem.W.Frag) (mg : Str → Option Value) (E : WX) (fr : Bool) (g : DS) : TS := fun T σ H =>
  ∃ (W0 W : Hw) (s : S) (ρ : List Sl), W.H = H ∧ SSt K mg W0 W s σ ρ ∧ PostS K mg E fr W0 (g ρ s) T
def Res.thenS {α : Type} (r : Res α) (k : α → S → Fl) : Fl :=
  match r with
  | .ok a s => k a s
  | .exc c s => .exc c s
  | .bad => .bad
section
variable {α β : Type} {K : PySem.W.Frag} {mg : Str → Option Value} {rel : Hw → Hw → β → α → Prop} {E : WX} {fr : Bool} {σ : L2.St} {W W0 : Hw} {s : S} {ρ : List Sl} {T : Ends}
theorem goS {f : List Sl → S → Res α} {k : α → S → Fl} (st : SSt K mg W0 W s σ ρ) (p : PostS K mg E fr W0 ((f ρ s).thenS k) T) :
    tX K mg rel E f σ W.H (fun x H1 => ∃ W1 s1 a, W1.H = H1 ∧ rel W W1 x a ∧ Ext W W1 ∧ SSt K mg W0 W1 s1 σ ρ ∧ PostS K mg E fr W0 (k a s1) T) := by
  refine ⟨W0, W, s, ρ, rfl, st, ?_⟩
  cases hf : f ρ s with
  | ok a s1 =>
    rw [hf] at p
    exact fun x W1 e B r => ⟨W1, s1, a, rfl, r, e, st.step e B, p⟩
  | exc c s1 =>
    rw [hf] at p
    exact fun W1 u e B hu => p σ W1 u (st.ext.trans st.base e) B hu
  | bad =>
    rw [hf] at p
    exact p.elim
/-! ### slots -/
theorem old_none (x : Ext W0 W) (B : Base K mg W s) {a : Addr} (h : W.H a = none) : W0.H a = none := by
  cases q : W0.H a with
  | none => rfl
  | some o =>
    by_cases m : a ∈ W0.τ
    · obtain ⟨l, el⟩ := x.tpre
      exact absurd h (B.tau_some (by rw [← el]; exact List.mem_append_left _ m))
    · exact absurd h (x.dom q m)
theorem own_tracked {W' : Hw} {x : Option V} {y : Sl} (h : SlOk K mg W0 W' x y) (o : y.isOwn = true) : ∃ a, x = some (.ref a) ∧ W'.H a ≠ none := by
  cases h with
  | emp => exact Bool.noConfusion o
  | dat r => exact Bool.noConfusion o
  | own q e r => exact ⟨_, rfl, by rw [e]; exact fun z => nomatch z⟩
  | ownK q e r => exact ⟨_, rfl, by rw [e]; exact fun z => nomatch z⟩
  | ownT q e r => exact ⟨_, rfl, by rw [e]; exact fun z => nomatch z⟩
/-- an own object is neither a table nor a code object -/
theorem own_plain {W' : Hw} {a : Addr} {y : Sl} (h : SlOk K mg W0 W' (some (.ref a)) y) (o : y.isOwn = true) : ∀ u, W'.H a = some u → (∀ ps, u ≠ .tbl ps) ∧ ∀ q, u ≠ LamX.CodeO a q := fun u hu => by
  cases h with
  | dat r => exact Bool.noConfusion o
  | emp => exact Bool.noConfusion o
  | own q e r => rw [e] at hu; cases hu; exact ⟨(fun _ z => nomatch z), (fun _ z => nomatch z)⟩
  | ownK q e r => rw [e] at hu; cases hu; exact ⟨(fun _ z => nomatch z), (fun _ z => nomatch z)⟩
  | ownT q e r => rw [e] at hu; cases hu; exact ⟨(fun _ z => nomatch z), (fun _ z => nomatch z)⟩
/-- a slot gets a new object of its own -/
theorem SSt.setOwn {W1 : Hw} {s1 : S} (h0 : SSt K mg W0 W s σ ρ) (h : SSt K mg W0 W1 s1 σ ρ) {a : Addr} {y : Sl} (n : W.H a = none) (r : SlOk K mg W0 W1 (some (.ref a)) y) (i : Nat) :
    SSt K mg W0 W1 s1 (σ.set i (some (.ref a))) (ρ.set i y) := by
  refine ⟨h.ext, h.base, by simp [h.len], fun j x z e1 e2 => ?_, fun j k b y1 z1 ne e1 e2 e3 e4 o1 o2 => ?_⟩
  · by_cases hj : j = i
    · subst hj
      have hl : j < σ.length := by
        by_cases q : j < σ.length
        · exact q
        · rw [List.getElem?_eq_none (by simpa using q)] at e1; cases e1
      rw [List.getElem?_set_self hl] at e1
      rw [List.getElem?_set_self (by rw [← h.len]; exact hl)] at e2
      cases e1; cases e2
      exact r
    · rw [List.getElem?_set_ne (Ne.symm hj)] at e1 e2
      exact h.sl j x z e1 e2
  · have other : ∀ (j : Nat) (b : Addr) (y1 : Sl), j ≠ i → (σ.set i (some (.ref a)))[j]? = some (some (.ref b)) → (ρ.set i y)[j]? = some y1 → y1.isOwn = true → b ≠ a := fun j b y1 nj e1 e3 o1 e => by
      rw [List.getElem?_set_ne (Ne.symm nj)] at e1 e3
      obtain ⟨c, ec, hc⟩ := own_tracked (h0.sl j _ _ e1 e3) o1
      cases ec
      rw [e] at hc
      exact hc n
    have self : ∀ (b : Addr), (σ.set i (some (.ref a)))[i]? = some (some (.ref b)) → b = a := fun b e => by
      rw [List.getElem?_set] at e
      simp only [if_true] at e
      split at e
      · cases e; rfl
      · cases e
    by_cases hj : j = i
    · subst hj
      have := self b e1
      exact other k b z1 (Ne.symm ne) e2 e4 o2 this
    · by_cases hk : k = i
      · subst hk
        have := self b e2
        exact other j b y1 hj e1 e3 o1 this
      · rw [List.getElem?_set_ne (Ne.symm hj)] at e1 e3
        rw [List.getElem?_set_ne (Ne.symm hk)] at e2 e4
        exact h.dist j k b y1 z1 ne e1 e2 e3 e4 o1 o2
/-- the object of a slot's own is changed -/
theorem SSt.mut (h : SSt K mg W0 W s σ ρ) {i : Nat} {a : Addr} {y y' : Sl} {o : HO} (e1 : σ[i]? = some (some (.ref a))) (e2 : ρ[i]? = some y) (ho : y.isOwn = true) (own : OwnAt W0 W a) (no : ∀ vs, o ≠ .tup vs)
    (r : SlOk K mg W0 ⟨upd W.H a o, W.G, W.τ⟩ (some (.ref a)) y') (ho' : y'.isOwn = true)(nt : ∀ ps, o ≠ .tbl ps := by exact fun _ z => nomatch z) : SSt K mg W0 ⟨upd W.H a o, W.G, W.τ⟩ s σ (ρ.set i y') := by
  have B := h.base
  have X0 := h.ext
  have nG : ∀ b x, W.G b = some x → b ≠ a := fun b x e z => by rw [z, own.frz] at e; cases e
  have pl := own_plain (h.sl i _ _ e1 e2) ho
  refine ⟨⟨fun b x e n => ?_, X0.grow, X0.out, X0.tpre, X0.tnew, fun t => tabs_upd pl (X0.tab t)⟩, ⟨fun b x e => ?_, fun b xs e => ?_, B.spc, B.nd, B.len, fun n c b h1 h2 => ?_, B.flt, tabs_upd pl B.tab, B.nog, all_upd nt B.all⟩, by simp [h.len], fun j x z q1 q2 => ?_, fun j k b y1 z1 ne q1 q2 q3 q4 o1 o2 => ?_⟩
  · have nb : b ≠ a := fun z : b = a => by rw [z, own.old] at e; cases e
    rcases X0.keep0 b x e n with z | ⟨ps, ps', z1, z2⟩
    · exact .inl ((upd_ne nb).trans z)
    · exact .inr ⟨ps, ps', z1, (upd_ne nb).trans z2⟩
  · exact (upd_ne (nG b x e)).trans (B.sub b x e)
  · have e' : upd W.H a o b = some (.tup xs) := e
    by_cases hb : b = a
    · rw [hb, upd_same] at e'
      exact absurd (Option.some.inj e') (no xs)
    · rw [upd_ne hb] at e'
      exact B.tupI b xs e'
  · have nb : b ≠ a := fun z => own.spc (z ▸ List.mem_of_getElem? h2)
    have q := B.cel n c b h1 h2
    cases c with
    | l ds =>
      obtain ⟨us, e, r⟩ := q
      exact ⟨us, (upd_ne nb).trans e, r⟩
    | o c fs =>
      obtain ⟨C, dx, us, e0, e, r⟩ := q
      exact ⟨C, dx, us, e0, (upd_ne nb).trans e, r⟩
    | d fs =>
      obtain ⟨us, e, r⟩ := q
      exact ⟨us, (upd_ne nb).trans e, r⟩
    | t fs =>
      obtain ⟨us, e, r⟩ := q
      exact ⟨us, (upd_ne nb).trans e, r⟩
  · by_cases hj : j = i
    · subst hj
      rw [e1] at q1
      cases q1
      rw [List.getElem?_set_self (List.getElem?_eq_some_iff.mp e2).1] at q2
      cases q2
      exact r
    · rw [List.getElem?_set_ne (Ne.symm hj)] at q2
      have z0 := h.sl j x z q1 q2
      have nd : ∀ b, x = some (.ref b) → z.isOwn = true → b ≠ a := fun b ex oz eb => by
        subst ex eb
        exact h.dist j i b z y hj q1 e1 q2 e2 oz ho
      cases z0 with
      | emp => exact .emp
      | dat r => exact .dat r
      | own q e r => exact .own ⟨q.old, q.frz, q.spc⟩ ((upd_ne (nd _ rfl rfl)).trans e) r
      | ownK q e r => exact .ownK ⟨q.old, q.frz, q.spc⟩ ((upd_ne (nd _ rfl rfl)).trans e) r
      | ownT q e r => exact .ownT ⟨q.old, q.frz, q.spc⟩ ((upd_ne (nd _ rfl rfl)).trans e) r
  · have back : ∀ (j : Nat) (y1 : Sl), (ρ.set i y')[j]? = some y1 → y1.isOwn = true → ∃ y2, ρ[j]? = some y2 ∧ y2.isOwn = true := fun j y1 e o1 => by
      by_cases hj : j = i
      · subst hj; exact ⟨y, e2, ho⟩
      · rw [List.getElem?_set_ne (Ne.symm hj)] at e; exact ⟨y1, e, o1⟩
    obtain ⟨y2, f1, f2⟩ := back j y1 q3 o1
    obtain ⟨y3, f3, f4⟩ := back k z1 q4 o2
    exact h.dist j k b y2 y3 ne q1 q2 f1 f3 f2 f4
/-- a slot's own object is taken for data -/
theorem SSt.freeze (h : SSt K mg W0 W s σ ρ) {i : Nat} {a : Addr} {y : Sl} {o : HO} {d : D} (e1 : σ[i]? = some (some (.ref a))) (e2 : ρ[i]? = some y) (ho : y.isOwn = true) (own : OwnAt W0 W a) (no : ∀ vs, o ≠ .tup vs) (hH : W.H a = some o)
    (r : Rep K mg (upd W.G a o) W.τ (.ref a) d) : SSt K mg W0 ⟨W.H, upd W.G a o, W.τ⟩ s σ (ρ.set i (.dat d)) := by
  have B := h.base
  have X0 := h.ext
  have mono : Same W.G (upd W.G a o) := upd_new own.frz
  have pl := own_plain (h.sl i _ _ e1 e2) ho
  refine ⟨⟨X0.keep0, X0.grow.trans mono, fun b e => ?_, X0.tpre, X0.tnew, X0.tab⟩, B.freeze hH own.frz own.spc no (pl _ hH).1, by simp [h.len], fun j x z q1 q2 => ?_, fun j k b y1 z1 ne q1 q2 q3 q4 o1 o2 => ?_⟩
  · exact (upd_ne (fun z : b = a => e (z ▸ own.old))).trans (X0.out b e)
  · by_cases hj : j = i
    · subst hj
      rw [e1] at q1
      cases q1
      rw [List.getElem?_set_self (List.getElem?_eq_some_iff.mp e2).1] at q2
      cases q2
      exact .dat r
    · rw [List.getElem?_set_ne (Ne.symm hj)] at q2
      have z0 := h.sl j x z q1 q2
      have nd : ∀ b, x = some (.ref b) → z.isOwn = true → b ≠ a := fun b ex oz eb => by
        subst ex eb
        exact h.dist j i b z y hj q1 e1 q2 e2 oz ho
      cases z0 with
      | emp => exact .emp
      | dat r => exact .dat (r.mono mono (List.prefix_refl _))
      | own q e r => exact .own ⟨q.old, (upd_ne (nd _ rfl rfl)).trans q.frz, q.spc⟩ e (r.mono mono (List.prefix_refl _))
      | ownK q e r => exact .ownK ⟨q.old, (upd_ne (nd _ rfl rfl)).trans q.frz, q.spc⟩ e (r.mono mono (List.prefix_refl _))
      | ownT q e r => exact .ownT ⟨q.old, (upd_ne (nd _ rfl rfl)).trans q.frz, q.spc⟩ e (r.mono mono (List.prefix_refl _))
  · have back : ∀ (j : Nat) (y1 : Sl), (ρ.set i (.dat d))[j]? = some y1 → y1.isOwn = true → ρ[j]? = some y1 := fun j y1 e o1 => by
      by_cases hj : j = i
      · subst hj
        rw [List.getElem?_set_self (List.getElem?_eq_some_iff.mp e2).1] at e
        cases e
        exact Bool.noConfusion o1
      · rw [List.getElem?_set_ne (Ne.symm hj)] at e; exact e
    exact h.dist j k b y1 z1 ne q1 q2 (back j y1 q3 o1) (back k z1 q4 o2) o1 o2
end
theorem set_self {α : Type} : ∀ {l : List α} {i : Nat} {x : α}, l[i]? = some x → l.set i x = l
  | [], _, _, h => by simp at h
  | a :: l, 0, x, h => by simp at h; subst h; rfl
  | a :: l, i + 1, x, h => by rw [List.set_cons_succ, set_self (by simpa using h)]
/-- an own slot as data -/
def frzSl : Sl → Sl
  | .own ds => .dat (.lst ds)
  | .ownD _ kvs => .dat (.dct kvs)
  | y => y
def frzAt (i : Nat) (ρ : List Sl) : List Sl := match ρ[i]? with
  | some y => ρ.set i (frzSl y)
  | none => ρ
section
variable {K : PySem.W.Frag} {mg : Str → Option Value} {σ : L2.St} {W W0 : Hw} {s : S} {ρ : List Sl}
/-- the frozen state: the own object's address and what it is -/
theorem SSt.frz (h : SSt K mg W0 W s σ ρ) (i : Nat) : SSt K mg W0 W s σ (frzAt i ρ) ∨ ∃ a o, W.H a = some o ∧ OwnAt W0 W a ∧ (∀ vs, o ≠ .tup vs) ∧ SSt K mg W0 ⟨W.H, upd W.G a o, W.τ⟩ s σ (frzAt i ρ) := by
  unfold frzAt
  cases e2 : ρ[i]? with
  | none => exact .inl h
  | some y =>
    have hl : i < σ.length := by rw [h.len]; exact (List.getElem?_eq_some_iff.mp e2).1
    have e1 : σ[i]? = some σ[i] := List.getElem?_eq_getElem hl
    have z := h.sl i _ _ e1 e2
    cases y with
    | emp =>
      refine .inl ?_
      have : ρ.set i (frzSl .emp) = ρ := by rw [show frzSl .emp = .emp from rfl]; exact set_self e2
      show SSt K mg W0 W s σ (ρ.set i (frzSl .emp))
      rw [this]; exact h
    | dat d =>
      refine .inl ?_
      have : ρ.set i (frzSl (.dat d)) = ρ := set_self e2
      show SSt K mg W0 W s σ (ρ.set i (frzSl (.dat d)))
      rw [this]; exact h
    | own ds =>
      generalize hx : σ[i] = x at e1 z
      cases z with
      | own q e r =>
        refine .inr ⟨_, _, e, q, (fun _ z => nomatch z), h.freeze e1 e2 rfl q (fun _ z => nomatch z) e (.lst upd_same (r.mono (upd_new q.frz) (List.prefix_refl _)))⟩
    | ownD t kvs =>
      generalize hx : σ[i] = x at e1 z
      cases z with
      | ownK q e r => exact .inr ⟨_, _, e, q, (fun _ z => nomatch z), h.freeze e1 e2 rfl q (fun _ z => nomatch z) e (.dK upd_same (r.mono (upd_new q.frz) (List.prefix_refl _)))⟩
      | ownT q e r => exact .inr ⟨_, _, e, q, (fun _ z => nomatch z), h.freeze e1 e2 rfl q (fun _ z => nomatch z) e (.dT upd_same (r.mono (upd_new q.frz) (List.prefix_refl _)))⟩
end
/-! ### statements -/
def sSkip : DS := fun ρ s => .next ρ s
def sSeq (g h : DS) : DS := fun ρ s => match g ρ s with
  | .next ρ1 s1 => h ρ1 s1
  | .ret d s1 => .ret d s1
  | .brk ρ1 s1 => .brk ρ1 s1
  | .cont ρ1 s1 => .cont ρ1 s1
  | .exc c s1 => .exc c s1
  | .bad => .bad
def sSet (i : Nat) (f : DE) : DS := fun ρ s => (f ρ s).thenS fun d s1 => .next (ρ.set i (.dat d)) s1
def sOwn (i : Nat) (f : DE) : DS := fun ρ s => (f ρ s).thenS fun d s1 => match d with
  | .lst ds => .next (ρ.set i (.own ds)) s1
  | _ => .bad
def sRet (f : DE) : DS := fun ρ s => (f ρ s).thenS fun d s1 => .ret d s1
def sExpr (f : DE) : DS := fun ρ s => (f ρ s).thenS fun _ s1 => .next ρ s1
def sIf (c : DT) (g h : DS) : DS := fun ρ s => (c ρ s).thenS fun b s1 => if b then g ρ s1 else h ρ s1
def sBrk : DS := fun ρ s => .brk ρ s
def sCont : DS := fun ρ s => .cont ρ s
/-- ahead of a statement the own object of a slot is taken for data -/
def sFrz (i : Nat) (g : DS) : DS := fun ρ s => g (frzAt i ρ) s
section
variable {X : Cx} {st : Stmt} {rest : List Stmt} {g h : DS} {f : DE} {c : DT} {e : Expr} {E : WX} {fr : Bool} {pos : Pos}
abbrev QS (X : Cx) (E : WX) (fr : Bool) (st : Stmt) (g : DS) : Prop := PS X st (tS X.K X.mg E fr g)
abbrev QSs (X : Cx) (E : WX) (fr : Bool) (st : List Stmt) (g : DS) : Prop := PSs X st (tS X.K X.mg E fr g)
theorem s_nil : QSs X E fr [] sSkip := PSs.mono pss_nil fun σ H T z => by
  obtain ⟨W0, W, s, ρ, rfl, st, z⟩ := z
  exact z σ W st
theorem s_cons (h1 : QS X E fr st g) (h2 : QSs X E fr rest h) : QSs X E fr (st :: rest) (sSeq g h) := PSs.mono (pss_cons h1 h2) fun σ H T z => by
  obtain ⟨W0, W, s, ρ, rfl, st, z⟩ := z
  refine ⟨W0, W, s, ρ, rfl, st, ?_⟩
  unfold sSeq at z
  cases hg : g ρ s with
  | next ρ1 s1 => rw [hg] at z; exact fun σ1 W1 st1 => ⟨W0, W1, s1, ρ1, rfl, st1, z⟩
  | ret d s1 => rw [hg] at z; exact z
  | brk ρ1 s1 => rw [hg] at z; exact z
  | cont ρ1 s1 => rw [hg] at z; exact z
  | exc c s1 => rw [hg] at z; exact z
  | bad => rw [hg] at z; exact z
theorem s_one (h1 : QS X E fr st g) : QSs X E fr [st] g := pss_one h1
theorem s_pass : QS X E fr (.Pass pos) sSkip := PS.mono ps_pass fun σ H T z => by
  obtain ⟨W0, W, s, ρ, rfl, st, z⟩ := z
  exact z σ W st
theorem s_break : QS X E fr (.Break pos) sBrk := PS.mono ps_break fun σ H T z => by
  obtain ⟨W0, W, s, ρ, rfl, st, z⟩ := z
  exact z σ W st
theorem s_continue : QS X E fr (.Continue pos) sCont := PS.mono ps_continue fun σ H T z => by
  obtain ⟨W0, W, s, ρ, rfl, st, z⟩ := z
  exact z σ W st
theorem s_set {i : Nat} {x : Str} {pos' : Pos} (he : PE X e (tE X.K X.mg E f)) (hN : X.N.Nodup) (hi : X.N[i]? = some x := by rfl) (hx : Loc X.env.scope x := by first | exact Or.inl rfl | exact Or.inr rfl) (hs : swapsWith e (some (.Name x pos')) pos.line X.env = pure false := by rfl)
    (hf : X.fn x = true ∨ X.env.scope.names.lookup x = some .local := by first | exact .inl rfl | exact .inr rfl) : QS X E fr (.Assign [.Name x pos'] e pos) (sSet i f) := PS.mono (ps_set (i := i) hN hi hx he hs hf) fun σ H T z => by
  obtain ⟨W0, W, s, ρ, rfl, st, z⟩ := z
  refine (goS st z).imp fun x H1 ⟨W1, s1, d1, e1, r1, x1, st1, z1⟩ => ?_
  subst e1
  exact z1 _ W1 (st1.setDat r1 i)
theorem s_own {i : Nat} {x : Str} {pos' : Pos} (he : PE X e (tF X.K X.mg E f)) (hN : X.N.Nodup) (hi : X.N[i]? = some x := by rfl) (hx : Loc X.env.scope x := by first | exact Or.inl rfl | exact Or.inr rfl) (hs : swapsWith e (some (.Name x pos')) pos.line X.env = pure false := by rfl)
    (hf : X.fn x = true ∨ X.env.scope.names.lookup x = some .local := by first | exact .inl rfl | exact .inr rfl) : QS X E fr (.Assign [.Name x pos'] e pos) (sOwn i f) := PS.mono (ps_set (i := i) hN hi hx he hs hf) fun σ H T z => by
  obtain ⟨W0, W, s, ρ, rfl, st, z⟩ := z
  refine (goS st z).imp fun x H1 ⟨W1, s1, d1, e1, r1, x1, st1, z1⟩ => ?_
  subst e1
  obtain ⟨a, vs, ds, rfl, rfl, n0, nG, nt, eH, rv⟩ := r1
  exact z1 _ W1 (st.setOwn st1 n0 (.own ⟨old_none st.ext st.base n0, nG, nt⟩ eH rv) i)
theorem s_ret (he : PE X e (tE X.K X.mg E f)) : QS X E false (.Return (some e) pos) (sRet f) := PS.mono (ps_ret he) fun σ H T z => by
  obtain ⟨W0, W, s, ρ, rfl, st, z⟩ := z
  refine (goS st z).imp fun x H1 ⟨W1, s1, d1, e1, r1, x1, st1, z1⟩ => ?_
  subst e1
  exact z1 x W1 st1.ext st1.base r1
theorem s_retF (he : PE X e (tF X.K X.mg E f)) : QS X E true (.Return (some e) pos) (sRet f) := PS.mono (ps_ret he) fun σ H T z => by
  obtain ⟨W0, W, s, ρ, rfl, st, z⟩ := z
  refine (goS st z).imp fun x H1 ⟨W1, s1, d1, e1, r1, x1, st1, z1⟩ => ?_
  subst e1
  refine z1 x W1 st1.ext st1.base ?_
  obtain ⟨a, vs, ds, rfl, rfl, n0, q⟩ := r1
  exact ⟨a, vs, ds, rfl, rfl, old_none st.ext st.base n0, q⟩
/-- return of an own list's name, in a def that hands out new lists -/
def sRetOwn (i : Nat) : DS := fun ρ s => match ρ[i]? with
  | some (.own ds) => .ret (.lst ds) s
  | _ => .bad
theorem s_retOwn (i : Nat) {x : Str} {p2 : Pos} (hN : X.N[i]? = some x := by rfl) (hv : Vis X.env.scope x := by first | exact Or.inl rfl | exact Or.inr (Or.inl rfl) | exact Or.inr (Or.inr rfl)) (hd : (x == ("__debug__" : Str)) = false := by decide)
    (hcd : (x == ("__classdict__" : Str)) = false := by decide) : QS X E true (.Return (some (.Name x p2)) pos) (sRetOwn i) := PS.mono (ps_ret (pv i hN hv hd hcd)) fun σ H T z => by
  obtain ⟨W0, W, s, ρ, rfl, st, z⟩ := z
  unfold sRetOwn at z
  cases hr : ρ[i]? with
  | none => rw [hr] at z; exact z.elim
  | some y =>
    rw [hr] at z
    cases y with
    | own ds =>
      have hl : i < σ.length := by rw [st.len]; exact (List.getElem?_eq_some_iff.mp hr).1
      have q := st.sl i _ _ (List.getElem?_eq_getElem hl) hr
      generalize hx : σ[i] = x at q
      cases q with
      | own o e r => exact ⟨_, by rw [List.getElem?_eq_getElem hl, hx], z _ W st.ext st.base ⟨_, _, _, rfl, rfl, o.old, o.frz, o.spc, e, r⟩⟩
    | dat d => exact z.elim
    | emp => exact z.elim
    | ownD t kvs => exact z.elim
theorem s_expr (he : PE X e (tE X.K X.mg E f)) (hs : swapsWith e none pos.line X.env = pure false := by rfl) : QS X E fr (.Expr e pos) (sExpr f) := PS.mono (ps_expr he hs) fun σ H T z => by
  obtain ⟨W0, W, s, ρ, rfl, st, z⟩ := z
  refine (goS st z).imp fun x H1 ⟨W1, s1, d1, e1, r1, x1, st1, z1⟩ => ?_
  subst e1
  exact z1 σ W1 st1
theorem s_if {ce : Expr} {a b : List Stmt} (hc : PT X ce (tT X.K X.mg E c)) (ha : QSs X E fr a g) (hb : QSs X E fr b h) : QS X E fr (.If ce a b pos) (sIf c g h) := PS.mono (ps_if hc ha hb) fun σ H T z => by
  obtain ⟨W0, W, s, ρ, rfl, st, z⟩ := z
  refine (goS st z).imp fun x H1 ⟨W1, s1, d1, e1, r1, x1, st1, z1⟩ => ?_
  subst e1
  cases (show x = d1 from r1)
  cases x with
  | true => exact iteT ⟨W0, W1, s1, ρ, rfl, st1, z1⟩
  | false => exact iteF ⟨W0, W1, s1, ρ, rfl, st1, z1⟩
theorem s_frz (i : Nat) (h1 : QS X E fr st g) : QS X E fr st (sFrz i g) := PS.mono h1 fun σ H T z => by
  obtain ⟨W0, W, s, ρ, rfl, st, z⟩ := z
  rcases st.frz i with q | ⟨a, o, _, _, _, q⟩
  · exact ⟨W0, W, s, _, rfl, q, z⟩
  · exact ⟨W0, ⟨W.H, upd W.G a o, W.τ⟩, s, _, rfl, q, z⟩
end
end DL
namespace DL
open PySem PySem.Spec PyProof.Rows L2
variable [LT : LawT]

/-! ### an own object read within an expression whose result does not hang on it -/
def bor {α : Type} (good : α → Bool) (i : Nat) (f : List Sl → S → Res α) : List Sl → S → Res α := fun ρ s => (f (frzAt i ρ) s).bind fun d s1 => if good d then .ok d s1 else .bad
def flatL : D → Bool
  | .lst ds => flats ds
  | _ => false
section
variable {K : PySem.W.Frag} {mg : Str → Option Value} {σ : L2.St} {W W0 W' : Hw} {s s' : S} {ρ : List Sl} {a : Addr} {o : HO}
/-- behind the borrowing -/
theorem unborrow (B : Base K mg W s) (hH : W.H a = some o) (q : OwnAt W0 W a) (no : ∀ vs, o ≠ .tup vs) (nf : ∀ u vs, o ≠ .frz u (.tup vs)) (e : Ext ⟨W.H, upd W.G a o, W.τ⟩ W') (B' : Base K mg W' s') :
    Ext W ⟨W'.H, less W'.G a, W'.τ⟩ ∧ Base K mg ⟨W'.H, less W'.G a, W'.τ⟩ s' ∧ (∀ v d, Rep K mg W'.G W'.τ v d → flat d = true → Rep K mg (less W'.G a) W'.τ v d) ∧ (∀ vs ds, RepAll K mg W'.G W'.τ vs ds → flats ds = true → RepAll K mg (less W'.G a) W'.τ vs ds) := by
  have hG' : W'.G a = some o := e.grow a o upd_same
  have hH' : W'.H a = some o := e.keep a o hH q.spc fun ps z => B'.nog a ps (by rw [hG', z])
  have n : ∀ x, W'.G a = some x → (∀ ys, x ≠ .tup ys) ∧ ∀ u ys, x ≠ .frz u (.tup ys) := fun x hx => by
    rw [hG'] at hx
    cases hx
    exact ⟨no, nf⟩
  have hr : ∀ v d, Rep K mg W'.G W'.τ v d → flat d = true → Rep K mg (less W'.G a) W'.τ v d := fun v d r f => r.less n f
  have hrs : ∀ vs ds, RepAll K mg W'.G W'.τ vs ds → flats ds = true → RepAll K mg (less W'.G a) W'.τ vs ds := fun v d r f => r.less n f
  have ng : ∀ b ps, less W'.G a b ≠ some (.tbl ps) := fun b ps h' => by
    by_cases nb : b = a
    · rw [nb, less_same] at h'; cases h'
    · rw [less_ne nb] at h'; exact B'.nog b ps h'
  refine ⟨⟨e.keep0, fun b x h => ?_, fun b h => ?_, e.tpre, e.tnew, e.tab⟩, ⟨fun b x h => ?_, fun b xs h => ?_, fun b m => ?_, B'.nd, B'.len, fun k c b h1 h2 => ?_, B'.flt, B'.tab, ng, B'.all⟩, hr, hrs⟩
  · have nb : b ≠ a := fun z => by rw [z, q.frz] at h; cases h
    exact (less_ne nb).trans (e.grow b x ((upd_ne nb).trans h))
  · by_cases nb : b = a
    · rw [nb]; exact less_same.trans q.frz.symm
    · exact (less_ne nb).trans ((e.out b h).trans (upd_ne nb))
  · have h' : less W'.G a b = some x := h
    by_cases nb : b = a
    · rw [nb, less_same] at h'; cases h'
    · rw [less_ne nb] at h'; exact B'.sub b x h'
  · have nb : b ≠ a := fun z => by
      have h' : W'.H b = some (.tup xs) := h
      rw [z, hH'] at h'
      exact no xs (Option.some.inj h')
    exact (less_ne nb).trans (B'.tupI b xs h)
  · by_cases nb : b = a
    · rw [nb]; exact less_same
    · exact (less_ne nb).trans (B'.spc b m)
  · have z := B'.cel k c b h1 h2
    have f := B'.flt c (List.mem_of_getElem? h1)
    cases c with
    | l ds =>
      obtain ⟨us, e1, r⟩ := z
      exact ⟨us, e1, hrs _ _ r f⟩
    | o c fs =>
      obtain ⟨C, dx, us, e0, e1, r⟩ := z
      exact ⟨C, dx, us, e0, e1, hrs _ _ r f⟩
    | d fs =>
      obtain ⟨us, e1, r⟩ := z
      exact ⟨us, e1, hrs _ _ r f⟩
    | t fs =>
      obtain ⟨us, e1, r⟩ := z
      exact ⟨us, e1, hrs _ _ r f⟩
/-- what the frozen object is -/
theorem SSt.frz' (h : SSt K mg W0 W s σ ρ) (i : Nat) : SSt K mg W0 W s σ (frzAt i ρ) ∨ ∃ a o, W.H a = some o ∧ OwnAt W0 W a ∧ (∀ vs, o ≠ .tup vs) ∧ (∀ u vs, o ≠ .frz u (.tup vs)) ∧ SSt K mg W0 ⟨W.H, upd W.G a o, W.τ⟩ s σ (frzAt i ρ) := by
  unfold frzAt
  cases e2 : ρ[i]? with
  | none => exact .inl h
  | some y =>
    have hl : i < σ.length := by rw [h.len]; exact (List.getElem?_eq_some_iff.mp e2).1
    have e1 : σ[i]? = some σ[i] := List.getElem?_eq_getElem hl
    have z := h.sl i _ _ e1 e2
    cases y with
    | emp =>
      refine .inl ?_
      have : ρ.set i (frzSl .emp) = ρ := set_self e2
      show SSt K mg W0 W s σ (ρ.set i (frzSl .emp))
      rw [this]; exact h
    | dat d =>
      refine .inl ?_
      have : ρ.set i (frzSl (.dat d)) = ρ := set_self e2
      show SSt K mg W0 W s σ (ρ.set i (frzSl (.dat d)))
      rw [this]; exact h
    | own ds =>
      generalize hx : σ[i] = x at e1 z
      cases z with
      | own q e r =>
        exact .inr ⟨_, _, e, q, (fun _ z => nomatch z), (fun _ _ z => nomatch z), h.freeze e1 e2 rfl q (fun _ z => nomatch z) e (.lst upd_same (r.mono (upd_new q.frz) (List.prefix_refl _)))⟩
    | ownD t kvs =>
      generalize hx : σ[i] = x at e1 z
      cases z with
      | ownK q e r => exact .inr ⟨_, _, e, q, (fun _ z => nomatch z), (fun _ _ z => nomatch z), h.freeze e1 e2 rfl q (fun _ z => nomatch z) e (.dK upd_same (r.mono (upd_new q.frz) (List.prefix_refl _)))⟩
      | ownT q e r => exact .inr ⟨_, _, e, q, (fun _ z => nomatch z), (fun _ _ z => nomatch z), h.freeze e1 e2 rfl q (fun _ z => nomatch z) e (.dT upd_same (r.mono (upd_new q.frz) (List.prefix_refl _)))⟩
/-- the rule, whatever the relation, if it survives -/
theorem bor_ok {α β : Type} {rel : Hw → Hw → β → α → Prop} {E : WX} {good : α → Bool} {i : Nat} {f : List Sl → S → Res α} {H : Hp} {Q : β → Hp → Prop}
    (keep : ∀ (W W' : Hw) (a : Addr) (o : HO) (G' : Hp) (s : S) x d, W.H a = some o → Ext W ⟨W'.H, less W'.G a, W'.τ⟩ → (∀ v d, Rep K mg W'.G W'.τ v d → flat d = true → Rep K mg (less W'.G a) W'.τ v d) → (∀ vs ds, RepAll K mg W'.G W'.τ vs ds → flats ds = true → RepAll K mg (less W'.G a) W'.τ vs ds) →
      good d = true → rel ⟨W.H, upd W.G a o, W.τ⟩ W' x d → rel W ⟨W'.H, less W'.G a, W'.τ⟩ x d)
    (h : tX K mg rel E (bor good i f) σ H Q) : tX K mg rel E f σ H Q := by
  obtain ⟨W0, W, s, ρ, rfl, st, p⟩ := h
  unfold bor at p
  rcases st.frz' i with st1 | ⟨a, o, hH, own, no, nf, st1⟩
  · refine ⟨W0, W, s, _, rfl, st1, ?_⟩
    cases hf : f (frzAt i ρ) s with
    | ok d s1 =>
      rw [hf] at p
      simp only [Res.bind] at p
      split at p
      · exact p
      · exact p.elim
    | exc c s1 => rw [hf] at p; exact p
    | bad => rw [hf] at p; exact p
  · refine ⟨W0, ⟨W.H, upd W.G a o, W.τ⟩, s, _, rfl, st1, ?_⟩
    cases hf : f (frzAt i ρ) s with
    | ok d s1 =>
      rw [hf] at p
      simp only [Res.bind] at p
      split at p
      · rename_i hg
        intro x W1 e B r
        obtain ⟨e2, B2, hr, hrs⟩ := unborrow st.base hH own no nf e B
        exact p x ⟨W1.H, less W1.G a, W1.τ⟩ e2 B2 (keep W W1 a o W1.G s1 x d hH e2 hr hrs hg r)
      · exact p.elim
    | exc c s1 =>
      rw [hf] at p
      intro W1 u e B hu
      obtain ⟨e2, B2, _, _⟩ := unborrow st.base hH own no nf e B
      exact p ⟨W1.H, less W1.G a, W1.τ⟩ u e2 B2 hu
    | bad => rw [hf] at p; exact p.elim
end
def flatB : Bool → Bool := fun _ => true
section
variable {X : Cx} {e : Expr} {f : DE} {c : DT} {E : WX}
theorem e_bor (i : Nat) (h : PE X e (tE X.K X.mg E f)) : PE X e (tE X.K X.mg E (bor flat i f)) := PE.mono h fun σ H Q z => bor_ok (fun W W' a o G' s x d _ _ hr _ g r => hr _ _ r g) z
theorem t_bor (i : Nat) (h : PT X e (tT X.K X.mg E c)) : PT X e (tT X.K X.mg E (bor flatB i c)) := PT.mono h fun σ H Q z => bor_ok (fun W W' a o G' s x d _ _ hr _ g r => r) z
theorem f_bor (i : Nat) (h : PE X e (tF X.K X.mg E f)) : PE X e (tF X.K X.mg E (bor flatL i f)) := PE.mono h fun σ H Q z => bor_ok (fun W W' a o G' s x d hH e2 hr hrs g r => by
    obtain ⟨b, vs, ds, rfl, rfl, n0, nG, nt, eH, rv⟩ := r
    have nb : b ≠ a := fun z => by
      have n0' : W.H b = none := n0
      rw [z, hH] at n0'; cases n0'
    exact ⟨b, vs, ds, rfl, rfl, n0, (less_ne nb).trans nG, nt, eH, hrs _ _ rv g⟩) z
end

/-! ### own lists changed -/
def ownAt (i : Nat) (ρ : List Sl) (k : List D → Fl) : Fl := match ρ[i]? with
  | some (.own ds) => k ds
  | _ => .bad
def sApp (i : Nat) (f : DE) : DS := fun ρ s => ownAt i ρ fun ds => (f ρ s).thenS fun d s1 => if ds.length < 16777216 then .next (ρ.set i (.own (ds ++ [d]))) s1 else .bad
def sExt (i : Nat) (f : DE) : DS := fun ρ s => ownAt i ρ fun ds => (f ρ s).thenS fun d s1 => match d with
  | .lst es => if ds.length + es.length ≤ 16777216 then .next (ρ.set i (.own (ds ++ es))) s1 else .bad
  | _ => .bad
def sRev (i : Nat) : DS := fun ρ s => ownAt i ρ fun ds => .next (ρ.set i (.own ds.reverse)) s
def sClr (i : Nat) : DS := fun ρ s => ownAt i ρ fun _ => .next (ρ.set i (.own [])) s
def sPut (i : Nat) (fi fv : DE) : DS := fun ρ s => ownAt i ρ fun ds => (fv ρ s).thenS fun d s1 => (fi ρ s1).thenS fun k s2 => match k with
  | .int z => match ixN ds.length z with
    | some j => .next (ρ.set i (.own (ds.set j d))) s2
    | none => .bad
  | _ => .bad
def dropAt (ds : List D) (z : Int) : Option (D × List D) := match seqIndex? z ds.length with
  | some k => match ds[k]? with
    | some d => some (d, ds.eraseIdx k)
    | none => none
  | none => none
/-- x.pop(e), the value left -/
def sPopI (i : Nat) (f : DE) : DS := fun ρ s => ownAt i ρ fun ds => (f ρ s).thenS fun d s1 => match d with
  | .int z => if -(2 ^ 63) ≤ z ∧ z < 2 ^ 63 then (match dropAt ds z with
    | some (_, es) => .next (ρ.set i (.own es)) s1
    | none => .bad) else .bad
  | _ => .bad
section
variable {K : PySem.W.Frag} {mg : Str → Option Value} {E : WX} {fr : Bool} {σ : L2.St} {W W0 : Hw} {s : S} {ρ : List Sl} {T : Ends}
theorem ownAt_inv {i : Nat} {k : List D → Fl} (st : SSt K mg W0 W s σ ρ) (p : PostS K mg E fr W0 (ownAt i ρ k) T) :
    ∃ a vs ds, σ[i]? = some (some (.ref a)) ∧ ρ[i]? = some (.own ds) ∧ OwnAt W0 W a ∧ W.H a = some (.lst vs) ∧ RepAll K mg W.G W.τ vs ds ∧ PostS K mg E fr W0 (k ds) T := by
  unfold ownAt at p
  cases hr : ρ[i]? with
  | none => rw [hr] at p; exact p.elim
  | some y =>
    rw [hr] at p
    cases y with
    | own ds =>
      have hl : i < σ.length := by rw [st.len]; exact (List.getElem?_eq_some_iff.mp hr).1
      have q := st.sl i _ _ (List.getElem?_eq_getElem hl) hr
      generalize hx : σ[i] = x at q
      cases q with
      | own o e r => exact ⟨_, _, ds, by rw [List.getElem?_eq_getElem hl, hx], rfl, o, e, r, p⟩
    | dat d => exact p.elim
    | emp => exact p.elim
    | ownD t kvs => exact p.elim
/-- the new content -/
theorem SSt.newC (st : SSt K mg W0 W s σ ρ) {i : Nat} {a : Addr} {vs vs' : List V} {ds ds' : List D} (e1 : σ[i]? = some (some (.ref a))) (e2 : ρ[i]? = some (.own ds)) (o : OwnAt W0 W a) (eH : W.H a = some (.lst vs)) (r : RepAll K mg W.G W.τ vs' ds') :
    SSt K mg W0 ⟨upd W.H a (.lst vs'), W.G, W.τ⟩ s σ (ρ.set i (.own ds')) :=
  st.mut e1 e2 rfl o (fun _ z => nomatch z) (.own ⟨o.old, o.frz, o.spc⟩ upd_same r) rfl
end
section
variable {X : Cx} {e : Expr} {f fi fv : DE} {E : WX} {fr : Bool} {pos apos cpos : Pos}
/-- the receiver's facts -/
theorem tyL {W : Hw} {a : Addr} {vs : List V} (h : W.H a = some (.lst vs)) : tyV X.K "list" (.ref a) W.H := Or.inl ⟨rfl, _, .of h⟩
theorem s_app (i : Nat) {x : Str} {p2 : Pos} (he : PE X e (tE X.K X.mg E f)) (hN : X.N[i]? = some x := by rfl) (hv : Vis X.env.scope x := by first | exact Or.inl rfl | exact Or.inr (Or.inl rfl) | exact Or.inr (Or.inr rfl)) (hd : (x == ("__debug__" : Str)) = false := by decide)
    (hcd : (x == ("__classdict__" : Str)) = false := by decide)
    (hbase : attributeBase (.Name x p2) "append" X.env (eval (.Name x p2) X.env) = eval (.Name x p2) X.env := by rfl)
    (hfew : ((backTo cpos (starEach [e] X.env)).all (fun x => !x.1) && (backToKw cpos (keywordEach [] X.env)).all (fun x => x.1.isSome) && decide (([e] : List Expr).length + ([] : List Keyword).length + (if ([] : List Keyword).isEmpty then 0 else 1) < 30)) = true := by rfl)
    (hline : (apos.endLine == cpos.line) = true := by rfl) (hs : starEach [e] X.env = (false, eval e X.env) :: starEach [] X.env := by rfl) (hplain : (backTo cpos (starEach [] X.env)).any (·.1) = false := by rfl)
    (hsw : swapsWith (.Call (.Attribute (.Name x p2) "append" apos) [e] [] cpos) none pos.line X.env = pure false := by rfl) :
    QS X E fr (.Expr (.Call (.Attribute (.Name x p2) "append" apos) [e] [] cpos) pos) (sApp i f) := by
  refine PS.mono (ps_expr (pe_bm PySem.F.plainAttrs_list PySem.F.slot_list_append PySem.F.type_list_append mt_append (pv i hN hv hd hcd) (pa_cons he pa_nil hs) hbase hfew hline hs hplain) hsw) fun σ H T z => ?_
  obtain ⟨W0, W, s, ρ, rfl, st, z⟩ := z
  obtain ⟨a, vs, ds, h1, h2, h3, h4, h5, z⟩ := ownAt_inv st z
  refine ⟨_, h1, tyL h4, (goS st z).imp fun y H1 ⟨W1, s1, d1, e1, r1, x1, st1, z1⟩ => ?_⟩
  subst e1
  have g4 : W1.H a = some (.lst vs) := x1.keep a _ h4 h3.spc
  have g3 : OwnAt W0 W1 a := h3.ext x1 (by rw [h4]; exact fun z => nomatch z)
  have g5 := RepAll.ext x1 h5
  split at z1
  · refine ⟨a, vs, y, rfl, rfl, g4, ?_, z1 σ _ (st1.newC h1 h2 g3 g4 (g5.snoc r1))⟩
    rw [g5.length, sizeLine_eq]; assumption
  · exact z1.elim
theorem s_ext (i : Nat) {x : Str} {p2 : Pos} (he : PE X e (tE X.K X.mg E f)) (hN : X.N[i]? = some x := by rfl) (hv : Vis X.env.scope x := by first | exact Or.inl rfl | exact Or.inr (Or.inl rfl) | exact Or.inr (Or.inr rfl)) (hd : (x == ("__debug__" : Str)) = false := by decide)
    (hcd : (x == ("__classdict__" : Str)) = false := by decide)
    (hbase : attributeBase (.Name x p2) "extend" X.env (eval (.Name x p2) X.env) = eval (.Name x p2) X.env := by rfl)
    (hfew : ((backTo cpos (starEach [e] X.env)).all (fun x => !x.1) && (backToKw cpos (keywordEach [] X.env)).all (fun x => x.1.isSome) && decide (([e] : List Expr).length + ([] : List Keyword).length + (if ([] : List Keyword).isEmpty then 0 else 1) < 30)) = true := by rfl)
    (hline : (apos.endLine == cpos.line) = true := by rfl) (hs : starEach [e] X.env = (false, eval e X.env) :: starEach [] X.env := by rfl) (hplain : (backTo cpos (starEach [] X.env)).any (·.1) = false := by rfl)
    (hsw : swapsWith (.Call (.Attribute (.Name x p2) "extend" apos) [e] [] cpos) none pos.line X.env = pure false := by rfl) :
    QS X E fr (.Expr (.Call (.Attribute (.Name x p2) "extend" apos) [e] [] cpos) pos) (sExt i f) := by
  refine PS.mono (ps_expr (pe_bm PySem.F.plainAttrs_list PySem.F.slot_list_extend PySem.F.type_list_extend mt_extend (pv i hN hv hd hcd) (pa_cons he pa_nil hs) hbase hfew hline hs hplain) hsw) fun σ H T z => ?_
  obtain ⟨W0, W, s, ρ, rfl, st, z⟩ := z
  obtain ⟨a, vs, ds, h1, h2, h3, h4, h5, z⟩ := ownAt_inv st z
  refine ⟨_, h1, tyL h4, (goS st z).imp fun y H1 ⟨W1, s1, d1, e1, r1, x1, st1, z1⟩ => ?_⟩
  subst e1
  have g4 : W1.H a = some (.lst vs) := x1.keep a _ h4 h3.spc
  have g3 : OwnAt W0 W1 a := h3.ext x1 (by rw [h4]; exact fun z => nomatch z)
  have g5 := RepAll.ext x1 h5
  cases d1 with
  | lst es =>
    obtain ⟨b, us, rfl, k1, k2⟩ := r1.lst_inv
    simp only at z1
    split at z1
    · refine ⟨a, b, vs, us, rfl, rfl, g4, st1.base.sub _ _ k1, ?_, z1 σ _ (st1.newC h1 h2 g3 g4 (g5.append k2))⟩
      rw [g5.length, k2.length, sizeLine_eq]; assumption
    · exact z1.elim
  | _ => exact z1.elim
theorem s_popI (i : Nat) {x : Str} {p2 : Pos} (he : PE X e (tE X.K X.mg E f)) (hN : X.N[i]? = some x := by rfl) (hv : Vis X.env.scope x := by first | exact Or.inl rfl | exact Or.inr (Or.inl rfl) | exact Or.inr (Or.inr rfl)) (hd : (x == ("__debug__" : Str)) = false := by decide)
    (hcd : (x == ("__classdict__" : Str)) = false := by decide)
    (hbase : attributeBase (.Name x p2) "pop" X.env (eval (.Name x p2) X.env) = eval (.Name x p2) X.env := by rfl)
    (hfew : ((backTo cpos (starEach [e] X.env)).all (fun x => !x.1) && (backToKw cpos (keywordEach [] X.env)).all (fun x => x.1.isSome) && decide (([e] : List Expr).length + ([] : List Keyword).length + (if ([] : List Keyword).isEmpty then 0 else 1) < 30)) = true := by rfl)
    (hline : (apos.endLine == cpos.line) = true := by rfl) (hs : starEach [e] X.env = (false, eval e X.env) :: starEach [] X.env := by rfl) (hplain : (backTo cpos (starEach [] X.env)).any (·.1) = false := by rfl)
    (hsw : swapsWith (.Call (.Attribute (.Name x p2) "pop" apos) [e] [] cpos) none pos.line X.env = pure false := by rfl) :
    QS X E fr (.Expr (.Call (.Attribute (.Name x p2) "pop" apos) [e] [] cpos) pos) (sPopI i f) := by
  refine PS.mono (ps_expr (pe_bm PySem.F.plainAttrs_list PySem.F.slot_list_pop PySem.F.type_list_pop mt_popAt (pv i hN hv hd hcd) (pa_cons he pa_nil hs) hbase hfew hline hs hplain) hsw) fun σ H T z => ?_
  obtain ⟨W0, W, s, ρ, rfl, st, z⟩ := z
  obtain ⟨a, vs, ds, h1, h2, h3, h4, h5, z⟩ := ownAt_inv st z
  refine ⟨_, h1, tyL h4, (goS st z).imp fun y H1 ⟨W1, s1, d1, e1, r1, x1, st1, z1⟩ => ?_⟩
  subst e1
  have g4 : W1.H a = some (.lst vs) := x1.keep a _ h4 h3.spc
  have g3 : OwnAt W0 W1 a := h3.ext x1 (by rw [h4]; exact fun z => nomatch z)
  have g5 := RepAll.ext x1 h5
  cases d1 with
  | int k =>
    cases r1.int_inv
    simp only at z1
    split at z1
    · rename_i hk
      unfold dropAt at z1
      cases e3 : seqIndex? k ds.length with
      | none => rw [e3] at z1; exact z1.elim
      | some j =>
        rw [e3] at z1
        simp only at z1
        cases e4 : ds[j]? with
        | none => rw [e4] at z1; exact z1.elim
        | some d =>
          rw [e4] at z1
          obtain ⟨v, hv', rv⟩ := g5.getD e4
          exact ⟨a, vs, k, j, v, rfl, rfl, g4, hk.1, hk.2, by rw [g5.length]; exact e3, hv', z1 σ _ (st1.newC h1 h2 g3 g4 (g5.eraseIdx j))⟩
    · exact z1.elim
  | _ => exact z1.elim
theorem s_rev (i : Nat) {x : Str} {p2 : Pos} (hN : X.N[i]? = some x := by rfl) (hv : Vis X.env.scope x := by first | exact Or.inl rfl | exact Or.inr (Or.inl rfl) | exact Or.inr (Or.inr rfl)) (hd : (x == ("__debug__" : Str)) = false := by decide)
    (hcd : (x == ("__classdict__" : Str)) = false := by decide)
    (hbase : attributeBase (.Name x p2) "reverse" X.env (eval (.Name x p2) X.env) = eval (.Name x p2) X.env := by rfl)
    (hline : (apos.endLine == cpos.line) = true := by rfl)
    (hsw : swapsWith (.Call (.Attribute (.Name x p2) "reverse" apos) [] [] cpos) none pos.line X.env = pure false := by rfl) :
    QS X E fr (.Expr (.Call (.Attribute (.Name x p2) "reverse" apos) [] [] cpos) pos) (sRev i) := by
  refine PS.mono (ps_expr (pe_bm0 PySem.F.plainAttrs_list PySem.F.slot_list_reverse PySem.F.type_list_reverse mt_reverse (pv i hN hv hd hcd) hbase hline) hsw) fun σ H T z => ?_
  obtain ⟨W0, W, s, ρ, rfl, st, z⟩ := z
  obtain ⟨a, vs, ds, h1, h2, h3, h4, h5, z⟩ := ownAt_inv st z
  exact ⟨_, h1, tyL h4, a, vs, rfl, rfl, h4, z σ _ (st.newC h1 h2 h3 h4 h5.reverse)⟩
theorem s_clr (i : Nat) {x : Str} {p2 : Pos} (hN : X.N[i]? = some x := by rfl) (hv : Vis X.env.scope x := by first | exact Or.inl rfl | exact Or.inr (Or.inl rfl) | exact Or.inr (Or.inr rfl)) (hd : (x == ("__debug__" : Str)) = false := by decide)
    (hcd : (x == ("__classdict__" : Str)) = false := by decide)
    (hbase : attributeBase (.Name x p2) "clear" X.env (eval (.Name x p2) X.env) = eval (.Name x p2) X.env := by rfl)
    (hline : (apos.endLine == cpos.line) = true := by rfl)
    (hsw : swapsWith (.Call (.Attribute (.Name x p2) "clear" apos) [] [] cpos) none pos.line X.env = pure false := by rfl) :
    QS X E fr (.Expr (.Call (.Attribute (.Name x p2) "clear" apos) [] [] cpos) pos) (sClr i) := by
  refine PS.mono (ps_expr (pe_bm0 PySem.F.plainAttrs_list PySem.F.slot_list_clear PySem.F.type_list_clear mt_clear (pv i hN hv hd hcd) hbase hline) hsw) fun σ H T z => ?_
  obtain ⟨W0, W, s, ρ, rfl, st, z⟩ := z
  obtain ⟨a, vs, ds, h1, h2, h3, h4, h5, z⟩ := ownAt_inv st z
  exact ⟨_, h1, tyL h4, a, vs, rfl, rfl, h4, z σ _ (st.newC h1 h2 h3 h4 .nil)⟩
theorem s_put (i : Nat) {x : Str} {p2 sp : Pos} {v k : Expr} (hv' : PE X v (tE X.K X.mg E fv)) (hk : PE X k (tE X.K X.mg E fi)) (hN : X.N[i]? = some x := by rfl) (hv : Vis X.env.scope x := by first | exact Or.inl rfl | exact Or.inr (Or.inl rfl) | exact Or.inr (Or.inr rfl)) (hd : (x == ("__debug__" : Str)) = false := by decide)
    (hcd : (x == ("__classdict__" : Str)) = false := by decide)
    (ha : ∀ v, assign (.Subscript (.Name x p2) k sp) X.env v = (do
      let ov ← holding [v] (eval (.Name x p2) X.env)
      let iv ← holding [v, ov] (eval k X.env)
      standAt sp
      holding [v, ov, iv] (setItem ov iv v)
      release [v, ov, iv] []) := by intro _; rfl)
    (hs : swapsWithSole [.Subscript (.Name x p2) k sp] v pos.line X.env = pure false := by rfl) (hw : swappedStores [.Subscript (.Name x p2) k sp] v X.env = pure none := by rfl)
    (h1 : (assignEach [.Subscript (.Name x p2) k sp] X.env).map (·.2) = [assign (.Subscript (.Name x p2) k sp) X.env] := by rfl) :
    QS X E fr (.Assign [.Subscript (.Name x p2) k sp] v pos) (sPut i fi fv) := by
  refine PS.mono (ps_asg hv' (pg_sub (pv i hN hv hd hcd) hk set_list ha) hs hw h1) fun σ H T z => ?_
  obtain ⟨W0, W, s, ρ, rfl, st, z⟩ := z
  obtain ⟨a, vs, ds, h1, h2, h3, h4, h5, z⟩ := ownAt_inv st z
  refine (goS st z).imp fun y H1 ⟨W1, s1, d1, e1, r1, x1, st1, z1⟩ => ?_
  subst e1
  refine ⟨_, h1, (goS st1 z1).imp fun y2 H2 ⟨W2, s2, d2, e2, r2, x2, st2, z2⟩ => ?_⟩
  subst e2
  have x12 := x1.trans st1.base x2
  have g4 : W2.H a = some (.lst vs) := x12.keep a _ h4 h3.spc
  have g3 : OwnAt W0 W2 a := h3.ext x12 (by rw [h4]; exact fun z => nomatch z)
  have g5 := RepAll.ext x12 h5
  cases d2 with
  | int k =>
    cases r2.int_inv
    simp only at z2
    cases e3 : ixN ds.length k with
    | none => rw [e3] at z2; exact z2.elim
    | some j =>
      rw [e3] at z2
      exact ⟨a, vs, k, j, rfl, rfl, g4, by rw [g5.length]; exact e3, z2 σ _ (st2.newC h1 h2 g3 g4 (g5.set (r1.ext x2) j))⟩
  | _ => exact z2.elim
end
end DL
namespace DL
open PySem PySem.Spec PyProof.Rows L2
variable [LT : LawT]

/-! ### the base moved on within a def -/
section
variable {K : PySem.W.Frag} {mg : Str → Option Value} {E : WX} {fr : Bool} {σ : L2.St} {W W1 W0 : Hw} {s : S} {ρ : List Sl} {T T' : Ends}
abbrev Hw.on (W0 W1 : Hw) : Hw := ⟨W0.H, W1.G, W1.τ⟩
theorem Ext.on (x : Ext W0 W1) (e : Ext (W0.on W1) W) : Ext W0 W := by
  refine ⟨fun b o h n => ?_, x.grow.trans e.grow, fun b h => (e.out b h).trans (x.out b h), x.tpre.trans e.tpre, fun b h n => ?_, e.tab⟩
  · refine e.keep0 b o h fun m => ?_
    have := x.tnew b m n
    rw [h] at this; cases this
  · by_cases m : b ∈ W1.τ
    · exact x.tnew b m n
    · exact e.tnew b h m
theorem SlOk.on {x : Option V} {y : Sl} (h : SlOk K mg W0 W x y) : SlOk K mg (W0.on W1) W x y := by
  cases h with
  | emp => exact .emp
  | dat r => exact .dat r
  | own o e r => exact .own ⟨o.old, o.frz, o.spc⟩ e r
  | ownK o e r => exact .ownK ⟨o.old, o.frz, o.spc⟩ e r
  | ownT o e r => exact .ownT ⟨o.old, o.frz, o.spc⟩ e r
theorem SlOk.off {x : Option V} {y : Sl} (h : SlOk K mg (W0.on W1) W x y) : SlOk K mg W0 W x y := by
  cases h with
  | emp => exact .emp
  | dat r => exact .dat r
  | own o e r => exact .own ⟨o.old, o.frz, o.spc⟩ e r
  | ownK o e r => exact .ownK ⟨o.old, o.frz, o.spc⟩ e r
  | ownT o e r => exact .ownT ⟨o.old, o.frz, o.spc⟩ e r
theorem SSt.on (h : SSt K mg W0 W s σ ρ) : SSt K mg (W0.on W) W s σ ρ := by
  refine ⟨⟨fun b o e n => ?_, fun _ _ e => e, fun _ _ => rfl, List.prefix_refl _, fun _ m n => absurd m n, h.ext.tab⟩, h.base, h.len, fun i x y e1 e2 => (h.sl i x y e1 e2).on, h.dist⟩
  refine h.ext.keep0 b o e fun m => n ?_
  obtain ⟨l, el⟩ := h.ext.tpre
  show b ∈ W.τ
  rw [← el]
  exact List.mem_append_left _ m
theorem SSt.off (x : Ext W0 W1) (h : SSt K mg (W0.on W1) W s σ ρ) : SSt K mg W0 W s σ ρ := ⟨x.on h.ext, h.base, h.len, fun i x y e1 e2 => (h.sl i x y e1 e2).off, h.dist⟩
theorem PostS.on {g : Fl} (x : Ext W0 W1) (p : PostS K mg E fr W0 g T) : PostS K mg E fr (W0.on W1) g T := by
  cases g with
  | next ρ s => exact fun σ W st => p σ W (st.off x)
  | brk ρ s => exact fun σ W st => p σ W (st.off x)
  | cont ρ s => exact fun σ W st => p σ W (st.off x)
  | ret d s =>
    refine fun v W e B r => p v W (x.on e) B ?_
    unfold relR at r ⊢
    split at r
    · rename_i h
      rw [if_pos h]
      exact r
    · rename_i h
      rw [if_neg h]
      exact r
  | exc c s => exact fun σ W u e B hu => p σ W u (x.on e) B hu
  | bad => exact p
end

/-! ### slots forgotten -/
def wipeD (ρ : List Sl) : List Nat → List Sl
  | [] => ρ
  | v :: vs => (wipeD ρ vs).set v .emp
section
variable {K : PySem.W.Frag} {mg : Str → Option Value} {σ : L2.St} {W W0 : Hw} {s : S} {ρ : List Sl}
theorem SSt.clears (h : SSt K mg W0 W s σ ρ) : ∀ vs : List Nat, SSt K mg W0 W s σ (wipeD ρ vs)
  | [] => h
  | v :: vs => (h.clears vs).clear v
theorem SSt.wipe1 (h : SSt K mg W0 W s σ ρ) (i : Nat) : SSt K mg W0 W s (σ.set i none) (ρ.set i .emp) := by
  refine ⟨h.ext, h.base, by simp [h.len], fun j x y e1 e2 => ?_, fun j k a y z ne e1 e2 e3 e4 o1 o2 => ?_⟩
  · by_cases hj : j = i
    · subst hj
      rw [List.getElem?_set] at e2
      simp only [if_true] at e2
      split at e2
      · cases e2; exact .emp
      · cases e2
    · rw [List.getElem?_set_ne (Ne.symm hj)] at e1 e2
      exact h.sl j x y e1 e2
  · have go : ∀ (j : Nat) y, (ρ.set i .emp)[j]? = some y → y.isOwn = true → j ≠ i := fun j y e o q => by
      subst q
      rw [List.getElem?_set] at e
      simp only [if_true] at e
      split at e
      · cases e; exact Bool.noConfusion o
      · cases e
    have n1 := go j y e3 o1
    have n2 := go k z e4 o2
    rw [List.getElem?_set_ne (Ne.symm n1)] at e1 e3
    rw [List.getElem?_set_ne (Ne.symm n2)] at e2 e4
    exact h.dist j k a y z ne e1 e2 e3 e4 o1 o2
theorem SSt.wipes (h : SSt K mg W0 W s σ ρ) : ∀ vs : List Nat, SSt K mg W0 W s (wipe σ vs) (wipeD ρ vs)
  | [] => h
  | v :: vs => (h.wipes vs).wipe1 v
end

/-! ### targets of names -/
abbrev DG := D → List Sl → Option (List Sl)
def PG' (K : PySem.W.Frag) (mg : Str → Option Value) (vs : List Nat) (g : DG) : TG := fun v σ H Q =>
  ∃ (W0 W : Hw) (s : S) (ρ : List Sl) (d : D) (ρ' : List Sl), W.H = H ∧ SSt K mg W0 W s σ ρ ∧ Rep K mg W.G W.τ v d ∧ g d ρ = some ρ' ∧ ∀ σ', wipe σ' vs = wipe σ vs → SSt K mg W0 W s σ' ρ' → Q σ' W.H
def PGs' (K : PySem.W.Frag) (mg : Str → Option Value) (vs : List Nat) (g : List D → List Sl → Option (List Sl)) : TGs := fun us σ H Q =>
  ∃ (W0 W : Hw) (s : S) (ρ : List Sl) (ds : List D) (ρ' : List Sl), W.H = H ∧ SSt K mg W0 W s σ ρ ∧ RepAll K mg W.G W.τ us ds ∧ g ds ρ = some ρ' ∧ ∀ σ', wipe σ' vs = wipe σ vs → SSt K mg W0 W s σ' ρ' → Q σ' W.H
def gN (i : Nat) : DG := fun d ρ => some (ρ.set i (.dat d))
def gsNil : List D → List Sl → Option (List Sl) := fun ds ρ => match ds with
  | [] => some ρ
  | _ => none
def gsCons (g : DG) (h : List D → List Sl → Option (List Sl)) : List D → List Sl → Option (List Sl) := fun ds ρ => match ds with
  | d :: r => (g d ρ).bind fun ρ1 => h r ρ1
  | [] => none
def gT (n : Nat) (h : List D → List Sl → Option (List Sl)) : DG := fun d ρ => match d with
  | .tup ds => if ds.length = n then h ds ρ else none
  | .ktp ds => if ds.length = n then h ds ρ else none
  | _ => none
theorem wipe_set {σ : L2.St} {i : Nat} {x : Option V} : ∀ {vs : List Nat}, i ∈ vs → wipe (σ.set i x) vs = wipe σ vs
  | v :: vs, h => by
    unfold wipe
    by_cases hv : i ∈ vs
    · rw [wipe_set hv]
    · have e : i = v := by
        rcases List.mem_cons.mp h with e | e
        · exact e
        · exact absurd e hv
      subst e
      have out : ∀ (us : List Nat), i ∉ us → wipe (σ.set i x) us = (wipe σ us).set i x := fun us hu => by
        induction us with
        | nil => rfl
        | cons u us ih =>
          unfold wipe
          rw [ih (fun m => hu (List.mem_cons_of_mem _ m)), List.set_comm _ _ (fun z : i = u => hu (z ▸ List.mem_cons_self))]
      rw [out vs hv, List.set_set]
section
variable {X : Cx} {pos : Pos} {vs : List Nat}
theorem PG.mono {e : Expr} {t t' : TG} (h : PG X e t) (i : ∀ v σ H Q, t' v σ H Q → t v σ H Q) : PG X e t' := ⟨fun pins s σ H v u Q I r q => h.run pins s σ H v u Q I r (i v σ H Q q)⟩
theorem PGs.mono {e : List Expr} {t t' : TGs} (h : PGs X e t) (i : ∀ v σ H Q, t' v σ H Q → t v σ H Q) : PGs X e t' := ⟨fun pins s σ H v u Q I r q => h.run pins s σ H v u Q I r (i v σ H Q q)⟩
theorem g_name (i : Nat) {x : Str} (hN : X.N.Nodup) (hm : i ∈ vs := by decide) (hi : X.N[i]? = some x := by rfl) (hx : Loc X.env.scope x := by first | exact Or.inl rfl | exact Or.inr rfl)
    (hf : X.fn x = true ∨ X.env.scope.names.lookup x = some .local := by first | exact .inl rfl | exact .inr rfl) : PG X (.Name x pos) (PG' X.K X.mg vs (gN i)) := PG.mono (pg_name hN hi hx hf) fun v σ H Q h => by
  obtain ⟨W0, W, s, ρ, d, ρ', rfl, st, r, e, q⟩ := h
  cases e
  exact q _ (wipe_set hm) (st.setDat r i)
theorem gs_nil : PGs X [] (PGs' X.K X.mg vs gsNil) := PGs.mono pgs_nil fun us σ H Q h => by
  obtain ⟨W0, W, s, ρ, ds, ρ', rfl, st, r, e, q⟩ := h
  cases r with
  | nil => cases e; exact ⟨rfl, q σ rfl st⟩
  | cons _ _ => cases e
theorem gs_cons {e : Expr} {es : List Expr} {g : DG} {h : List D → List Sl → Option (List Sl)} (h1 : PG X e (PG' X.K X.mg vs g)) (h2 : PGs X es (PGs' X.K X.mg vs h))
    (hs : (assignEach (e :: es) X.env).map (·.2) = assign e X.env :: (assignEach es X.env).map (·.2) := by rfl) : PGs X (e :: es) (PGs' X.K X.mg vs (gsCons g h)) := PGs.mono (pgs_cons h1 h2 hs) fun us σ H Q z => by
  obtain ⟨W0, W, s, ρ, ds, ρ', rfl, st, r, ez, q⟩ := z
  cases r with
  | nil => cases ez
  | @cons v us d ds r1 r2 =>
    have ez' : (g d ρ).bind (fun ρ1 => h ds ρ1) = some ρ' := ez
    cases hg : g d ρ with
    | none => rw [hg] at ez'; cases ez'
    | some ρ1 =>
      rw [hg] at ez'
      exact ⟨v, us, rfl, W0, W, s, ρ, d, ρ1, rfl, st, r1, hg, fun σ1 w1 st1 => ⟨W0, W, s, ρ1, ds, ρ', rfl, st1, r2, ez', fun σ2 w2 st2 => q σ2 (w2.trans w1) st2⟩⟩
theorem g_tup {es : List Expr} {k n : Nat} {h : List D → List Sl → Option (List Sl)} (hc : X.calm = true) (hs : PGs X es (PGs' X.K X.mg vs h)) (hn : (assignEach es X.env).length = n := by rfl) (hst : (assignEach es X.env).findIdx? (·.1) = none := by rfl) :
    PG X (.Tuple es k pos) (PG' X.K X.mg vs (gT n h)) := PG.mono (pg_tup hc hs hn hst) fun v σ H Q z => by
  obtain ⟨W0, W, s, ρ, d, ρ', rfl, st, r, ez, q⟩ := z
  cases r with
  | tup h1 r1 =>
    have ez' : (if _ = n then h _ ρ else none) = some ρ' := ez
    split at ez'
    · rename_i hl
      exact ⟨_, _, rfl, .of (st.base.sub _ _ h1), r1.length.trans hl, W0, W, s, ρ, _, ρ', rfl, st, r1, ez', q⟩
    · cases ez'
  | ktp h1 r1 =>
    have ez' : (if _ = n then h _ ρ else none) = some ρ' := ez
    split at ez'
    · rename_i hl
      exact ⟨_, _, rfl, seqT st.base.sub h1, r1.length.trans hl, W0, W, s, ρ, _, ρ', rfl, st, r1, ez', q⟩
    · cases ez'
  | _ => cases ez
/-- a tuple's parts to names -/
def sUnp (g : DG) (f : DE) : DS := fun ρ s => (f ρ s).thenS fun d s1 => match g d ρ with
  | some ρ1 => .next ρ1 s1
  | none => .bad
theorem s_unp {E : WX} {fr : Bool} {tg e : Expr} {g : DG} {f : DE} (vs : List Nat) (he : PE X e (tE X.K X.mg E f)) (hg : PG X tg (PG' X.K X.mg vs g)) (hs : swapsWithSole [tg] e pos.line X.env = pure false := by rfl) (hw : swappedStores [tg] e X.env = pure none := by rfl)
    (h1 : (assignEach [tg] X.env).map (·.2) = [assign tg X.env] := by rfl) : QS X E fr (.Assign [tg] e pos) (sUnp g f) := PS.mono (ps_asg he hg hs hw h1) fun σ H T z => by
  obtain ⟨W0, W, s, ρ, rfl, st, z⟩ := z
  refine (goS st z).imp fun x H1 ⟨W1, s1, d1, e1, r1, x1, st1, z1⟩ => ?_
  subst e1
  cases hg : g d1 ρ with
  | none => rw [hg] at z1; exact z1.elim
  | some ρ1 =>
    rw [hg] at z1
    exact ⟨W0, W1, s1, ρ, d1, ρ1, rfl, st1, r1, hg, fun σ2 _ st2 => z1 σ2 W1 st2⟩
/-- a, b = e1, e2 -/
def sPar (i j : Nat) (fs : DA) : DS := fun ρ s => (fs ρ s).thenS fun ds s1 => match ds with
  | [d, e] => .next ((ρ.set i (.dat d)).set j (.dat e)) s1
  | _ => .bad
theorem s_par {E : WX} {fr : Bool} {i j : Nat} {x y : Str} {a b : Expr} {fs : DA} {px py pt pt2 : Pos} {kt k2 : Nat} (hc : X.calm = true) (hN : X.N.Nodup) (ha : PA X [a, b] (tA X.K X.mg E fs)) (hi : X.N[i]? = some x := by rfl) (hj : X.N[j]? = some y := by rfl) (hij : i ≠ j := by decide)
    (hx : X.env.scope.names.lookup x = some .local := by rfl) (hy : X.env.scope.names.lookup y = some .local := by rfl)
    (hw : swappedStores [.Tuple [.Name x px, .Name y py] kt pt] (.Tuple [a, b] k2 pt2) X.env = pure (some [x, y]) := by rfl)
    (hs : swapsWithSole [.Tuple [.Name x px, .Name y py] kt pt] (.Tuple [a, b] k2 pt2) pos.line X.env = pure false := by rfl) :
    QS X E fr (.Assign [.Tuple [.Name x px, .Name y py] kt pt] (.Tuple [a, b] k2 pt2) pos) (sPar i j fs) := PS.mono (ps_par hc hN hi hj hij hx hy ha hw hs) fun σ H T z => by
  obtain ⟨W0, W, s, ρ, rfl, st, z⟩ := z
  refine (goS st z).imp fun x H1 ⟨W1, s1, d1, e1, r1, x1, st1, z1⟩ => ?_
  subst e1
  match d1, r1, z1 with
  | [d, e], .cons q1 (.cons q2 .nil), z1 => exact ⟨_, _, rfl, z1 _ W1 ((st1.setDat q1 i).setDat q2 j)⟩
  | [], _, z1 => exact z1.elim
  | [_], _, z1 => exact z1.elim
  | _ :: _ :: _ :: _, _, z1 => exact z1.elim
end

/-! ### what is walked -/
structure Its (K : PySem.W.Frag) (mg : Str → Option Value) (W1 : Hw) (J : It) (ds : List D) (G : Hp → Prop) (Y : Nat → Hp → V → Hp → Prop) : Prop where
  walk : Walk J ds.length G Y
  good : ∀ (W2 : Hw) (s2 : S), Same W1.G W2.G → Base K mg W2 s2 → G W2.H
  item : ∀ (i : Nat) (W2 : Hw) (s2 : S) (x : V) (H' : Hp), Same W1.G W2.G → W1.τ <+: W2.τ → Base K mg W2 s2 → i < ds.length → Y i W2.H x H' → ∃ W3 d, W3.H = H' ∧ ds[i]? = some d ∧ Ext W2 W3 ∧ Base K mg W3 s2 ∧ Rep K mg W3.G W3.τ x d
def relI (K : PySem.W.Frag) (mg : Str → Option Value) : Hw → Hw → It → List D → Prop := fun _ W1 J ds => ∃ G Y, Its K mg W1 J ds G Y
abbrev tI (K : PySem.W.Frag) (mg : Str → Option Value) (E : WX) (f : DA) : TI := tX K mg (relI K mg) E f
theorem PI.mono {X : Cx} {tg e : Expr} {t t' : TI} (h : PI X tg e t) (i : ∀ σ H R, t' σ H R → t σ H R) : PI X tg e t' := ⟨fun pins s σ H R I q => h.run pins s σ H R I (i σ H R q)⟩
theorem PI.or {X : Cx} {tg e : Expr} {t t' : TI} (h : PI X tg e t) (h' : PI X tg e t') : PI X tg e (fun σ H R => t σ H R ∨ t' σ H R) := ⟨fun pins s σ H R I q => q.elim (h.run pins s σ H R I) (h'.run pins s σ H R I)⟩

/-! ### for -/
def Fl.ofG (o : Option (List Sl)) (s : S) (k : List Sl → S → Fl) : Fl := match o with
  | some ρ => k ρ s
  | none => .bad
def loopN (clr : List Nat) (g : DG) (body : DS) : List D → List Sl → S → Fl
  | [], ρ, s => .next ρ s
  | d :: ds, ρ, s => match g d ρ with
    | none => .bad
    | some ρ1 => match body ρ1 s with
      | .next ρ2 s2 => loopN clr g body ds (wipeD ρ2 clr) s2
      | .cont ρ2 s2 => loopN clr g body ds (wipeD ρ2 clr) s2
      | .brk ρ2 s2 => .next (wipeD ρ2 clr) s2
      | .ret d s2 => .ret d s2
      | .exc c s2 => .exc c s2
      | .bad => .bad
def sFor (clr : List Nat) (fi : DA) (g : DG) (body : DS) : DS := fun ρ s => (fi ρ s).thenS fun ds s1 => loopN clr g body ds (wipeD ρ clr) s1
section
variable {X : Cx} {E : WX} {fr : Bool} {pos : Pos} {tg iter : Expr} {body : List Stmt} {fi : DA} {g : DG} {b : DS} {vs : List Nat}
theorem getElem?_drop0 {α : Type} {l : List α} {i : Nat} {x : α} (h : l[i]? = some x) : l.drop i = x :: l.drop (i + 1) := by
  obtain ⟨hi, e⟩ := List.getElem?_eq_some_iff.mp h
  rw [List.drop_eq_getElem_cons hi, e]
theorem s_for (clr : List Nat) (hp : PassesOwn (model X.prog X.w) X.A X.env X.xe) (hc : X.calm = true) (hi : PI X tg iter (tI X.K X.mg E fi)) (hg : PG X tg (PG' X.K X.mg vs g)) (hb : QSs X E fr body b)
    (hs : ∀ x, foldedSetIterable iter X.env x = pure x := by intro _; rfl) : QS X E fr (.For tg iter body [] pos) (sFor clr fi g b) := PS.mono (ps_for hp hc hi hg hb hs) fun σ H T z => by
  obtain ⟨W0, W, s, ρ, rfl, st, z⟩ := z
  refine (goS st z).imp fun J H1 ⟨W1, s1, ds, e1, ⟨G, Y, its⟩, x1, st1, z1⟩ => ?_
  subst e1
  have x01 : Ext W0 W1 := st1.ext
  have z1' := PostS.on x01 z1
  have st1' := (st1.on).clears clr
  refine for_it its.walk (fun i σ2 H2 => ∃ W2 s2 ρ2, W2.H = H2 ∧ SSt X.K X.mg (W0.on W1) W2 s2 σ2 ρ2 ∧ PostS X.K X.mg E fr (W0.on W1) (loopN clr g b (ds.drop i) ρ2 s2) T)
    ⟨W1, s1, _, rfl, st1', by rw [List.drop_zero]; exact z1'⟩ ?_ ?_ ?_
  · rintro i σ2 H2 hi ⟨W2, s2, ρ2, rfl, st2, _⟩
    exact its.good W2 s2 st2.ext.grow st2.base
  · rintro i x σ2 H2 H' hi ⟨W2, s2, ρ2, rfl, st2, p2⟩ hy
    obtain ⟨W3, d, rfl, hd, x3, B3, r3⟩ := its.item i W2 s2 x H' st2.ext.grow st2.ext.tpre st2.base hi hy
    rw [getElem?_drop0 hd] at p2
    have st3 := st2.step x3 B3
    unfold loopN at p2
    cases hgd : g d ρ2 with
    | none => rw [hgd] at p2; exact p2.elim
    | some ρ3 =>
      rw [hgd] at p2
      refine ⟨W0.on W1, W3, s2, ρ2, d, ρ3, rfl, st3, r3, hgd, fun σ4 _ st4 => ⟨W0.on W1, W3, s2, ρ3, rfl, st4, ?_⟩⟩
      simp only at p2
      cases hbd : b ρ3 s2 with
      | next ρ5 s5 => rw [hbd] at p2; exact fun σ5 W5 st5 => ⟨W5, s5, _, rfl, st5.clears clr, p2⟩
      | cont ρ5 s5 => rw [hbd] at p2; exact fun σ5 W5 st5 => ⟨W5, s5, _, rfl, st5.clears clr, p2⟩
      | brk ρ5 s5 => rw [hbd] at p2; exact fun σ5 W5 st5 => p2 σ5 W5 (st5.clears clr)
      | ret v s5 => rw [hbd] at p2; exact p2
      | exc c s5 => rw [hbd] at p2; exact p2
      | bad => rw [hbd] at p2; exact p2.elim
  · rintro σ2 H2 ⟨W2, s2, ρ2, rfl, st2, p2⟩
    rw [List.drop_length] at p2
    exact p2 σ2 W2 st2

/-! ### while -/
def whileN (clr : List Nat) (c : DT) (b : DS) : Nat → List Sl → S → Option Fl
  | 0, _, _ => none
  | n + 1, ρ, s => match c ρ s with
    | .ok true s1 => match b ρ s1 with
      | .next ρ2 s2 => whileN clr c b n (wipeD ρ2 clr) s2
      | .cont ρ2 s2 => whileN clr c b n (wipeD ρ2 clr) s2
      | .brk ρ2 s2 => some (.next ρ2 s2)
      | .ret d s2 => some (.ret d s2)
      | .exc c s2 => some (.exc c s2)
      | .bad => some .bad
    | .ok false s1 => some (.next ρ s1)
    | .exc c s1 => some (.exc c s1)
    | .bad => some .bad
theorem whileN_mono {clr : List Nat} {c : DT} {b : DS} : ∀ {n : Nat} {ρ : List Sl} {s : S} {r : Fl}, whileN clr c b n ρ s = some r → whileN clr c b (n + 1) ρ s = some r
  | 0, _, _, _, h => by cases h
  | n + 1, ρ, s, r, h => by
    rw [whileN]
    rw [whileN] at h
    cases hc : c ρ s with
    | ok k s1 =>
      rw [hc] at h
      cases k with
      | true =>
        simp only at h ⊢
        cases hb : b ρ s1 with
        | next ρ2 s2 => rw [hb] at h; exact whileN_mono h
        | cont ρ2 s2 => rw [hb] at h; exact whileN_mono h
        | brk ρ2 s2 => rw [hb] at h; exact h
        | ret d s2 => rw [hb] at h; exact h
        | exc c s2 => rw [hb] at h; exact h
        | bad => rw [hb] at h; exact h
      | false => exact h
    | exc c s1 => rw [hc] at h; exact h
    | bad => rw [hc] at h; exact h
theorem whileN_le {clr : List Nat} {c : DT} {b : DS} {n m : Nat} {ρ : List Sl} {s : S} {r : Fl} (h : whileN clr c b n ρ s = some r) (k : n ≤ m) : whileN clr c b m ρ s = some r := by
  induction k with
  | refl => exact h
  | step _ ih => exact whileN_mono ih
open Classical in
noncomputable def sWhile (clr : List Nat) (c : DT) (b : DS) : DS := fun ρ s =>
  if h : ∃ n r, whileN clr c b n (wipeD ρ clr) s = some r then Classical.choose (Classical.choose_spec h) else .bad
theorem sWhile_of {clr : List Nat} {c : DT} {b : DS} {n : Nat} {ρ : List Sl} {s : S} {r : Fl} (h : whileN clr c b n (wipeD ρ clr) s = some r) : sWhile clr c b ρ s = r := by
  unfold sWhile
  have hx : ∃ n r, whileN clr c b n (wipeD ρ clr) s = some r := ⟨n, r, h⟩
  rw [dif_pos hx]
  have h2 := Classical.choose_spec (Classical.choose_spec hx)
  have a1 := whileN_le h (Nat.le_max_left n (Classical.choose hx))
  have a2 := whileN_le h2 (Nat.le_max_right n (Classical.choose hx))
  rw [a1] at a2
  exact (Option.some.inj a2).symm
theorem s_while {ce : Expr} {c : DT} (clr : List Nat) (hp : PassesOwn (model X.prog X.w) X.A X.env X.xe) (hc : PT X ce (tT X.K X.mg E c)) (hb : QSs X E fr body b) : QS X E fr (.While ce body [] pos) (sWhile clr c b) := PS.mono (ps_while hp hc hb) fun σ H T z => by
  obtain ⟨W0, W, s, ρ, rfl, st, z⟩ := z
  unfold sWhile at z
  split at z
  · rename_i hx
    have h2 := Classical.choose_spec (Classical.choose_spec hx)
    generalize Classical.choose (Classical.choose_spec hx) = r at z h2
    refine ⟨fun m σ2 H2 => ∃ W2 s2 ρ2, W2.H = H2 ∧ SSt X.K X.mg W0 W2 s2 σ2 ρ2 ∧ whileN clr c b m ρ2 s2 = some r, ⟨_, W, s, _, rfl, st.clears clr, h2⟩, ?_⟩
    rintro m σ2 H2 ⟨W2, s2, ρ2, rfl, st2, hw⟩
    cases m with
    | zero => cases hw
    | succ m =>
      rw [whileN] at hw
      refine ⟨W0, W2, s2, ρ2, rfl, st2, ?_⟩
      cases hc : c ρ2 s2 with
      | ok k s3 =>
        rw [hc] at hw
        intro k' W3 x3 B3 e3
        cases (show k' = k from e3)
        have st3 := st2.step x3 B3
        cases k with
        | true =>
          simp only at hw
          refine iteT ⟨fun σ' H' => ∃ W2 s2 ρ2, W2.H = H' ∧ SSt X.K X.mg W0 W2 s2 σ' ρ2 ∧ whileN clr c b m ρ2 s2 = some r, fun σ' H' h => ⟨m, Nat.lt_succ_self m, h⟩, ⟨W0, W3, s3, ρ2, rfl, st3, ?_⟩⟩
          cases hb : b ρ2 s3 with
          | next ρ4 s4 => rw [hb] at hw; exact fun σ4 W4 st4 => ⟨W4, s4, _, rfl, st4.clears clr, hw⟩
          | cont ρ4 s4 => rw [hb] at hw; exact fun σ4 W4 st4 => ⟨W4, s4, _, rfl, st4.clears clr, hw⟩
          | brk ρ4 s4 => rw [hb] at hw; cases hw; exact z
          | ret d s4 => rw [hb] at hw; cases hw; exact z
          | exc c s4 => rw [hb] at hw; cases hw; exact z
          | bad => rw [hb] at hw; cases hw; exact z.elim
        | false =>
          cases hw
          exact iteF (z σ2 W3 st3)
      | exc c s3 =>
        rw [hc] at hw
        cases hw
        exact fun W3 u x3 B3 hu => z σ2 W3 u (st2.ext.trans st2.base x3) B3 hu
      | bad => rw [hc] at hw; cases hw; exact z.elim
  · exact z.elim
end

/-! ### comprehensions -/
def compN (g : DG) (c : DT) (f : DE) (ρ : List Sl) : List D → S → Res (List D)
  | [], s => .ok [] s
  | d :: ds, s => match g d ρ with
    | none => .bad
    | some ρ1 => (c ρ1 s).bind fun b s1 => if b then (f ρ1 s1).bind fun y s2 => (compN g c f ρ ds s2).bind fun ys s3 => .ok (y :: ys) s3 else compN g c f ρ ds s1
def eComp (vs : List Nat) (fi : DA) (g : DG) (c : DT) (f : DE) : DE := fun ρ s => (fi ρ s).bind fun ds s1 => if ds.length ≤ 16777216 then (match compN g c f (wipeD ρ vs) ds s1 with
  | .ok ys s2 => .ok (.lst ys) s2
  | _ => .bad) else .bad
def tAll : DT := fun _ s => .ok true s
abbrev E0x : WX := fun _ _ _ _ => False
section
variable {X : Cx} {E : WX} {fr : Bool} {tg iter elt : Expr} {ifs : List Expr} {fi : DA} {g : DG} {c : DT} {f : DE} {vs : List Nat}
theorem PTs.mono {t t' : TT} (h : PTs X ifs t) (i : ∀ σ H Q, t' σ H Q → t σ H Q) : PTs X ifs t' := ⟨fun pins s σ H Q I q => h.run pins s σ H Q I (i σ H Q q)⟩
theorem ts_nil : PTs X [] (tT X.K X.mg E0x tAll) := PTs.mono pts_nil fun σ H Q z => by
  obtain ⟨W0, W, s, ρ, rfl, st, z⟩ := z
  exact z.of_ok st.base rfl
theorem ts_one {e : Expr} (h : PT X e (tT X.K X.mg E0x c)) : PTs X [e] (tT X.K X.mg E0x c) := pts_one h
theorem compN_len : ∀ {ds : List D} {s s' : S} {ys : List D} {ρ : List Sl}, compN g c f ρ ds s = .ok ys s' → ys.length ≤ ds.length
  | [], _, _, _, _, h => by unfold compN at h; cases h; exact Nat.le_refl _
  | d :: ds, s, s', ys, ρ, h => by
    unfold compN at h
    cases hg : g d ρ with
    | none => rw [hg] at h; cases h
    | some ρ1 =>
      rw [hg] at h
      simp only at h
      cases hc : c ρ1 s with
      | ok b s1 =>
        rw [hc] at h
        simp only [Res.bind] at h
        cases b with
        | true =>
          simp only [if_true] at h
          cases hf : f ρ1 s1 with
          | ok y s2 =>
            rw [hf] at h
            simp only at h
            cases hr : compN g c f ρ ds s2 with
            | ok zs s3 =>
              rw [hr] at h
              cases h
              exact Nat.succ_le_succ (compN_len hr)
            | exc _ _ => rw [hr] at h; cases h
            | bad => rw [hr] at h; cases h
          | exc _ _ => rw [hf] at h; cases h
          | bad => rw [hf] at h; cases h
        | false =>
          simp only [Bool.false_eq_true, if_false] at h
          exact Nat.le_succ_of_le (compN_len h)
      | exc _ _ => rw [hc] at h; cases h
      | bad => rw [hc] at h; cases h
theorem r_comp {K : PySem.W.Frag} {mg : Str → Option Value} (vs : List Nat) : ∀ σ H Q, tF K mg E (eComp vs fi g c f) σ H Q → tLc (tI K mg E fi) (PG' K mg vs g) (tT K mg E0x c) (tE K mg E0x f) vs σ H Q := fun σ H Q z => by
  obtain ⟨W0, W, s, ρ, rfl, st, z⟩ := z
  refine (go st z).imp fun J H1 ⟨W1, s1, ds, e1, ⟨G, Y, its⟩, x1, st1, z1⟩ => ?_
  subst e1
  intro D hD
  split at z1
  · rename_i hl
    cases hcmp : compN g c f (wipeD ρ vs) ds s1 with
    | ok ys s9 =>
      rw [hcmp] at z1
      -- the new list, its own
      obtain ⟨B2, x2⟩ := st1.base.newL hD (o := .lst []) (fun _ z => nomatch z)
      have hGD : W1.G D = none := st1.base.frz_none hD
      have htD : D ∉ W1.τ := fun m => st1.base.tau_some m hD
      have x01 : Ext W0 W1 := st1.ext
      -- the state within: the base is W1, the slots wiped
      refine lc_it its.walk (fun i H2 => ∃ W2 s2 acc rest vs', W2.H = H2 ∧ Ext W1 W2 ∧ Base K mg W2 s2 ∧ W2.H D = some (.lst vs') ∧ W2.G D = none ∧ D ∉ W2.τ ∧ RepAll K mg W2.G W2.τ vs' acc ∧ acc.length ≤ i ∧ compN g c f (wipeD ρ vs) (ds.drop i) s2 = .ok rest s9 ∧ ys = acc ++ rest)
        ⟨⟨upd W1.H D (.lst []), W1.G, W1.τ⟩, s1, [], ys, [], rfl, x2, B2, upd_same, hGD, htD, .nil, Nat.le_refl _, by rw [List.drop_zero]; exact hcmp, rfl⟩ ?_ ?_ ?_
      · rintro i H2 hi ⟨W2, s2, acc, rest, vs', rfl, x12, B2, _⟩
        exact its.good W2 s2 x12.grow B2
      · rintro i x H2 H' hi ⟨W2, s2, acc, rest, vs', rfl, x12, B2, eD, gD, tD, rv, ha, hrest, hys⟩ hy
        obtain ⟨W3, d, rfl, hd, x3, B3, r3⟩ := its.item i W2 s2 x H' x12.grow x12.tpre B2 hi hy
        rw [getElem?_drop0 hd] at hrest
        unfold compN at hrest
        have x13 := x12.trans B2 x3
        have st3 : SSt K mg W0 W3 s2 (wipe σ vs) (wipeD ρ vs) := (st1.wipes _).step x13 B3
        have eD3 : W3.H D = some (.lst vs') := x3.keep D _ eD tD
        have gD3 : W3.G D = none := (x3.out D (by rw [eD]; exact fun z => nomatch z)).trans gD
        have tD3 : D ∉ W3.τ := fun m => by have := x3.tnew D m tD; rw [eD] at this; cases this
        cases hgd : g d (wipeD ρ vs) with
        | none => rw [hgd] at hrest; cases hrest
        | some ρ3 =>
          rw [hgd] at hrest
          simp only at hrest
          refine ⟨W0, W3, s2, _, d, ρ3, rfl, st3, r3, hgd, fun σ4 w4 st4 => ⟨?_, ?_⟩⟩
          · rw [w4]
            have : ∀ us : List Nat, ∀ {σ : L2.St}, (∀ v ∈ us, v ∈ vs) → wipe (wipe σ vs) us = wipe σ vs := fun us => by
              induction us with
              | nil => intro σ _; rfl
              | cons u us ih =>
                intro σ hu
                show (wipe (wipe σ vs) us).set u none = wipe σ vs
                rw [ih fun v hv => hu v (List.mem_cons_of_mem _ hv)]
                have hm := hu u List.mem_cons_self
                have key : ∀ ws : List Nat, u ∈ ws → (wipe σ ws).set u none = wipe σ ws := fun ws => by
                  induction ws with
                  | nil => intro h; simp at h
                  | cons w ws ihw =>
                    intro h
                    show ((wipe σ ws).set w none).set u none = (wipe σ ws).set w none
                    by_cases e : u = w
                    · subst e; rw [List.set_set]
                    · rw [List.set_comm _ _ (Ne.symm e), ihw (by rcases List.mem_cons.mp h with z | z; exact absurd z e; exact z)]
                exact key _ hm
            exact this _ fun v hv => hv
          · refine ⟨W0, W3, s2, ρ3, rfl, st4, ?_⟩
            cases hcd : c ρ3 s2 with
            | ok b s5 =>
              rw [hcd] at hrest
              simp only [Res.bind] at hrest
              intro b' W5 x5 B5 e5
              cases (show b' = b from e5)
              have st5 := st4.step x5 B5
              have eD5 : W5.H D = some (.lst vs') := x5.keep D _ eD3 tD3
              have gD5 : W5.G D = none := (x5.out D (by rw [eD3]; exact fun z => nomatch z)).trans gD3
              have tD5 : D ∉ W5.τ := fun m => by have := x5.tnew D m tD3; rw [eD3] at this; cases this
              have x15 := x13.trans B3 x5
              have rv5 := RepAll.ext x5 (RepAll.ext x3 rv)
              cases b with
              | true =>
                simp only [if_true] at hrest ⊢
                refine ⟨W0, W5, s5, ρ3, rfl, st5, ?_⟩
                cases hfd : f ρ3 s5 with
                | ok y s6 =>
                  rw [hfd] at hrest
                  simp only at hrest
                  intro v W6 x6 B6 r6
                  have eD6 : W6.H D = some (.lst vs') := x6.keep D _ eD5 tD5
                  have gD6 : W6.G D = none := (x6.out D (by rw [eD5]; exact fun z => nomatch z)).trans gD5
                  have tD6 : D ∉ W6.τ := fun m => by have := x6.tnew D m tD5; rw [eD5] at this; cases this
                  have x16 := x15.trans B5 x6
                  have rv6 := RepAll.ext x6 rv5
                  refine ⟨vs', eD6, ?_, ?_⟩
                  · rw [rv6.length, sizeLine_eq]; omega
                  · cases hrr : compN g c f (wipeD ρ vs) (ds.drop (i + 1)) s6 with
                    | ok zs s7 =>
                      rw [hrr] at hrest
                      simp only at hrest
                      cases hrest
                      have q : SSt K mg W1 W6 s6 [some (.ref D)] [.own acc] := by
                        refine ⟨x16, B6, rfl, fun k p q e1 e2 => ?_, fun k l a y z ne e1 e2 _ _ _ _ => ?_⟩
                        · cases k with
                          | zero =>
                            have h1 : some (V.ref D) = p := by simpa using e1
                            have h2 : Sl.own acc = q := by simpa using e2
                            subst h1 h2
                            exact .own ⟨hD, gD6, tD6⟩ eD6 rv6
                          | succ k => simp at e1
                        · cases k with
                          | zero => cases l with
                            | zero => exact ne rfl
                            | succ l => simp at e2
                          | succ k => simp at e1
                      have q2 := q.newC (i := 0) (a := D) rfl rfl ⟨hD, gD6, tD6⟩ eD6 (rv6.snoc r6)
                      exact ⟨_, s6, acc ++ [y], zs, vs' ++ [v], rfl, q2.ext, q2.base, upd_same, gD6, tD6, rv6.snoc r6, by rw [List.length_append]; simp; omega, hrr, by rw [hys]; simp⟩
                    | exc _ _ => rw [hrr] at hrest; cases hrest
                    | bad => rw [hrr] at hrest; cases hrest
                | exc _ _ => rw [hfd] at hrest; cases hrest
                | bad => rw [hfd] at hrest; cases hrest
              | false =>
                simp only [Bool.false_eq_true, if_false] at hrest ⊢
                exact ⟨W5, s5, acc, rest, vs', rfl, x15, B5, eD5, gD5, tD5, rv5, by omega, hrest, hys⟩
            | exc _ _ => rw [hcd] at hrest; cases hrest
            | bad => rw [hcd] at hrest; cases hrest
      · rintro H2 ⟨W2, s2, acc, rest, vs', rfl, x12, B2, eD, gD, tD, rv, ha, hrest, hys⟩
        rw [List.drop_length] at hrest
        unfold compN at hrest
        cases hrest
        rw [List.append_nil] at hys
        subst hys
        have hWD : W.H D = none := old_none x1 st1.base hD
        exact z1 (.ref D) W2 x12 B2 ⟨D, vs', _, rfl, rfl, hWD, gD, tD, eD, rv⟩
    | exc _ _ => rw [hcmp] at z1; exact z1.elim
    | bad => rw [hcmp] at z1; exact z1.elim
  · exact z1.elim
theorem f_comp {scope : Scope} {pos : Pos} (own : List (Str × Nat)) (hc : X.calm = true) (hN : X.N.Nodup) (hi : PI X tg iter (tI X.K X.mg E fi)) (ok : BlkOk X.N X.env.scope scope own)
    (hg : ∀ (s : Shared) (H : Hp) (C : Addr) (cl : List (Str × Addr)) (fp : List Addr), PG (X.blk s H scope (compEnvC scope cl C X.env) fp) tg (PG' X.K X.mg (own.map (·.2)) g))
    (ht : ∀ (s : Shared) (H : Hp) (C : Addr) (cl : List (Str × Addr)) (fp : List Addr), PTs (X.blk s H scope (compEnvC scope cl C X.env) fp) ifs (tT X.K X.mg E0x c))
    (he : ∀ (s : Shared) (H : Hp) (C : Addr) (cl : List (Str × Addr)) (fp : List Addr), PE (X.blk s H scope (compEnvC scope cl C X.env) fp) elt (tE X.K X.mg E0x f)) (hs : ∀ x, foldedSetIterable iter X.env x = pure x := by intro _; rfl) :
    PE X (.ListComp elt [⟨tg, iter, ifs, 0⟩] scope pos) (tF X.K X.mg E (eComp (own.map (·.2)) fi g c f)) := PE.mono (pe_lc hc hN hi ok hg ht he hs) (r_comp _)
end
end DL
namespace DL
open PySem PySem.Spec PyProof.Rows L2
variable [LT : LawT]

/-! ### sources of loops -/
section
variable {K : PySem.W.Frag} {mg : Str → Option Value} {W1 : Hw}
theorem its_list {a : Addr} {xs : List V} {ds : List D} (h : SqL K W1.G a xs) (r : RepAll K mg W1.G W1.τ xs ds) : ∃ G Y, Its K mg W1 (Itl K a) ds G Y := by
  refine ⟨_, _, by rw [← r.length]; exact walk_list, fun W2 s2 g B => B.sub.seq (g.seq h), fun i W2 s2 x H' g t B hi hy => ?_⟩
  obtain ⟨rfl, hx⟩ := hy
  obtain ⟨d, hd, rd⟩ := (r.mono g t).get hx
  exact ⟨W2, d, rfl, hd, Ext.refl _, B, rd⟩
theorem its_tup {a : Addr} {xs : List V} {ds : List D} (h : SqT K W1.G a xs) (r : RepAll K mg W1.G W1.τ xs ds) : ∃ G Y, Its K mg W1 (Itt K a) ds G Y := by
  refine ⟨_, _, by rw [← r.length]; exact walk_tup, fun W2 s2 g B => seqT B.sub (seqT g h), fun i W2 s2 x H' g t B hi hy => ?_⟩
  obtain ⟨rfl, hx⟩ := hy
  obtain ⟨d, hd, rd⟩ := (r.mono g t).get hx
  exact ⟨W2, d, rfl, hd, Ext.refl _, B, rd⟩
/-- numbers lo, lo + c, .. -/
def rngD (lo c : Int) (n : Nat) : List D := (List.range n).map fun (i : Nat) => .int (lo + (i : Int) * c)
theorem rngD_len (lo c : Int) (n : Nat) : (rngD lo c n).length = n := by simp [rngD]
theorem rngD_get {lo c : Int} {n i : Nat} (h : i < n) : (rngD lo c n)[i]? = some (.int (lo + (i : Int) * c)) := by simp [rngD, h]
theorem its_rng {lo : Int} {n : Nat} : ∃ G Y, Its K mg W1 (Itr lo n) (rngD lo 1 n) G Y := by
  refine ⟨_, _, by rw [rngD_len]; exact walk_range, fun W2 s2 g B => trivial, fun i W2 s2 x H' g t B hi hy => ?_⟩
  obtain ⟨rfl, rfl⟩ := hy
  rw [rngD_len] at hi
  exact ⟨W2, _, rfl, rngD_get hi, Ext.refl _, B, by rw [Int.mul_one]; exact .int _⟩
theorem its_rngC {lo c : Int} {n : Nat} : ∃ G Y, Its K mg W1 (Itc lo c n) (rngD lo c n) G Y := by
  refine ⟨_, _, by rw [rngD_len]; exact walk_rangeC, fun W2 s2 g B => trivial, fun i W2 s2 x H' g t B hi hy => ?_⟩
  obtain ⟨rfl, rfl⟩ := hy
  rw [rngD_len] at hi
  exact ⟨W2, _, rfl, rngD_get hi, Ext.refl _, B, .int _⟩
def strD (z : Str) : List D := z.cps.toList.map fun c => .str ⟨#[c]⟩
theorem its_str {z : Str} : ∃ G Y, Its K mg W1 (L2.Its z) (strD z) G Y := by
  refine ⟨_, _, by rw [show (strD z).length = z.cps.size by simp [strD]]; exact walk_str, fun W2 s2 g B => trivial, fun i W2 s2 x H' g t B hi hy => ?_⟩
  obtain ⟨rfl, c, hc, rfl⟩ := hy
  refine ⟨W2, _, rfl, ?_, Ext.refl _, B, .str _⟩
  have : z.cps.toList[i]? = some c := by rw [Array.getElem?_toList]; exact hc
  simp [strD, this]
end
def dIter : D → Option (List D)
  | .lst ds => some ds
  | .tup ds => some ds
  | .frz ds => some ds
  | .str z => some (strD z)
  | .ktp ds => some ds
  | _ => none
def iVal (f : DE) : DA := fun ρ s => (f ρ s).bind fun d s1 => Res.ofO (dIter d) s1
def iRange1 (fs : DA) : DA := fun ρ s => (fs ρ s).bind fun ds s1 => match ds with
  | [.int j] => if -(2 ^ 62) ≤ j ∧ j < 2 ^ 62 then .ok (rngD 0 1 j.toNat) s1 else .bad
  | _ => .bad
def iRange2 (fs : DA) : DA := fun ρ s => (fs ρ s).bind fun ds s1 => match ds with
  | [.int i, .int j] => if -(2 ^ 62) ≤ i ∧ i < 2 ^ 62 ∧ -(2 ^ 62) ≤ j ∧ j < 2 ^ 62 then .ok (rngD i 1 (j - i).toNat) s1 else .bad
  | _ => .bad
def iRange3 (fs : DA) : DA := fun ρ s => (fs ρ s).bind fun ds s1 => match ds with
  | [.int i, .int j, .int c] => if c = -1 ∧ -(2 ^ 60) ≤ i ∧ i < 2 ^ 60 ∧ -(2 ^ 60) ≤ j ∧ j < 2 ^ 60 then .ok (rngD i c (i - j).toNat) s1 else .bad
  | _ => .bad
section
variable {X : Cx} {E : WX} {tg e a b c : Expr} {f : DE} {fs : DA} {pos p : Pos}
theorem i_val (he : PE X e (tE X.K X.mg E f)) : PI X tg e (tI X.K X.mg E (iVal f)) :=
  PI.mono (PI.or (pi_list he) (PI.or (pi_tup he) (pi_str he))) fun σ H R z => by
    obtain ⟨W0, W, s, ρ, rfl, st, z⟩ := z
    unfold iVal at z
    cases hf : f ρ s with
    | bad => rw [hf] at z; exact z.elim
    | exc c s1 => exact .inl ⟨W0, W, s, ρ, rfl, st, by rw [hf] at z ⊢; exact z⟩
    | ok d s1 =>
      have z' := z
      rw [hf] at z'
      simp only [Res.bind] at z'
      cases d with
      | lst ds =>
        refine .inl ⟨W0, W, s, ρ, rfl, st, ?_⟩
        rw [hf]
        intro x W1 x1 B1 r1
        obtain ⟨a, xs, rfl, h1, rr⟩ := r1.lst_inv
        exact ⟨a, rfl, ⟨xs, .of (B1.sub _ _ h1)⟩, z' (Itl X.K a) W1 x1 B1 (its_list (.of h1) rr)⟩
      | frz ds =>
        refine .inl ⟨W0, W, s, ρ, rfl, st, ?_⟩
        rw [hf]
        intro x W1 x1 B1 r1
        obtain ⟨a, xs, rfl, h1, rr⟩ := r1.frz_inv
        exact ⟨a, rfl, ⟨xs, B1.sub.seq h1⟩, z' (Itl X.K a) W1 x1 B1 (its_list h1 rr)⟩
      | tup ds =>
        refine .inr (.inl ⟨W0, W, s, ρ, rfl, st, ?_⟩)
        rw [hf]
        intro x W1 x1 B1 r1
        obtain ⟨a, xs, rfl, h1, rr⟩ := r1.tup_inv
        exact ⟨a, rfl, ⟨xs, seqT B1.sub h1⟩, z' (Itt X.K a) W1 x1 B1 (its_tup h1 rr)⟩
      | ktp ds =>
        refine .inr (.inl ⟨W0, W, s, ρ, rfl, st, ?_⟩)
        rw [hf]
        intro x W1 x1 B1 r1
        obtain ⟨a, xs, rfl, h1, rr⟩ := r1.ktp_inv
        exact ⟨a, rfl, ⟨xs, seqT B1.sub h1⟩, z' (Itt X.K a) W1 x1 B1 (its_tup h1 rr)⟩
      | str y =>
        refine .inr (.inr ⟨W0, W, s, ρ, rfl, st, ?_⟩)
        rw [hf]
        intro x W1 x1 B1 r1
        cases r1.str_inv
        exact ⟨y, rfl, z' (L2.Its y) W1 x1 B1 its_str⟩
      | _ => exact z'.elim
theorem i_range1 (hm : X.mg "range" = none) (ha : PA X [a] (tA X.K X.mg E fs)) (hg : Gl X "range" := by rfl) (hs : starEach [a] X.env = [(false, eval a X.env)] := by rfl) :
    PI X tg (.Call (.Name "range" p) [a] [] pos) (tI X.K X.mg E (iRange1 fs)) := PI.mono (pi_range1 hg hm ha hs) fun σ H R z => by
  obtain ⟨W0, W, s, ρ, rfl, st, z⟩ := z
  refine (go st z).imp fun x H1 ⟨W1, s1, ds, e1, r1, x1, st1, z1⟩ => ?_
  subst e1
  split at z1
  · split at z1
    · rename_i hj
      obtain ⟨v, rfl, rv⟩ := r1.one_inv
      cases rv.int_inv
      exact ⟨_, rfl, hj.1, hj.2, z1 _ W1 (Ext.refl _) st1.base its_rng⟩
    · exact z1.elim
  · exact z1.elim
theorem i_range2 (hm : X.mg "range" = none) (ha : PA X [a, b] (tA X.K X.mg E fs)) (hg : Gl X "range" := by rfl) (hs : starEach [a, b] X.env = [(false, eval a X.env), (false, eval b X.env)] := by rfl) (hs2 : starEach [b] X.env = [(false, eval b X.env)] := by rfl) :
    PI X tg (.Call (.Name "range" p) [a, b] [] pos) (tI X.K X.mg E (iRange2 fs)) := PI.mono (pi_range2 hg hm ha hs hs2) fun σ H R z => by
  obtain ⟨W0, W, s, ρ, rfl, st, z⟩ := z
  refine (go st z).imp fun x H1 ⟨W1, s1, ds, e1, r1, x1, st1, z1⟩ => ?_
  subst e1
  split at z1
  · split at z1
    · rename_i hj
      obtain ⟨v, u, rfl, rv, ru⟩ := r1.two_inv
      cases rv.int_inv
      cases ru.int_inv
      exact ⟨_, _, rfl, hj, z1 _ W1 (Ext.refl _) st1.base its_rng⟩
    · exact z1.elim
  · exact z1.elim
theorem i_range3 (hm : X.mg "range" = none) (ha : PA X [a, b, c] (tA X.K X.mg E fs)) (hg : Gl X "range" := by rfl) (hs : starEach [a, b, c] X.env = (false, eval a X.env) :: starEach [b, c] X.env := by rfl) (hpl : (backTo pos (starEach [b, c] X.env)).any (·.1) = false := by rfl) :
    PI X tg (.Call (.Name "range" p) [a, b, c] [] pos) (tI X.K X.mg E (iRange3 fs)) := PI.mono (pi_range3 hg hm ha hs hpl) fun σ H R z => by
  obtain ⟨W0, W, s, ρ, rfl, st, z⟩ := z
  refine (go st z).imp fun x H1 ⟨W1, s1, ds, e1, r1, x1, st1, z1⟩ => ?_
  subst e1
  split at z1
  · split at z1
    · rename_i hj
      obtain ⟨v, us, rfl, rv, r2⟩ := r1.cons_inv
      obtain ⟨u, t, rfl, ru, rt⟩ := r2.two_inv
      cases rv.int_inv
      cases ru.int_inv
      cases rt.int_inv
      obtain ⟨rfl, h1, h2, h3, h4⟩ := hj
      exact ⟨_, _, _, _, rfl, RgC.neg (by omega) (by omega) (by omega) (by omega), z1 _ W1 (Ext.refl _) st1.base its_rngC⟩
    · exact z1.elim
  · exact z1.elim
end
end DL
namespace DL
open PySem PySem.Spec PyProof.Rows L2
section LTS
variable [LT : LawT]

/-! ### a def's promise where no guard is up -/
structure FnG (P : Program) (w : World) (K : PySem.W.Frag) (mg : Str → Option Value) (base : Heap) (k : Nat) (f : Addr) (fd : FuncData) (ps : List Str) (sp : Sp) : Prop where
  len : ∀ vs H Q E, sp vs H Q E → vs.length = ps.length
  run : ∀ (A : Around) (outer : List Env) (s : Shared) (H : Hp) (args : Args) (us : List Value) (vs : List V) (Q : VK) (E : XK),
    Room k A → A.guards = some [] → Env0 P w K mg base A outer s H → BindsTo s fd args (ps.zip us) → Vals vs us → sp vs H Q E →
    codeAny (model P w) A (.call (.ref f) args) (CR (L2.CX P w) outer P w H s Q E) s
theorem guards_deeper {A : Around} {env : Env} (h : A.guards = some []) : (A.deeper env).guards = some [] := by
  first
    | exact h
    | (simp [Around.deeper, h])
    | (show (pushGuards _ _) = _; simp [pushGuards_eq, h])
section
variable {P : Program} {w : World} {K : PySem.W.Frag} {mg : Str → Option Value} {base : Heap}
theorem FnG.okC {x qual : Str} {st : Stmt} {f : Addr} {fd : FuncData} {N ps : List Str} {k : Nat} {sp : Sp} (F : Fun K x qual st f fd) (S : FnScope N ps (defScope st)) (len : ∀ vs H Q E, sp vs H Q E → vs.length = ps.length)
    (body : ∀ (cdv : Value) (A : Around) (outer : List Env) (s : Shared) (H : Hp) (vs : List V) (Q : VK) (E : XK), fd.code = cdv → Room k (A.deeper (envOfC qual (defScope st) s.heap.objs.size f cdv)) → (A.deeper (envOfC qual (defScope st) s.heap.objs.size f cdv)).guards = some [] → sp vs H Q E →
      ∃ t, PSs (cxOf (L2.CX P w) P w K mg base N qual (defScope st) f cdv A outer s H E) (defBody st) t ∧ t { nx := fun _ H' => Q .non H', rt := Q } (L2.start N vs) H) : FnG P w K mg base (k + 1) f fd ps sp := by
  obtain ⟨oc, od, kV, doc, pm, an, cdv, ct, osl, rfl, lk, hcd⟩ := F.ex
  refine ⟨len, fun A outer s H args us vs Q E hr hgd e0 hb r hsp => ?_⟩
  have old := fun b o e => (e0.bs b o e).1
  have inK : K.In s.heap := e0.mod.kin.keeps old
  have noLim : s.heap.NoLimit := e0.mod.nolimit.keeps old
  have kinds : ∀ y ∈ ps.zip us, (defScope st).names.lookup y.1 = some .local ∨ ((defScope st).names.lookup y.1 = some .cell ∧ ((cellsFrom (s.heap.objs.size + 1) (defScope st).names []).lookup y.1).isSome = true) := by
    rintro ⟨n, v⟩ hy
    rcases S.par n (List.of_mem_zip hy).1 with q | q
    · exact .inl q
    · exact .inr ⟨q, PySem.W.cellsFrom_some _ _ _ (.inl q)⟩
  refine codeAny_call_function hr.depth (inK _ _ lk) rfl S.co S.gen rfl (PySem.W.codeRec_of inK hcd) (hb _ _ _ _ ?_)
  refine wpAny_newFunctionEnv_cells S.kind kinds fun env he s1 x => ?_
  subst he
  refine ⟨noLim.keeps x.toInCall.keep, codeAny_func ?_⟩
  obtain ⟨t, ht, hq⟩ := body cdv A outer s H vs Q E rfl (hr.deeper _) (guards_deeper hgd) hsp
  have I : Inv (cxOf (L2.CX P w) P w K mg base N qual (defScope st) f cdv A outer s H E) [] (L2.start N vs) H s1 := inv_start S hr.hd e0 (len _ _ _ _ hsp) r x
  refine wpAny_mono (ht.run [] s1 (L2.start N vs) H _ I hq) (fun fl s' hs => ?_) (fun e s' hs => hs)
  cases fl with
  | ret u =>
    obtain ⟨v, σ', H', J, rv, q⟩ := hs
    exact ⟨v, H', J.os, J.bare, J.base, J.hok, rv, q⟩
  | next =>
    obtain ⟨σ', H', J, q⟩ := hs
    exact ⟨V.non, H', J.os, J.bare, J.base, J.hok, rfl, q⟩
  | brk =>
    obtain ⟨_, _, _, q⟩ := hs
    exact q.elim
  | cont =>
    obtain ⟨_, _, _, q⟩ := hs
    exact q.elim
theorem FnG.ok {x qual : Str} {st : Stmt} {f : Addr} {fd : FuncData} {N ps : List Str} {k : Nat} {sp : Sp} (F : Fun K x qual st f fd) (S : FnScope N ps (defScope st)) (len : ∀ vs H Q E, sp vs H Q E → vs.length = ps.length)
    (body : ∀ (cdv : Value) (A : Around) (outer : List Env) (s : Shared) (H : Hp) (vs : List V) (Q : VK) (E : XK), Room k (A.deeper (envOfC qual (defScope st) s.heap.objs.size f cdv)) → (A.deeper (envOfC qual (defScope st) s.heap.objs.size f cdv)).guards = some [] → sp vs H Q E →
      ∃ t, PSs (cxOf (L2.CX P w) P w K mg base N qual (defScope st) f cdv A outer s H E) (defBody st) t ∧ t { nx := fun _ H' => Q .non H', rt := Q } (L2.start N vs) H) : FnG P w K mg base (k + 1) f fd ps sp := FnG.okC F S len fun cdv A outer s H vs Q E _ => body cdv A outer s H vs Q E
end
section
variable {X : Cx} {pins : List (Addr × Obj)} {σ : L2.St} {H : Hp} {s : Shared} {k : Nat} {f : Addr} {fd : FuncData} {ps : List Str} {sp : Sp} {E : XK} {Q : VK}
theorem run_fnG {us : List Value} {vs : List V} (F : FnG X.prog X.w X.K X.mg X.base k f fd ps sp) (hr : Room k X.A) (hg : X.A.guards = some []) (hb : Binds X.K fd ps []) (hx : PassesAt (L2.CX X.prog X.w) X σ E)
    (I : Inv X pins σ H s) (r : Vals vs us) (h : sp vs H Q E) : wpAny (model X.prog X.w) X.A (call (.ref f) us) (EP X pins σ Q) X.xe s := by
  have many : (us ++ []).length = ps.length := by
    rw [List.append_nil, ← r.length]
    exact F.len _ _ _ _ h
  have bd := hb s us I.kIn many
  rw [List.append_nil] at bd
  refine wpAny_call (codeAny_mono (F.run X.A X.stack s H ⟨us, []⟩ us vs Q E hr hg I.env0 bd r h) ?_)
  intro res s' hq
  match res, hq with
  | .error e, hq => exact hx pins H s e s' I hq
  | .ok (.ret u), hq => exact I.after hq
  | .ok .next, hq => exact False.elim hq
  | .ok .brk, hq => exact False.elim hq
  | .ok .cont, hq => exact False.elim hq
end

/-! ### a def by its denotation -/
abbrev DFun := List D → S → Res D
def spD (K : PySem.W.Frag) (mg : Str → Option Value) (F : DFun) (fr : Bool) (n : Nat) : Sp := fun vs H Q E =>
  vs.length = n ∧ ∃ (W : Hw) (s : S) (ds : List D), W.H = H ∧ Base K mg W s ∧ RepAll K mg W.G W.τ vs ds ∧ Post K mg (relR K mg fr W) E (F ds s) W Q
/-- the def x of n parameters does what F says; fr: it hands out a new list -/
structure DFn (P : Program) (w : World) (K : PySem.W.Frag) (mg : Str → Option Value) (base : Heap) (k : Nat) (x : Str) (n : Nat) (F : DFun) (fr : Bool) : Prop where
  ex : ∃ f fd ps, mg x = some (.ref f) ∧ PySem.W.keepIn K (.ref f) = true ∧ Binds K fd ps [] ∧ FnG P w K mg base k f fd ps (spD K mg F fr n)
  ar : ∀ ds s, ds.length ≠ n → F ds s = .bad
/-- a body's denotation as a def's -/
def defD (N n : Nat) (g : DS) : DFun := fun ds s => if ds.length = n then (match g (ds.map .dat ++ List.replicate (N - n) .emp) s with
  | .ret d s1 => .ok d s1
  | .next _ s1 => .ok .non s1
  | .exc c s1 => .exc c s1
  | _ => .bad) else .bad
theorem start_ok {K : PySem.W.Frag} {mg : Str → Option Value} {W : Hw} {s : S} {N : List Str} {n : Nat} {vs : List V} {ds : List D} (B : Base K mg W s) (r : RepAll K mg W.G W.τ vs ds) (hl : ds.length = n) (hn : n ≤ N.length) :
    SSt K mg W W s (L2.start N vs) (ds.map .dat ++ List.replicate (N.length - n) .emp) := by
  have l1 := r.length
  refine ⟨Ext.refl W, B, by simp [L2.start, l1, hl], fun i x y e1 e2 => ?_, fun i j a y z ne e1 e2 e3 e4 o1 o2 => ?_⟩
  · unfold L2.start at e1
    by_cases hi : i < ds.length
    · rw [List.getElem?_append_left (by simpa using hi)] at e2
      rw [List.getElem?_append_left (by simp; omega)] at e1
      rw [List.getElem?_map] at e1 e2
      cases hd : ds[i]? with
      | none => rw [hd] at e2; cases e2
      | some d =>
        obtain ⟨v, hv, rv⟩ := r.getD hd
        rw [hd] at e2
        rw [hv] at e1
        cases e1; cases e2
        exact .dat rv
    · rw [List.getElem?_append_right (by simp; omega)] at e2
      rw [List.getElem?_replicate] at e2
      split at e2
      · cases e2; exact .emp
      · cases e2
  · have : y.isOwn = false := by
      by_cases hi : i < ds.length
      · rw [List.getElem?_append_left (by simpa using hi), List.getElem?_map] at e3
        cases hd : ds[i]? with
        | none => rw [hd] at e3; cases e3
        | some d => rw [hd] at e3; cases e3; rfl
      · rw [List.getElem?_append_right (by simp; omega), List.getElem?_replicate] at e3
        split at e3
        · cases e3; rfl
        · cases e3
    rw [this] at o1
    exact Bool.noConfusion o1
section
variable {P : Program} {w : World} {K : PySem.W.Frag} {mg : Str → Option Value} {base : Heap}
/-- THE RULE for a def, its code told -/
theorem fnG_mkC {x' qual : Str} {st : Stmt} {f : Addr} {fd : FuncData} {N ps : List Str} {k n : Nat} {g : DS} {fr : Bool} (F : Fun K x' qual st f fd) (S : FnScope N ps (defScope st)) (hn : ps.length = n)
    (body : ∀ (X : Cx) (E : XK), X.K = K → X.mg = mg → (∃ (cdv : Value) (A : Around) (outer : List Env) (s : Shared) (H : Hp), X = cxOf (L2.CX P w) P w K mg base N qual (defScope st) f cdv A outer s H E) → X.env.code = fd.code → Room k X.A → X.A.guards = some [] →
      QSs X (fun u d _ H' => E u d H') fr (defBody st) g) (hng : fr = true → ∀ ρ s ρ' s', g ρ s ≠ .next ρ' s') :
    FnG P w K mg base (k + 1) f fd ps (spD K mg (defD N.length n g) fr n) := by
  refine FnG.okC F S (fun vs H Q E h => h.1.trans hn.symm) fun cdv A outer s H vs Q E hc hr hgd h => ⟨_, body _ E rfl rfl ⟨cdv, A, outer, s, H, rfl⟩ hc.symm hr hgd, ?_⟩
  obtain ⟨hl, W, s0, ds, rfl, B, r, p⟩ := h
  have hnN : n ≤ N.length := by
    have := congrArg List.length S.pre
    rw [List.length_take] at this
    omega
  have hd : ds.length = n := r.length.symm.trans hl
  refine ⟨W, W, s0, _, rfl, start_ok B r hd hnN, ?_⟩
  unfold defD at p
  rw [if_pos hd] at p
  cases hg : g (ds.map .dat ++ List.replicate (N.length - n) .emp) s0 with
  | ret d s1 => rw [hg] at p; exact fun v W1 e B1 rv => p v W1 e B1 rv
  | next ρ1 s1 =>
    rw [hg] at p
    intro σ1 W1 st1
    cases fr with
    | false => exact p .non W1 st1.ext st1.base .non
    | true => exact absurd hg (hng rfl _ _ _ _)
  | exc c s1 => rw [hg] at p; exact fun σ1 W1 u e B1 hu => p W1 u e B1 hu
  | brk ρ1 s1 => rw [hg] at p; exact p.elim
  | cont ρ1 s1 => rw [hg] at p; exact p.elim
  | bad => rw [hg] at p; exact p.elim
/-- THE RULE for a def -/
theorem fnG_mk {x' qual : Str} {st : Stmt} {f : Addr} {fd : FuncData} {N ps : List Str} {k n : Nat} {g : DS} {fr : Bool} (F : Fun K x' qual st f fd) (S : FnScope N ps (defScope st)) (hn : ps.length = n)
    (body : ∀ (X : Cx) (E : XK), X.K = K → X.mg = mg → (∃ (cdv : Value) (A : Around) (outer : List Env) (s : Shared) (H : Hp), X = cxOf (L2.CX P w) P w K mg base N qual (defScope st) f cdv A outer s H E) → Room k X.A → X.A.guards = some [] →
      QSs X (fun u d _ H' => E u d H') fr (defBody st) g) (hng : fr = true → ∀ ρ s ρ' s', g ρ s ≠ .next ρ' s') :
    FnG P w K mg base (k + 1) f fd ps (spD K mg (defD N.length n g) fr n) := fnG_mkC F S hn (fun X E h1 h2 h3 _ => body X E h1 h2 h3) hng
theorem DFn.mk' {x x' qual : Str} {st : Stmt} {f : Addr} {fd : FuncData} {N ps : List Str} {k n : Nat} {g : DS} {fr : Bool} (F : Fun K x' qual st f fd) (S : FnScope N ps (defScope st)) (gx : mg x = some (.ref f)) (hb : Binds K fd ps []) (hn : ps.length = n)
    (body : ∀ (X : Cx) (E : XK), X.K = K → X.mg = mg → (∃ (cdv : Value) (A : Around) (outer : List Env) (s : Shared) (H : Hp), X = cxOf (L2.CX P w) P w K mg base N qual (defScope st) f cdv A outer s H E) → Room k X.A → X.A.guards = some [] →
      QSs X (fun u d _ H' => E u d H') fr (defBody st) g) (hng : fr = true → ∀ ρ s ρ' s', g ρ s ≠ .next ρ' s') :
    DFn P w K mg base (k + 1) x n (defD N.length n g) fr := ⟨⟨f, fd, ps, gx, F.kp, hb, fnG_mk F S hn body hng⟩, fun ds s h => if_neg h⟩
theorem DFn.mkC {x x' qual : Str} {st : Stmt} {f : Addr} {fd : FuncData} {N ps : List Str} {k n : Nat} {g : DS} {fr : Bool} (F : Fun K x' qual st f fd) (S : FnScope N ps (defScope st)) (gx : mg x = some (.ref f)) (hb : Binds K fd ps []) (hn : ps.length = n)
    (body : ∀ (X : Cx) (E : XK), X.K = K → X.mg = mg → (∃ (cdv : Value) (A : Around) (outer : List Env) (s : Shared) (H : Hp), X = cxOf (L2.CX P w) P w K mg base N qual (defScope st) f cdv A outer s H E) → X.env.code = fd.code → Room k X.A → X.A.guards = some [] →
      QSs X (fun u d _ H' => E u d H') fr (defBody st) g) (hng : fr = true → ∀ ρ s ρ' s', g ρ s ≠ .next ρ' s') :
    DFn P w K mg base (k + 1) x n (defD N.length n g) fr := ⟨⟨f, fd, ps, gx, F.kp, hb, fnG_mkC F S hn body hng⟩, fun ds s h => if_neg h⟩
theorem DFn.mono {k k' n : Nat} {x : Str} {F : DFun} {fr : Bool} (h : DFn P w K mg base k x n F fr) (hk : k ≤ k') : DFn P w K mg base k' x n F fr := by
  obtain ⟨⟨f, fd, ps, h1, h2, h3, h4⟩, ar⟩ := h
  exact ⟨⟨f, fd, ps, h1, h2, h3, h4.len, fun A outer s H args us vs Q E hr => h4.run A outer s H args us vs Q E (hr.mono hk)⟩, ar⟩
end
def eCall (F : DFun) (fs : DA) : DE := fun ρ s => (fs ρ s).bind F
section
variable {X : Cx} {E : WX} {k n : Nat} {x : Str} {F : DFun} {e : Expr} {es : List Expr} {fs : DA} {p pos : Pos} {fr : Bool}
theorem call_any {rel : Hw → Hw → V → D → Prop} (D' : DFn X.prog X.w X.K X.mg X.base k x n F fr) (hr : Room k X.A) (hgd : X.A.guards = some []) (tk : Takes X E) (ha : PA X (e :: es) (tA X.K X.mg E fs))
    (hrel : ∀ (W W1 W2 : Hw) (s1 : S) (v : V) (d : D), Ext W W1 → Base X.K X.mg W1 s1 → relR X.K X.mg fr W1 W2 v d → rel W W2 v d)
    (hg : Gl X x) (hdb : (x == ("__debug__" : Str)) = false) (he : starEach (e :: es) X.env = (false, eval e X.env) :: starEach es X.env) (hpl : (backTo pos (starEach es X.env)).any (·.1) = false) :
    PE X (.Call (.Name x p) (e :: es) [] pos) (tX X.K X.mg rel E (eCall F fs)) := by
  obtain ⟨⟨f, fd, ps, gx, kp, hb, FG⟩, ar⟩ := D'
  refine ⟨fun pins s σ H Q I h => ?_⟩
  obtain ⟨W0, W, s0, ρ, rfl, st, z⟩ := h
  refine wpAny_Call_Name_kw (ld_glob I hg gx ?_ hdb)
  refine PySem.W.callWith_K (h₀ := X.base) I.ok.mod.kin kp (thn (ha.run pos pins s σ W.H _ I (go st z)) ?_) he hpl
  rintro us s2 ⟨vs, H1, I1, r, W1, s1, ds, e1, r1, x1, st1, z1⟩
  subst e1
  refine ⟨I1.kIn, run_fnG FG hr hgd hb (passAt tk σ) I1 r ?_⟩
  have hl : vs.length = n := by
    rw [r1.length]
    by_cases hd : ds.length = n
    · exact hd
    · rw [ar ds s1 hd] at z1; exact z1.elim
  refine ⟨hl, W1, s1, ds, rfl, st1.base, r1, ?_⟩
  cases hF : F ds s1 with
  | ok d s3 => rw [hF] at z1; exact fun v W2 e2 B2 q => z1 v W2 e2 B2 (hrel _ _ _ _ v d x1 st1.base q)
  | exc c s3 => rw [hF] at z1; exact z1
  | bad => rw [hF] at z1; exact z1.elim
theorem e_call (D' : DFn X.prog X.w X.K X.mg X.base k x n F false) (hr : Room k X.A) (hgd : X.A.guards = some []) (tk : Takes X E) (ha : PA X (e :: es) (tA X.K X.mg E fs))
    (hg : Gl X x := by rfl) (hdb : (x == ("__debug__" : Str)) = false := by decide) (he : starEach (e :: es) X.env = (false, eval e X.env) :: starEach es X.env := by rfl) (hpl : (backTo pos (starEach es X.env)).any (·.1) = false := by rfl) :
    PE X (.Call (.Name x p) (e :: es) [] pos) (tE X.K X.mg E (eCall F fs)) := call_any D' hr hgd tk ha (fun _ _ _ _ _ _ _ _ h => h) hg hdb he hpl
theorem f_call (D' : DFn X.prog X.w X.K X.mg X.base k x n F true) (hr : Room k X.A) (hgd : X.A.guards = some []) (tk : Takes X E) (ha : PA X (e :: es) (tA X.K X.mg E fs))
    (hg : Gl X x := by rfl) (hdb : (x == ("__debug__" : Str)) = false := by decide) (he : starEach (e :: es) X.env = (false, eval e X.env) :: starEach es X.env := by rfl) (hpl : (backTo pos (starEach es X.env)).any (·.1) = false := by rfl) :
    PE X (.Call (.Name x p) (e :: es) [] pos) (tF X.K X.mg E (eCall F fs)) := call_any D' hr hgd tk ha (fun _ _ _ _ _ _ e B h => h.mono e B) hg hdb he hpl
end

/-! ### the law -/
section
variable {P : Program} {w : World} {K : PySem.W.Frag} {mg mb : Str → Option Value}
theorem law_callG {k : Nat} {fa a : Addr} {fd : FuncData} {x : Str} {sp : Sp} {t₁ : Shared} {vs : List Value} {ns : List Int}
    (KX : K.In t₁.heap) (hns : t₁.heap.Ns mainGlobals mg) (hb : t₁.heap.Ns builtinsNs mb) (hbb : ∀ x : Str, x ≠ "__name__" → mb x = bootBuiltins x) (hlim : t₁.heap.NoLimit) (hg : t₁.gens = #[])
    (ha : t₁.heap.get? a = some { cls := .type "list", data := .seq vs.toArray }) (hi : IntsAre vs ns) (hl : ns.length ≤ sizeLine) (hr : Room k callerA)
    (F : ∀ base : Heap, K.In base → base.Ns mainGlobals mg → FnG P w K mg base k fa fd [x] sp) (hbind : ∀ (s : Shared) (u : Value), BindsTo s fd ⟨[u], []⟩ [(x, u)])
    (hsp : ∀ H : Hp, Only H → SqL K H a (ns.map V.int) → sp [.ref a] H (fun v _ => v = .bl true) fun _ _ _ => False) :
    codeAny (model P w) callerA (.call (.ref fa) ⟨[.ref a], []⟩) (fun r s' => r = .ok (.ret (.bool true)) ∧ OldK t₁.heap s'.heap ∧ s'.os = t₁.os ∧ AllBare s'.gens) t₁ := by
  have rv := vals_ints hi
  have lenV := hi.length
  have core : ∀ H : Hp, Only H → SqL K H a (ns.map V.int) → HOk P w H t₁.heap → (∀ b, H b ≠ none → b = a) → (H a ≠ none → K.lookup a = none) →
      codeAny (model P w) callerA (.call (.ref fa) ⟨[.ref a], []⟩) (fun r s' => r = .ok (.ret (.bool true)) ∧ OldK t₁.heap s'.heap ∧ s'.os = t₁.os ∧ AllBare s'.gens) t₁ := by
    intro H hO hS hok only notK
    have atA : ∀ {b : Addr}, H b ≠ none → t₁.heap.get? b = some { cls := .type "list", data := .seq vs.toArray } := fun {b} n => by rw [only b n]; exact ha
    have free : ∀ {b : Addr} {o : Obj} {es : Array DictEntry} {ep : Nat}, t₁.heap.get? b = some o → o.data = .dict es ep → H b = none := by
      intro b o es ep e d
      by_cases q : H b = none
      · exact q
      · rw [atA q] at e
        cases e
        exact absurd d (fun z => nomatch z)
    have nsK : ∀ {b : Addr} {m : Str → Option Value}, t₁.heap.Ns b m → (hidT t₁.heap H).Ns b m := by
      rintro b m ⟨o, es, ep, e, d, r⟩
      exact ⟨o, es, ep, hidT_get e (free e d), d, r⟩
    have hKb : K.In (hidT t₁.heap H) := by
      intro b o e
      refine hidT_get (KX b o e) ?_
      by_cases q : H b = none
      · exact q
      · have hba := only b q
        subst hba
        rw [notK q] at e
        cases e
    have hM : Mod K mg (hidT t₁.heap H) := by
      refine ⟨hKb, nsK hns, ⟨mb, nsK hb, hbb⟩, ?_⟩
      obtain ⟨mc, h1, h2⟩ := hlim
      exact ⟨mc, nsK h1, h2⟩
    have e0 : Env0 P w K mg (hidT t₁.heap H) callerA [] t₁ H := by
      refine ⟨rfl, hM, fun b o e => of_hidT e, Nat.le_of_eq (hidT_size _ _), trivial, fun b hb => ?_, hok, .of_eq hg⟩
      exact absurd (show b ∈ ([] : List Addr) from hb) (by simp)
    refine codeAny_mono ((F _ hKb (nsK hns)).run callerA [] t₁ H ⟨[.ref a], []⟩ [.ref a] [.ref a] _ _ hr rfl e0 (hbind t₁ (.ref a)) (.cons rfl .nil) (hsp H hO hS)) ?_
    intro r s' h
    match r, h with
    | .error e, h =>
      obtain ⟨_, _, _, _, _, _, _, _, _, _, _, _, z⟩ := h
      exact z.elim
    | .ok .next, h => exact False.elim h
    | .ok .brk, h => exact False.elim h
    | .ok .cont, h => exact False.elim h
    | .ok (.ret u), h =>
      obtain ⟨v, H', os, bare, un, hok', r', q⟩ := h
      have hv : v = .bl true := q
      subst hv
      have hu : u = Value.bool true := r'
      subst hu
      refine ⟨rfl, OldK.of_keep ?_, os, bare⟩
      intro b o e
      by_cases q : H b = none
      · exact un.keep b o e q (by intro z; exact absurd (show b ∈ ([] : List Addr) from z) (by simp)) (by simp)
      · rcases hO b with z | ⟨ob, xs, z⟩
        · exact absurd z q
        · have z2 := un.frzs b ob _ z
          obtain ⟨e1, _⟩ := hok b _ z
          obtain ⟨e2, _⟩ := hok' b _ z2
          rw [e] at e1
          cases e1
          exact e2
  cases hk : K.lookup a with
  | some o =>
    have e := KX a o hk
    rw [ha] at e
    cases e
    refine core (fun _ => none) (fun _ => .inl rfl) (.inr ⟨_, vs.toArray, _, hk, rfl, rfl, rfl, ?_, by simpa using rv⟩) (fun b u z => nomatch (show (none : Option HO) = some u from z)) (fun b z => absurd rfl z) (fun z => absurd rfl z)
    rw [List.size_toArray, lenV]
    exact hl
  | none =>
    refine core (fun b => if b = a then some (.frz { cls := .type "list", data := .seq vs.toArray } (.lst (ns.map V.int))) else none) (fun b => ?_) (.inl (.inr ⟨_, if_pos rfl⟩)) (fun b u z => ?_) (fun b z => ?_) (fun _ => hk)
    · by_cases hb : b = a
      · exact .inr ⟨_, _, if_pos hb⟩
      · exact .inl (if_neg hb)
    · by_cases hb : b = a
      · have z' := (if_pos hb).symm.trans z
        cases z'
        subst hb
        refine ⟨ha, ?_, vs, _, rv, ha⟩
        rw [List.length_map]
        exact hl
      · have z' := (if_neg hb).symm.trans z
        cases z'
    · by_cases hb : b = a
      · exact hb
      · exact absurd (if_neg hb) z
end
/-- the law's own claim in plain words -/
def LawOk (F : DFun) : Prop := ∀ ns : List Int, ns.length ≤ 63 → ∃ s, F [.frz (ns.map .int)] [] = .ok (.bl true) s
theorem ints_rep {K : PySem.W.Frag} {mg : Str → Option Value} {G : Hp} {τ : List Addr} : ∀ ns : List Int, RepAll K mg G τ (ns.map V.int) (ns.map D.int)
  | [] => .nil
  | n :: ns => .cons (.int n) (ints_rep ns)
end LTS
/-- no tables -/
instance lawT0 : LawT := ⟨[]⟩
theorem sp_law {K : PySem.W.Frag} {mg : Str → Option Value} {F : DFun} (h : LawOk F) {H : Hp} {a : Addr} {ns : List Int} (hl : ns.length ≤ 63) (hO : Only H) (hS : SqL K H a (ns.map V.int)) :
    spD K mg F false 1 [.ref a] H (fun v _ => v = .bl true) fun _ _ _ => False := by
  obtain ⟨s, e⟩ := h ns hl
  have nt : ∀ b ps, H b ≠ some (.tbl ps) := fun b ps z => by rcases hO b with q | ⟨o, xs, q⟩ <;> rw [z] at q <;> cases q
  refine ⟨rfl, ⟨H, H, []⟩, [], [.frz (ns.map .int)], rfl, ⟨fun _ _ e => e, fun _ _ e => e, fun _ m => absurd m (by simp), List.nodup_nil, rfl, fun n c a e => absurd e (by simp), fun c m => absurd m (by simp), (fun p hp => nomatch hp), nt, fun b ps z => absurd z (nt b ps)⟩, .cons (.frz hS (ints_rep ns)) .nil, ?_⟩
  rw [e]
  exact fun v W1 e B r => Rep.bl_inv r
/-- the end: the law's def by its denotation -/
theorem walk_ofG {l : PySem.W.OpenLaw} {k : Nat} {q : Program} {loose : List Str} {XP : (Str → Option Value) → Heap → Prop} {YP : World → Heap → Prop} {d : DefRec} {K : Params → PySem.W.Frag} {x : Str} {F : DFun}
    (hn : l.most = some 63) (hdf : d.params.defaults = []) (hr : Room k callerA)
    (hY : ∀ (w : World) (h : Heap), YP w h → (K w.params).In h) (hF : LawOk F)
    (hD : ∀ (w : World) (mg : Str → Option Value) (fa : Addr) (h : Heap), (K w.params).In h → h.Ns mainGlobals mg → mg d.name = some (.ref fa) →
      ∃ fd : FuncData, (∀ (s : Shared) (u : Value), BindsTo s fd ⟨[u], []⟩ [(x, u)]) ∧ ∀ base : Heap, (K w.params).In base → base.Ns mainGlobals mg → FnG l.prog w (K w.params) mg base k fa fd [x] (spD (K w.params) mg F false 1)) :
    PySem.W.WalkO q loose XP YP l.row.toRowW d [] (fun f vs => PySem.call f vs) := by
  refine Att.attach_call hn hdf ?_
  intro w s₀ s₁ mg mb fa o pm cd doc a vs ns G Y ho hd hcd hmg hobj hints hlen hg
  have KX := hY w _ Y
  obtain ⟨fd, hb, hF'⟩ := hD w mg fa _ KX G.T.g hmg
  have h63 : ns.length ≤ sizeLine := by
    rw [sizeLine_eq]
    omega
  exact law_callG KX G.T.g G.T.b G.T.builtins G.T.nolimit hg hobj hints h63 hr hF' hb (fun H hO hS => sp_law hF hlen hO hS)
end DL
namespace DL
open PySem PySem.Spec PyProof.Rows L2
variable [LT : LawT]

/-! ### built-ins, by value -/
def intsOf : List D → Option (List Int)
  | [] => some []
  | .int i :: r => (intsOf r).map (i :: ·)
  | _ => none
def blsOf : List D → Option (List Bool)
  | [] => some []
  | .bl i :: r => (blsOf r).map (i :: ·)
  | _ => none
section
variable {K : PySem.W.Frag} {mg : Str → Option Value} {G : Hp} {τ : List Addr}
theorem ints_inv : ∀ {ds : List D} {vs : List V} {ns : List Int}, intsOf ds = some ns → RepAll K mg G τ vs ds → vs = ns.map V.int
  | [], _, _, h, r => by
    cases h
    rw [r.nil_inv]
    rfl
  | d :: ds, _, _, h, r => by
    obtain ⟨v, us, rfl, rv, ru⟩ := r.cons_inv
    cases d with
    | int i =>
      simp only [intsOf, Option.map_eq_some_iff] at h
      obtain ⟨ns, h, rfl⟩ := h
      rw [ints_inv h ru, rv.int_inv]
      rfl
    | _ => cases h
theorem bls_inv : ∀ {ds : List D} {vs : List V} {ns : List Bool}, blsOf ds = some ns → RepAll K mg G τ vs ds → vs = ns.map V.bl
  | [], _, _, h, r => by
    cases h
    rw [r.nil_inv]
    rfl
  | d :: ds, _, _, h, r => by
    obtain ⟨v, us, rfl, rv, ru⟩ := r.cons_inv
    cases d with
    | bl i =>
      simp only [blsOf, Option.map_eq_some_iff] at h
      obtain ⟨ns, h, rfl⟩ := h
      rw [bls_inv h ru, rv.bl_inv]
      rfl
    | _ => cases h
theorem Rep.seqL {v : V} {ds : List D} {H : Hp} (hs : Same G H) {d : D} (h : Rep K mg G τ v d) (e : d = .lst ds ∨ d = .frz ds) : ∃ a xs, v = .ref a ∧ SqL K H a xs ∧ RepAll K mg G τ xs ds := by
  rcases e with rfl | rfl
  · obtain ⟨a, xs, rfl, h1, r⟩ := h.lst_inv
    exact ⟨a, xs, rfl, .of (hs _ _ h1), r⟩
  · obtain ⟨a, xs, rfl, h1, r⟩ := h.frz_inv
    exact ⟨a, xs, rfl, hs.seq h1, r⟩
theorem Rep.dct_inv {v : V} {kvs : List (D × D)} (h : Rep K mg G τ v (.dct kvs)) : (∃ a ks us, v = .ref a ∧ G a = some (.dK ks) ∧ RepAll K mg G τ (ks.map (·.2)) us ∧ kvs = (ks.map fun p => kD p.1).zip us) ∨
    ∃ a ks us, v = .ref a ∧ G a = some (.dT ks) ∧ RepAll K mg G τ (ks.map (·.2)) us ∧ kvs = (ks.map fun p => kT p.1).zip us := by
  cases h with
  | dK h r => exact .inl ⟨_, _, _, rfl, h, r, rfl⟩
  | dT h r => exact .inr ⟨_, _, _, rfl, h, r, rfl⟩
end
def dLen : FN := fun ds => match ds with
  | [.str x] => if x.length ≤ 16777216 then some (.int x.length) else none
  | [.tup xs] => some (.int xs.length)
  | [.lst xs] => some (.int xs.length)
  | [.frz xs] => some (.int xs.length)
  | [.ktp xs] => some (.int xs.length)
  | [.dct kvs] => some (.int kvs.length)
  | _ => none
def dAbs : FN := fun ds => match ds with
  | [.int i] => some (.int (if i < 0 then -i else i))
  | _ => none
def dSum : FN := fun ds => match ds with
  | [.lst xs] => (intsOf xs).map fun ns => .int ns.sum
  | _ => none
def dAny : FN := fun ds => match ds with
  | [.lst xs] => (blsOf xs).map fun ns => .bl (ns.any id)
  | _ => none
def dAll : FN := fun ds => match ds with
  | [.lst xs] => (blsOf xs).map fun ns => .bl (ns.all id)
  | _ => none
def maxI : Int → List Int → Int
  | a, [] => a
  | a, b :: r => maxI (if a < b then b else a) r
def minI : Int → List Int → Int
  | a, [] => a
  | a, b :: r => minI (if b < a then b else a) r
theorem maxI_spec : ∀ (l : List Int) (a : Int), maxI a l ∈ a :: l ∧ ∀ y ∈ a :: l, y ≤ maxI a l
  | [], a => ⟨List.mem_cons_self, fun y hy => by
    rcases List.mem_cons.mp hy with e | h
    · subst e; exact Int.le_refl _
    · simp at h⟩
  | b :: r, a => by
    obtain ⟨h1, h2⟩ := maxI_spec r (if a < b then b else a)
    unfold maxI
    refine ⟨?_, fun y hy => ?_⟩
    · rcases List.mem_cons.mp h1 with e | h
      · rw [e]
        split
        · exact List.mem_cons_of_mem _ List.mem_cons_self
        · exact List.mem_cons_self
      · exact List.mem_cons_of_mem _ (List.mem_cons_of_mem _ h)
    · have h3 := h2 _ List.mem_cons_self
      rcases List.mem_cons.mp hy with e | h
      · subst e
        refine Int.le_trans ?_ h3
        split <;> omega
      · rcases List.mem_cons.mp h with e | h
        · subst e
          refine Int.le_trans ?_ h3
          split <;> omega
        · exact h2 _ (List.mem_cons_of_mem _ h)
theorem minI_spec : ∀ (l : List Int) (a : Int), minI a l ∈ a :: l ∧ ∀ y ∈ a :: l, minI a l ≤ y
  | [], a => ⟨List.mem_cons_self, fun y hy => by
    rcases List.mem_cons.mp hy with e | h
    · subst e; exact Int.le_refl _
    · simp at h⟩
  | b :: r, a => by
    obtain ⟨h1, h2⟩ := minI_spec r (if b < a then b else a)
    unfold minI
    refine ⟨?_, fun y hy => ?_⟩
    · rcases List.mem_cons.mp h1 with e | h
      · rw [e]
        split
        · exact List.mem_cons_of_mem _ List.mem_cons_self
        · exact List.mem_cons_self
      · exact List.mem_cons_of_mem _ (List.mem_cons_of_mem _ h)
    · have h3 := h2 _ List.mem_cons_self
      rcases List.mem_cons.mp hy with e | h
      · subst e
        refine Int.le_trans h3 ?_
        split <;> omega
      · rcases List.mem_cons.mp h with e | h
        · subst e
          refine Int.le_trans h3 ?_
          split <;> omega
        · exact h2 _ (List.mem_cons_of_mem _ h)
def dMax : FN := fun ds => match ds with
  | [.int i, .int j] => some (.int (if j > i then j else i))
  | [.lst xs] => match intsOf xs with
    | some (a :: l) => some (.int (maxI a l))
    | _ => none
  | _ => none
def dMin : FN := fun ds => match ds with
  | [.int i, .int j] => some (.int (if j < i then j else i))
  | [.lst xs] => match intsOf xs with
    | some (a :: l) => some (.int (minI a l))
    | _ => none
  | _ => none
def dInt : FN := fun ds => match ds with
  | [.int i] => some (.int i)
  | [.bl k] => some (.int (if k then 1 else 0))
  | [.str a] => if a.length ≤ 640 then (PySem.intText? a).map .int else none
  | _ => none
def dStr : FN := fun ds => match ds with
  | [.int i] => if i.natAbs.log2 < 1920 then some (.str (toString i)) else none
  | [.str a] => some (.str a)
  | _ => none
def dTupOf : FN := fun ds => match ds with
  | [.lst xs] => some (.tup xs)
  | [.frz xs] => some (.tup xs)
  | [.tup xs] => some (.tup xs)
  | _ => none
def dLstOf : FN := fun ds => match ds with
  | [.lst xs] => some (.lst xs)
  | [.frz xs] => some (.lst xs)
  | [.tup xs] => some (.lst xs)
  | _ => none
section
variable {X : Cx}
def rLenA (K : PySem.W.Frag) : List V → Hp → VK → Prop := fun xs H Q => (∃ x n, xs = [x] ∧ LenV K x H n ∧ Q (.int n) H) ∨ (∃ a kvs, xs = [V.ref a] ∧ H a = some (.dK kvs) ∧ Q (.int kvs.length) H) ∨ rLenT xs H Q
theorem c_len : CallR X (.builtin "len") (rLenA X.K) := call_len.or (call_lenD.or call_len_dT)
def rMaxA (K : PySem.W.Frag) : List V → Hp → VK → Prop := fun xs H Q => (∃ i j, xs = [.int i, .int j] ∧ Q (.int (if j > i then j else i)) H) ∨ rMax K xs H Q
def rMinA (K : PySem.W.Frag) : List V → Hp → VK → Prop := fun xs H Q => (∃ i j, xs = [.int i, .int j] ∧ Q (.int (if j < i then j else i)) H) ∨ rMin K xs H Q
theorem c_max (hc : X.calm = true) : CallR X (.builtin "max") (rMaxA X.K) := (call_max2 hc).or (cr_max hc)
theorem c_min (hc : X.calm = true) : CallR X (.builtin "min") (rMinA X.K) := (call_min2 hc).or (cr_min hc)
def rIntA : List V → Hp → VK → Prop := fun xs H Q => ((∃ i, xs = [.int i] ∧ Q (.int i) H) ∨ ∃ k, xs = [.bl k] ∧ Q (.int (if k then 1 else 0)) H) ∨ ∃ a n, xs = [.str a] ∧ PySem.intText? a = some n ∧ a.length ≤ 640 ∧ Q (.int n) H
theorem c_int : CallR X (.type "int") rIntA := call_int1.or call_int_str
def rStrA : List V → Hp → VK → Prop := fun xs H Q => (∃ i, xs = [.int i] ∧ i.natAbs.log2 < 1920 ∧ Q (.str (toString i)) H) ∨ ∃ a, xs = [.str a] ∧ Q (.str a) H
theorem c_str : CallR X (.type "str") rStrA := call_str_int.or SkE.call_str_str
def rAbs : List V → Hp → VK → Prop := fun xs H Q => ∃ i, xs = [.int i] ∧ Q (.int (if i < 0 then -i else i)) H
theorem c_abs : CallR X (.builtin "abs") rAbs := call_abs
def rTupOf (K : PySem.W.Frag) : List V → Hp → VK → Prop := fun xs H Q => ∃ p ys, xs = [.ref p] ∧ ((SqL K H p ys ∧ ∀ l, H l = none → Q (.ref l) (upd H l (.tup ys))) ∨ (SqT K H p ys ∧ Q (.ref p) H))
theorem c_tup : CallR X (.type "tuple") (rTupOf X.K) := call_tuple_of
def rLstOf (K : PySem.W.Frag) : List V → Hp → VK → Prop := fun xs H Q => ∃ p ys, xs = [.ref p] ∧ (SqL K H p ys ∨ SqT K H p ys) ∧ ∀ l, H l = none → Q (.ref l) (upd H l (.lst ys))
theorem c_lst : CallR X (.type "list") (rLstOf X.K) := call_list_of
variable {K : PySem.W.Frag} {mg : Str → Option Value}
theorem v_len : VC K mg (rLenA K) dLen := fun W s vs ds z Q B r hz q => by
  unfold dLen at hz
  split at hz
  · split at hz
    · cases hz
      obtain ⟨v, rfl, rv⟩ := r.one_inv
      cases rv.str_inv
      exact .inl ⟨_, _, rfl, ⟨line_le (by assumption), rfl⟩, stay B q (.int _)⟩
    · cases hz
  · cases hz
    obtain ⟨v, rfl, rv⟩ := r.one_inv
    obtain ⟨a, xs, rfl, h, rr⟩ := rv.tup_inv
    exact .inl ⟨_, _, rfl, .inr ⟨xs, seqT B.sub h, rfl⟩, stay B q (by rw [rr.length]; exact .int _)⟩
  · cases hz
    obtain ⟨v, rfl, rv⟩ := r.one_inv
    obtain ⟨a, xs, rfl, h, rr⟩ := rv.seqL B.sub (.inl rfl)
    exact .inl ⟨_, _, rfl, .inl ⟨xs, h, rfl⟩, stay B q (by rw [rr.length]; exact .int _)⟩
  · cases hz
    obtain ⟨v, rfl, rv⟩ := r.one_inv
    obtain ⟨a, xs, rfl, h, rr⟩ := rv.seqL B.sub (.inr rfl)
    exact .inl ⟨_, _, rfl, .inl ⟨xs, h, rfl⟩, stay B q (by rw [rr.length]; exact .int _)⟩
  · cases hz
    obtain ⟨v, rfl, rv⟩ := r.one_inv
    obtain ⟨a, xs, rfl, h, rr⟩ := rv.ktp_inv
    exact .inl ⟨_, _, rfl, .inr ⟨xs, seqT B.sub h, rfl⟩, stay B q (by rw [rr.length]; exact .int _)⟩
  · cases hz
    obtain ⟨v, rfl, rv⟩ := r.one_inv
    rcases rv.dct_inv with ⟨a, ks, us, rfl, h, rr, rfl⟩ | ⟨a, ks, us, rfl, h, rr, rfl⟩
    · refine .inr (.inl ⟨a, ks, rfl, B.sub _ _ h, stay B q ?_⟩)
      have := rr.length
      rw [List.length_map] at this
      rw [List.length_zip, List.length_map, ← this, Nat.min_self]
      exact .int _
    · refine .inr (.inr ⟨a, ks, rfl, B.sub _ _ h, stay B q ?_⟩)
      have := rr.length
      rw [List.length_map] at this
      rw [List.length_zip, List.length_map, ← this, Nat.min_self]
      exact .int _
  · cases hz
theorem v_abs : VC K mg rAbs dAbs := fun W s vs ds z Q B r hz q => by
  unfold dAbs at hz
  split at hz
  · cases hz
    obtain ⟨v, rfl, rv⟩ := r.one_inv
    cases rv.int_inv
    exact ⟨_, rfl, stay B q (.int _)⟩
  · cases hz
theorem v_sum : VC K mg (rSum K) dSum := fun W s vs ds z Q B r hz q => by
  unfold dSum at hz
  split at hz
  · obtain ⟨ns, h, rfl⟩ := Option.map_eq_some_iff.mp hz
    obtain ⟨v, rfl, rv⟩ := r.one_inv
    obtain ⟨a, xs, rfl, hl, rr⟩ := rv.seqL B.sub (.inl rfl)
    rw [ints_inv h rr] at hl
    exact ⟨a, ns, rfl, hl, stay B q (.int _)⟩
  · cases hz
theorem v_any : VC K mg (rAny K) dAny := fun W s vs ds z Q B r hz q => by
  unfold dAny at hz
  split at hz
  · obtain ⟨ns, h, rfl⟩ := Option.map_eq_some_iff.mp hz
    obtain ⟨v, rfl, rv⟩ := r.one_inv
    obtain ⟨a, xs, rfl, hl, rr⟩ := rv.seqL B.sub (.inl rfl)
    rw [bls_inv h rr] at hl
    exact ⟨a, ns, rfl, hl, stay B q (.bl _)⟩
  · cases hz
theorem v_all : VC K mg (rAll K) dAll := fun W s vs ds z Q B r hz q => by
  unfold dAll at hz
  split at hz
  · obtain ⟨ns, h, rfl⟩ := Option.map_eq_some_iff.mp hz
    obtain ⟨v, rfl, rv⟩ := r.one_inv
    obtain ⟨a, xs, rfl, hl, rr⟩ := rv.seqL B.sub (.inl rfl)
    rw [bls_inv h rr] at hl
    exact ⟨a, ns, rfl, hl, stay B q (.bl _)⟩
  · cases hz
theorem v_max : VC K mg (rMaxA K) dMax := fun W s vs ds z Q B r hz q => by
  unfold dMax at hz
  split at hz
  · cases hz
    obtain ⟨v, u, rfl, rv, ru⟩ := r.two_inv
    cases rv.int_inv
    cases ru.int_inv
    exact .inl ⟨_, _, rfl, stay B q (.int _)⟩
  · split at hz
    · rename_i a l h
      cases hz
      obtain ⟨v, rfl, rv⟩ := r.one_inv
      obtain ⟨p, xs, rfl, hl, rr⟩ := rv.seqL B.sub (.inl rfl)
      rw [ints_inv h rr] at hl
      refine .inr ⟨p, a :: l, rfl, hl, by simp, fun m hm hy => stay B q ?_⟩
      obtain ⟨h1, h2⟩ := maxI_spec l a
      have : m = maxI a l := Int.le_antisymm (h2 m hm) (hy _ h1)
      rw [this]
      exact .int _
    · cases hz
  · cases hz
theorem v_min : VC K mg (rMinA K) dMin := fun W s vs ds z Q B r hz q => by
  unfold dMin at hz
  split at hz
  · cases hz
    obtain ⟨v, u, rfl, rv, ru⟩ := r.two_inv
    cases rv.int_inv
    cases ru.int_inv
    exact .inl ⟨_, _, rfl, stay B q (.int _)⟩
  · split at hz
    · rename_i a l h
      cases hz
      obtain ⟨v, rfl, rv⟩ := r.one_inv
      obtain ⟨p, xs, rfl, hl, rr⟩ := rv.seqL B.sub (.inl rfl)
      rw [ints_inv h rr] at hl
      refine .inr ⟨p, a :: l, rfl, hl, by simp, fun m hm hy => stay B q ?_⟩
      obtain ⟨h1, h2⟩ := minI_spec l a
      have : m = minI a l := Int.le_antisymm (hy _ h1) (h2 m hm)
      rw [this]
      exact .int _
    · cases hz
  · cases hz
theorem v_int : VC K mg rIntA dInt := fun W s vs ds z Q B r hz q => by
  unfold dInt at hz
  split at hz
  · cases hz
    obtain ⟨v, rfl, rv⟩ := r.one_inv
    cases rv.int_inv
    exact .inl (.inl ⟨_, rfl, stay B q (.int _)⟩)
  · cases hz
    obtain ⟨v, rfl, rv⟩ := r.one_inv
    cases rv.bl_inv
    exact .inl (.inr ⟨_, rfl, stay B q (.int _)⟩)
  · split at hz
    · obtain ⟨n, h, rfl⟩ := Option.map_eq_some_iff.mp hz
      obtain ⟨v, rfl, rv⟩ := r.one_inv
      cases rv.str_inv
      exact .inr ⟨_, _, rfl, h, by assumption, stay B q (.int _)⟩
    · cases hz
  · cases hz
theorem v_str : VC K mg rStrA dStr := fun W s vs ds z Q B r hz q => by
  unfold dStr at hz
  split at hz
  · split at hz
    · cases hz
      obtain ⟨v, rfl, rv⟩ := r.one_inv
      cases rv.int_inv
      exact .inl ⟨_, rfl, by assumption, stay B q (.str _)⟩
    · cases hz
  · cases hz
    obtain ⟨v, rfl, rv⟩ := r.one_inv
    cases rv.str_inv
    exact .inr ⟨_, rfl, stay B q (.str _)⟩
  · cases hz
theorem v_tup : VC K mg (rTupOf K) dTupOf := fun W s vs ds z Q B r hz q => by
  unfold dTupOf at hz
  have key : ∀ {xs : List D} {d : D}, RepAll K mg W.G W.τ vs [d] → (d = .lst xs ∨ d = .frz xs) → z = .tup xs → rTupOf K vs W.H Q := fun r' e hz => by
    obtain ⟨v, rfl, rv⟩ := r'.one_inv
    obtain ⟨p, ys, rfl, hl, rr⟩ := rv.seqL B.sub e
    refine ⟨p, ys, rfl, .inl ⟨hl, fun l hl => ?_⟩⟩
    obtain ⟨B2, x2⟩ := B.newO hl (.tup ys)
    refine q _ _ x2 B2 ?_
    rw [hz]
    exact .tup upd_same (RepAll.ext x2 rr)
  split at hz
  · cases hz; exact key r (.inl rfl) rfl
  · cases hz; exact key r (.inr rfl) rfl
  · cases hz
    obtain ⟨v, rfl, rv⟩ := r.one_inv
    obtain ⟨p, ys, rfl, hl, rr⟩ := rv.tup_inv
    exact ⟨p, ys, rfl, .inr ⟨seqT B.sub hl, stay B q rv⟩⟩
  · cases hz
theorem vF_lst : VCF K mg (rLstOf K) dLstOf := fun W s vs ds z Q B r hz q => by
  unfold dLstOf at hz
  have key : ∀ {xs : List D} {d : D} {p : Addr} {ys : List V}, vs = [.ref p] → (SqL K W.H p ys ∨ SqT K W.H p ys) → RepAll K mg W.G W.τ ys xs → z = .lst xs → rLstOf K vs W.H Q := fun ev hl rr hz => by
    refine ⟨_, _, ev, hl, fun l hl => ?_⟩
    obtain ⟨B2, x2⟩ := B.newL hl (o := .lst _) (fun _ z => nomatch z)
    refine q _ _ x2 B2 ⟨l, _, _, rfl, hz, hl, ?_, ?_, upd_same, RepAll.ext x2 rr⟩
    · exact B.frz_none hl
    · exact fun m => B.tau_some m hl
  split at hz
  · cases hz
    obtain ⟨v, rfl, rv⟩ := r.one_inv
    obtain ⟨p, ys, rfl, hl, rr⟩ := rv.seqL B.sub (.inl rfl)
    exact key (d := .non) rfl (.inl hl) rr rfl
  · cases hz
    obtain ⟨v, rfl, rv⟩ := r.one_inv
    obtain ⟨p, ys, rfl, hl, rr⟩ := rv.seqL B.sub (.inr rfl)
    exact key (d := .non) rfl (.inl hl) rr rfl
  · cases hz
    obtain ⟨v, rfl, rv⟩ := r.one_inv
    obtain ⟨p, ys, rfl, hl, rr⟩ := rv.tup_inv
    exact key (d := .non) rfl (.inr (seqT B.sub hl)) rr rfl
  · cases hz
end

/-! ### types, isinstance -/
def tyD : D → Option String
  | .non => some "NoneType"
  | .bl _ => some "bool"
  | .int _ => some "int"
  | .str _ => some "str"
  | .tup _ => some "tuple"
  | .lst _ => some "list"
  | .frz _ => some "list"
  | .dct _ => some "dict"
  | .ktp _ => some "tuple"
  | _ => none
section
variable {K : PySem.W.Frag} {mg : Str → Option Value} {G H : Hp} {τ : List Addr}
theorem tyx_of (hs : Same G H) {v : V} {d : D} {t : String} (r : Rep K mg G τ v d) (h : tyD d = some t) : TyX K H v (.type t) := by
  have sl : ∀ {a : Addr} {xs : List V}, SqL K G a xs → TyX K H (.ref a) (.type "list") := fun e => by
    rcases hs.seq e with (e | ⟨o, e⟩) | ⟨o, its, n, e, ec, _⟩
    · exact .base (.lst e)
    · exact .base (.frz e)
    · exact .kList e ec
  cases r with
  | non => cases h; exact .base .non
  | bl b => cases h; exact .base (.bl b)
  | int i => cases h; exact .base (.int i)
  | str x => cases h; exact .base (.str x)
  | tup e _ =>
    cases h
    exact .base (.tup (hs _ _ e))
  | lst e _ => cases h; exact .base (.lst (hs _ _ e))
  | frz e _ => cases h; exact sl e
  | dK e _ => cases h; exact .base (.dK (hs _ _ e))
  | dT e _ => cases h; exact .base (.dT (hs _ _ e))
  | tok _ => cases h
  | ty _ => cases h
  | glb _ _ => cases h
  | ktp e _ =>
    cases h
    rcases seqT hs e with (e | ⟨o, e⟩) | ⟨o, its, n, e, ec, _⟩
    · exact .base (.tup e)
    · exact .fTuple e
    · exact .kTuple e ec
  | exc _ _ => cases h
end
/-- isinstance of one built-in type -/
def dIsi : FN := fun ds => match ds with
  | [d, .ty n] => match tyD d with
    | some t => (kitB t n).map .bl
    | none => none
  | _ => none
theorem v_isi {K : PySem.W.Frag} {mg : Str → Option Value} : VC K mg (rIsi K) dIsi := fun W s vs ds z Q B r hz q => by
  unfold dIsi at hz
  split at hz
  · split at hz
    · rename_i d n _ t ht
      obtain ⟨b, hb, rfl⟩ := Option.map_eq_some_iff.mp hz
      obtain ⟨v, u, rfl, rv, ru⟩ := r.two_inv
      cases ru.ty_inv
      exact ⟨v, _, _, _, b, rfl, .ty n, tyx_of B.sub rv ht, kit_ty hb, stay B q (.bl b)⟩
    · cases hz
  · cases hz
section
variable {X : Cx} {E : WX} {pos : Pos}
/-- the name of a built-in type as a value -/
theorem e_ty {x : Str} {T : String} (hm : X.mg x = none) (hv : bootBuiltins x = some (.type T) := by decide +kernel) (hg : Gl X x := by rfl) (hn : x ≠ "__name__" := by decide) (hd : (x == ("__debug__" : Str)) = false := by decide) : PE X (.Name x pos) (tE X.K X.mg E (eC (.ty T))) :=
  e_const (pe_bltn (v := .ty T) hg hm hv rfl hn hd) fun _ _ => .ty T
end
end DL
namespace DL
open PySem PySem.Spec PyProof.Rows L2
variable [LT : LawT]

/-! ### repr -/
mutual
/-- may be shown: no number of L bits and more, no classes -/
def okR (L : Nat) : D → Bool
  | .non => true
  | .bl _ => true
  | .int i => decide (i.natAbs.log2 < L)
  | .str _ => true
  | .tup xs => okRs L xs
  | .lst xs => okRs L xs
  | .frz xs => okRs L xs
  | .dct kvs => okRk L kvs
  | .tok _ => false
  | .ty _ => false
  | .glb _ => false
  | .ktp xs => okRs L xs
  | .exc _ => false
def okRs (L : Nat) : List D → Bool
  | [] => true
  | x :: xs => okR L x && okRs L xs
def okRk (L : Nat) : List (D × D) → Bool
  | [] => true
  | (k, v) :: r => okR L k && okR L v && okRk L r
end
theorem toPyKv_fst : ∀ l : List (D × D), (toPyKv l).map (·.1) = toPys (l.map (·.1))
  | [] => by simp [toPyKv, toPys]
  | (k, v) :: r => by simp [toPyKv, toPys, toPyKv_fst r]
theorem toPyKv_snd : ∀ l : List (D × D), (toPyKv l).map (·.2) = toPys (l.map (·.2))
  | [] => by simp [toPyKv, toPys]
  | (k, v) :: r => by simp [toPyKv, toPys, toPyKv_snd r]
theorem okRk_fst {L : Nat} : ∀ {l : List (D × D)}, okRk L l = true → okRs L (l.map (·.1)) = true ∧ okRs L (l.map (·.2)) = true
  | [], _ => ⟨by simp [okRs], by simp [okRs]⟩
  | (k, v) :: r, h => by
    simp only [okRk, Bool.and_eq_true] at h
    obtain ⟨h1, h2⟩ := okRk_fst h.2
    simp [okRs, h.1.1, h.1.2, h1, h2]
section
variable {prog : Program} {w : World} {h₀ : Heap}
theorem intL_repr {A : Around} {E : Value → Shared → Prop} {s : Shared} {a : Int} {t : Tok} {Q : Value → Shared → Prop} (hn : s.heap.NoDigits) (ha : a.natAbs.log2 < 12900) (h : Q (.str (toString a) s.toks) { s with toks := s.toks + 1 }) :
    wpAny (model prog w) A (call (.builtin "int.__repr__") [.int a t]) Q E s := by
  have lo : a.natAbs < 10 ^ 4300 := Nat.lt_of_lt_of_le (lt_of_log2 ha) pow_lo
  refine wpAny_call_entry F.slot_int_repr (typeIs_int s a t) F.entry_int_repr ?_ (F.args_int_repr_1 _)
  unfold Builtin.«int.__repr__»
  show wpAny _ _ (do let r ← Builtin.overDigitLimit? a; _) _ _ s
  refine wpAny_bind (overDigitLimit_any hn (fun hlt => ?_) (fun hge => absurd lo (Nat.not_lt.mpr hge)))
  exact wpAny_bind (wpAny_mkStr (wpAny_pure ⟨_, rfl, h⟩) (int_text_fits10 hlt))
theorem reprK_int {as : List Addr} {d : Nat} {a : Int} {t : Tok} {L : Nat} (hL : L ≤ 1920 ∨ (h₀.NoDigits ∧ L ≤ 12900)) (ha : a.natAbs.log2 < L) : ReprK prog w as h₀ d (.int a t) (toString a) := by
  by_cases hs : a.natAbs.log2 < 1920
  · exact .of_is (ReprIs.int t hs) _ _ _
  · rcases hL with hL | ⟨hn, hL⟩
    · omega
    · intro base hb A g E s Q hg hc hu hk hQ
      rw [pyReprUnder_leaf (v := .int a t) (by omega) (fun _ e => nomatch e)]
      unfold pyRepr
      refine wpAny_bind (wpAny_pyReprObj_slot (by omega) (typeIs_int _ a t) F.slot_int_repr.toG (intL_repr (hn.keeps hk) (by omega) ⟨_, _, rfl, ?_⟩))
      exact wpAny_pure (hQ s.heap _ fun _ _ e => e)
/-- what repr asks of a value -/
structure Shw (prog : Program) (w : World) (h₀ : Heap) (u : Value) (d : PyData) (as bs : List Addr) : Prop where
  rd : Reads h₀ u d as
  am : ReadAtMost h₀ d.depth bs
  rk : ReprK prog w bs h₀ d.depth u d.shown
  tp : ∀ a, u = .ref a → d.shown.length ≤ sizeLine → ∃ T idr, SlotG T "__repr__" idr ∧ (∃ o, h₀.get? a = some o ∧ o.cls = .type T) ∧
    ∀ (A : Around) (E : Value → Shared → Prop) (s : Shared) (Q : Value → Shared → Prop), A.guards = some [] → A.units + d.depth < cLine → (∀ b o, h₀.get? b = some o → s.heap.get? b = some o) →
      (∀ h' u tk, (∀ b o, s.heap.get? b = some o → h'.get? b = some o) → Q (.str d.shown u) { s with heap := h', toks := tk }) → wpAny (model prog w) A (call (.builtin idr) [.ref a]) Q E s
structure ShwAll (prog : Program) (w : World) (h₀ : Heap) (us : List Value) (ds : List PyData) (as bs : List Addr) : Prop where
  rd : ReadsAll h₀ us ds as
  am : ReadAtMost h₀ (PyData.depthAll ds) bs
  rk : ReprAllK prog w bs h₀ (PyData.depthAll ds) us (PyData.shownAll ds)
theorem shw_cons {u : Value} {us : List Value} {d : PyData} {ds : List PyData} {as bs cs es : List Addr} (h : Shw prog w h₀ u d as bs) (hs : ShwAll prog w h₀ us ds cs es) : ShwAll prog w h₀ (u :: us) (d :: ds) (as ++ cs) (bs ++ es) := by
  refine ⟨.cons h.rd hs.rd, ?_, ?_⟩
  · intro b hm
    simp only [PyData.depthAll]
    rcases List.mem_append.mp hm with hm | hm
    · obtain ⟨d', as', r', hd'⟩ := h.am b hm
      exact ⟨d', as', r', Nat.le_trans hd' (Nat.le_max_left _ _)⟩
    · obtain ⟨d', as', r', hd'⟩ := hs.am b hm
      exact ⟨d', as', r', Nat.le_trans hd' (Nat.le_max_right _ _)⟩
  · simp only [PyData.depthAll, PyData.shownAll]
    exact .cons ((h.rk.more fun b hb => List.mem_append_left _ hb).level_le (Nat.le_max_left _ _)) (hs.rk.more_le (fun b hb => List.mem_append_right _ hb) (Nat.le_max_right _ _))
theorem shw_nil : ShwAll prog w h₀ [] [] [] [] := ⟨.nil, (fun _ h => nomatch h), by simp only [PyData.shownAll]; exact .nil⟩
theorem shw_tup {a : Addr} {its : List Value} {xs : List PyData} {as bs : List Addr} (p : IsTup h₀ a its.toArray) (h : ShwAll prog w h₀ its xs as bs) : Shw prog w h₀ (.ref a) (.tuple xs) as (a :: bs) := by
  obtain ⟨o, h1, h2, n, h3⟩ := p
  have h4 : ReadsAll h₀ its.toArray.toList xs as := by simpa using h.rd
  have r : Reads h₀ (.ref a) (.tuple xs) as := .tuple h1 h2 h3 h4
  have hna : a ∉ bs := not_mem_of_deeper r (by simp only [PyData.depth]; omega) h.am
  refine ⟨r, ReadAtMost.cons r (by simp only [PyData.depth]; omega) h.am, ?_, ?_⟩
  · simp only [PyData.depth, PyData.shown]
    exact ReprK.tuple h1 h2 h3 hna (by simpa using h.rk)
  · intro b e hz
    cases e
    refine ⟨"tuple", "tuple.__repr__", F.slot_tuple_repr, ⟨o, h1, h2⟩, fun A E s Q hg hu hk0 hQ => ?_⟩
    simp only [PyData.depth] at hu
    simp only [PyData.shown] at hQ hz
    exact call_tuple_reprK h1 h2 h3 hna (by simpa using h.rk) hg (fun b _ => Clear.nil b) hu hk0 hQ hz
theorem shw_lst {a : Addr} {o : Obj} {n : Nat} {its : List Value} {xs : List PyData} {as bs : List Addr} (h1 : h₀.get? a = some o) (h2 : o.cls = .type "list") (h3 : o.data = .seq its.toArray n) (h : ShwAll prog w h₀ its xs as bs) :
    Shw prog w h₀ (.ref a) (.list xs) (a :: as) (a :: bs) := by
  have h4 : ReadsAll h₀ its.toArray.toList xs as := by simpa using h.rd
  have r : Reads h₀ (.ref a) (.list xs) _ := .list h1 h2 h3 h4
  have hna : a ∉ bs := not_mem_of_deeper r (by simp only [PyData.depth]; omega) h.am
  have hk := h.rk
  refine ⟨r, ReadAtMost.cons r (by simp only [PyData.depth]; omega) h.am, ?_, ?_⟩
  · simp only [PyData.depth, PyData.shown]
    cases its with
    | nil =>
      have h4' : ReadsAll h₀ [] xs as := by simpa using h4
      cases h4'
      simp only [PyData.shownAll, listText_nil]
      exact ReprK.listEmpty h1 h2 h3
    | cons x l => exact ReprK.list h1 h2 h3 hna (by simpa using hk.length_eq) (fun i y e => hk.item i y (by simpa using e))
  · intro b e hz
    cases e
    refine ⟨"list", "list.__repr__", F.slot_list_repr.toG, ⟨o, h1, h2⟩, fun A E s Q hg hu hk0 hQ => ?_⟩
    simp only [PyData.depth] at hu
    simp only [PyData.shown] at hQ hz
    cases its with
    | nil =>
      have h4' : ReadsAll h₀ [] xs as := by simpa using h4
      cases h4'
      simp only [PyData.shownAll, listText_nil] at hQ
      exact call_list_repr_empty ⟨o, hk0 _ _ h1, h2⟩ (hk0 _ _ h1) h3 (hQ s.heap _ _ fun _ _ e => e)
    | cons x l => exact call_list_reprK h1 h2 h3 hna (by simpa using hk.length_eq) (fun i y e => hk.item i y (by simpa using e)) hg (fun b _ => Clear.nil b) hu hk0 hQ hz
theorem shw_dct {a : Addr} {o : Obj} {es : Array DictEntry} {n : Nat} {kvs : List (PyData × PyData)} {a1 a2 b1 b2 : List Addr} (h1 : h₀.get? a = some o) (h2 : o.cls = .type "dict") (h3 : o.data = .dict es n) (hsys : (a == sysModules) = false)
    (hk : ShwAll prog w h₀ (es.toList.map (·.key)) (kvs.map (·.1)) a1 b1) (hv : ShwAll prog w h₀ (es.toList.map (·.val)) (kvs.map (·.2)) a2 b2) : Shw prog w h₀ (.ref a) (.dict kvs) (a :: a1 ++ a2) (a :: (b1 ++ b2)) := by
  have r : Reads h₀ (.ref a) (.dict kvs) _ := .dict h1 h2 h3 hk.rd hv.rd
  have hb : ReadAtMost h₀ (PyData.depthKv kvs) (b1 ++ b2) := (hk.am.mono (PyData.depthAll_keys_le kvs)).append (hv.am.mono (PyData.depthAll_vals_le kvs))
  have hna : a ∉ b1 ++ b2 := not_mem_of_deeper r (by simp only [PyData.depth]; omega) hb
  have ent := ReprEntriesK.of_two es.toList _ _
    (hk.rk.more_le (fun b (hb : b ∈ b1) => List.mem_append_left b2 hb) (PyData.depthAll_keys_le kvs)) (hv.rk.more_le (fun b (hb : b ∈ b2) => List.mem_append_right b1 hb) (PyData.depthAll_vals_le kvs))
  refine ⟨r, ReadAtMost.cons r (by simp only [PyData.depth]; omega) hb, ?_, ?_⟩
  · simp only [PyData.depth, PyData.shown, PyData.shownKv_eq]
    exact ReprK.dict h1 h2 h3 hsys hna ent
  · intro b e hz
    cases e
    refine ⟨"dict", "dict.__repr__", F.slot_dict_repr, ⟨o, h1, h2⟩, fun A E s Q hg hu hk0 hQ => ?_⟩
    simp only [PyData.depth] at hu
    simp only [PyData.shown, PyData.shownKv_eq] at hQ hz
    exact call_dict_reprK h1 h2 h3 hsys hna ent hg (fun b _ => Clear.nil b) hu hk0 hQ hz
end
section
variable {X : Cx} {pins : List (Addr × Obj)} {σ : L2.St} {H G : Hp} {τ : List Addr} {s : Shared} {L : Nat}
theorem shw_key {L : Nat} (hL : L ≤ 1920 ∨ (s.heap.NoDigits ∧ L ≤ 12900)) {k : Key} {u : Value} (h : keyIs k u = true) (ok : okR L (kD k) = true) (hz : (toPy (kD k)).shown.length ≤ sizeLine) : Shw X.prog X.w s.heap u (toPy (kD k)) [] [] := by
  rcases keyIs_shape h with ⟨i, t, rfl, rfl⟩ | ⟨x, t, rfl, rfl⟩
  · simp only [kD, toPy]
    refine ⟨.int i t, (fun _ h => nomatch h), ?_, fun _ z => nomatch z⟩
    simp only [PyData.shown]
    exact reprK_int hL (by simpa [kD, okR] using ok)
  · simp only [kD, toPy]
    refine ⟨.str x t, (fun _ h => nomatch h), ?_, fun _ z => nomatch z⟩
    simp only [PyData.shown]
    exact .of_is (ReprIs.str x t (by simpa only [kD, toPy, PyData.shown] using hz)) _ _ _
theorem shw_keys {L : Nat} (hL : L ≤ 1920 ∨ (s.heap.NoDigits ∧ L ≤ 12900)) : ∀ {ks : List Key} {its : List Value}, Vals (ks.map kV) its → okRs L (ks.map kD) = true → (∀ t ∈ PyData.shownAll (toPys (ks.map kD)), t.length ≤ sizeLine) → ShwAll X.prog X.w s.heap its (toPys (ks.map kD)) [] []
  | [], its, r, _, _ => by
    cases r
    simp only [List.map_nil, toPys]
    exact shw_nil
  | k :: ks, its, r, ok, hz => by
    cases r with
    | cons r1 r2 =>
      simp only [List.map_cons, okRs, Bool.and_eq_true] at ok
      simp only [List.map_cons, toPys]
      simp only [List.map_cons, toPys, PyData.shownAll, List.mem_cons] at hz
      exact shw_cons (as := []) (bs := []) (shw_key hL (kV_is (P := X.prog) (w := X.w) r1) ok.1 (hz _ (.inl rfl))) (shw_keys hL r2 ok.2 fun t ht => hz t (.inr ht))
theorem dct_le {kvs : List (PyData × PyData)} (hz : (PyData.dict kvs).shown.length ≤ sizeLine) : (∀ t ∈ PyData.shownAll (kvs.map (·.1)), t.length ≤ sizeLine) ∧ ∀ t ∈ PyData.shownAll (kvs.map (·.2)), t.length ≤ sizeLine := by
  have hz' : (dictText (PyData.shownKv kvs)).length ≤ sizeLine := by simpa only [PyData.shown] using hz
  exact ⟨fun t ht => let ⟨p, hp, hl⟩ := PyData.shownKv_key_le kvs t ht; Nat.le_trans hl (Nat.le_trans (dictText_mem_le hp) hz'),
    fun t ht => let ⟨p, hp, hl⟩ := PyData.shownKv_val_le kvs t ht; Nat.le_trans hl (Nat.le_trans (dictText_mem_le hp) hz')⟩
theorem zip_map1 {α β γ : Type} (f : α → β) : ∀ {l : List α} {m : List γ}, l.length = m.length → ((l.map f).zip m).map (·.1) = l.map f
  | [], [], _ => rfl
  | a :: l, b :: m, h => by simp only [List.map_cons, List.zip_cons_cons, zip_map1 f (by simpa using h : l.length = m.length)]
theorem zip_map2 {α β γ : Type} (f : α → β) : ∀ {l : List α} {m : List γ}, l.length = m.length → ((l.map f).zip m).map (·.2) = m
  | [], [], _ => rfl
  | a :: l, b :: m, h => by simp only [List.map_cons, List.zip_cons_cons, zip_map2 f (by simpa using h : l.length = m.length)]
theorem vals_kv {κ : Type} : ∀ {kvs : List (κ × V)} {vs : List (κ × Value)}, KV kvs vs → Vals (kvs.map (·.2)) (vs.map (·.2))
  | _, _, .nil => .nil
  | _, _, .cons h t => .cons h.2 (vals_kv t)
theorem fst_kv {κ : Type} : ∀ {kvs : List (κ × V)} {vs : List (κ × Value)}, KV kvs vs → kvs.map (·.1) = vs.map (·.1)
  | _, _, .nil => rfl
  | _, _, .cons h t => by rw [List.map_cons, List.map_cons, h.1, fst_kv t]
theorem pairs_val {P : Program} {w : World} : ∀ {es : List DictEntry} {vs : List (Key × Value)}, Pairs (mixKind P w) es vs → es.map (·.val) = vs.map (·.2)
  | _, _, .nil => rfl
  | _, _, .cons _ h t => by rw [List.map_cons, List.map_cons, h, pairs_val t]
theorem pairs_key {P : Program} {w : World} {L : Nat} (hL : L ≤ 1920 ∨ (s.heap.NoDigits ∧ L ≤ 12900)) : ∀ {es : List DictEntry} {vs : List (Key × Value)}, Pairs (mixKind P w) es vs → okRs L (vs.map fun p => kD p.1) = true → (∀ t ∈ PyData.shownAll (toPys (vs.map fun p => kD p.1)), t.length ≤ sizeLine) →
    ShwAll X.prog X.w s.heap (es.map (·.key)) (toPys (vs.map fun p => kD p.1)) [] []
  | _, _, .nil, _, _ => by
    simp only [List.map_nil, toPys]
    exact shw_nil
  | _, _, .cons h _ t, ok, hz => by
    simp only [List.map_cons, okRs, Bool.and_eq_true] at ok
    simp only [List.map_cons, toPys]
    simp only [List.map_cons, toPys, PyData.shownAll, List.mem_cons] at hz
    exact shw_cons (as := []) (bs := []) (shw_key hL h ok.1 (hz _ (.inl rfl))) (pairs_key hL t ok.2 fun t ht => hz t (.inr ht))
theorem kT_all {L : Nat} (hL : L ≤ 1920 ∨ (s.heap.NoDigits ∧ L ≤ 12900)) (I : Inv X pins σ H s) : ∀ {kvs : List (List Key × V)} {xs : List (List Key × Addr × Value)}, Paired (fun (p : List Key × V) (q : List Key × Addr × Value) => p.1 = q.1 ∧ H q.2.1 = some (.tup (p.1.map kV)) ∧ RelV p.2 q.2.2) kvs xs →
    okRs L (kvs.map fun p => kT p.1) = true → (∀ t ∈ PyData.shownAll (toPys (kvs.map fun p => kT p.1)), t.length ≤ sizeLine) → ∃ bs, ShwAll X.prog X.w s.heap (xs.map fun q => Value.ref q.2.1) (toPys (kvs.map fun p => kT p.1)) [] bs
  | _, _, .nil, _, _ => by
    simp only [List.map_nil, toPys]
    exact ⟨[], shw_nil⟩
  | _, _, .cons h t, ok, hz => by
    simp only [List.map_cons, okRs, Bool.and_eq_true] at ok
    simp only [List.map_cons, toPys]
    simp only [List.map_cons, toPys, PyData.shownAll, List.mem_cons] at hz
    obtain ⟨bs, h2⟩ := kT_all hL I t ok.2 fun t ht => hz t (.inr ht)
    obtain ⟨e, ht, rv⟩ := h
    obtain ⟨its, r, p, _⟩ := I.tuple (.of ht)
    have hz1 := hz _ (.inl rfl)
    simp only [kT, toPy, PyData.shown] at hz1
    have h3 := shw_tup p (shw_keys (X := X) hL r (by simpa [kT, okR] using ok.1) fun t ht => Nat.le_trans (tupleText_mem_le ht) hz1)
    have h3' := shw_cons (as := []) (u := Value.ref _) (d := toPy (kT _)) (by simp only [kT, toPy]; exact h3) h2
    exact ⟨_, h3'⟩
theorem vals_kt : ∀ {kvs : List (List Key × V)} {xs : List (List Key × Addr × Value)}, Paired (fun (p : List Key × V) (q : List Key × Addr × Value) => p.1 = q.1 ∧ H q.2.1 = some (.tup (p.1.map kV)) ∧ RelV p.2 q.2.2) kvs xs → Vals (kvs.map (·.2)) (xs.map (·.2.2))
  | _, _, .nil => .nil
  | _, _, .cons h t => .cons h.2.2 (vals_kt t)
mutual
theorem shw_rep (hL : L ≤ 1920 ∨ (s.heap.NoDigits ∧ L ≤ 12900)) (I : Inv X pins σ H s) (hs : Same G H) : ∀ {v : V} {d : D} {u : Value}, Rep X.K X.mg G τ v d → RelV v u → okR L d = true → (toPy d).shown.length ≤ sizeLine → ∃ as bs, Shw X.prog X.w s.heap u (toPy d) as bs
  | _, _, u, .non, r, _, _ => by
    cases r
    exact ⟨[], [], .none, (fun _ h => nomatch h), by simp only [toPy, PyData.shown]; exact .of_is ReprIs.none _ _ _, fun _ z => nomatch z⟩
  | _, _, u, .bl b, r, _, _ => by
    cases r
    exact ⟨[], [], .bool b, (fun _ h => nomatch h), by simp only [toPy, PyData.shown]; exact .of_is (ReprIs.bool b) _ _ _, fun _ z => nomatch z⟩
  | _, _, u, .int i, r, ok, _ => by
    obtain ⟨t, rfl⟩ := r
    exact ⟨[], [], .int i t, (fun _ h => nomatch h), by simp only [toPy, PyData.shown]; exact reprK_int hL (by simpa [okR] using ok), fun _ z => nomatch z⟩
  | _, _, u, .str x, r, _, hz => by
    obtain ⟨t, rfl⟩ := r
    exact ⟨[], [], .str x t, (fun _ h => nomatch h), by simp only [toPy, PyData.shown]; exact .of_is (ReprIs.str x t (by simpa only [toPy, PyData.shown] using hz)) _ _ _, fun _ z => nomatch z⟩
  | _, _, u, .tup (a := a) (xs := xs) (ds := ds) h rs, r, ok, hz => by
    cases (show u = Value.ref a from r)
    obtain ⟨its, rv, p, _⟩ := I.tuple (.of (hs _ _ h))
    have hz' : (tupleText (PyData.shownAll (toPys ds))).length ≤ sizeLine := by simpa only [toPy, PyData.shown] using hz
    obtain ⟨as, bs, q⟩ := shws_rep hL I hs rs rv (by simpa [okR] using ok) (fun t ht => Nat.le_trans (tupleText_mem_le ht) hz')
    simp only [toPy]
    exact ⟨_, _, shw_tup p q⟩
  | _, _, u, .lst (a := a) (xs := xs) (ds := ds) h rs, r, ok, hz => by
    cases (show u = Value.ref a from r)
    obtain ⟨its, rv, p, _⟩ := I.list (.of (hs _ _ h))
    obtain ⟨o, h1, h2, n, h3⟩ := p.isList
    have hz' : (listText (PyData.shownAll (toPys ds))).length ≤ sizeLine := by simpa only [toPy, PyData.shown] using hz
    obtain ⟨as, bs, q⟩ := shws_rep hL I hs rs rv (by simpa [okR] using ok) (fun t ht => Nat.le_trans (listText_mem_le ht) hz')
    simp only [toPy]
    exact ⟨_, _, shw_lst h1 h2 h3 q⟩
  | _, _, u, .frz (a := a) (xs := xs) (ds := ds) h rs, r, ok, hz => by
    cases (show u = Value.ref a from r)
    obtain ⟨its, rv, p, _⟩ := I.list (hs.seq h)
    obtain ⟨o, h1, h2, n, h3⟩ := p.isList
    have hz' : (listText (PyData.shownAll (toPys ds))).length ≤ sizeLine := by simpa only [toPy, PyData.shown] using hz
    obtain ⟨as, bs, q⟩ := shws_rep hL I hs rs rv (by simpa [okR] using ok) (fun t ht => Nat.le_trans (listText_mem_le ht) hz')
    simp only [toPy]
    exact ⟨_, _, shw_lst h1 h2 h3 q⟩
  | _, _, u, .dK (a := a) (kvs := kvs) (vs := vs) h rs, r, ok, hz => by
    cases (show u = Value.ref a from r)
    obtain ⟨_, hd, vals, rel, o, es, ep, h1, h2, h3, _, h5, _⟩ := dk_of I.hok (hs _ _ h)
    have hl : kvs.length = vs.length := by have := rs.length; rwa [List.length_map] at this
    obtain ⟨ok1, ok2⟩ := okRk_fst (show okRk L _ = true by simpa [okR] using ok)
    have e1 := zip_map1 (fun p : Key × V => kD p.1) hl
    have e2 := zip_map2 (fun p : Key × V => kD p.1) hl
    rw [e1] at ok1
    rw [e2] at ok2
    have ef : (kvs.map fun p => kD p.1) = vals.map fun p => kD p.1 := by
      have := congrArg (List.map kD) (fst_kv rel)
      rw [List.map_map, List.map_map] at this
      exact this
    have hz2 : (PyData.dict (toPyKv ((kvs.map fun p => kD p.1).zip vs))).shown.length ≤ sizeLine := by simpa only [toPy] using hz
    obtain ⟨z1, z2⟩ := dct_le hz2
    rw [toPyKv_fst, e1] at z1
    rw [toPyKv_snd, e2] at z2
    obtain ⟨as, bs, q⟩ := shws_rep hL I hs rs (vals_kv rel) ok2 z2
    have k := pairs_key (X := X) hL h5 (by rw [← ef]; exact ok1) (by rw [← ef]; exact z1)
    simp only [toPy]
    refine ⟨_, _, shw_dct (a1 := []) (b1 := []) (a2 := as) (b2 := bs) h1 h2.1 h3 hd ?_ ?_⟩
    · rw [toPyKv_fst, e1, ef]; exact k
    · rw [toPyKv_snd, e2, pairs_val h5]; exact q
  | _, _, u, .dT (a := a) (kvs := kvs) (vs := vs) h rs, r, ok, hz => by
    cases (show u = Value.ref a from r)
    obtain ⟨_, hd, xs, rel, o, es, ep, h1, h2, h3, h4, h5⟩ := (show ObjOk X.prog X.w H s.heap a (.dT kvs) from I.hok a _ (hs _ _ h))
    have hl : kvs.length = vs.length := by have := rs.length; rwa [List.length_map] at this
    obtain ⟨ok1, ok2⟩ := okRk_fst (show okRk L _ = true by simpa [okR] using ok)
    have e1 := zip_map1 (fun p : List Key × V => kT p.1) hl
    have e2 := zip_map2 (fun p : List Key × V => kT p.1) hl
    rw [e1] at ok1
    rw [e2] at ok2
    have hz2 : (PyData.dict (toPyKv ((kvs.map fun p => kT p.1).zip vs))).shown.length ≤ sizeLine := by simpa only [toPy] using hz
    obtain ⟨z1, z2⟩ := dct_le hz2
    rw [toPyKv_fst, e1] at z1
    rw [toPyKv_snd, e2] at z2
    obtain ⟨as, bs, q⟩ := shws_rep hL I hs rs (vals_kt rel) ok2 z2
    obtain ⟨b1, k⟩ := kT_all (X := X) hL I rel ok1 z1
    simp only [toPy]
    refine ⟨_, _, shw_dct (a1 := []) (b1 := b1) (a2 := as) (b2 := bs) h1 h2.1 h3 hd ?_ ?_⟩
    · rw [toPyKv_fst, e1, h4, List.map_map]; exact k
    · rw [toPyKv_snd, e2, h4, List.map_map]; exact q
  | _, _, u, .tok h, r, ok, _ => by simp [okR] at ok
  | _, _, u, .ty n, r, ok, _ => by simp [okR] at ok
  | _, _, u, .glb h h', r, ok, _ => by simp [okR] at ok
  | _, _, u, .exc h h', r, ok, _ => by simp [okR] at ok
  | _, _, u, .ktp (a := a) (xs := xs) (ds := ds) h rs, r, ok, hz => by
    cases (show u = Value.ref a from r)
    obtain ⟨its, rv, p, _⟩ := I.tuple (seqT hs h)
    have hz' : (tupleText (PyData.shownAll (toPys ds))).length ≤ sizeLine := by simpa only [toPy, PyData.shown] using hz
    obtain ⟨as, bs, q⟩ := shws_rep hL I hs rs rv (by simpa [okR] using ok) (fun t ht => Nat.le_trans (tupleText_mem_le ht) hz')
    simp only [toPy]
    exact ⟨_, _, shw_tup p q⟩
theorem shws_rep (hL : L ≤ 1920 ∨ (s.heap.NoDigits ∧ L ≤ 12900)) (I : Inv X pins σ H s) (hs : Same G H) : ∀ {vs : List V} {ds : List D} {us : List Value}, RepAll X.K X.mg G τ vs ds → Vals vs us → okRs L ds = true → (∀ t ∈ PyData.shownAll (toPys ds), t.length ≤ sizeLine) → ∃ as bs, ShwAll X.prog X.w s.heap us (toPys ds) as bs
  | _, _, _, .nil, r, _, _ => by
    cases r
    simp only [toPys]
    exact ⟨_, _, shw_nil⟩
  | _, _, _, .cons h t, r, ok, hz => by
    cases r with
    | cons r1 r2 =>
      simp only [okRs, Bool.and_eq_true] at ok
      simp only [toPys, PyData.shownAll, List.mem_cons] at hz
      obtain ⟨as, bs, q⟩ := shw_rep hL I hs h r1 ok.1 (hz _ (.inl rfl))
      obtain ⟨cs, es, q2⟩ := shws_rep hL I hs t r2 ok.2 (fun t ht => hz t (.inr ht))
      simp only [toPys]
      exact ⟨_, _, shw_cons q q2⟩
end
end
def repD (L : Nat) (d : D) : Option D := if okR L d = true ∧ (toPy d).depth ≤ 90 ∧ (toPy d).shown.length ≤ 16777216 then some (.str (toPy d).shown) else none
def dRepr (L : Nat) : FN := fun ds => match ds with
  | [d] => repD L d
  | _ => none
def rRepr (L : Nat) (K : PySem.W.Frag) (mg : Str → Option Value) : List V → Hp → VK → Prop := fun xs H Q => ∃ x d G τ, xs = [x] ∧ Same G H ∧ Rep K mg G τ x d ∧ okR L d = true ∧ (toPy d).depth ≤ 90 ∧ (toPy d).shown.length ≤ 16777216 ∧ Q (.str (toPy d).shown) H
theorem v_repr {L : Nat} {K : PySem.W.Frag} {mg : Str → Option Value} : VC K mg (rRepr L K mg) (dRepr L) := fun W s vs ds z Q B r hz q => by
  unfold dRepr at hz
  split at hz
  · rename_i d
    unfold repD at hz
    split at hz
    · rename_i h
      cases hz
      obtain ⟨v, rfl, rv⟩ := r.one_inv
      exact ⟨v, d, W.G, W.τ, rfl, B.sub, rv, h.1, h.2.1, h.2.2, stay B q (.str _)⟩
    · cases hz
  · cases hz
section
variable {X : Cx}
theorem c_reprL {L : Nat} (hL : L ≤ 1920 ∨ (X.base.NoDigits ∧ L ≤ 12900)) (hg : X.A.guards = some []) (hu : X.A.units + 94 < cLine) : CallR X (.builtin "repr") (rRepr L X.K X.mg) := by
  intro pins s σ H xs us Q I r h
  obtain ⟨x, d, G, τ, rfl, hs, rx, ok, hd, hz, q⟩ := h
  obtain ⟨u, rfl, ru⟩ := vals1 r
  have hz' : (toPy d).shown.length ≤ sizeLine := line_le hz
  have hL' : L ≤ 1920 ∨ (s.heap.NoDigits ∧ L ≤ 12900) := hL.imp id fun z => ⟨z.1.keeps I.bk, z.2⟩
  obtain ⟨as, bs, S⟩ := shw_rep hL' I hs rx ru ok hz'
  have top : ∀ a, u = .ref a → wpAny (model X.prog X.w) X.A (call (.builtin "repr") [u]) (EP X pins σ Q) X.xe s := fun a eu => by
    obtain ⟨T, idr, sl, ⟨o, ho, hc⟩, hcall⟩ := S.tp a eu hz'
    subst eu
    exact call_repr_slot (by omega) ⟨o, ho, hc⟩ sl (hcall X.A.in1 X.xe s _ hg (by show X.A.units + 1 + _ < cLine; omega) (fun _ _ e => e) fun h' t tk hk => ⟨_, t, rfl, ⟨.str _, H, I.kept hk, ⟨_, rfl⟩, q⟩⟩)
  cases rx with
  | non =>
    cases (show u = Value.none from ru)
    simp only [toPy, PyData.shown] at q
    exact PySem.P.repr_of_none ⟨.str _, H, I.tok _, ⟨_, rfl⟩, q⟩
  | bl b =>
    cases (show u = Value.bool b from ru)
    simp only [toPy, PyData.shown] at q
    exact PySem.P.repr_of_bool ⟨.str _, H, I.tok _, ⟨_, rfl⟩, q⟩
  | int i =>
    obtain ⟨t, rfl⟩ := (show ∃ t, u = Value.int i t from ru)
    simp only [toPy, PyData.shown] at q
    have hi : i.natAbs.log2 < L := by simpa [okR] using ok
    by_cases hs : i.natAbs.log2 < 1920
    · exact PySem.P.repr_of_int hs ⟨.str _, H, I.tok _, ⟨_, rfl⟩, q⟩
    · rcases hL' with hL' | ⟨hn, hL'⟩
      · omega
      · exact call_repr_slot (by omega) (typeIs_int s i t) F.slot_int_repr.toG (intL_repr hn (by omega) ⟨_, _, rfl, ⟨.str _, H, I.tok _, ⟨_, rfl⟩, q⟩⟩)
  | str y =>
    obtain ⟨t, rfl⟩ := (show ∃ t, u = Value.str y t from ru)
    simp only [toPy, PyData.shown] at q hz'
    exact PySem.P.repr_of_str ⟨.str _, H, I.tok _, ⟨_, rfl⟩, q⟩ hz'
  | tup _ _ => exact top _ ru
  | lst _ _ => exact top _ ru
  | frz _ _ => exact top _ ru
  | dK _ _ => exact top _ ru
  | dT _ _ => exact top _ ru
  | tok h => simp [okR] at ok
  | ty n => simp [okR] at ok
  | glb h h' => simp [okR] at ok
  | ktp _ _ => exact top _ ru
  | exc h h' => simp [okR] at ok
end
end DL
namespace DL
open PySem PySem.Spec PyProof.Rows L2
variable [LT : LawT]

/-! ### a new list is published: it becomes a special object -/
def ePub (f : DE) : DE := fun ρ s => (f ρ s).bind fun d s1 => match d with
  | .lst ds => if flats ds = true then .ok (.tok s1.length) (s1 ++ [.l ds]) else .bad
  | _ => .bad
section
variable {K : PySem.W.Frag} {mg : Str → Option Value} {W W0 : Hw} {s : S}
theorem Base.pub (B : Base K mg W s) {a : Addr} {c : Cell} (hG : W.G a = none) (ht : a ∉ W.τ) (hc : CellOk K mg W a c) (hf : flatC c = true) : Base K mg ⟨W.H, W.G, W.τ ++ [a]⟩ (s ++ [c]) := by
  have pre : W.τ <+: W.τ ++ [a] := List.prefix_append _ _
  have mono : ∀ {b : Addr} {c : Cell}, CellOk K mg W b c → CellOk K mg ⟨W.H, W.G, W.τ ++ [a]⟩ b c := fun {b c} q => by
    cases c with
    | l ds =>
      obtain ⟨us, e, r⟩ := q
      exact ⟨us, e, r.mono (Same.refl _) pre⟩
    | o c fs =>
      obtain ⟨C, dx, us, e0, e, r⟩ := q
      exact ⟨C, dx, us, e0, e, r.mono (Same.refl _) pre⟩
    | d fs =>
      obtain ⟨us, e, r⟩ := q
      exact ⟨us, e, r.mono (Same.refl _) pre⟩
    | t fs =>
      obtain ⟨us, e, r⟩ := q
      exact ⟨us, e, r.mono (Same.refl _) pre⟩
  refine ⟨B.sub, B.tupI, fun b m => ?_, ?_, by simp [B.len], fun n c' b h1 h2 => ?_, fun c' m => ?_, B.tab, B.nog, B.all⟩
  · rcases List.mem_append.mp m with m | m
    · exact B.spc b m
    · rw [List.mem_singleton.mp m]; exact hG
  · refine List.nodup_append.mpr ⟨B.nd, List.nodup_cons.mpr ⟨by simp, List.nodup_nil⟩, fun x hx y hy e => ?_⟩
    rw [List.mem_singleton.mp hy] at e
    exact ht (e ▸ hx)
  · by_cases hn : n < s.length
    · rw [List.getElem?_append_left hn] at h1
      have hn2 : n < W.τ.length := by rw [← B.len]; exact hn
      have h2' : (W.τ ++ [a])[n]? = some b := h2
      rw [List.getElem?_append_left hn2] at h2'
      exact mono (B.cel n c' b h1 h2')
    · have hn2 : W.τ.length ≤ n := by rw [← B.len]; omega
      have h2' : (W.τ ++ [a])[n]? = some b := h2
      rw [List.getElem?_append_right (by omega)] at h1
      rw [List.getElem?_append_right hn2, ← B.len] at h2'
      by_cases e : n - s.length = 0
      · rw [e] at h1 h2'
        cases h1; cases h2'
        exact mono hc
      · rw [List.getElem?_eq_none (by simp; omega)] at h1
        cases h1
  · rcases List.mem_append.mp m with m | m
    · exact B.flt c' m
    · rw [List.mem_singleton.mp m]; exact hf
end
section
variable {X : Cx} {e a b : Expr} {f h : DE} {pos : Pos} {E : WX} {fs : DA}
theorem e_pub (h : PE X e (tF X.K X.mg E f)) : PE X e (tE X.K X.mg E (ePub f)) := by
  refine PE.mono h fun σ H Q h => ?_
  obtain ⟨W0, W, s, ρ, rfl, st, p⟩ := h
  refine ⟨W0, W, s, ρ, rfl, st, ?_⟩
  unfold ePub at p
  cases hf : f ρ s with
  | exc c s1 => rw [hf] at p; exact p
  | bad => rw [hf] at p; exact p
  | ok d s1 =>
    rw [hf] at p
    refine fun x W1 e B r => ?_
    obtain ⟨a, vs, ds, rfl, rfl, n0, nG, nt, eH, rv⟩ := r
    simp only [Res.bind] at p
    split at p
    · rename_i hfl
      refine p (.ref a) ⟨W1.H, W1.G, W1.τ ++ [a]⟩ ⟨e.keep0, e.grow, e.out, e.tpre.trans (List.prefix_append _ _), fun b m n => ?_, e.tab⟩ (B.pub nG nt ⟨vs, eH, rv⟩ hfl) (.tok ?_)
      · rcases List.mem_append.mp m with m | m
        · exact e.tnew b m n
        · rw [List.mem_singleton.mp m]; exact n0
      · rw [B.len, List.getElem?_append_right (Nat.le_refl _), Nat.sub_self]; rfl
    · exact p.elim

/-! ### reading, with special objects -/
abbrev F2S := S → F2
abbrev V2S (K : PySem.W.Frag) (mg : Str → Option Value) (r : R2) (g : F2S) : Prop :=
  ∀ (W : Hw) (s : S) (x y : V) (d e z : D) (Q : VK), Base K mg W s → Rep K mg W.G W.τ x d → Rep K mg W.G W.τ y e → g s d e = some z → (∀ v W', Ext W W' → Base K mg W' s → Rep K mg W'.G W'.τ v z → Q v W'.H) → r x y W.H Q
def eOp2S (g : F2S) (f h : DE) : DE := fun ρ s => (f ρ s).bind fun a s1 => (h ρ s1).bind fun b s2 => Res.ofO (g s2 a b) s2
theorem r_op2S {r : R2} {g : F2S} (hv : V2S X.K X.mg r g) : ∀ σ H Q, tE X.K X.mg E (eOp2S g f h) σ H Q → tOp r (tE X.K X.mg E f) (tE X.K X.mg E h) σ H Q := fun σ H Q q => by
  obtain ⟨W0, W, s, ρ, rfl, st, p⟩ := q
  refine (go st p).imp fun x H1 ⟨W1, s1, d1, e1, r1, x1, st1, p1⟩ => ?_
  subst e1
  refine (go st1 p1).imp fun y H2 ⟨W2, s2, d2, e2, r2, x2, st2, p2⟩ => ?_
  subst e2
  cases hz : g s2 d1 d2 with
  | none => rw [hz] at p2; exact p2.elim
  | some z =>
    rw [hz] at p2
    exact hv W2 s2 x y d1 d2 z Q st2.base (r1.ext x2) r2 hz p2
/-- what a special list holds -/
def tokL (s : S) (n : Nat) : Option (List D) := match s[n]? with
  | some (.l ds) => some ds
  | _ => none
theorem tok_list {K : PySem.W.Frag} {mg : Str → Option Value} {W : Hw} {s : S} {n : Nat} {v : V} {ds : List D} (B : Base K mg W s) (r : Rep K mg W.G W.τ v (.tok n)) (h : tokL s n = some ds) : ∃ a vs, v = .ref a ∧ W.τ[n]? = some a ∧ W.H a = some (.lst vs) ∧ RepAll K mg W.G W.τ vs ds := by
  cases r with
  | tok ht =>
    unfold tokL at h
    split at h
    · rename_i ds' hs
      cases h
      obtain ⟨vs, e, r⟩ := B.cel n _ _ hs ht
      exact ⟨_, vs, rfl, ht, e, r⟩
    · cases h
/-- x[i] of lists, tuples, texts, special lists -/
def dIxT (s : S) : F2 := fun x y => match x, y with
  | .tok n, .int i => (tokL s n).bind fun ds => atI ds i
  | x, y => dIx x y
theorem v_ixT {K : PySem.W.Frag} {mg : Str → Option Value} : V2S K mg (rIx K) dIxT := fun W s x y d e z Q B rx ry hz q => by
  unfold dIxT at hz
  split at hz
  · obtain ⟨ds, h1, h2⟩ := Option.bind_eq_some_iff.mp hz
    obtain ⟨a, vs, rfl, _, eH, rr⟩ := tok_list B rx h1
    cases ry.int_inv
    obtain ⟨v, hv, rv⟩ := atI_rep rr h2
    exact .inl ⟨a, vs, _, v, rfl, rfl, .of eH, hv, stay B q rv⟩
  · exact v_ix W s x y _ _ z Q B rx ry hz q
theorem e_ixT (ha : PE X a (tE X.K X.mg E f)) (hb : PE X b (tE X.K X.mg E h)) (hs : PlainIx b := by exact fun _ _ => rfl) : PE X (.Subscript a b pos) (tE X.K X.mg E (eOp2S dIxT f h)) :=
  PE.mono (pe_ix ix_seq ha hb hs) (r_op2S v_ixT)
/-- len of special lists too -/
def lenT (s : S) (ds : List D) : Option D := match ds with
  | [.tok n] => (tokL s n).map fun l => .int l.length
  | ds => dLen ds
def eLenT (fs : DA) : DE := fun ρ s => (fs ρ s).bind fun ds s1 => Res.ofO (lenT s1 ds) s1
theorem e_lenT {p' : Pos} {e : Expr} (hm : X.mg "len" = none) (ha : PA X [e] (tA X.K X.mg E fs)) (hg : Gl X "len" := by rfl)
    (he : starEach [e] X.env = (false, eval e X.env) :: starEach [] X.env := by rfl) : PE X (.Call (.Name "len" p') [e] [] pos) (tE X.K X.mg E (eLenT fs)) :=
  PE.mono (pe_callB c_len hg hm (by decide +kernel) ha (by decide) (by decide) he rfl) fun σ H Q z => by
    obtain ⟨W0, W, s, ρ, rfl, st, z⟩ := z
    refine (go st z).imp fun x H1 ⟨W1, s1, d1, e1, r1, x1, st1, z1⟩ => ?_
    subst e1
    cases hz : lenT s1 d1 with
    | none => rw [hz] at z1; exact z1.elim
    | some d =>
      rw [hz] at z1
      unfold lenT at hz
      split at hz
      · rename_i n
        obtain ⟨ds, hd, rfl⟩ := Option.map_eq_some_iff.mp hz
        obtain ⟨v, rfl, rv⟩ := RepAll.one_inv r1
        obtain ⟨p, vs, rfl, _, eH, rr⟩ := tok_list st1.base rv hd
        exact .inl ⟨_, _, rfl, .inl ⟨vs, .of eH, rfl⟩, stay st1.base z1 (by rw [rr.length]; exact .int _)⟩
      · exact v_len W1 s1 x _ d Q st1.base r1 hz z1
end

/-! ### != of special lists -/
def dNeT (s : S) : F2 := fun x y => match x with
  | .tok n => (tokL s n).bind fun ds => dNe (.lst ds) y
  | x => dNe x y
def dEqT (s : S) : F2 := fun x y => match x with
  | .tok n => (tokL s n).bind fun ds => dEq (.lst ds) y
  | x => dEq x y
theorem v_neT {K : PySem.W.Frag} {mg : Str → Option Value} : V2S K mg (rNeA K) dNeT := fun W s x y d e z Q B rx ry hz q => by
  unfold dNeT at hz
  split at hz
  · obtain ⟨ds, h1, hz⟩ := Option.bind_eq_some_iff.mp hz
    obtain ⟨a, vs, rfl, _, eH, rr⟩ := tok_list B rx h1
    have hz' : (if ready (.lst ds) && ready e then some (D.bl (!eqB (.lst ds) e)) else none) = some z := hz
    split at hz'
    · rename_i hr
      cases hz'
      rw [Bool.and_eq_true] at hr
      have hx : Dp K W.H (.ref a) (toPy (.lst ds)) := .lst (.of eH) (dps_of B.sub rr (by simpa [okD] using ready_ok hr.1))
      exact .inr ⟨_, _, hx, dp_of B.sub ry (ready_ok hr.2), shaped_of hr.1, shaped_of hr.2, stay B q (.bl _)⟩
    · cases hz'
  · exact v_ne W s x y _ _ z Q B rx ry hz q
theorem v_eqT {K : PySem.W.Frag} {mg : Str → Option Value} : V2S K mg (rEqA K) dEqT := fun W s x y d e z Q B rx ry hz q => by
  unfold dEqT at hz
  split at hz
  · obtain ⟨ds, h1, hz⟩ := Option.bind_eq_some_iff.mp hz
    obtain ⟨a, vs, rfl, _, eH, rr⟩ := tok_list B rx h1
    have hz' : (if ready (.lst ds) && ready e then some (D.bl (eqB (.lst ds) e)) else none) = some z := hz
    split at hz'
    · rename_i hr
      cases hz'
      rw [Bool.and_eq_true] at hr
      have hx : Dp K W.H (.ref a) (toPy (.lst ds)) := .lst (.of eH) (dps_of B.sub rr (by simpa [okD] using ready_ok hr.1))
      exact .inr ⟨_, _, hx, dp_of B.sub ry (ready_ok hr.2), shaped_of hr.1, shaped_of hr.2, stay B q (.bl _)⟩
    · cases hz'
  · exact v_eq W s x y _ _ z Q B rx ry hz q
section
variable {X : Cx} {a b : Expr} {f h : DE} {pos : Pos} {E : WX} {r : R2} {g : F2S}
theorem e_cmpS {op : CmpOp} (ho : OpR X (compareOp op) r) (hv : V2S X.K X.mg r g) (ha : PE X a (tE X.K X.mg E f)) (hb : PE X b (tE X.K X.mg E h)) (hm : behindInMarks op b = false) : PE X (.Compare a [op] [b] pos) (tE X.K X.mg E (eOp2S g f h)) :=
  PE.mono (pe_cmpR ho ha hb hm) (r_op2S hv)
theorem t_cmpS {op : CmpOp} (ho : OpR X (compareOp op) r) (hv : V2S X.K X.mg r g) (ha : PE X a (tE X.K X.mg E f)) (hb : PE X b (tE X.K X.mg E h)) (hm : behindInMarks op b = false) : PT X (.Compare a [op] [b] pos) (tT X.K X.mg E (tBl (eOp2S g f h))) :=
  PT.mono (pt_cmpR ho ha hb hm) (r_bl (r_op2S hv))
end
/-! ### a store into a special object -/
section
variable {K : PySem.W.Frag} {mg : Str → Option Value} {W W0 : Hw} {s : S} {σ : L2.St} {ρ : List Sl}
theorem nodup_at {α : Type} {l : List α} {i j : Nat} {x : α} (h : l.Nodup) (h1 : l[i]? = some x) (h2 : l[j]? = some x) : i = j := by
  obtain ⟨hi, e1⟩ := List.getElem?_eq_some_iff.mp h1
  obtain ⟨hj, e2⟩ := List.getElem?_eq_some_iff.mp h2
  exact (List.getElem_inj h).mp (e1.trans e2.symm)
theorem SSt.cellPut (h : SSt K mg W0 W s σ ρ) {n : Nat} {a : Addr} {o : HO} {c : Cell} (hτ : W.τ[n]? = some a) (no : ∀ vs, o ≠ .tup vs) (hc : CellOk K mg ⟨upd W.H a o, W.G, W.τ⟩ a c) (hf : flatC c = true) (nt : ∀ ps, o ≠ .tbl ps := by exact fun _ z => nomatch z) :
    SSt K mg W0 ⟨upd W.H a o, W.G, W.τ⟩ (s.set n c) σ ρ := by
  have B := h.base
  have X0 := h.ext
  have ma : a ∈ W.τ := List.mem_of_getElem? hτ
  have ga : W.G a = none := B.spc a ma
  have nG : ∀ b x, W.G b = some x → b ≠ a := fun b x e z => by rw [z, ga] at e; cases e
  have pl := B.tau_plain ma
  refine ⟨⟨fun b x e n => ?_, X0.grow, X0.out, X0.tpre, X0.tnew, fun t => tabs_upd pl (X0.tab t)⟩, ⟨fun b x e => ?_, fun b xs e => ?_, B.spc, B.nd, by simp [B.len], fun m c' b h1 h2 => ?_, fun c' m => ?_, tabs_upd pl B.tab, B.nog, all_upd nt B.all⟩, h.len, fun j x z q1 q2 => ?_, h.dist⟩
  · by_cases hb : b = a
    · subst hb
      have := X0.tnew b ma n
      rw [this] at e; cases e
    · rcases X0.keep0 b x e n with z | ⟨ps, ps', z1, z2⟩
      · exact .inl ((upd_ne hb).trans z)
      · exact .inr ⟨ps, ps', z1, (upd_ne hb).trans z2⟩
  · exact (upd_ne (nG b x e)).trans (B.sub b x e)
  · have e' : upd W.H a o b = some (.tup xs) := e
    by_cases hb : b = a
    · rw [hb, upd_same] at e'
      exact absurd (Option.some.inj e') (no xs)
    · rw [upd_ne hb] at e'
      exact B.tupI b xs e'
  · by_cases hm : m = n
    · subst hm
      rw [hτ] at h2
      cases h2
      rw [List.getElem?_set] at h1
      simp only [if_true] at h1
      split at h1
      · cases h1; exact hc
      · cases h1
    · rw [List.getElem?_set_ne (Ne.symm hm)] at h1
      have nb : b ≠ a := fun z => hm (nodup_at B.nd (z ▸ h2) hτ)
      have q := B.cel m c' b h1 h2
      cases c' with
      | l ds =>
        obtain ⟨us, e, r⟩ := q
        exact ⟨us, (upd_ne nb).trans e, r⟩
      | o c fs =>
        obtain ⟨C, dx, us, e0, e, r⟩ := q
        exact ⟨C, dx, us, e0, (upd_ne nb).trans e, r⟩
      | d fs =>
        obtain ⟨us, e, r⟩ := q
        exact ⟨us, (upd_ne nb).trans e, r⟩
      | t fs =>
        obtain ⟨us, e, r⟩ := q
        exact ⟨us, (upd_ne nb).trans e, r⟩
  · rcases List.mem_or_eq_of_mem_set m with m | m
    · exact B.flt c' m
    · rw [m]; exact hf
  · have z0 := h.sl j x z q1 q2
    have ne : ∀ {b : Addr}, b ∉ W.τ → b ≠ a := fun nb z => nb (z ▸ ma)
    cases z0 with
    | emp => exact .emp
    | dat r => exact .dat r
    | own q e r => exact .own ⟨q.old, q.frz, q.spc⟩ ((upd_ne (ne q.spc)).trans e) r
    | ownK q e r => exact .ownK ⟨q.old, q.frz, q.spc⟩ ((upd_ne (ne q.spc)).trans e) r
    | ownT q e r => exact .ownT ⟨q.old, q.frz, q.spc⟩ ((upd_ne (ne q.spc)).trans e) r
end
def sPutT (f fi fv : DE) : DS := fun ρ s => (fv ρ s).thenS fun d s1 => (f ρ s1).thenS fun t s2 => (fi ρ s2).thenS fun k s3 => match t, k with
  | .tok n, .int k => match tokL s3 n with
    | some ds => match ixN ds.length k with
      | some j => if flat d = true then .next ρ (s3.set n (.l (ds.set j d))) else .bad
      | none => .bad
    | none => .bad
  | _, _ => .bad
theorem flats_set : ∀ {ds : List D} {j : Nat} {d : D}, flats ds = true → flat d = true → flats (ds.set j d) = true
  | [], _, _, h, _ => h
  | x :: xs, 0, d, h, hd => by simp [flats] at h ⊢; exact ⟨hd, h.2⟩
  | x :: xs, j + 1, d, h, hd => by simp [flats] at h ⊢; exact ⟨h.1, flats_set h.2 hd⟩
section
variable {X : Cx} {E : WX} {fr : Bool} {pos : Pos} {f fi fv : DE} {o : Expr}
theorem s_putT {sp : Pos} {v k : Expr} (hv' : PE X v (tE X.K X.mg E fv)) (ho : PE X o (tE X.K X.mg E f)) (hk : PE X k (tE X.K X.mg E fi))
    (ha : ∀ v, assign (.Subscript o k sp) X.env v = (do
      let ov ← holding [v] (eval o X.env)
      let iv ← holding [v, ov] (eval k X.env)
      standAt sp
      holding [v, ov, iv] (setItem ov iv v)
      release [v, ov, iv] []) := by intro _; rfl)
    (hs : swapsWithSole [.Subscript o k sp] v pos.line X.env = pure false := by rfl) (hw : swappedStores [.Subscript o k sp] v X.env = pure none := by rfl)
    (h1 : (assignEach [.Subscript o k sp] X.env).map (·.2) = [assign (.Subscript o k sp) X.env] := by rfl) :
    QS X E fr (.Assign [.Subscript o k sp] v pos) (sPutT f fi fv) := by
  refine PS.mono (ps_asg hv' (pg_sub ho hk set_list ha) hs hw h1) fun σ H T z => ?_
  obtain ⟨W0, W, s, ρ, rfl, st, z⟩ := z
  refine (goS st z).imp fun y H1 ⟨W1, s1, d1, e1, r1, x1, st1, z1⟩ => ?_
  subst e1
  refine (goS st1 z1).imp fun t H2 ⟨W2, s2, d2, e2, r2, x2, st2, z2⟩ => ?_
  subst e2
  refine (goS st2 z2).imp fun kk H3 ⟨W3, s3, d3, e3, r3, x3, st3, z3⟩ => ?_
  subst e3
  cases d2 with
  | tok n =>
    cases d3 with
    | int i =>
      simp only at z3
      cases hd : tokL s3 n with
      | none => rw [hd] at z3; exact z3.elim
      | some ds =>
        rw [hd] at z3
        simp only at z3
        cases hj : ixN ds.length i with
        | none => rw [hj] at z3; exact z3.elim
        | some j =>
          rw [hj] at z3
          simp only at z3
          split at z3
          · rename_i hf
            obtain ⟨p, vs, rfl, hτ, eH, rr⟩ := tok_list st3.base (r2.ext x3) hd
            cases r3.int_inv
            refine ⟨p, vs, i, j, rfl, rfl, eH, by rw [rr.length]; exact hj, ?_⟩
            have hfl : flats ds = true := by
              unfold tokL at hd
              split at hd
              · rename_i ds' hds
                cases hd
                exact st3.base.flt _ (List.mem_of_getElem? hds)
              · cases hd
            exact z3 σ _ (st3.cellPut hτ (fun _ z => nomatch (z : HO.lst _ = HO.tup _)) ⟨_, upd_same, rr.set ((r1.ext x2).ext x3) j⟩ (flats_set hfl hf))
          · exact z3.elim
    | _ => exact z3.elim
  | _ => exact z3.elim
end
end DL
namespace DL
open PySem PySem.Spec PyProof.Rows L2
variable [LT : LawT]

/-! ### dicts as lists of pairs -/
def dk : D → Option Key
  | .int i => some (.inl i)
  | .str x => some (.inr x)
  | _ => none
def dks : List D → Option (List Key)
  | [] => some []
  | d :: r => (dk d).bind fun k => (dks r).map (k :: ·)
def dkT : D → Option (List Key)
  | .tup xs => dks xs
  | _ => none
theorem dk_kD (k : Key) : dk (kD k) = some k := by cases k <;> rfl
theorem dks_kD : ∀ ks : List Key, dks (ks.map kD) = some ks
  | [] => rfl
  | k :: ks => by simp only [List.map_cons, dks, dk_kD, dks_kD ks]; rfl
theorem dkT_kT (k : List Key) : dkT (kT k) = some k := dks_kD k
theorem kD_of {d : D} {k : Key} (h : dk d = some k) : d = kD k := by
  cases d <;> simp [dk] at h <;> subst h <;> rfl
theorem kDs_of : ∀ {ds : List D} {ks : List Key}, dks ds = some ks → ds = ks.map kD
  | [], _, h => by cases h; rfl
  | d :: r, ks, h => by
    simp only [dks, Option.bind_eq_some_iff, Option.map_eq_some_iff] at h
    obtain ⟨k, h1, ks', h2, rfl⟩ := h
    rw [kD_of h1, kDs_of h2]; rfl
theorem kT_of {d : D} {k : List Key} (h : dkT d = some k) : d = kT k := by
  cases d with
  | tup xs => exact congrArg D.tup (kDs_of h)
  | _ => cases h
inductive PK {κ : Type} (R : V → D → Prop) (f : κ → D) : List (κ × V) → List (D × D) → Prop
  | nil : PK R f [] []
  | cons {k : κ} {v : V} {d : D} {l : List (κ × V)} {m : List (D × D)} : R v d → PK R f l m → PK R f ((k, v) :: l) ((f k, d) :: m)
def getD {κ : Type} [DecidableEq κ] (g : D → Option κ) (l : List (D × D)) (k : κ) : Option D := (l.find? fun p => decide (g p.1 = some k)).map (·.2)
def putD {κ : Type} [DecidableEq κ] (g : D → Option κ) (f : κ → D) (l : List (D × D)) (k : κ) (d : D) : List (D × D) :=
  if (l.any fun p => decide (g p.1 = some k)) = true then l.map (fun p => if g p.1 = some k then (p.1, d) else p) else l ++ [(f k, d)]
section
variable {κ : Type} [DecidableEq κ] {R : V → D → Prop} {f : κ → D} {g : D → Option κ} {l : List (κ × V)} {m : List (D × D)}
theorem PK.get (h : PK R f l m) (hg : ∀ k, g (f k) = some k) (k : κ) : (valV l k = none ∧ getD g m k = none) ∨ ∃ v d, valV l k = some v ∧ getD g m k = some d ∧ R v d := by
  induction h with
  | nil => exact .inl ⟨rfl, rfl⟩
  | @cons k' v d l m r t ih =>
    by_cases e : k' = k
    · subst e
      exact .inr ⟨v, d, by simp [valV], by simp [getD, hg], r⟩
    · have e2 : ¬ g (f k') = some k := by rw [hg]; exact fun z => e (Option.some.inj z)
      rcases ih with ⟨a, b⟩ | ⟨v', d', a, b, r'⟩
      · exact .inl ⟨(valV_neg e).trans a, by unfold getD at b ⊢; rw [List.find?_cons_of_neg (by simpa using e2)]; exact b⟩
      · exact .inr ⟨v', d', (valV_neg e).trans a, by unfold getD at b ⊢; rw [List.find?_cons_of_neg (by simpa using e2)]; exact b, r'⟩
theorem PK.any (h : PK R f l m) (hg : ∀ k, g (f k) = some k) (k : κ) : (l.any fun kv => decide (kv.1 = k)) = (m.any fun p => decide (g p.1 = some k)) := by
  induction h with
  | nil => rfl
  | @cons k' v d l m r t ih =>
    rw [List.any_cons, List.any_cons, ih, hg]
    simp only [Option.some.injEq]
theorem PK.snoc (h : PK R f l m) {v : V} {d : D} (r : R v d) (k : κ) : PK R f (l ++ [(k, v)]) (m ++ [(f k, d)]) := by
  induction h with
  | nil => exact .cons r .nil
  | cons q t ih => exact .cons q ih
theorem PK.upd (h : PK R f l m) (hg : ∀ k, g (f k) = some k) {v : V} {d : D} (r : R v d) (k : κ) : PK R f (l.map (fun kv => if kv.1 = k then (kv.1, v) else kv)) (m.map (fun p => if g p.1 = some k then (p.1, d) else p)) := by
  induction h with
  | nil => exact .nil
  | @cons k' v' d' l m q t ih =>
    simp only [List.map_cons, hg, Option.some.injEq]
    by_cases e : k' = k
    · rw [if_pos e, if_pos e]; exact .cons r ih
    · rw [if_neg e, if_neg e]; exact .cons q ih
theorem PK.put (h : PK R f l m) (hg : ∀ k, g (f k) = some k) {v : V} {d : D} (r : R v d) (k : κ) : PK R f (putK l k v) (putD g f m k d) := by
  unfold putK putD
  rw [h.any hg k]
  split
  · exact h.upd hg r k
  · exact h.snoc r k
theorem PK.len (h : PK R f l m) : l.length = m.length := by
  induction h with
  | nil => rfl
  | cons _ _ ih => rw [List.length_cons, List.length_cons, ih]
theorem PK.imp {R' : V → D → Prop} (h : PK R f l m) (i : ∀ v d, R v d → R' v d) : PK R' f l m := by
  induction h with
  | nil => exact .nil
  | cons q t ih => exact .cons (i _ _ q) ih
end
section
variable {κ : Type} {K : PySem.W.Frag} {mg : Str → Option Value} {G : Hp} {τ : List Addr} {f : κ → D}
theorem pk_of : ∀ {kvs : List (κ × V)} {vs : List D}, RepAll K mg G τ (kvs.map (·.2)) vs → PK (Rep K mg G τ) f kvs ((kvs.map fun p => f p.1).zip vs)
  | [], _, h => by
    cases h
    exact .nil
  | p :: kvs, _, h => by
    rw [List.map_cons] at h
    obtain ⟨p1, p2⟩ := p
    cases h with
    | cons r t => exact .cons r (pk_of t)
theorem pk_to {kvs : List (κ × V)} {l : List (D × D)} (h : PK (Rep K mg G τ) f kvs l) : ∃ vs, RepAll K mg G τ (kvs.map (·.2)) vs ∧ l = (kvs.map fun p => f p.1).zip vs := by
  induction h with
  | nil => exact ⟨[], .nil, rfl⟩
  | cons r t ih =>
    obtain ⟨vs, h1, rfl⟩ := ih
    exact ⟨_ :: vs, .cons r h1, rfl⟩
theorem rep_dK {a : Addr} {kvs : List (Key × V)} {l : List (D × D)} (h : G a = some (.dK kvs)) (p : PK (Rep K mg G τ) kD kvs l) : Rep K mg G τ (.ref a) (.dct l) := by
  obtain ⟨vs, h1, rfl⟩ := pk_to p
  exact .dK h h1
theorem rep_dT {a : Addr} {kvs : List (List Key × V)} {l : List (D × D)} (h : G a = some (.dT kvs)) (p : PK (Rep K mg G τ) kT kvs l) : Rep K mg G τ (.ref a) (.dct l) := by
  obtain ⟨vs, h1, rfl⟩ := pk_to p
  exact .dT h h1
theorem Rep.dct_inv' {v : V} {l : List (D × D)} (h : Rep K mg G τ v (.dct l)) : (∃ a ks, v = .ref a ∧ G a = some (.dK ks) ∧ PK (Rep K mg G τ) kD ks l) ∨ ∃ a ks, v = .ref a ∧ G a = some (.dT ks) ∧ PK (Rep K mg G τ) kT ks l := by
  rcases h.dct_inv with ⟨a, ks, us, rfl, h1, r, rfl⟩ | ⟨a, ks, us, rfl, h1, r, rfl⟩
  · exact .inl ⟨a, ks, rfl, h1, pk_of r⟩
  · exact .inr ⟨a, ks, rfl, h1, pk_of r⟩
end
/-! ### displays with keys ints and texts -/
def evPairs : List (DE × DE) → List Sl → S → Res (List (Key × D))
  | [], _, s => .ok [] s
  | (f, g) :: r, ρ, s => (f ρ s).bind fun k s1 => (g ρ s1).bind fun d s2 => match dk k with
    | some k => (evPairs r ρ s2).bind fun ps s3 => .ok ((k, d) :: ps) s3
    | none => .bad
def mergeD (l : List (Key × D)) : List (D × D) := l.foldl (fun acc kv => putD dk kD acc kv.1 kv.2) []
def eDisp (ps : List (DE × DE)) : DE := fun ρ s => (evPairs ps ρ s).bind fun l s1 => .ok (.dct (mergeD l)) s1
section
variable {X : Cx} {E : WX} {pos : Pos} {keys : List (Option Expr)} {values : List Expr}
structure DPs (X : Cx) (E : WX) (pos : Pos) (keys : List (Option Expr)) (values : List Expr) (ps : List (DE × DE)) : Prop where
  run : PPs X pos keys values (ps.map fun p => (tE X.K X.mg E p.1, tE X.K X.mg E p.2))
theorem ps_nil : DPs X E pos [] [] [] := ⟨pps_nil⟩
theorem ps_cons {k v : Expr} {f g : DE} {ps : List (DE × DE)} (hk : PE X k (tE X.K X.mg E f)) (hv : PE X v (tE X.K X.mg E g)) (hr : DPs X E pos keys values ps) : DPs X E pos (some k :: keys) (v :: values) ((f, g) :: ps) := ⟨pps_cons hk hv hr.run⟩
theorem merge_pk {R : V → D → Prop} : ∀ {kvs : List (Key × V)} {l : List (Key × D)} {acc : List (Key × V)} {m : List (D × D)}, Paired (fun (p : Key × V) (q : Key × D) => p.1 = q.1 ∧ R p.2 q.2) kvs l → PK R kD acc m → PK R kD (mergeK acc kvs) (l.foldl (fun acc kv => putD dk kD acc kv.1 kv.2) m)
  | _, _, acc, m, .nil, h => h
  | _, _, acc, m, .cons (a := a) (b := b) q t, h => merge_pk (acc := putK acc a.1 a.2) (m := putD dk kD m b.1 b.2) t (by rw [q.1]; exact h.put dk_kD q.2 _)
theorem tPairs_ok {W0 : Hw} {σ : L2.St} {ρ : List Sl} : ∀ {ps : List (DE × DE)} {W : Hw} {s : S} {Q : List (V × V) → Hp → Prop}, SSt X.K X.mg W0 W s σ ρ →
    Post X.K X.mg (fun (W' : Hw) (vs : List (V × V)) (l : List (Key × D)) => ∃ kvs : List (Key × V), vs = kvs.map (fun kv => (kV kv.1, kv.2)) ∧ Paired (fun (p : Key × V) (q : Key × D) => p.1 = q.1 ∧ Rep X.K X.mg W'.G W'.τ p.2 q.2) kvs l) (fun u d H' => E u d σ H') (evPairs ps ρ s) W Q →
    tPairs (ps.map fun p => (tE X.K X.mg E p.1, tE X.K X.mg E p.2)) σ W.H Q
  | [], W, s, Q, st, z => z.of_ok st.base ⟨[], rfl, .nil⟩
  | (f, g) :: ps, W, s, Q, st, z => by
    refine (go st z).imp fun x H1 ⟨W1, s1, d1, e1, r1, x1, st1, z1⟩ => ?_
    subst e1
    refine (go st1 z1).imp fun y H2 ⟨W2, s2, d2, e2, r2, x2, st2, z2⟩ => ?_
    subst e2
    cases hk : dk d1 with
    | none => rw [hk] at z2; exact z2.elim
    | some k =>
      rw [hk] at z2
      simp only at z2
      have hx : x = kV k := by
        rw [kD_of hk] at r1
        cases k with
        | inl i => exact r1.int_inv
        | inr t => exact r1.str_inv
      refine tPairs_ok (ps := ps) st2 ?_
      cases hp : evPairs ps ρ s2 with
      | bad => rw [hp] at z2; exact z2
      | exc c s3 => rw [hp] at z2; exact z2
      | ok l s3 =>
        rw [hp] at z2
        refine fun vs W3 x3 B3 ⟨kvs, e3, r3⟩ => z2 _ W3 x3 B3 ⟨(k, y) :: kvs, by rw [e3, hx]; rfl, .cons ⟨rfl, r2.ext x3⟩ r3⟩
theorem e_dict0 : PE X (.Dict [] [] pos) (tE X.K X.mg E (eC (.dct []))) := PE.mono pe_dnewK fun σ H Q z => by
  obtain ⟨W0, W, s, ρ, rfl, st, z⟩ := z
  intro p hp
  exact newFrz st.base hp _ z fun W' E' e' => rep_dK e' .nil
theorem e_disp {ps : List (DE × DE)} (h : DPs X E pos keys values ps) (hall : keys.all (·.isSome) = true := by rfl) (hl : keys.length = values.length := by rfl) (h0 : keys ≠ [] := by exact fun z => nomatch z)
    (h15 : keys.length ≤ 15 := by decide) (hps : ps.length ≤ 15 := by decide) : PE X (.Dict keys values pos) (tE X.K X.mg E (eDisp ps)) := PE.mono (pe_disp h.run hall hl h0 h15) fun σ H Q z => by
  obtain ⟨W0, W, s, ρ, rfl, st, z⟩ := z
  intro p hp
  obtain ⟨B2, x2⟩ := st.base.newL hp (o := .dK []) (fun _ z => nomatch z)
  have st2 := st.step x2 B2
  have hG : W.G p = none := st.base.frz_none hp
  have ht : p ∉ W.τ := fun m => st.base.tau_some m hp
  refine tPairs_ok (W := ⟨upd W.H p (.dK []), W.G, W.τ⟩) st2 ?_
  unfold eDisp at z
  have hlen : ∀ {ps : List (DE × DE)} {s s' : S} {l : List (Key × D)}, evPairs ps ρ s = .ok l s' → l.length = ps.length := fun {ps} => by
    induction ps with
    | nil => intro s s' l e; unfold evPairs at e; cases e; rfl
    | cons q ps ih =>
      intro s s' l e
      obtain ⟨f, g⟩ := q
      unfold evPairs at e
      cases hf : f ρ s with
      | ok k s1 =>
        rw [hf] at e
        simp only [Res.bind] at e
        cases hg : g ρ s1 with
        | ok d s2 =>
          rw [hg] at e
          simp only at e
          cases hk : dk k with
          | none => rw [hk] at e; cases e
          | some k =>
            rw [hk] at e
            simp only at e
            cases hr : evPairs ps ρ s2 with
            | ok l2 s3 =>
              rw [hr] at e
              cases e
              rw [List.length_cons, List.length_cons, ih hr]
            | exc _ _ => rw [hr] at e; cases e
            | bad => rw [hr] at e; cases e
        | exc _ _ => rw [hg] at e; cases e
        | bad => rw [hg] at e; cases e
      | exc _ _ => rw [hf] at e; cases e
      | bad => rw [hf] at e; cases e
  cases he : evPairs ps ρ s with
  | bad => rw [he] at z; exact z.elim
  | exc c s1 =>
    rw [he] at z
    exact fun W' u e' B' hu => z W' u (x2.trans B2 e') B' hu
  | ok l s1 =>
    rw [he] at z
    refine fun vs W3 x3 B3 ⟨kvs, e3, r3⟩ => ?_
    have h3 : W3.H p = some (.dK []) := x3.keep p _ upd_same ht
    refine ⟨h3, kvs, e3, ?_, ?_⟩
    · rw [Paired.length r3, hlen he]; exact hps
    have g3 : W3.G p = none := (x3.out p (by show upd W.H p _ p ≠ none; rw [upd_same]; exact fun z => nomatch z)).trans hG
    have t3 : p ∉ W3.τ := fun m => by
      have := x3.tnew p m ht
      have e : upd W.H p (.dK []) p = none := this
      rw [upd_same] at e; cases e
    have pk := merge_pk (acc := []) (m := []) r3 .nil
    -- the heap behind: p is written and frozen
    have q : SSt X.K X.mg (⟨upd W.H p (.dK []), W.G, W.τ⟩ : Hw) W3 s1 [] [] := ⟨x3, B3, rfl, fun i x y e => by simp at e, fun i j a y z _ e => by simp at e⟩
    have mono : Same W3.G (upd W3.G p (.dK (mergeK [] kvs))) := upd_new g3
    have pl : ∀ u, W3.H p = some u → (∀ ps, u ≠ .tbl ps) ∧ ∀ q, u ≠ LamX.CodeO p q := fun u hu => by rw [h3] at hu; cases hu; exact ⟨(fun _ z => nomatch z), (fun _ z => nomatch z)⟩
    refine z (.ref p) ⟨upd W3.H p (.dK (mergeK [] kvs)), upd W3.G p (.dK (mergeK [] kvs)), W3.τ⟩ ⟨fun b o e n => ?_, fun b o e => ?_, fun b e => ?_, x2.tpre.trans x3.tpre, fun b m n => ?_, fun t => tabs_upd pl (x3.tab (tabs_new hp t))⟩ ⟨fun b o e => ?_, fun b xs e => ?_, fun b m => ?_, B3.nd, B3.len, fun n c b h1 h2 => ?_, B3.flt, tabs_upd pl B3.tab, nog_upd (fun _ z => nomatch z) B3.nog, all_upd (fun _ z => nomatch z) B3.all⟩ (rep_dK upd_same (pk.imp fun v d r => r.mono mono (List.prefix_refl _)))
    · have nb : b ≠ p := fun z => by rw [z, hp] at e; cases e
      rcases x3.keep0 b o ((upd_ne nb).trans e) n with z | ⟨ps, ps', z1, z2⟩
      · exact .inl ((upd_ne nb).trans z)
      · exact .inr ⟨ps, ps', z1, (upd_ne nb).trans z2⟩
    · exact mono _ _ (x3.grow _ _ e)
    · have nb : b ≠ p := fun z => e (z ▸ hp)
      exact (upd_ne nb).trans (x3.out b (by show upd W.H p _ b ≠ none; rw [upd_ne nb]; exact e))
    · have := x3.tnew b m n
      have e : upd W.H p (.dK []) b = none := this
      by_cases hb : b = p
      · rw [hb, upd_same] at e; cases e
      · rw [upd_ne hb] at e; exact e
    · dsimp only at e ⊢
      by_cases hb : b = p
      · subst hb; rw [upd_same] at e ⊢; exact e
      · rw [upd_ne hb] at e ⊢; exact B3.sub b o e
    · dsimp only at e ⊢
      by_cases hb : b = p
      · subst hb; rw [upd_same] at e; cases e
      · rw [upd_ne hb] at e ⊢; exact B3.tupI b xs e
    · show upd W3.G p _ b = none
      rw [upd_ne (fun z : b = p => t3 (z ▸ m))]
      exact B3.spc b m
    · have nb : b ≠ p := fun z => t3 (z ▸ List.mem_of_getElem? h2)
      have q := B3.cel n c b h1 h2
      cases c with
      | l ds =>
        obtain ⟨us, e, r⟩ := q
        exact ⟨us, (upd_ne nb).trans e, r.mono mono (List.prefix_refl _)⟩
      | o c fs =>
        obtain ⟨C, dx, us, e0, e, r⟩ := q
        exact ⟨C, dx, us, e0, (upd_ne nb).trans e, r.mono mono (List.prefix_refl _)⟩
      | d fs =>
        obtain ⟨us, e, r⟩ := q
        exact ⟨us, (upd_ne nb).trans e, r.mono mono (List.prefix_refl _)⟩
      | t fs =>
        obtain ⟨us, e, r⟩ := q
        exact ⟨us, (upd_ne nb).trans e, r.mono mono (List.prefix_refl _)⟩
end
end DL
namespace DL
open PySem PySem.Spec PyProof.Rows L2
variable [LT : LawT]

/-! ### sep.join -/
def strsOf : List D → Option (List Str)
  | [] => some []
  | .str i :: r => (strsOf r).map (i :: ·)
  | _ => none
theorem strs_inv {K : PySem.W.Frag} {mg : Str → Option Value} {G : Hp} {τ : List Addr} : ∀ {ds : List D} {vs : List V} {ns : List Str}, strsOf ds = some ns → RepAll K mg G τ vs ds → vs = ns.map V.str
  | [], _, _, h, r => by
    cases h
    rw [r.nil_inv]
    rfl
  | d :: ds, _, _, h, r => by
    obtain ⟨v, us, rfl, rv, ru⟩ := r.cons_inv
    cases d with
    | str i =>
      simp only [strsOf, Option.map_eq_some_iff] at h
      obtain ⟨ns, h, rfl⟩ := h
      rw [strs_inv h ru, rv.str_inv]
      rfl
    | _ => cases h
def dSeq : D → Option (List D)
  | .lst xs => some xs
  | .frz xs => some xs
  | .tup xs => some xs
  | .ktp xs => some xs
  | _ => none
theorem seq_inv {K : PySem.W.Frag} {mg : Str → Option Value} {W : Hw} {s : S} {v : V} {d : D} {ds : List D} (B : Base K mg W s) (r : Rep K mg W.G W.τ v d) (h : dSeq d = some ds) : ∃ a xs, v = .ref a ∧ (SqL K W.H a xs ∨ SqT K W.H a xs) ∧ RepAll K mg W.G W.τ xs ds := by
  cases d with
  | lst xs => cases h; obtain ⟨a, ys, rfl, hl, rr⟩ := r.seqL B.sub (.inl rfl); exact ⟨a, ys, rfl, .inl hl, rr⟩
  | frz xs => cases h; obtain ⟨a, ys, rfl, hl, rr⟩ := r.seqL B.sub (.inr rfl); exact ⟨a, ys, rfl, .inl hl, rr⟩
  | tup xs => cases h; obtain ⟨a, ys, rfl, hl, rr⟩ := r.tup_inv; exact ⟨a, ys, rfl, .inr (seqT B.sub hl), rr⟩
  | ktp xs => cases h; obtain ⟨a, ys, rfl, hl, rr⟩ := r.ktp_inv; exact ⟨a, ys, rfl, .inr (seqT B.sub hl), rr⟩
  | _ => cases h
/-- a text's method of one argument -/
def eMs1 (g : Str → D → Option D) (f h : DE) : DE := fun ρ s => (f ρ s).bind fun x s1 => match x with
  | .str a => (h ρ s1).bind fun y s2 => Res.ofO (g a y) s2
  | _ => .bad
def eMs0 (g : Str → Option D) (f : DE) : DE := fun ρ s => (f ρ s).bind fun x s1 => match x with
  | .str a => Res.ofO (g a) s1
  | _ => .bad
def VM1 (K : PySem.W.Frag) (mg : Str → Option Value) (r : V → List V → Hp → VK → Prop) (g : Str → D → Option D) : Prop :=
  ∀ (W : Hw) (s : S) (a : Str) (y : V) (d z : D) (Q : VK), Base K mg W s → Rep K mg W.G W.τ y d → g a d = some z → (∀ v W', Ext W W' → Base K mg W' s → Rep K mg W'.G W'.τ v z → Q v W'.H) → r (.str a) [y] W.H Q
def VM0 (K : PySem.W.Frag) (mg : Str → Option Value) (r : V → List V → Hp → VK → Prop) (g : Str → Option D) : Prop :=
  ∀ (W : Hw) (s : S) (a : Str) (z : D) (Q : VK), Base K mg W s → g a = some z → (∀ v W', Ext W W' → Base K mg W' s → Rep K mg W'.G W'.τ v z → Q v W'.H) → r (.str a) [] W.H Q
section
variable {X : Cx} {o e : Expr} {f h : DE} {E : WX} {id : String} {name : Str} {r : V → List V → Hp → VK → Prop} {apos pos : Pos}
theorem e_ms1 {g : Str → D → Option D} (slot : Slot "str" name id) (ty : typeOf (.builtin id) = pure (.type "method_descriptor")) (rule : MtR X id r) (hv : VM1 X.K X.mg r g) (ho : PE X o (tE X.K X.mg E f)) (he : PE X e (tE X.K X.mg E h))
    (hs : starEach [e] X.env = [(false, eval e X.env)] := by rfl) (hbase : attributeBase o name X.env (eval o X.env) = eval o X.env := by rfl) (hline : (apos.endLine == pos.line) = true := by rfl) :
    PE X (.Call (.Attribute o name apos) [e] [] pos) (tE X.K X.mg E (eMs1 g f h)) := PE.mono (pe_m1 slot ty rule ho he hs hbase hline) fun σ H Q z => by
  obtain ⟨W0, W, s, ρ, rfl, st, z⟩ := z
  refine (go st z).imp fun x H1 ⟨W1, s1, d1, e1, r1, x1, st1, z1⟩ => ?_
  subst e1
  cases d1 with
  | str a =>
    cases r1.str_inv
    refine ⟨⟨a, rfl⟩, (go st1 z1).imp fun y H2 ⟨W2, s2, d2, e2, r2, x2, st2, z2⟩ => ?_⟩
    subst e2
    cases hz : g a d2 with
    | none => rw [hz] at z2; exact z2.elim
    | some d => rw [hz] at z2; exact hv W2 s2 a y d2 d Q st2.base r2 hz z2
  | _ => exact z1.elim
theorem e_ms0 {g : Str → Option D} (slot : Slot "str" name id) (ty : typeOf (.builtin id) = pure (.type "method_descriptor")) (rule : MtR X id r) (hv : VM0 X.K X.mg r g) (ho : PE X o (tE X.K X.mg E f))
    (hbase : attributeBase o name X.env (eval o X.env) = eval o X.env := by rfl) (hline : (apos.endLine == pos.line) = true := by rfl) :
    PE X (.Call (.Attribute o name apos) [] [] pos) (tE X.K X.mg E (eMs0 g f)) := PE.mono (pe_m0 slot ty rule ho hbase hline) fun σ H Q z => by
  obtain ⟨W0, W, s, ρ, rfl, st, z⟩ := z
  refine (go st z).imp fun x H1 ⟨W1, s1, d1, e1, r1, x1, st1, z1⟩ => ?_
  subst e1
  cases d1 with
  | str a =>
    cases r1.str_inv
    refine ⟨⟨a, rfl⟩, ?_⟩
    simp only at z1
    cases hz : g a with
    | none => rw [hz] at z1; exact z1.elim
    | some d => rw [hz] at z1; exact hv W1 s1 a d Q st1.base hz z1
  | _ => exact z1.elim
end
def dJoin (a : Str) (y : D) : Option D := match dSeq y with
  | some l => match strsOf l with
    | some ys => if (ys.map (·.length)).sum + ys.length * a.length ≤ 16777216 then some (.str (Txt.join a ys)) else none
    | none => none
  | none => none
def rJoin (K : PySem.W.Frag) : V → List V → Hp → VK → Prop := fun x xs H Q => ∃ a p, ∃ ys : List Str, x = .str a ∧ xs = [.ref p] ∧ (SqL K H p (ys.map V.str) ∨ SqT K H p (ys.map V.str)) ∧
    (ys.map (·.length)).sum + ys.length * a.length ≤ 16777216 ∧ Q (.str (Txt.join a ys)) H
theorem v_join {K : PySem.W.Frag} {mg : Str → Option Value} : VM1 K mg (rJoin K) dJoin := fun W s a y d z Q B ry hz q => by
  unfold dJoin at hz
  split at hz
  · rename_i l hl
    split at hz
    · rename_i ys hys
      split at hz
      · cases hz
        obtain ⟨p, xs, rfl, hq, rr⟩ := seq_inv B ry hl
        rw [strs_inv hys rr] at hq
        exact ⟨a, p, ys, rfl, rfl, hq, by assumption, stay B q (.str _)⟩
      · cases hz
    · cases hz
  · cases hz
section
variable {X : Cx} {o e : Expr} {f h : DE} {E : WX} {apos pos : Pos}
theorem e_join (ho : PE X o (tE X.K X.mg E f)) (he : PE X e (tE X.K X.mg E h)) (hs : starEach [e] X.env = [(false, eval e X.env)] := by rfl) (hbase : attributeBase o "join" X.env (eval o X.env) = eval o X.env := by rfl)
    (hline : (apos.endLine == pos.line) = true := by rfl) : PE X (.Call (.Attribute o "join" apos) [e] [] pos) (tE X.K X.mg E (eMs1 dJoin f h)) :=
  e_ms1 F.slot_str_join F.type_str_join mt_join v_join ho he hs hbase hline
end
/-! ### what the module's names hold -/
/-- the module's name x holds the plain value d -/
def KVal (K : PySem.W.Frag) (mg : Str → Option Value) (x : Str) (d : D) : Prop := ∃ v u, mg x = some u ∧ RelV v u ∧ ∀ G τ, Rep K mg G τ v d
/-- the module's name x holds the def st -/
def FnAt (K : PySem.W.Frag) (mg : Str → Option Value) (x : Str) (st : Stmt) : Prop := ∃ f fd, Fun K x x st f fd ∧ mg x = some (.ref f)
section
variable {K : PySem.W.Frag} {mg : Str → Option Value} {h : Heap} {x : Str}
theorem mkF {st : Stmt} {f : Addr} {oc kV dc pm cd ct : Value} {od an : Option Addr} {sl : Array (Option Value)} (X : K.In h) (G : h.Ns mainGlobals mg) (a : PySem.W.nsIn K mainGlobals x = some (some (.ref f)))
    (l : K.lookup f = some ⟨oc, od, .func (PySem.W.fnOf x x (defArgs st) (defBody st) (defScope st) .none kV dc pm an cd ct), sl⟩) (c : PySem.W.codeIn K cd x = true) (k : PySem.W.keepIn K (.ref f) = true) : FnAt K mg x st :=
  ⟨f, _, fun_mk l c k, PySem.W.mg_of X G a⟩
theorem mkI {i : Int} {t : Tok} (X : K.In h) (G : h.Ns mainGlobals mg) (a : PySem.W.nsIn K mainGlobals x = some (some (.int i t))) : KVal K mg x (.int i) := ⟨.int i, .int i t, PySem.W.mg_of X G a, ⟨t, rfl⟩, fun _ _ => .int i⟩
theorem mkS {i : Str} {t : Tok} (X : K.In h) (G : h.Ns mainGlobals mg) (a : PySem.W.nsIn K mainGlobals x = some (some (.str i t))) : KVal K mg x (.str i) := ⟨.str i, .str i t, PySem.W.mg_of X G a, ⟨t, rfl⟩, fun _ _ => .str i⟩
theorem mkT2 {p : Addr} {i j : Int} {t u : Tok} {dd : Option Addr} {n : Nat} {sl : Array (Option Value)} (X : K.In h) (G : h.Ns mainGlobals mg) (a : PySem.W.nsIn K mainGlobals x = some (some (.ref p)))
    (l : K.lookup p = some ⟨.type "tuple", dd, .seq #[.int i t, .int j u] n, sl⟩) : KVal K mg x (.ktp [.int i, .int j]) :=
  ⟨.ref p, .ref p, PySem.W.mg_of X G a, rfl, fun _ _ => .ktp (xs := [.int i, .int j]) (.inr ⟨_, #[.int i t, .int j u], n, l, rfl, rfl, by rw [sizeLine_eq]; exact Nat.le_of_ble_eq_true rfl, .cons ⟨t, rfl⟩ (.cons ⟨u, rfl⟩ .nil)⟩) (.cons (.int i) (.cons (.int j) .nil))⟩
theorem mkN (X : K.In h) (G : h.Ns mainGlobals mg) (a : PySem.W.nsIn K mainGlobals x = some none) : mg x = none := PySem.W.mg_none_of X G a
end
section
variable {X : Cx} {E : WX} {pos : Pos}
theorem e_kst {x : Str} {d : D} (h : KVal X.K X.mg x d) (hg : Gl X x := by rfl) (hd : (x == ("__debug__" : Str)) = false := by decide) : PE X (.Name x pos) (tE X.K X.mg E (eC d)) := by
  obtain ⟨v, u, hm, rv, r⟩ := h
  exact e_const (pe_glob hg hm rv hd) r
theorem hu64 {k : Nat} {A : Around} (hr : Room k A) : A.units + 64 < cLine := by have := hr.un; omega
theorem hu94 {k : Nat} {A : Around} (hr : Room k A) : A.units + 94 < cLine := by have := hr.un; omega
theorem hu65 {k : Nat} {A : Around} (hr : Room k A) : A.units + 65 < cLine := by have := hr.un; omega
end
end DL
namespace DL
open PySem PySem.Spec PyProof.Rows L2
variable [LT : LawT]

/-! ### bodies that always end with return -/
def NoNx (g : DS) : Prop := ∀ ρ s ρ' s', g ρ s ≠ .next ρ' s'
theorem nn_seq {g h : DS} (n : NoNx h) : NoNx (sSeq g h) := fun ρ s ρ' s' e => by
  unfold sSeq at e
  cases hg : g ρ s with
  | next ρ1 s1 => rw [hg] at e; exact n _ _ _ _ e
  | ret d s1 => rw [hg] at e; cases e
  | brk ρ1 s1 => rw [hg] at e; cases e
  | cont ρ1 s1 => rw [hg] at e; cases e
  | exc c s1 => rw [hg] at e; cases e
  | bad => rw [hg] at e; cases e
theorem nn_ret {f : DE} : NoNx (sRet f) := fun ρ s ρ' s' e => by
  unfold sRet Res.thenS at e
  cases hg : f ρ s with
  | ok d s1 => rw [hg] at e; cases e
  | exc c s1 => rw [hg] at e; cases e
  | bad => rw [hg] at e; cases e
theorem nn_retOwn {i : Nat} : NoNx (sRetOwn i) := fun ρ s ρ' s' e => by
  unfold sRetOwn at e
  split at e <;> cases e
theorem nn_if {c : DT} {g h : DS} (n : NoNx g) (m : NoNx h) : NoNx (sIf c g h) := fun ρ s ρ' s' e => by
  unfold sIf Res.thenS at e
  cases hg : c ρ s with
  | ok d s1 =>
    rw [hg] at e
    cases d with
    | true => exact n _ _ _ _ e
    | false => exact m _ _ _ _ e
  | exc c s1 => rw [hg] at e; cases e
  | bad => rw [hg] at e; cases e
theorem nn_frz {i : Nat} {g : DS} (n : NoNx g) : NoNx (sFrz i g) := fun ρ s ρ' s' e => n _ _ _ _ e
/-! ### name = [.. for ..] -/
section
variable {X : Cx} {E : WX} {fr : Bool} {tg iter elt : Expr} {ifs : List Expr} {fi : DA} {g : DG} {c : DT} {f : DE}
theorem s_setC {i : Nat} {y : Str} {py pos spos : Pos} {scope : Scope} (own : List (Str × Nat)) (hc : X.calm = true) (hN : X.N.Nodup) (hi : PI X tg iter (tI X.K X.mg E fi)) (ok : BlkOk X.N X.env.scope scope own)
    (hg : ∀ (s : Shared) (H : Hp) (C : Addr) (cl : List (Str × Addr)) (fp : List Addr), PG (X.blk s H scope (compEnvC scope cl C X.env) fp) tg (PG' X.K X.mg (own.map (·.2)) g))
    (ht : ∀ (s : Shared) (H : Hp) (C : Addr) (cl : List (Str × Addr)) (fp : List Addr), PTs (X.blk s H scope (compEnvC scope cl C X.env) fp) ifs (tT X.K X.mg E0x c))
    (he : ∀ (s : Shared) (H : Hp) (C : Addr) (cl : List (Str × Addr)) (fp : List Addr), PE (X.blk s H scope (compEnvC scope cl C X.env) fp) elt (tE X.K X.mg E0x f)) (hs : ∀ x, foldedSetIterable iter X.env x = pure x := by intro _; rfl)
    (hy : X.N[i]? = some y := by rfl) (hyl : X.env.scope.names.lookup y = some .local := by rfl) (hsw : swapsWith (.ListComp elt [⟨tg, iter, ifs, 0⟩] scope pos) (some (.Name y py)) spos.line X.env = pure true := by rfl) :
    QS X E fr (.Assign [.Name y py] (.ListComp elt [⟨tg, iter, ifs, 0⟩] scope pos) spos) (sSet i (eComp (own.map (·.2)) fi g c f)) := PS.mono (ps_setLc hc hN hy hyl hsw hi ok hg ht he hs) fun σ H T z => by
  obtain ⟨W0, W, s, ρ, rfl, st, z⟩ := z
  refine r_comp (E := E) _ _ _ _ (r_ofF _ _ _ ((goS st z).imp fun x H1 ⟨W1, s1, d1, e1, r1, x1, st1, z1⟩ => ?_))
  subst e1
  exact z1 _ W1 (st1.setDat r1 i)
theorem s_ownC {i : Nat} {y : Str} {py pos spos : Pos} {scope : Scope} (own : List (Str × Nat)) (hc : X.calm = true) (hN : X.N.Nodup) (hi : PI X tg iter (tI X.K X.mg E fi)) (ok : BlkOk X.N X.env.scope scope own)
    (hg : ∀ (s : Shared) (H : Hp) (C : Addr) (cl : List (Str × Addr)) (fp : List Addr), PG (X.blk s H scope (compEnvC scope cl C X.env) fp) tg (PG' X.K X.mg (own.map (·.2)) g))
    (ht : ∀ (s : Shared) (H : Hp) (C : Addr) (cl : List (Str × Addr)) (fp : List Addr), PTs (X.blk s H scope (compEnvC scope cl C X.env) fp) ifs (tT X.K X.mg E0x c))
    (he : ∀ (s : Shared) (H : Hp) (C : Addr) (cl : List (Str × Addr)) (fp : List Addr), PE (X.blk s H scope (compEnvC scope cl C X.env) fp) elt (tE X.K X.mg E0x f)) (hs : ∀ x, foldedSetIterable iter X.env x = pure x := by intro _; rfl)
    (hy : X.N[i]? = some y := by rfl) (hyl : X.env.scope.names.lookup y = some .local := by rfl) (hsw : swapsWith (.ListComp elt [⟨tg, iter, ifs, 0⟩] scope pos) (some (.Name y py)) spos.line X.env = pure true := by rfl) :
    QS X E fr (.Assign [.Name y py] (.ListComp elt [⟨tg, iter, ifs, 0⟩] scope pos) spos) (sOwn i (eComp (own.map (·.2)) fi g c f)) := PS.mono (ps_setLc hc hN hy hyl hsw hi ok hg ht he hs) fun σ H T z => by
  obtain ⟨W0, W, s, ρ, rfl, st, z⟩ := z
  refine r_comp (E := E) _ _ _ _ ((goS st z).imp fun x H1 ⟨W1, s1, d1, e1, r1, x1, st1, z1⟩ => ?_)
  subst e1
  obtain ⟨a, vs, ds, rfl, rfl, n0, nG, nt, eH, rv⟩ := r1
  exact z1 _ W1 (st.setOwn st1 n0 (.own ⟨old_none st.ext st.base n0, nG, nt⟩ eH rv) i)
end
end DL
namespace DL
open PySem PySem.Spec PyProof.Rows L2
variable [LT : LawT]

/-! ### x[::-1] -/
section
variable {prog : Program} {w : World} {A : Around} {E : Value → Shared → Prop} {s : Shared}
theorem sliceApplied_rev {sl : Addr} {vl vu vs : Value} {n : Nat} {Q : Int × Int × Nat → Shared → Prop} (hs : s.heap.IsSliceOf sl vl vu vs) (pl : IsPart vl none) (pu : IsPart vu none) (ps : IsPart vs (some (-1)))
    (h : Q ((n : Int) - 1, -1, n) s) : wpAny (model prog w) A (Builtin.Slice.sliceApplied (.ref sl) (pure (n : Int))) Q E s := by
  obtain ⟨os, hos, hcs, hds⟩ := id hs
  unfold Builtin.Slice.sliceApplied Builtin.Slice.sliceFields
  refine wpAny_bind (wpAny_bind (wpAny_field hos hds (x := vl) rfl (wpAny_bind (wpAny_field hos hds (x := vu) rfl (wpAny_bind (wpAny_field hos hds (x := vs) rfl (wpAny_pure ?_)))))))
  refine wpAny_bind (HT.slicePart_ ps ?_)
  show wpAny _ _ (if ((-1 : Int) == 0) = true then _ else _) _ _ s
  rw [if_neg (by decide)]
  refine wpAny_bind (HT.slicePart_ pl (wpAny_bind (HT.slicePart_ pu (wpAny_bind (wpAny_pure ?_)))))
  have e1 : Builtin.Slice.sliceAdjust none none (-1) (n : Int) = ((n : Int) - 1, -1) := rfl
  have e2 : Builtin.Slice.slicePlaces ((n : Int) - 1) (-1) (-1) = n := by
    unfold Builtin.Slice.slicePlaces
    rw [if_neg (by decide)]
    by_cases hn : (n : Int) - 1 > -1
    · rw [if_pos hn]
      have : ((n : Int) - 1 - -1 - 1) / (- -1) + 1 = n := by
        rw [show (- -1 : Int) = 1 by decide, Int.ediv_one]
        omega
      rw [this]
      exact Int.toNat_natCast n
    · rw [if_neg hn]
      have : n = 0 := by omega
      rw [this]
      rfl
  show wpAny _ _ (match Builtin.Slice.sliceAdjust none none (-1) (n : Int) with | (lo, hi) => pure (lo, (-1 : Int), Builtin.Slice.slicePlaces lo hi (-1))) _ _ s
  rw [e1]
  show wpAny _ _ (pure ((n : Int) - 1, (-1 : Int), Builtin.Slice.slicePlaces ((n : Int) - 1) (-1) (-1))) _ _ s
  rw [e2]
  exact wpAny_pure h
theorem pick_rev (xs : Array Value) : ((List.range xs.size).filterMap fun (k : Nat) => xs[((xs.size : Int) - 1 + (k : Int) * -1).toNat]?) = xs.toList.reverse := by
  refine List.ext_getElem? fun i => ?_
  have key : ∀ n, n ≤ xs.size → ((List.range n).filterMap fun (k : Nat) => xs[((xs.size : Int) - 1 + (k : Int) * -1).toNat]?) = xs.toList.reverse.take n := by
    intro n
    induction n with
    | zero => intro _; rfl
    | succ n ih =>
      intro hn
      rw [List.range_succ, List.filterMap_append, ih (by omega), List.take_add_one]
      congr 1
      have e : ((xs.size : Int) - 1 + (n : Int) * -1).toNat = xs.size - 1 - n := by omega
      have h2 : xs.size - 1 - n < xs.size := by omega
      simp only [List.filterMap_cons, List.filterMap_nil, e]
      rw [Array.getElem?_eq_getElem h2]
      rw [List.getElem?_reverse (by rw [Array.length_toList]; exact hn)]
      simp [h2]
  rw [key _ (Nat.le_refl _)]
  rw [List.take_of_length_le (by simp)]
theorem getItem_tuple_rev {t sl : Addr} {items : Array Value} {vl vu vs : Value} {Q : Value → Shared → Prop} (ht : IsTup s.heap t items) (hs : s.heap.IsSliceOf sl vl vu vs) (pl : IsPart vl none) (pu : IsPart vu none) (ps : IsPart vs (some (-1)))
    (h : Q (.ref s.heap.objs.size) { s with heap := s.heap.push { cls := .type "tuple", data := .seq items.toList.reverse.toArray } }) (hsz : items.size ≤ sizeLine) : wpAny (model prog w) A (getItem (.ref t) (.ref sl)) Q E s := by
  have htake : sizeOk (.seq items.toList.reverse.toArray) := by
    show items.toList.reverse.toArray.size ≤ sizeLine
    rw [List.size_toArray, List.length_reverse, Array.length_toList]
    exact hsz
  obtain ⟨os, hos, hcs, hds⟩ := id hs
  have hTs : s.TypeIs (.ref sl) "slice" := ⟨os, hos, hcs⟩
  unfold getItem
  try with_reducible refine wpAny_holding ?_
  first | refine wpAny_bind (wpAny_pure ?_) | skip
  refine wpAny_bind (wpAny_sequenceKey ht.typeIs (by decide) ?_)
  refine wpAny_bind (wpAny_callSpecial?_slot (name := Str.ofString "__getitem__") ht.typeIs PyProof.Rows.slot_tuple_getitem
    (wpAny_call_entry PyProof.Rows.slot_tuple_getitem ht.typeIs entry_tuple_getitem ?_ (args_tuple_getitem _ _)))
  show wpAny _ _ (Builtin.Tuple.tupleItemsOf (.ref t) >>= _) _ _ s
  refine wpAny_bind (tupleItemsOf_ ht ?_)
  refine wpAny_bind (wpAny_typeOf hTs ?_)
  rw [if_pos (by decide)]
  refine wpAny_bind (sliceApplied_rev hs pl pu ps ?_)
  show wpAny _ _ (if (((items.size : Int) - 1) == 0 && (-1 : Int) == 1 && items.size == items.size) = true then _ else _) _ _ s
  rw [if_neg (by simp), pick_rev]
  first
    | exact wpAny_bind (m := Builtin.Tuple.tupleExact _) (wpAny_newObj_type (wpAny_pure ⟨_, rfl, wpAny_pure h⟩) htake)
    | exact wpAny_bind (m := Builtin.Tuple.tupleExact _) (wpAny_newObj_type (wpAny_bind (wpAny_pure (wpAny_pure ⟨_, rfl, wpAny_pure h⟩))) htake)
    | exact wpAny_bind (wpAny_bind (m := Builtin.Tuple.tupleExact _) (wpAny_newObj_type (wpAny_pure (wpAny_pure ⟨_, rfl, wpAny_pure h⟩)) htake))
    | exact wpAny_bind (wpAny_bind (m := Builtin.Tuple.tupleExact _) (wpAny_newObj_type (wpAny_pure ⟨_, rfl, wpAny_pure h⟩) htake))
end
section
variable {X : Cx}
def tRevT (K : PySem.W.Frag) (te : TE) : TE := fun σ H Q => te σ H fun x H1 => ∃ a xs, x = .ref a ∧ SqT K H1 a xs ∧ ∀ p, H1 p = none → Q (.ref p) (upd H1 p (.tup xs.reverse))
theorem pe_revT {e : Expr} {te : TE} {k : Nat} {p1 p2 p3 pos : Pos} (he : PE X e te) : PE X (.Subscript e (.Slice none none (some (.UnaryOp .USub (.Constant (.int 1) k p1) p2)) p3) pos) (tRevT X.K te) := by
  refine ⟨fun pins s σ H Q I h => ?_⟩
  refine Subscript_ (thn (he.run pins s σ H _ I h) fun v s1 ⟨x, H1, I1, r1, q1⟩ => ?_)
  obtain ⟨a, xs, ex, hx, q⟩ := q1
  subst ex
  cases r1
  have hst : PO X (some (.UnaryOp .USub (.Constant (.int 1) k p1) p2)) (tPart (tUn (rU fun i => .int (-i)) (tC (.int 1)))) := po_some (pe_un un_neg pe_int)
  refine wpAny_Slice (thn (po_none.run pins s1 σ H1 (fun o H2 => o = none ∧ H2 = H1) I1 ⟨rfl, rfl⟩) fun vl s2 ⟨l, H2, I2, pl, el, e2⟩ => ?_)
  subst el e2
  refine thn (po_none.run pins s2 σ H2 (fun o H3 => o = none ∧ H3 = H2) I2 ⟨rfl, rfl⟩) fun vu s3 ⟨u, H3, I3, pu, eu, e3⟩ => ?_
  subst eu e3
  refine thn (hst.run pins s3 σ H3 (fun o H4 => o = some (-1) ∧ H4 = H3) I3 ⟨1, rfl, -1, rfl, rfl, rfl⟩) fun vs s4 ⟨o, H4, I4, ps, eo, e4⟩ => ?_
  subst eo e4
  have I5 : Inv X pins σ H4 { s4 with heap := s4.heap.push { cls := .type "slice", data := .fields #[vl, vu, vs] } } := I4.kept (t' := s4.toks) fun b ob q => Heap.get?_push_of_some _ q
  obtain ⟨its, r, ht, hz⟩ := I5.tuple hx
  have hlen := r.length
  show wpAny (model X.prog X.w) X.A (subscriptTail e (.Slice none none (some (.UnaryOp .USub (.Constant (.int 1) k p1) p2)) p3) (.ref a) (.ref s4.heap.objs.size)) (EP X pins σ Q) X.xe { s4 with heap := s4.heap.push { cls := .type "slice", data := .fields #[vl, vu, vs] } }
  refine tail_any (ops := [.ref a, .ref s4.heap.objs.size]) ht.typeIs (PyProof.Rows.slot_tuple_getitem.lookup) ?_ (by with_unfolding_all rfl)
  refine getItem_tuple_rev ht (Heap.IsSliceOf.new _ vl vu vs) pl pu ps ?_ (by rw [List.size_toArray]; omega)
  rw [List.toList_toArray]
  refine ⟨.ref _, _, I5.laid (t' := s4.toks) (o := .tup xs.reverse) (fun b ob q => Heap.get?_push_of_some _ q) (Nat.le_refl _) ?_, rfl, q _ (I5.hok.fresh (Nat.le_refl _))⟩
  exact ⟨by rw [List.length_reverse]; exact hz, _, r.reverse, IsTup.new _ _⟩
def dRevS : D → Option D
  | .tup xs => some (.tup xs.reverse)
  | .lst xs => some (.lst xs.reverse)
  | _ => none
def eRevS (f : DE) : DE := fun ρ s => (f ρ s).bind fun d s1 => Res.ofO (dRevS d) s1
theorem e_revS {e : Expr} {f : DE} {E : WX} {k : Nat} {p1 p2 p3 pos : Pos} (he : PE X e (tE X.K X.mg E f)) : PE X (.Subscript e (.Slice none none (some (.UnaryOp .USub (.Constant (.int 1) k p1) p2)) p3) pos) (tE X.K X.mg E (eRevS f)) :=
  PE.mono (PE.or (pe_revT he) (pe_revL he)) fun σ H Q z => by
    obtain ⟨W0, W, s, ρ, rfl, st, z⟩ := z
    unfold eRevS at z
    cases hf : f ρ s with
    | bad => rw [hf] at z; exact z.elim
    | exc c s1 => exact .inl ⟨W0, W, s, ρ, rfl, st, by rw [hf] at z ⊢; exact z⟩
    | ok d s1 =>
      have z' := z
      rw [hf] at z'
      simp only [Res.bind] at z'
      cases d with
      | tup ds =>
        refine .inl ⟨W0, W, s, ρ, rfl, st, ?_⟩
        rw [hf]
        intro x W1 x1 B1 r1
        obtain ⟨a, xs, rfl, h1, rr⟩ := r1.tup_inv
        refine ⟨a, xs, rfl, seqT B1.sub h1, fun p hp => ?_⟩
        exact newFrz B1 hp _ (fun v W' e' B' r' => z' v W' (x1.trans B1 e') B' r') fun W' E' e' => .tup e' (RepAll.ext E' rr.reverse)
      | lst ds =>
        refine .inr ⟨W0, W, s, ρ, rfl, st, ?_⟩
        rw [hf]
        intro x W1 x1 B1 r1
        obtain ⟨a, xs, rfl, h1, rr⟩ := r1.lst_inv
        refine ⟨a, xs, rfl, .of (B1.sub _ _ h1), fun p hp => ?_⟩
        exact newFrz B1 hp _ (fun v W' e' B' r' => z' v W' (x1.trans B1 e') B' r') fun W' E' e' => .lst e' (RepAll.ext E' rr.reverse)
      | _ => exact z'.elim
end
/-! ### xs.insert(i, y) of an own list -/
def sIns (i : Nat) (fk f : DE) : DS := fun ρ s => ownAt i ρ fun ds => (aCons fk (aCons f aNil) ρ s).thenS fun l s1 => match l with
  | [.int k, d] => if ds.length < 16777216 ∧ 0 ≤ k ∧ k < 2 ^ 63 then .next (ρ.set i (.own (ds.take k.toNat ++ [d] ++ ds.drop k.toNat))) s1 else .bad
  | _ => .bad
section
variable {X : Cx} {E : WX} {fr : Bool} {pos apos cpos : Pos} {e ek : Expr} {f fk : DE}
theorem s_ins (i : Nat) {x : Str} {p2 : Pos} (hk : PE X ek (tE X.K X.mg E fk)) (he : PE X e (tE X.K X.mg E f)) (hN : X.N[i]? = some x := by rfl) (hv : Vis X.env.scope x := by first | exact Or.inl rfl | exact Or.inr (Or.inl rfl) | exact Or.inr (Or.inr rfl)) (hd : (x == ("__debug__" : Str)) = false := by decide)
    (hcd : (x == ("__classdict__" : Str)) = false := by decide)
    (hbase : attributeBase (.Name x p2) "insert" X.env (eval (.Name x p2) X.env) = eval (.Name x p2) X.env := by rfl)
    (hfew : ((backTo cpos (starEach [ek, e] X.env)).all (fun x => !x.1) && (backToKw cpos (keywordEach [] X.env)).all (fun x => x.1.isSome) && decide (([ek, e] : List Expr).length + ([] : List Keyword).length + (if ([] : List Keyword).isEmpty then 0 else 1) < 30)) = true := by rfl)
    (hline : (apos.endLine == cpos.line) = true := by rfl) (hs : starEach [ek, e] X.env = (false, eval ek X.env) :: starEach [e] X.env := by rfl) (hs2 : starEach [e] X.env = (false, eval e X.env) :: starEach [] X.env := by rfl) (hplain : (backTo cpos (starEach [e] X.env)).any (·.1) = false := by rfl)
    (hsw : swapsWith (.Call (.Attribute (.Name x p2) "insert" apos) [ek, e] [] cpos) none pos.line X.env = pure false := by rfl) :
    QS X E fr (.Expr (.Call (.Attribute (.Name x p2) "insert" apos) [ek, e] [] cpos) pos) (sIns i fk f) := by
  refine PS.mono (ps_expr (pe_bm PySem.F.plainAttrs_list PySem.F.slot_list_insert PySem.F.type_list_insert mt_insert (pv i hN hv hd hcd) (a_cons hk (a_cons he a_nil hs2) hs) hbase hfew hline hs hplain) hsw) fun σ H T z => ?_
  obtain ⟨W0, W, s, ρ, rfl, st, z⟩ := z
  obtain ⟨a, vs, ds, h1, h2, h3, h4, h5, z⟩ := ownAt_inv st z
  refine ⟨_, h1, tyL h4, (goS st z).imp fun y H1 ⟨W1, s1, d1, e1, r1, x1, st1, z1⟩ => ?_⟩
  subst e1
  have g4 : W1.H a = some (.lst vs) := x1.keep a _ h4 h3.spc
  have g3 : OwnAt W0 W1 a := h3.ext x1 (by rw [h4]; exact fun z => nomatch z)
  have g5 := RepAll.ext x1 h5
  split at z1
  · split at z1
    · rename_i k d hc
      obtain ⟨v, u, rfl, rv, ru⟩ := RepAll.two_inv r1
      cases rv.int_inv
      refine ⟨a, vs, k, u, rfl, rfl, g4, by rw [g5.length, sizeLine_eq]; exact hc.1, hc.2.1, hc.2.2, z1 σ _ (st1.newC h1 h2 g3 g4 (((g5.take _).append (.one ru)).append (g5.drop _)))⟩
    · exact z1.elim
  · exact z1.elim
end
end DL
namespace DL
open PySem PySem.Spec PyProof.Rows L2
variable [LT : LawT]

/-! ### own classes of exceptions -/
/-- what is asked of a class C over ValueError that is raised with a text -/
structure XCls (K : PySem.W.Frag) (mg : Str → Option Value) (x : Str) : Prop where
  ex : ∃ C : Addr, mg x = some (.ref C) ∧ PySem.W.excIn K C [.type "ValueError", .type "Exception", .type "BaseException", .type "object"] "ValueError.__new__" = true ∧ PySem.W.keepIn K (.ref C) = true ∧
    PySem.W.subIn K (.ref C) (.type "BaseException") = some true ∧ PySem.W.typeIn K (.ref C) = some (.type "type") ∧ ExcC K C
def sRaise (c : Str) : DS := fun _ s => .exc c s
section
variable {X : Cx} {E : WX} {fr : Bool}
theorem s_raise {c m : Str} {j : Nat} {p p2 p3 p4 : Pos} (hx : XCls X.K X.mg c) (hc : X.calm = true) (tk : Takes X E) (hg : Gl X c := by rfl) (hdb : (c == ("__debug__" : Str)) = false := by decide) :
    QS X E fr (.Raise (some (.Call (.Name c p) [.Constant (.str m) j p2] [] p3)) none p4) (sRaise c) := by
  obtain ⟨C, gC, xC, kC, bC, tC, _⟩ := hx
  refine PS.mono (ps_raise hc tk (pmk_own PySem.F.excBase_ValueError xC gC kC (raises_own bC tC) hg hdb)) fun σ H T h => ?_
  obtain ⟨W0, W, s, ρ, rfl, st, z⟩ := h
  exact z σ W (.ref C) st.ext st.base gC
end
/-! ### a caught exception is kept -/
section
variable {X : Cx} {pins : List (Addr × Obj)} {σ : L2.St} {H : Hp} {s : Shared}
/-- an object that is new since the entry is from now on looked after -/
theorem Inv.took {a : Addr} {ob : Obj} {o : HO} (I : Inv X ((a, ob) :: pins) σ H s) (fresh : X.s_0.heap.get? a = none) (others : ∀ q ∈ X.pn ++ pins, q.1 ≠ a) (ok : ObjOk X.prog X.w (upd H a o) s.heap a o) : Inv X pins σ (upd H a o) s := by
  obtain ⟨here, nH, nL, nF, nC⟩ := I.pin (a, ob) (List.mem_append.mpr (.inr List.mem_cons_self))
  have old : ∀ {b : Addr} {ob' : Obj}, X.s_0.heap.get? b = some ob' → b ≠ a := fun e z => by rw [z, fresh] at e; cases e
  have some_ne : ∀ {b : Addr} {w : HO}, H b = some w → b ≠ a := fun e z => by rw [z, nH] at e; cases e
  refine ⟨I.ok, I.os, I.bare, ⟨I.base.keep, I.base.slot, ?_, I.base.there, ?_, ?_, ?_⟩, I.loc, I.cell, ?_, ?_, ?_, ?_, I.len⟩
  · intro b ob' e n hx
    rw [upd_ne (old e)]
    exact I.base.free b ob' e n hx
  · intro b xs e
    have q := I.base.tups b xs e
    rw [upd_ne (some_ne q)]
    exact q
  · intro b w u e
    have q := I.base.frzs b w u e
    rw [upd_ne (some_ne q)]
    exact q
  · intro b ps e
    obtain ⟨more, q⟩ := I.base.tbls b ps e
    exact ⟨more, by rw [upd_ne (some_ne q)]; exact q⟩
  · rw [upd_ne (Ne.symm nL)]
    exact I.free
  · intro x c e
    obtain ⟨v, oc, hoc, hdc⟩ := I.cell x c e
    have : c ≠ a := fun z => by
      rw [z, here] at hoc
      cases hoc
      exact nC _ hdc
    rw [upd_ne this]
    exact I.freeC x c e
  · intro q hq
    have hm : q ∈ X.pn ++ ((a, ob) :: pins) := by
      rcases List.mem_append.mp hq with h | h
      · exact List.mem_append_left _ h
      · exact List.mem_append_right _ (List.mem_cons_of_mem _ h)
    obtain ⟨e1, e2, e3, e4, e5⟩ := I.pin q hm
    exact ⟨e1, by rw [upd_ne (others q hq)]; exact e2, e3, e4, e5⟩
  · exact HOk.laidN I.hok (fun _ _ e => e) nH ok
theorem keptX_ok {P : Program} {w : World} {H : Hp} {h : Heap} {a : Addr} {cls : Value} {ob : Obj} {us : Array Value} (e : h.get? a = some ob) (z : Zc cls none ob) (d : ob.data = .fields us) : ObjOk P w H h a (KeptX cls a) :=
  ⟨⟨ob, us, e, z, d⟩, ⟨ob, e⟩, fun _ _ ⟨o, v, q, r⟩ k => ⟨o, v, k o q, r⟩⟩
/-- what the clause asks of an exception of the body: slot i is its own name, slot j keeps the exception -/
def wKept (K : PySem.W.Frag) (c : Value) (i j : Nat) (Wout : WX) (D : Ends) : WX := fun cls d σ H =>
  ∃ b, PySem.W.exmOne K cls c = some b ∧ (b = true → d = none ∧ ∀ a, H a = none → D.nx (((σ.set i (some (.ref a))).set j (some (.ref a))).set i none) (upd H a (KeptX cls a))) ∧ (b = false → Wout cls d σ H)
theorem pin_kept {a : Addr} {q : Addr × Obj} (I : Inv (X.suite a (q :: (X.pn ++ pins))) [] σ H s) (ok : X.Ok) : Inv X (q :: pins) σ H s := by
  refine ⟨ok, I.os, I.bare, I.base, I.loc, I.cell, I.free, I.freeC, fun p hp => I.pin p ?_, I.hok, I.len⟩
  rw [List.append_nil]
  show p ∈ q :: (X.pn ++ pins)
  rcases List.mem_append.mp hp with h | h
  · exact List.mem_cons_of_mem _ (List.mem_append_left _ h)
  · rcases List.mem_cons.mp h with h | h
    · rw [h]; exact List.mem_cons_self
    · exact List.mem_cons_of_mem _ (List.mem_append_right _ h)
end
section
variable {X : Cx} {x n y : Str} {c : Value} {i j : Nat} {body : List Stmt} {np nn py ap pos pos' : Pos} {tb : WX → TS} {Wout : WX}
theorem ps_try_kept (hstk : X.stack = X.env :: X.outer) (hfrm : X.env.frame = some X.env.locals) (hex : X.ex = []) (hnd : X.N.Nodup) (hi : X.N[i]? = some n) (hln : X.env.kindOf n = some .local) (hj : X.N[j]? = some y) (hly : X.env.scope.names.lookup y = some .local)
    (hij : i ≠ j) (hln2 : X.env.scope.names.lookup n = some .local) (hd : (n == ("__debug__" : Str)) = false) (hcd : (n == ("__classdict__" : Str)) = false) (hsw : swapsWith (.Name n nn) (some (.Name y py)) ap.line X.env = pure false) (hcls : Names X x c) (hout : Takes X Wout)
    (hbody : ∀ (W : WX) (pn : List (Addr × Obj)) (xe : Value → Shared → Prop), Takes (X.tr pn xe) W → PassesOwn (model X.prog X.w) X.A X.env xe → PSs (X.tr pn xe) body (tb W)) :
    PS X (.Try body [.ExceptHandler (some (.Name x np)) (some n) [.Assign [.Name y py] (.Name n nn) ap] pos'] [] [] pos) (fun D σ H => tb (wKept X.K c i j Wout D) D σ H) := by
  refine ⟨fun pins s0 σ0 H0 D I hp => ?_⟩
  have xok := I.ok
  have frames : X.A.frames = some (X.env :: X.outer) := by rw [xok.frames, hstk]
  apply wpAny_Try_except
  refine wpAny_mono ((hbody (wKept X.K c i j Wout D) (X.pn ++ pins) (fun v t1 => wpAny (model X.prog X.w) X.A (noteFrame v X.env) (fun _ t2 => wpAny (model X.prog X.w) X.A (setFlight v none) (fun _ t3 =>
    wpAny (model X.prog X.w) X.A (handleBy v X.env [.ExceptHandler (some (.Name x np)) (some n) [.Assign [.Name y py] (.Name n nn) ap] pos']) (SP X pins D) X.xe t3) X.xe t2) X.xe t1) (fun v t hv => ?cc) PassesOwn.looking).run [] s0 σ0 H0 D (I.toTry _) hp) (fun fl t hfl => ?tt) fun v t hv => hv
  case tt =>
    match fl, hfl with
    | .next, ⟨σ1, H1, J, q⟩ => exact wpAny_execs_nil ⟨σ1, H1, J.ofTry xok, q⟩
    | .brk, ⟨σ1, H1, J, q⟩ => exact ⟨σ1, H1, J.ofTry xok, q⟩
    | .cont, ⟨σ1, H1, J, q⟩ => exact ⟨σ1, H1, J.ofTry xok, q⟩
    | .ret u, ⟨v, σ1, H1, J, r, q⟩ => exact ⟨v, σ1, H1, J.ofTry xok, r, q⟩
  case cc =>
    obtain ⟨a, B, tI, pins1, σ1, H1, cls, d, rfl, JT, ground, upto, inSky, nH, hos, hbare, b, hexm, whenYes, whenNo⟩ := hv
    have J : Inv X pins σ1 H1 tI := JT.ofTry xok
    have sky1 : Sky B (X.env :: X.outer) a (Zc cls d) X.env.locals t.heap := by rw [← hstk]; exact inSky
    show wpAny (model X.prog X.w) X.A (noteFrame (.ref a) X.env) _ _ _
    refine Sky.land Zc.steady frames hfrm sky1 fun g3 held3 up3 => ?_
    have J3 : Inv X pins σ1 H1 { t with heap := g3 } := J.landed ground held3.1 (upto.trans up3) hos hbare
    obtain ⟨ob3, us3, at3, z3, fd3⟩ := held3.there
    have offFrames : ∀ {g : Heap} {ob : Obj} {us : Array Value}, g.FunFrames B (X.env :: X.outer) → g.get? a = some ob → ob.data = .fields us → a ∉ frs (X.env :: X.outer) := by
      intro g ob us ff hget hdata hmem
      obtain ⟨_, ob', hget', notData⟩ := ff.mem hmem
      rw [hget] at hget'
      cases hget'
      exact notData _ hdata
    have off := offFrames held3.2.2.1 at3 fd3
    have aL : a ≠ X.env.locals := fun z => off (List.mem_filterMap.mpr ⟨X.env, List.mem_cons_self, by rw [hfrm, z]⟩)
    have aF : a ∉ X.fs := fun hm => by
      obtain ⟨env', hin, hq⟩ := List.mem_filterMap.mp hm
      exact off (List.mem_filterMap.mpr ⟨env', List.mem_cons_of_mem _ hin, hq⟩)
    have aI : tI.heap.get? a = none := by
      cases q : tI.heap.get? a with
      | none => rfl
      | some ob =>
        have z := ground a ob q (by rw [hstk]; exact off)
        rw [held3.2.1] at z
        cases z
    have a0 : X.s_0.heap.get? a = none := by
      cases q : X.s_0.heap.get? a with
      | none => rfl
      | some ob =>
        obtain ⟨ob', z⟩ := J.base.there a ob q (by rw [hex]; simp)
        rw [aI] at z
        cases z
    have aP : ∀ q ∈ X.pn ++ pins, q.1 ≠ a := fun q hq z => by
      have e := (J.pin q hq).1
      rw [z, aI] at e
      cases e
    have S3 := J3.suite at3 fd3 nH aL aF
    refine wpAny_handleBy_cons (codeAny_handlers_test ?_) (by intro z; cases z)
    have looksTy : PySem.W.Looks (model X.prog X.w) g3 (typeOf (.ref a)) cls := fun A1 Q1 E1 t1 k1 q1 => wpAny_typeOf_ref (k1 _ _ at3) (by rw [z3.1]; exact q1)
    have looksM := PySem.W.exm_one (M := model X.prog X.w) (J3.kIn) looksTy hexm
    have named : ∀ {Q1 : Value → Shared → Prop} {E1 : Value → Shared → Prop}, Q1 c { t with heap := g3 } → wpAny (model X.prog X.w) (X.A.mark (some (.ref a))) (eval (.Name x np) X.env) Q1 E1 { t with heap := g3 } := by
      intro Q1 E1 q1
      obtain ⟨gl, dbg, hm | ⟨hm, hv, hnn⟩⟩ := hcls
      · exact ld_glob (X := X.suite a ((a, ob3) :: (X.pn ++ pins))) S3 gl hm q1 dbg
      · exact ld_blt (X := X.suite a ((a, ob3) :: (X.pn ++ pins))) S3 gl hm hv q1 hnn dbg
    refine named (looksM.here ?_)
    cases b with
    | true =>
      refine codeAny_handlers_suite_as (HandSPX.lands_againZ held3 fun g4 held4 up4 => ?_)
      have J4 : Inv X pins σ1 H1 { t with heap := g4 } := J.landed ground held4.1 ((upto.trans up3).trans up4) hos hbare
      obtain ⟨ob4, us4, at4, z4, fd4⟩ := held4.there
      have S4 := J4.suite at4 fd4 nH aL aF
      obtain ⟨rfl, toNext⟩ := whenYes rfl
      refine store_ok (X := X.suite a ((a, ob4) :: (X.pn ++ pins))) (v := .ref a) S4 hnd hi (.inl hln) rfl (fun t5 S5 => ?_) (.inr hln)
      have li : i < σ1.length := by
        rw [J.len]
        exact (List.getElem?_eq_some_iff.mp hi).1
      have stm : PSs (X.suite a ((a, ob4) :: (X.pn ++ pins))) [.Assign [.Name y py] (.Name n nn) ap] _ := pss_one (ps_set (i := j) hnd hj (.inl hly) (pv i hi (.inl hln2) hd hcd) hsw (.inr hly))
      refine wpAny_mono (stm.run [] t5 _ H1 { nx := fun σ2 H2 => σ2 = (σ1.set i (some (.ref a))).set j (some (.ref a)) ∧ H2 = H1, rt := fun _ _ => False } S5 ?_) (fun fl t6 h6 => ?_) (fun _ _ z => False.elim z)
      · exact ⟨.ref a, by rw [List.getElem?_set_self li], rfl, rfl⟩
      · have fin : ∀ {σ2 : L2.St} {H2 : Hp}, Inv (X.suite a ((a, ob4) :: (X.pn ++ pins))) [] σ2 H2 t6 → σ2 = (σ1.set i (some (.ref a))).set j (some (.ref a)) ∧ H2 = H1 →
            wpAny (model X.prog X.w) X.A (do bindName X.env n .none; unbindBehindTheSuite X.env n pos') (fun _ t7 => SP X pins D .next t7) X.xe t6 := by
          rintro σ2 H2 S6 ⟨rfl, rfl⟩
          have S6' := pin_kept S6 xok
          refine gone_ok S6' hnd hi hln fun t7 J7 => ?_
          obtain ⟨e7, _⟩ := J7.pin (a, ob4) (List.mem_append.mpr (.inr List.mem_cons_self))
          exact ⟨_, _, Inv.took J7 a0 aP (keptX_ok e7 z4 fd4), toNext a nH⟩
        match fl, h6 with
        | .next, ⟨σ2, H2, S6, q6⟩ => exact fin S6 q6
        | .ret u, ⟨v, σ2, H2, S6, r, q6⟩ => exact q6.elim
        | .brk, ⟨σ2, H2, S6, q6⟩ => exact q6.elim
        | .cont, ⟨σ2, H2, S6, q6⟩ => exact q6.elim
    | false =>
      show wpAny _ X.A (handleBy (.ref a) X.env []) _ _ _
      refine wpAny_handleBy_nil ?_
      obtain ⟨k1, k2, k3, ob, us, T1, oT, tt, hget, hz, hdat, h1, hr⟩ := id held3
      unfold PySem.passOn
      refine wpAny_bind (wpAny_field hget hdat h1 ?_)
      rw [if_neg (show ¬ ((Value.ref T1 == Value.none) = true) from by simp)]
      have out : wpAny (model X.prog X.w) X.A (setFlight (.ref a) X.env.frame) (fun _ t4 => wpAny (model X.prog X.w) X.A (throw (.ref a) : Sem Flow) (SP X pins D) X.xe t4) X.xe { t with heap := g3 } := by
        rw [hfrm]
        refine HandSPX.setFlight_upZ held3 fun g4 hh4 up4 => wpAny_throw (hout _ _ ?_)
        exact ⟨a, B, tI, pins, σ1, H1, cls, d, rfl, J, ground, (upto.trans up3).trans up4, .inr (.inr (by rw [hstk]; exact hh4)), nH, hos, hbare, whenNo rfl⟩
      first
        | exact wpAny_bind (wpAny_pure (wpAny_bind out))
        | exact wpAny_bind out
end
end DL
namespace DL
open PySem PySem.Spec PyProof.Rows L2
variable [LT : LawT]

/-! ### which class is below which -/
abbrev XTb := List (Str × Str × Bool)
def isX (tb : XTb) (x y : Str) : Option Bool := (tb.find? fun p => decide (p.1 = x ∧ p.2.1 = y)).map (·.2.2)
/-- the class that the name y stands for -/
def ClsN (mg : Str → Option Value) (y : Str) (cv : Value) : Prop := (∃ C : Addr, cv = .ref C ∧ mg y = some cv) ∨ (mg y = none ∧ bootBuiltins y = some cv ∧ y ≠ "__name__" ∧ ∃ T : String, cv = .type T ∧ y = (T : Str))
def XRel (K : PySem.W.Frag) (mg : Str → Option Value) (x y : Str) (b : Bool) : Prop := ∃ (C : Addr) (cv : Value), mg x = some (.ref C) ∧ ExcC K C ∧ ClsN mg y cv ∧ PySem.W.kitOne K (.ref C) cv = some b ∧ PySem.W.exmOne K (.ref C) cv = some b
def XTab (K : PySem.W.Frag) (mg : Str → Option Value) (tb : XTb) : Prop := ∀ p ∈ tb, XRel K mg p.1 p.2.1 p.2.2
theorem XTab.get {K : PySem.W.Frag} {mg : Str → Option Value} {tb : XTb} (h : XTab K mg tb) {x y : Str} {b : Bool} (e : isX tb x y = some b) : XRel K mg x y b := by
  unfold isX at e
  obtain ⟨p, hp, rfl⟩ := Option.map_eq_some_iff.mp e
  have hm := List.mem_of_find?_eq_some hp
  have hq := List.find?_some hp
  simp only [decide_eq_true_eq] at hq
  have := h p hm
  rw [hq.1, hq.2] at this
  exact this
section
variable {K : PySem.W.Frag} {mg : Str → Option Value}
def isXs (tb : XTb) (x : Str) : List D → Option Bool
  | [] => some false
  | .glb y :: r => match isX tb x y, isXs tb x r with
    | some b, some c => some (b || c)
    | _, _ => none
  | _ => none
/-- isinstance of a kept exception -/
def dIsX (tb : XTb) : FN := fun ds => match ds with
  | [.exc x, .glb y] => (isX tb x y).map .bl
  | [.exc x, .ty T] => if T = "ValueError" then (isX tb x "ValueError").map .bl else none
  | [.exc x, .tup (.glb y :: cs)] => (isXs tb x (.glb y :: cs)).map .bl
  | _ => none
def rIsKX (K : PySem.W.Frag) : List V → Hp → VK → Prop := fun xs H Q => ∃ (a C : Addr) (c : V) (b : Bool), xs = [.ref a, c] ∧ H a = some (KeptX (.ref C) a) ∧ ExcC K C ∧
  ((∃ cv, ClsV c cv ∧ PySem.W.kitOne K (.ref C) cv = some b) ∨ (∃ tp cs us, c = .ref tp ∧ H tp = some (.tup cs) ∧ Paired ClsV cs us ∧ PySem.W.kitAny K (.ref C) us = some b)) ∧ Q (.bl b) H
theorem c_isX {X : Cx} : CallR X (.builtin "isinstance") (rIsKX X.K) := by
  intro pins s σ H xs us Q I r h
  obtain ⟨a, C, c, b, rfl, ha, E, hc, q⟩ := h
  obtain ⟨u1, u2, rfl, r1, r2⟩ := vals2 r
  cases (show u1 = Value.ref a from r1)
  obtain ⟨⟨ob, vs, hget, hz, hd⟩, _, _⟩ := (show ObjOk X.prog X.w H s.heap a (KeptX (.ref C) a) from I.hok a _ ha)
  have J : PySem.W.InstAt s.heap a ob C none := by
    obtain ⟨oc, od, oda, osl⟩ := ob
    obtain ⟨h1, h2⟩ := hz
    dsimp only at h1 h2 hd
    subst h1 h2 hd
    exact ⟨hget, rfl, rfl, trivial⟩
  have Z := PySem.W.handS_kitx_exc (x := a) (ox := ob) E.hg E.hk E.hs E.hd E.ha E.hn E.ht E.hm
  rcases hc with ⟨cv, hv, e⟩ | ⟨tp, cs, ws, rfl, hT, k, e⟩
  · have e2 := hv.eq r2
    subst e2
    exact PySem.W.kia_one Z I.kIn J e (fun z => nomatch z) fun tk => ⟨.bl b, H, I.tok tk, rfl, q⟩
  · cases (show u2 = Value.ref tp from r2)
    obtain ⟨_, its, rv, o, h1, h2, n, h3⟩ := (show ObjOk X.prog X.w H s.heap tp (.tup cs) from I.hok tp _ hT)
    have e3 := ClsV.all k rv
    subst e3
    obtain ⟨oc, od, dt, sl⟩ := o
    simp only at h2 h3
    subst h2 h3
    exact PySem.W.kia_tup Z I.kIn J h1 e (fun z => nomatch z) fun tk => ⟨.bl b, H, I.tok tk, rfl, q⟩
theorem refV {v : V} {C : Addr} (h : RelV v (.ref C)) : v = .ref C := by
  cases v with
  | ref a => cases h; rfl
  | non => cases h
  | bl b => cases h
  | int i => obtain ⟨t, h⟩ := h; cases h
  | str x => obtain ⟨t, h⟩ := h; cases h
  | byt x => obtain ⟨t, h⟩ := h; cases h
  | flt x => obtain ⟨t, h⟩ := h; cases h
  | ty n => cases h
theorem cls_glb {G : Hp} {τ : List Addr} {v : V} {y : Str} {cv : Value} (r : Rep K mg G τ v (.glb y)) (h : ClsN mg y cv) : ClsV v cv := by
  cases r with
  | glb hm hr =>
    rcases h with ⟨C, rfl, h⟩ | ⟨h, _⟩
    · rw [hm] at h
      cases h
      rw [refV hr]
      exact .own C
    · rw [hm] at h
      cases h
theorem str_inj {a b : String} (h : (a : Str) = (b : Str)) : a = b := by
  have h : Str.ofString a = Str.ofString b := h
  rw [Str.ofString_eq_toList, Str.ofString_eq_toList] at h
  have h2 : a.toList.map Char.toNat = b.toList.map Char.toNat := by simpa using h
  have h3 : a.toList = b.toList := List.map_inj_right (fun x y e => Char.toNat_inj.mp e) |>.mp h2
  rw [← String.ofList_toList (s := a), h3, String.ofList_toList]
theorem cls_boot {T : String} {cv : Value} (hb : mg (T : Str) = none) (h : ClsN mg (T : Str) cv) : cv = .type T := by
  rcases h with ⟨C, rfl, h⟩ | ⟨_, _, _, T', rfl, e⟩
  · rw [hb] at h; cases h
  · rw [str_inj e]
theorem cls_ty {G : Hp} {τ : List Addr} {v : V} {T : String} {cv : Value} (r : Rep K mg G τ v (.ty T)) (hb : mg (T : Str) = none) (h : ClsN mg (T : Str) cv) : ClsV v cv := by
  cases r.ty_inv
  rcases h with ⟨C, rfl, h⟩ | ⟨_, _, _, T', rfl, e⟩
  · rw [hb] at h
    cases h
  · rw [str_inj e]
    exact .ty T'
end
section
variable {K : PySem.W.Frag} {mg : Str → Option Value} {tb : XTb}
theorem exc_inv {G : Hp} {τ : List Addr} {v : V} {x : Str} (r : Rep K mg G τ v (.exc x)) : ∃ a C, v = .ref a ∧ mg x = some (.ref C) ∧ G a = some (KeptX (.ref C) a) := by
  cases r with
  | exc h e => exact ⟨_, _, rfl, h, e⟩
theorem isXs_of (hT : XTab K mg tb) {G : Hp} {τ : List Addr} {x : Str} {C : Addr} (hx : mg x = some (.ref C)) : ∀ {cs : List D} {vs : List V} {b : Bool}, isXs tb x cs = some b → RepAll K mg G τ vs cs → ∃ us, Paired ClsV vs us ∧ PySem.W.kitAny K (.ref C) us = some b
  | [], _, _, h, r => by
    cases h
    rw [r.nil_inv]
    exact ⟨[], .nil, kitAny_nil⟩
  | d :: cs, _, b, h, r => by
    obtain ⟨v, us, rfl, rv, ru⟩ := r.cons_inv
    cases d with
    | glb y =>
      unfold isXs at h
      cases hy : isX tb x y with
      | none => rw [hy] at h; cases h
      | some b1 =>
        rw [hy] at h
        cases hr : isXs tb x cs with
        | none => rw [hr] at h; cases h
        | some b2 =>
          rw [hr] at h
          cases h
          obtain ⟨C', cv, h1, h2, h3, h4, h5⟩ := hT.get hy
          rw [hx] at h1
          cases h1
          obtain ⟨ws, hw, hk⟩ := isXs_of hT hx hr ru
          refine ⟨_, .cons (cls_glb rv h3) hw, kitAny_cons h4 (fun e => ?_) (fun e => ?_)⟩
          · rw [e]; exact hk
          · rw [e]; rfl
    | _ => cases h
theorem v_isX (hT : XTab K mg tb) (hv : mg "ValueError" = none) : VC K mg (rIsKX K) (dIsX tb) := fun W s vs ds z Q B r hz q => by
  unfold dIsX at hz
  split at hz
  · rename_i x y
    obtain ⟨b, hb, rfl⟩ := Option.map_eq_some_iff.mp hz
    obtain ⟨v, u, rfl, rv, ru⟩ := r.two_inv
    obtain ⟨a, C, rfl, hm, hG⟩ := exc_inv rv
    obtain ⟨C', cv, h1, h2, h3, h4, h5⟩ := hT.get hb
    rw [hm] at h1
    cases h1
    exact ⟨a, C, u, b, rfl, B.sub _ _ hG, h2, .inl ⟨cv, cls_glb ru h3, h4⟩, stay B q (.bl b)⟩
  · rename_i x T
    split at hz
    · rename_i e
      subst e
      obtain ⟨b, hb, rfl⟩ := Option.map_eq_some_iff.mp hz
      obtain ⟨v, u, rfl, rv, ru⟩ := r.two_inv
      obtain ⟨a, C, rfl, hm, hG⟩ := exc_inv rv
      obtain ⟨C', cv, h1, h2, h3, h4, h5⟩ := hT.get hb
      rw [hm] at h1
      cases h1
      exact ⟨a, C, u, b, rfl, B.sub _ _ hG, h2, .inl ⟨cv, cls_ty (T := "ValueError") ru hv h3, h4⟩, stay B q (.bl b)⟩
    · cases hz
  · rename_i x y cs
    obtain ⟨b, hb, rfl⟩ := Option.map_eq_some_iff.mp hz
    obtain ⟨v, u, rfl, rv, ru⟩ := r.two_inv
    obtain ⟨a, C, rfl, hm, hG⟩ := exc_inv rv
    obtain ⟨p, xs, rfl, hp, rr⟩ := ru.tup_inv'
    obtain ⟨us, hu, hk⟩ := isXs_of hT hm hb rr
    have hE : ExcC K C := by
      unfold isXs at hb
      cases hy : isX tb x y with
      | none => rw [hy] at hb; cases hb
      | some b1 =>
        obtain ⟨C', cv, h1, h2, _⟩ := hT.get hy
        rw [hm] at h1
        cases h1
        exact h2
    exact ⟨a, C, .ref p, b, rfl, B.sub _ _ hG, hE, .inr ⟨p, xs, us, rfl, B.sub _ _ hp, hu, hk⟩, stay B q (.bl b)⟩
  · cases hz
end
end DL
namespace DL
open PySem PySem.Spec PyProof.Rows L2
variable [LT : LawT]
/-! ### try: f; except c as n: y = n -/
def sTryE (tb : XTb) (c : Str) (i j : Nat) (f : DE) : DS := fun ρ s => match f ρ s with
  | .ok _ s1 => .next ρ s1
  | .exc x s1 => match isX tb x c with
    | some true => .next ((ρ.set j (.dat (.exc x))).set i .emp) s1
    | some false => .exc x s1
    | none => .bad
  | .bad => .bad
/-- .. with k = f -/
def sTryA (tb : XTb) (c : Str) (i j k : Nat) (f : DE) : DS := fun ρ s => match f ρ s with
  | .ok d s1 => .next (ρ.set k (.dat d)) s1
  | .exc x s1 => match isX tb x c with
    | some true => .next ((ρ.set j (.dat (.exc x))).set i .emp) s1
    | some false => .exc x s1
    | none => .bad
  | .bad => .bad
section
variable {X : Cx} {E : WX} {fr : Bool} {tb : XTb} {x n y : Str} {c : Value} {i j : Nat} {f : DE} {e : Expr} {np nn py ap ep pos pos' : Pos}
theorem names_of {cv : Value} {y : Str} (h : ClsN X.mg y cv) (hg : Gl X y) (hd : (y == ("__debug__" : Str)) = false) : Names X y cv := by
  refine ⟨hg, hd, ?_⟩
  rcases h with ⟨C, rfl, h⟩ | ⟨h1, h2, h3, _⟩
  · exact .inl h
  · exact .inr ⟨h1, h2, h3⟩
theorem kept_post {W0 W W1 : Hw} {s s1 : S} {ρ : List Sl} {σ : L2.St} {T : Ends} {cv : Value} {xx : Str} {u : Value} (hT : XTab X.K X.mg tb) (hcv : X.mg x = some cv) (hij : i ≠ j) (st : SSt X.K X.mg W0 W s σ ρ)
    (z : PostS X.K X.mg E fr W0 (match isX tb xx x with
    | some true => Fl.next ((ρ.set j (.dat (.exc xx))).set i .emp) s1
    | some false => .exc xx s1
    | none => .bad) T) (e1 : Ext W W1) (B1 : Base X.K X.mg W1 s1) (hu : X.mg xx = some u) : wKept X.K cv i j E T u none σ W1.H := by
  cases hb : isX tb xx x with
  | none => rw [hb] at z; exact z.elim
  | some b =>
    rw [hb] at z
    obtain ⟨C, cv', h1, h2, h3, h4, h5⟩ := hT.get hb
    have ec : cv' = cv := by
      rcases h3 with ⟨C2, rfl, h⟩ | ⟨h, _⟩
      · rw [hcv] at h; cases h; rfl
      · rw [hcv] at h; cases h
    subst ec
    rw [hu] at h1
    cases h1
    refine ⟨b, h5, fun e2 => ⟨rfl, fun a ha => ?_⟩, fun e2 => ?_⟩
    · subst e2
      have st1 := st.step e1 B1
      obtain ⟨B2, E2⟩ := B1.newO ha (KeptX (.ref C) a)
      have st2 := st1.step E2 B2
      have r : Rep X.K X.mg (upd W1.G a (KeptX (.ref C) a)) W1.τ (.ref a) (.exc xx) := .exc hu upd_same
      have st3 := (st2.setDat r j).wipe1 i
      have hs : (σ.set j (some (V.ref a))).set i none = ((σ.set i (some (V.ref a))).set j (some (V.ref a))).set i none := by
        rw [List.set_comm _ _ (Ne.symm hij), List.set_comm _ _ (Ne.symm hij), List.set_set]
      rw [← hs]
      exact z _ _ st3
    · subst e2
      exact z σ W1 (.ref C) (st.ext.trans st.base e1) B1 hu
theorem s_tryE (hT : XTab X.K X.mg tb) (hcv : ∃ cv, X.mg x = some cv) (he : ∀ (W : WX) (pn : List (Addr × Obj)) (xe : Value → Shared → Prop), Takes (X.tr pn xe) W → PE (X.tr pn xe) e (tE X.K X.mg W f)) (tk : Takes X E)
    (hstk : X.stack = X.env :: X.outer) (hfrm : X.env.frame = some X.env.locals) (hex : X.ex = []) (hnd : X.N.Nodup) (hi : X.N[i]? = some n := by rfl) (hj : X.N[j]? = some y := by rfl) (hij : i ≠ j := by decide)
    (hln : X.env.kindOf n = some .local := by rfl) (hly : X.env.scope.names.lookup y = some .local := by rfl) (hln2 : X.env.scope.names.lookup n = some .local := by rfl) (hd : (n == ("__debug__" : Str)) = false := by decide) (hcd : (n == ("__classdict__" : Str)) = false := by decide)
    (hsw : swapsWith (.Name n nn) (some (.Name y py)) ap.line X.env = pure false := by rfl) (hg : Gl X x := by rfl) (hdx : (x == ("__debug__" : Str)) = false := by decide) (hs : swapsWith e none ep.line X.env = pure false := by rfl) :
    QS X E fr (.Try [.Expr e ep] [.ExceptHandler (some (.Name x np)) (some n) [.Assign [.Name y py] (.Name n nn) ap] pos'] [] [] pos) (sTryE tb x i j f) := by
  obtain ⟨cv, hcv⟩ := hcv
  refine PS.mono (ps_try_kept (tb := fun W => tDrop (tE X.K X.mg W f)) hstk hfrm hex hnd hi hln hj hly hij hln2 hd hcd hsw ⟨hg, hdx, .inl hcv⟩ tk (fun W pn xe hw _ => pss_one (ps_expr (he W pn xe hw) hs))) fun σ H T h => ?_
  obtain ⟨W0, W, s, ρ, rfl, st, z⟩ := h
  refine ⟨W0, W, s, ρ, rfl, st, ?_⟩
  unfold sTryE at z
  cases hf : f ρ s with
  | ok d s1 =>
    rw [hf] at z
    exact fun v W1 e1 B1 r1 => z σ W1 (st.step e1 B1)
  | bad => rw [hf] at z; exact z.elim
  | exc xx s1 =>
    rw [hf] at z
    exact fun W1 u e1 B1 hu => kept_post hT hcv hij st z e1 B1 hu
theorem s_tryA (hT : XTab X.K X.mg tb) {k : Nat} {q : Str} {qp : Pos} (hcv : ∃ cv, X.mg x = some cv) (he : ∀ (W : WX) (pn : List (Addr × Obj)) (xe : Value → Shared → Prop), Takes (X.tr pn xe) W → PE (X.tr pn xe) e (tE X.K X.mg W f)) (tk : Takes X E)
    (hstk : X.stack = X.env :: X.outer) (hfrm : X.env.frame = some X.env.locals) (hex : X.ex = []) (hnd : X.N.Nodup) (hi : X.N[i]? = some n := by rfl) (hj : X.N[j]? = some y := by rfl) (hk : X.N[k]? = some q := by rfl) (hij : i ≠ j := by decide)
    (hln : X.env.kindOf n = some .local := by rfl) (hly : X.env.scope.names.lookup y = some .local := by rfl) (hln2 : X.env.scope.names.lookup n = some .local := by rfl) (hlq : X.env.scope.names.lookup q = some .local := by rfl) (hd : (n == ("__debug__" : Str)) = false := by decide) (hcd : (n == ("__classdict__" : Str)) = false := by decide)
    (hsw : swapsWith (.Name n nn) (some (.Name y py)) ap.line X.env = pure false := by rfl) (hg : Gl X x := by rfl) (hdx : (x == ("__debug__" : Str)) = false := by decide) (hs : swapsWith e (some (.Name q qp)) ep.line X.env = pure false := by rfl) :
    QS X E fr (.Try [.Assign [.Name q qp] e ep] [.ExceptHandler (some (.Name x np)) (some n) [.Assign [.Name y py] (.Name n nn) ap] pos'] [] [] pos) (sTryA tb x i j k f) := by
  obtain ⟨cv, hcv⟩ := hcv
  refine PS.mono (ps_try_kept (tb := fun W => _) hstk hfrm hex hnd hi hln hj hly hij hln2 hd hcd hsw ⟨hg, hdx, .inl hcv⟩ tk (fun W pn xe hw _ => pss_one (ps_set (X := X.tr pn xe) (i := k) hnd hk (.inl hlq) (he W pn xe hw) hs (.inr hlq)))) fun σ H T h => ?_
  obtain ⟨W0, W, s, ρ, rfl, st, z⟩ := h
  refine ⟨W0, W, s, ρ, rfl, st, ?_⟩
  unfold sTryA at z
  cases hf : f ρ s with
  | ok d s1 =>
    rw [hf] at z
    exact fun v W1 e1 B1 r1 => z _ W1 ((st.step e1 B1).setDat r1 k)
  | bad => rw [hf] at z; exact z.elim
  | exc xx s1 =>
    rw [hf] at z
    exact fun W1 u e1 B1 hu => kept_post hT hcv hij st z e1 B1 hu
end
/-! ### the facts of a law -/
section
variable {K : PySem.W.Frag} {mg : Str → Option Value} {h : Heap} {x y : Str} {C C2 : Addr} {b : Bool}
theorem kv_some {d : D} (h : KVal K mg x d) : ∃ cv, mg x = some cv := by
  obtain ⟨v, u, e, _⟩ := h
  exact ⟨u, e⟩
theorem mkC (X : K.In h) (G : h.Ns mainGlobals mg) (a : PySem.W.nsIn K mainGlobals x = some (some (.ref C))) : KVal K mg x (.glb x) :=
  ⟨.ref C, .ref C, PySem.W.mg_of X G a, rfl, fun _ _ => .glb (PySem.W.mg_of X G a) rfl⟩
theorem mkXC (X : K.In h) (G : h.Ns mainGlobals mg) (a : PySem.W.nsIn K mainGlobals x = some (some (.ref C))) (xC : PySem.W.excIn K C [.type "ValueError", .type "Exception", .type "BaseException", .type "object"] "ValueError.__new__" = true)
    (kC : PySem.W.keepIn K (.ref C) = true) (bC : PySem.W.subIn K (.ref C) (.type "BaseException") = some true) (tC : PySem.W.typeIn K (.ref C) = some (.type "type")) (e : ExcC K C) : XCls K mg x := ⟨C, PySem.W.mg_of X G a, xC, kC, bC, tC, e⟩
theorem mkXR (X : K.In h) (G : h.Ns mainGlobals mg) (a : PySem.W.nsIn K mainGlobals x = some (some (.ref C))) (e : ExcC K C) (a2 : PySem.W.nsIn K mainGlobals y = some (some (.ref C2))) (h1 : PySem.W.kitOne K (.ref C) (.ref C2) = some b) (h2 : PySem.W.exmOne K (.ref C) (.ref C2) = some b) : XRel K mg x y b :=
  ⟨C, .ref C2, PySem.W.mg_of X G a, e, .inl ⟨C2, rfl, PySem.W.mg_of X G a2⟩, h1, h2⟩
theorem mkXV (X : K.In h) (G : h.Ns mainGlobals mg) (a : PySem.W.nsIn K mainGlobals x = some (some (.ref C))) (e : ExcC K C) (a2 : PySem.W.nsIn K mainGlobals "ValueError" = some none) (h1 : PySem.W.kitOne K (.ref C) (.type "ValueError") = some b) (h2 : PySem.W.exmOne K (.ref C) (.type "ValueError") = some b) : XRel K mg x "ValueError" b :=
  ⟨C, .type "ValueError", PySem.W.mg_of X G a, e, .inr ⟨PySem.W.mg_none_of X G a2, by decide +kernel, by decide, "ValueError", rfl, rfl⟩, h1, h2⟩
theorem xt_nil : XTab K mg [] := fun _ h => nomatch h
theorem xt_cons {tb : XTb} (h1 : XRel K mg x y b) (h2 : XTab K mg tb) : XTab K mg ((x, y, b) :: tb) := fun p hp => by
  rcases List.mem_cons.mp hp with rfl | hp
  · exact h1
  · exact h2 p hp
end
/-! ### repr of long numbers -/
theorem c_reprG {X : Cx} (dg : PySem.W.nsIn X.K cStatics "sys.int_max_str_digits" = some none) (hg : X.A.guards = some []) (hu : X.A.units + 94 < cLine) : CallR X (.builtin "repr") (rRepr 12900 X.K X.mg) := by
  intro pins s σ H xs us Q I r h
  obtain ⟨mc, h1, _⟩ := I.mod.nolimit
  have nd : X.base.NoDigits := ⟨mc, h1, PySem.W.ns_none_of I.mod.kin h1 dg⟩
  exact c_reprL (L := 12900) (.inr ⟨nd, Nat.le_refl _⟩) hg hu pins s σ H xs us Q I r h
end DL
namespace DL
open PySem PySem.Spec PyProof.Rows L2 RT RZ
variable [LT : LawT]

/-! ### enumerate, zip, reversed -/
/-- the tuple at a as it stands at each turn, each item in a new pair -/
def IteT (K : PySem.W.Frag) (a : Addr) : It :=
  ⟨fun i H => ∃ (xs : List V) (x : V), SqT K H a xs ∧ xs[i]? = some x, fun i H v H' => ∃ T x, v = .ref T ∧ H T = none ∧ H' = upd H T (.tup [.int (i : Nat), x]) ∧ ∀ xs, SqT K H a xs → xs[i]? = some x, fun i H => ∃ xs : List V, SqT K H a xs ∧ xs.length ≤ i⟩
theorem turn_enumT {P : Program} {w : World} {K : PySem.W.Frag} {elts : List Expr} {kk : Nat} {tpos : Pos} (a e it : Addr) :
    Turn P w K (.Tuple elts kk tpos) (IteT K a) [e, it] e (fun i h => (∃ old, IsEnum h e it ((i : Nat) : Int) old) ∧ h.IsTupleIter it a i ∧ e ≠ it) where
  mem := by simp
  obj := fun i h st b hb => by
    obtain ⟨⟨old, he⟩, ⟨o, ho, hc, hd⟩, _⟩ := st
    have e' : b = e ∨ b = it := by simpa using hb
    rcases e' with z | z
    · rw [z]; exact ⟨_, he, fun v q => nomatch q⟩
    · rw [z]; exact ⟨o, ho, fun v q => by rw [hd] at q; cases q⟩
  keep := fun i h h' st k => let ⟨⟨old, he⟩, hi, hne⟩ := st; ⟨⟨old, k e (by simp) _ he⟩, hi.at fun o q => k it (by simp) o q, hne⟩
  item := by
    intro X hP hw hK hc i pins s σ H E I hf st hg
    subst hP hw hK
    obtain ⟨⟨old, he⟩, hit, hne⟩ := st
    obtain ⟨xs, x, hq, hx⟩ := hg
    obtain ⟨its, rv, p, hz⟩ := I.tuple hq
    obtain ⟨u, hu, ru⟩ := rv.get hx
    have hel : e < s.heap.objs.size := Heap.lt_size he
    have hil : it < s.heap.objs.size := by obtain ⟨_, q, _⟩ := hit; exact Heap.lt_size q
    have hp : s.heap.IsTuple a its.toArray := p
    have na : a ≠ it := fun q => by
      obtain ⟨o, ho, hcl, _⟩ := hit
      obtain ⟨o', ho', hcl', _⟩ := hp
      rw [q, ho] at ho'
      cases ho'
      rw [hcl] at hcl'
      exact absurd (Value.type.inj hcl') (by decide)
    have nea : a ≠ e := fun q => by
      obtain ⟨o', ho', hcl', _⟩ := hp
      have he' : s.heap.get? e = some _ := he
      rw [q, he'] at ho'
      cases ho'
      have : Value.type "enumerate" = Value.type "tuple" := hcl'
      exact absurd (Value.type.inj this) (by decide)
    have hlen := rv.length
    have hi : i < its.toArray.size := by
      have := (List.getElem?_eq_some_iff.mp hu).1
      simpa using this
    have D := Draws.tuple (prog := X.prog) (w := X.w) (A := X.A.in1) (I.ok.hd hc) it a na its.toArray
    refine wpAny_pyNext_enum_itemD D he ⟨hit, hp⟩ hi hne (by simp [hne, Ne.symm nea]) fun x' h' tk hPx ho hst' hT hsz hk => ?_
    have ex : x' = u := by
      have : its.toArray[i]? = some u := by simpa using hu
      rw [this] at hPx
      exact (Option.some.inj hPx).symm
    subst ex
    refine ⟨_, rfl, wpAny_letOwnedTupleGo_enum (s := { s with heap := h', toks := tk + 1 }) ho fun h'' he' sb => ?_⟩
    have hT2 : h''.get? s.heap.objs.size = some { cls := .type "tuple", data := .seq #[.int i tk, x'] } := (sb.2 _ (Nat.ne_of_gt hel)).trans hT
    have new : ObjOk X.prog X.w (upd H s.heap.objs.size (.tup [.int (i : Nat), x])) h'' s.heap.objs.size (.tup [.int (i : Nat), x]) :=
      ⟨by show 2 ≤ sizeLine; decide, [.int i tk, x'], .cons ⟨_, rfl⟩ (.cons ru .nil), ⟨_, hT2, rfl, _, rfl⟩⟩
    have I1 : Inv X pins σ (upd H s.heap.objs.size (.tup [.int (i : Nat), x])) { s with heap := h'', toks := tk + 1 } :=
      I.turnedNew (ch := [e, it]) (fun b ob hb q => (sb.2 b (fun z => hb (by simp [z]))).trans (hk b ob (fun z => hb (by simp [z])) (fun z => hb (by simp [z])) q)) hf (Nat.le_refl _) new
    refine ⟨.ref s.heap.objs.size, _, I1, rfl, ⟨_, x, rfl, I.hok.fresh (Nat.le_refl _), rfl, fun ys hy => by rw [I.tuple_inj hy hq]; exact hx⟩, ⟨⟨x', ?_⟩, hst'.1.at fun o q => (sb.2 it (Ne.symm hne)).trans q, hne⟩, fun b hb => ?_⟩
    · have e1 : ((i + 1 : Nat) : Int) = (i : Int) + 1 := by omega
      rw [e1]; exact he'
    · have hb' : b < s.heap.objs.size := by
        have e' : b = e ∨ b = it := by simpa using hb
        rcases e' with z | z
        · rw [z]; exact hel
        · rw [z]; exact hil
      rw [upd_ne (Nat.ne_of_lt hb')]
      exact (hf b hb).1
  done := by
    intro X hP hw hK hc i pins s σ H E I hf st hg
    subst hP hw hK
    obtain ⟨⟨old, he⟩, hit, hne⟩ := st
    obtain ⟨xs, hq, hx⟩ := hg
    obtain ⟨its, rv, p, hz⟩ := I.tuple hq
    obtain ⟨f0, f1, f2, f3, f4, f5⟩ := hf it (by simp)
    have hl := rv.length
    have hp : s.heap.IsTuple a its.toArray := p
    have hn : its.toArray[i]? = none := by simp; omega
    have D : Draws X.prog X.w X.A.in1 it [it, a] i (fun _ _ => True) (fun k h => k = i ∧ h.IsTupleIter it a i ∧ h.IsTuple a its.toArray) :=
      { live := fun _ _ st => let ⟨o, ho, _⟩ := st.2.1; ⟨o, ho⟩
        frame := fun _ _ _ st hk => ⟨st.1, st.2.1.at fun o e => hk it (by simp) o e, st.2.2.at fun o e => hk a (by simp) o e⟩
        item := fun k s Q E hk st hQ => absurd hk (by have := st.1; omega)
        done := fun s Q E st hE => wpAny_nextOf_tuple_end (I.ok.hd hc) st.2.1 st.2.2 hn hE }
    exact wpAny_pyNext_enum_endD D he ⟨rfl, hit, hp⟩ fun h' eb => ⟨rfl, I.turned (t' := s.toks) (fun b o hb q => eb b o hb q) f0 f1 f3 f4 f5⟩
  self := fun A i s Q E st h => let ⟨⟨_, he⟩, _⟩ := st; wpAny_pyIter_enum he h
theorem meets_enumerate_newB1 {v : Value} {o : Obj} {H : Heap → Prop} (B : Begins v o H) :
    Meets (Builtin.«enumerate.__new__» ⟨[.type "enumerate", v], []⟩) (fun _ R s => H s.heap ∧
      R (.ok (.ret (.ref (s.heap.push o).objs.size))) { s with heap := (s.heap.push o).push { cls := .type "enumerate", data := .fields #[.none, .bool false, .ref s.heap.objs.size, rawInt 0, .none, .none] } }) :=
  .of_wp fun prog w A R s h => by
    obtain ⟨hp, g, d, tk, os⟩ := s; obtain ⟨h1, h⟩ := h
    have hsub := sub_enumerate
    have q1 : ∀ {A' : Around} {E : Value → Shared → Prop} {Q : Value → Shared → Prop}, Q (.ref hp.objs.size) ⟨hp.push o, g, d, tk, os⟩ → wpAny (model prog w) A' (pyIter v) Q E ⟨hp, g, d, tk, os⟩ :=
      fun q => B.iter prog w _ _ ⟨hp, g, d, tk, os⟩ _ h1 q
    wp_walk using q1
    refine wpAny_stack_any fun st => wpAny_pure ?_
    split
    · rename_i c _ _ _ _ _
      cases (c == Value.type "enumerate")
      · wp_walk using q1
        exact ⟨_, rfl, h⟩
      · wp_walk using q1
        exact ⟨_, rfl, h⟩
    · wp_walk using q1
      exact ⟨_, rfl, h⟩
section
variable {prog : Program} {w : World} {A : Around} {E : Value → Shared → Prop} {s : Shared}
theorem enum_begins1 {v : Value} {o : Obj} {H : Heap → Prop} {Q : Value → Shared → Prop} (B : Begins v o H) (h1 : H s.heap)
    (h : ∀ h', IsEnum h' (s.heap.objs.size + 1) s.heap.objs.size 0 .none → h'.get? s.heap.objs.size = some o → h'.objs.size = s.heap.objs.size + 2 →
      (∀ b o, s.heap.get? b = some o → h'.get? b = some o) → Q (.ref (s.heap.objs.size + 1)) { s with heap := h' }) :
    wpAny (model prog w) A (call (.type "enumerate") [v]) Q E s := by
  refine callType_new F.called_enumerate (by decide) (F.typeCall_enumerate_1 _) (F.newCall_enumerate_1 _) (fun obj => F.args_object_init_2 obj _) F.entry_enumerate_new
    (meets_enumerate_newB1 B) ⟨h1, ?_⟩
  have hz : (s.heap.push o).objs.size = s.heap.objs.size + 1 := Heap.size_push ..
  show _ ∧ _
  rw [hz]
  have he : IsEnum ((s.heap.push o).push { cls := .type "enumerate", data := .fields #[.none, .bool false, .ref s.heap.objs.size, rawInt 0, .none, .none] }) (s.heap.objs.size + 1) s.heap.objs.size 0 .none := by
    have := Heap.get?_push_size (s.heap.push o) (o := { cls := .type "enumerate", data := .fields #[.none, .bool false, .ref s.heap.objs.size, rawInt 0, .none, .none] }) rfl
    rw [hz] at this; exact this
  refine ⟨⟨_, he, rfl⟩, h _ he (Heap.get?_push_of_some _ (Heap.get?_push_size _ B.free)) (by rw [Heap.size_push, hz]) fun b o x => Heap.get?_push_of_some _ (Heap.get?_push_of_some _ x)⟩
end
def iEnumT (K : PySem.W.Frag) (ta : TA) : TI := fun σ H R => ta σ H fun vs H1 => ∃ a xs, vs = [.ref a] ∧ SqT K H1 a xs ∧ R (IteT K a) H1
theorem pi_enumT {X : Cx} {e : Expr} {ta : TA} {p pos tpos : Pos} {elts : List Expr} {kk : Nat} (hg : Gl X "enumerate") (hm : X.mg "enumerate" = none) (ha : PA X [e] ta) (hs : starEach [e] X.env = [(false, eval e X.env)] := by rfl) :
    PI X (.Tuple elts kk tpos) (.Call (.Name "enumerate" p) [e] [] pos) (iEnumT X.K ta) := by
  refine ⟨fun pins s σ H R I h => ?_⟩
  refine Call_ (ld_blt I hg hm boot_enumerate (PyProof.Rows.callWith_type1 (thn (ha.run pos pins s σ H _ I h) fun us s1 ⟨vs, H1, I1, r1, q1⟩ => ?_) hs rfl))
  obtain ⟨a, xs, ex, hq, q⟩ := q1
  subst ex
  cases r1 with
  | cons r rr =>
    cases rr
    cases r
    obtain ⟨its, rv, p', hz⟩ := I1.tuple hq
    have hp : s1.heap.IsTuple a its.toArray := p'
    refine enum_begins1 (begins_tuple a its.toArray) hp fun h' he hit hsz hk => wpAny_pyIter_enum he ?_
    have I2 : Inv X pins σ H1 { s1 with heap := h' } := I1.kept (t' := s1.toks) hk
    refine ⟨s1.heap.objs.size + 1, [s1.heap.objs.size + 1, s1.heap.objs.size], _, _, H1, rfl, I2, turn_enumT a (s1.heap.objs.size + 1) s1.heap.objs.size, ⟨⟨.none, he⟩, ⟨_, hit, rfl, rfl⟩, Nat.succ_ne_self _⟩, fun b hb => ?_, q⟩
    have e' : b = s1.heap.objs.size + 1 ∨ b = s1.heap.objs.size := by simpa using hb
    have hle : s1.heap.objs.size ≤ b := by
      rcases e' with z | z
      · rw [z]; exact Nat.le_add_right _ _
      · rw [z]; exact Nat.le_refl _
    exact I1.fpOk hle (I1.hok.fresh hle)

section
variable {K : PySem.W.Frag} {mg : Str → Option Value} {W1 : Hw}
def enumD (ds : List D) : List D := ds.mapIdx fun i d => .tup [.int (i : Int), d]
def zipD (as bs : List D) : List D := List.zipWith (fun a b => .tup [a, b]) as bs
theorem enumD_len (ds : List D) : (enumD ds).length = ds.length := by simp [enumD]
theorem enumD_get {ds : List D} {i : Nat} {d : D} (h : ds[i]? = some d) : (enumD ds)[i]? = some (.tup [.int (i : Int), d]) := by simp [enumD, h]
theorem zipD_len (as bs : List D) : (zipD as bs).length = min as.length bs.length := by simp [zipD]
theorem zipD_get {as bs : List D} {i : Nat} {a b : D} (h : as[i]? = some a) (k : bs[i]? = some b) : (zipD as bs)[i]? = some (.tup [a, b]) := by simp [zipD, List.getElem?_zipWith, h, k]
theorem walk_enumT {a : Addr} {xs : List V} : Walk (IteT K a) xs.length (fun H => SqT K H a xs) (YPair (fun i => some (.int (i : Nat))) (fun i => xs[i]?)) := by
  refine ⟨fun i _ hi q => ⟨xs, xs[i], q, by simp [hi]⟩, fun _ q => ⟨xs, q, Nat.le_refl _⟩, fun i H v H' _ q y => ?_⟩
  obtain ⟨T, x, h1, h2, h3, h4⟩ := y
  exact ⟨T, .int (i : Nat), x, h1, h2, h3, rfl, h4 xs q⟩
theorem walk_zipT {a b : Addr} {xs ys : List V} {n : Nat} (hn : n = min xs.length ys.length) : Walk (ItzT K a b) n (fun H => SqT K H a xs ∧ SqT K H b ys) (YPair (fun i => xs[i]?) (fun i => ys[i]?)) := by
  subst hn
  refine ⟨fun i _ hi q => ?_, fun _ q => ⟨xs, ys, q.1, q.2, by omega⟩, fun i H v H' _ q y => ?_⟩
  · have h1 : i < xs.length := by omega
    have h2 : i < ys.length := by omega
    exact ⟨xs, ys, xs[i], ys[i], q.1, q.2, by simp [h1], by simp [h2]⟩
  · obtain ⟨T, x, z, h1, h2, h3, h4, h5⟩ := y
    exact ⟨T, x, z, h1, h2, h3, h4 xs q.1, h5 ys q.2⟩
/-- a new pair -/
theorem pair_new {W2 : Hw} {s2 : S} (B : Base K mg W2 s2) {T : Addr} {x y : V} {d e : D} (hT : W2.H T = none) (rx : Rep K mg W2.G W2.τ x d) (ry : Rep K mg W2.G W2.τ y e) :
    ∃ W3, W3.H = upd W2.H T (.tup [x, y]) ∧ Ext W2 W3 ∧ Base K mg W3 s2 ∧ Rep K mg W3.G W3.τ (.ref T) (.tup [d, e]) := by
  obtain ⟨B1, E1⟩ := B.newO hT (.tup [x, y])
  exact ⟨_, rfl, E1, B1, .tup upd_same (.cons (rx.ext E1) (.cons (ry.ext E1) .nil))⟩
theorem its_enumL {a : Addr} {xs : List V} {ds : List D} (h : SqL K W1.G a xs) (r : RepAll K mg W1.G W1.τ xs ds) : ∃ G Y, Its K mg W1 (Ite K a) (enumD ds) G Y := by
  refine ⟨_, _, by rw [enumD_len, ← r.length]; exact walk_enum, fun W2 s2 g B => B.sub.seq (g.seq h), fun i W2 s2 x H' g t B hi hy => ?_⟩
  obtain ⟨T, x0, y0, rfl, hT, rfl, hx, hy⟩ := hy
  obtain ⟨d, hd, rd⟩ := (r.mono g t).get hy
  cases hx
  obtain ⟨W3, e3, E3, B3, r3⟩ := pair_new B hT (.int _) rd
  exact ⟨W3, _, e3, enumD_get hd, E3, B3, r3⟩
theorem its_enumT {a : Addr} {xs : List V} {ds : List D} (h : SqT K W1.G a xs) (r : RepAll K mg W1.G W1.τ xs ds) : ∃ G Y, Its K mg W1 (IteT K a) (enumD ds) G Y := by
  refine ⟨_, _, by rw [enumD_len, ← r.length]; exact walk_enumT, fun W2 s2 g B => seqT B.sub (seqT g h), fun i W2 s2 x H' g t B hi hy => ?_⟩
  obtain ⟨T, x0, y0, rfl, hT, rfl, hx, hy⟩ := hy
  obtain ⟨d, hd, rd⟩ := (r.mono g t).get hy
  cases hx
  obtain ⟨W3, e3, E3, B3, r3⟩ := pair_new B hT (.int _) rd
  exact ⟨W3, _, e3, enumD_get hd, E3, B3, r3⟩
theorem its_zipL {a b : Addr} {xs ys : List V} {as bs : List D} (h : SqL K W1.G a xs) (r : RepAll K mg W1.G W1.τ xs as) (h' : SqL K W1.G b ys) (r' : RepAll K mg W1.G W1.τ ys bs) : ∃ G Y, Its K mg W1 (Itz K a b) (zipD as bs) G Y := by
  refine ⟨fun H => SqL K H a xs ∧ SqL K H b ys, YPair (fun i => xs[i]?) (fun i => ys[i]?), by rw [zipD_len, ← r.length, ← r'.length]; exact walk_zip rfl, fun W2 s2 g B => ⟨B.sub.seq (g.seq h), B.sub.seq (g.seq h')⟩, fun i W2 s2 x H' g t B hi hy => ?_⟩
  obtain ⟨T, x0, y0, rfl, hT, rfl, hx, hy⟩ := hy
  obtain ⟨d, hd, rd⟩ := (r.mono g t).get hx
  obtain ⟨e, he, re⟩ := (r'.mono g t).get hy
  obtain ⟨W3, e3, E3, B3, r3⟩ := pair_new B hT rd re
  exact ⟨W3, _, e3, zipD_get hd he, E3, B3, r3⟩
theorem its_zipT {a b : Addr} {xs ys : List V} {as bs : List D} (h : SqT K W1.G a xs) (r : RepAll K mg W1.G W1.τ xs as) (h' : SqT K W1.G b ys) (r' : RepAll K mg W1.G W1.τ ys bs) : ∃ G Y, Its K mg W1 (ItzT K a b) (zipD as bs) G Y := by
  refine ⟨fun H => SqT K H a xs ∧ SqT K H b ys, YPair (fun i => xs[i]?) (fun i => ys[i]?), by rw [zipD_len, ← r.length, ← r'.length]; exact walk_zipT rfl, fun W2 s2 g B => ⟨seqT B.sub (seqT g h), seqT B.sub (seqT g h')⟩, fun i W2 s2 x H' g t B hi hy => ?_⟩
  obtain ⟨T, x0, y0, rfl, hT, rfl, hx, hy⟩ := hy
  obtain ⟨d, hd, rd⟩ := (r.mono g t).get hx
  obtain ⟨e, he, re⟩ := (r'.mono g t).get hy
  obtain ⟨W3, e3, E3, B3, r3⟩ := pair_new B hT rd re
  exact ⟨W3, _, e3, zipD_get hd he, E3, B3, r3⟩
theorem its_revL {a : Addr} {xs : List V} {ds : List D} (h : SqL K W1.G a xs) (r : RepAll K mg W1.G W1.τ xs ds) : ∃ G Y, Its K mg W1 (Itv K a xs.length) ds.reverse G Y := by
  refine ⟨_, _, by rw [List.length_reverse, ← r.length]; exact walk_rev, fun W2 s2 g B => B.sub.seq (g.seq h), fun i W2 s2 x H' g t B hi hy => ?_⟩
  obtain ⟨rfl, hx⟩ := hy
  obtain ⟨d, hd, rd⟩ := (r.mono g t).get hx
  rw [List.length_reverse] at hi
  exact ⟨W2, d, rfl, by rw [List.getElem?_reverse hi, ← r.length]; exact hd, Ext.refl _, B, rd⟩
theorem walk_revT {a : Addr} {xs : List V} : Walk (ItvT K a xs.length) xs.length (fun H => SqT K H a xs) (fun i H x H' => H' = H ∧ xs[xs.length - 1 - i]? = some x) :=
  ⟨fun i _ hi q => ⟨hi, xs, xs[xs.length - 1 - i]'(by omega), q, by simp [show xs.length - 1 - i < xs.length by omega]⟩, fun _ _ => Nat.le_refl _, fun _ _ _ _ _ q y => ⟨y.1, y.2 xs q⟩⟩
theorem its_revT {a : Addr} {xs : List V} {ds : List D} (h : SqT K W1.G a xs) (r : RepAll K mg W1.G W1.τ xs ds) : ∃ G Y, Its K mg W1 (ItvT K a xs.length) ds.reverse G Y := by
  refine ⟨_, _, by rw [List.length_reverse, ← r.length]; exact walk_revT, fun W2 s2 g B => seqT B.sub (seqT g h), fun i W2 s2 x H' g t B hi hy => ?_⟩
  obtain ⟨rfl, hx⟩ := hy
  obtain ⟨d, hd, rd⟩ := (r.mono g t).get hx
  rw [List.length_reverse] at hi
  exact ⟨W2, d, rfl, by rw [List.getElem?_reverse hi, ← r.length]; exact hd, Ext.refl _, B, rd⟩
end
/-- what stands in a list or tuple -/
def sqOf : D → Option (List D)
  | .lst ds => some ds
  | .tup ds => some ds
  | .frz ds => some ds
  | .ktp ds => some ds
  | _ => none
def iEnum (fs : DA) : DA := fun ρ s => (fs ρ s).bind fun ds s1 => match ds with
  | [d] => Res.ofO ((sqOf d).map enumD) s1
  | _ => .bad
def iRev (fs : DE) : DA := fun ρ s => (fs ρ s).bind fun d s1 => Res.ofO ((sqOf d).map List.reverse) s1
def isTu : D → Bool
  | .tup _ => true
  | .ktp _ => true
  | _ => false
def iZip (fs : DA) : DA := fun ρ s => (fs ρ s).bind fun ds s1 => match ds with
  | [d, e] => if isTu d = isTu e then (match sqOf d, sqOf e with
    | some as, some bs => .ok (zipD as bs) s1
    | _, _ => .bad) else .bad
  | _ => .bad
section
variable {X : Cx} {E : WX} {tg e a b c : Expr} {f : DE} {fs : DA} {pos p tpos : Pos} {elts : List Expr} {kk : Nat}
theorem sqv_inv {K : PySem.W.Frag} {mg : Str → Option Value} {W : Hw} {v : V} {d : D} {ds : List D} (r : Rep K mg W.G W.τ v d) (h : sqOf d = some ds) : ∃ a xs, v = .ref a ∧ RepAll K mg W.G W.τ xs ds ∧ ((isTu d = false ∧ SqL K W.G a xs) ∨ (isTu d = true ∧ SqT K W.G a xs)) := by
  cases d with
  | lst ds => cases h; obtain ⟨a, xs, rfl, h1, rr⟩ := r.lst_inv; exact ⟨a, xs, rfl, rr, .inl ⟨rfl, .of h1⟩⟩
  | frz ds => cases h; obtain ⟨a, xs, rfl, h1, rr⟩ := r.frz_inv; exact ⟨a, xs, rfl, rr, .inl ⟨rfl, h1⟩⟩
  | tup ds => cases h; obtain ⟨a, xs, rfl, h1, rr⟩ := r.tup_inv; exact ⟨a, xs, rfl, rr, .inr ⟨rfl, h1⟩⟩
  | ktp ds => cases h; obtain ⟨a, xs, rfl, h1, rr⟩ := r.ktp_inv; exact ⟨a, xs, rfl, rr, .inr ⟨rfl, h1⟩⟩
  | _ => cases h
theorem i_enum (hm : X.mg "enumerate" = none) (ha : PA X [a] (tA X.K X.mg E fs)) (hg : Gl X "enumerate" := by rfl) (hs : starEach [a] X.env = [(false, eval a X.env)] := by rfl) :
    PI X (.Tuple elts kk tpos) (.Call (.Name "enumerate" p) [a] [] pos) (tI X.K X.mg E (iEnum fs)) := PI.mono (PI.or (pi_enum hg hm ha hs) (pi_enumT hg hm ha hs)) fun σ H R z => by
  obtain ⟨W0, W, s, ρ, rfl, st, z⟩ := z
  unfold iEnum at z
  cases hf : fs ρ s with
  | bad => rw [hf] at z; exact z.elim
  | exc c s1 => exact .inl ⟨W0, W, s, ρ, rfl, st, by rw [hf] at z ⊢; exact z⟩
  | ok ds s1 =>
    have z' := z
    rw [hf] at z'
    simp only [Res.bind] at z'
    match ds, z' with
    | [d], z' =>
      cases hd : sqOf d with
      | none => simp only [hd, Option.map_none] at z'; exact z'.elim
      | some es =>
        simp only [hd, Option.map_some] at z'
        cases ht : isTu d with
        | false =>
          refine .inl ⟨W0, W, s, ρ, rfl, st, ?_⟩
          rw [hf]
          intro x W1 x1 B1 r1
          obtain ⟨v, rfl, rv⟩ := r1.one_inv
          obtain ⟨a, xs, rfl, rr, q⟩ := sqv_inv rv hd
          rcases q with ⟨_, q⟩ | ⟨q, _⟩
          · exact ⟨a, xs, rfl, B1.sub.seq q, z' (Ite X.K a) W1 x1 B1 (its_enumL q rr)⟩
          · rw [ht] at q; cases q
        | true =>
          refine .inr ⟨W0, W, s, ρ, rfl, st, ?_⟩
          rw [hf]
          intro x W1 x1 B1 r1
          obtain ⟨v, rfl, rv⟩ := r1.one_inv
          obtain ⟨a, xs, rfl, rr, q⟩ := sqv_inv rv hd
          rcases q with ⟨q, _⟩ | ⟨_, q⟩
          · rw [ht] at q; cases q
          · exact ⟨a, xs, rfl, seqT B1.sub q, z' (IteT X.K a) W1 x1 B1 (its_enumT q rr)⟩
    | [], z' => exact z'.elim
    | _ :: _ :: _, z' => exact z'.elim
theorem i_reversed (hm : X.mg "reversed" = none) (ha : PE X a (tE X.K X.mg E f)) (hg : Gl X "reversed" := by rfl) (hs : starEach [a] X.env = (false, eval a X.env) :: starEach [] X.env := by rfl) :
    PI X tg (.Call (.Name "reversed" p) [a] [] pos) (tI X.K X.mg E (iRev f)) := PI.mono (pi_revA hg hm ha hs) fun σ H R z => by
  obtain ⟨W0, W, s, ρ, rfl, st, z⟩ := z
  refine (go st z).imp fun x H1 ⟨W1, s1, d, e1, r1, x1, st1, z1⟩ => ?_
  subst e1
  cases hd : sqOf d with
  | none => rw [hd] at z1; exact z1.elim
  | some es =>
    simp only [hd, Option.map_some] at z1
    obtain ⟨a, xs, rfl, rr, q⟩ := sqv_inv r1 hd
    rcases q with ⟨_, q⟩ | ⟨_, q⟩
    · exact ⟨a, xs, rfl, .inl ⟨st1.base.sub.seq q, z1 _ W1 (Ext.refl _) st1.base (its_revL q rr)⟩⟩
    · exact ⟨a, xs, rfl, .inr ⟨seqT st1.base.sub q, z1 _ W1 (Ext.refl _) st1.base (its_revT q rr)⟩⟩
theorem i_zip (hm : X.mg "zip" = none) (ha : PA X [a, b] (tA X.K X.mg E fs)) (hg : Gl X "zip" := by rfl) (hs : starEach [a, b] X.env = (false, eval a X.env) :: starEach [b] X.env := by rfl) (hpl : (backTo pos (starEach [b] X.env)).any (·.1) = false := by rfl) :
    PI X (.Tuple elts kk tpos) (.Call (.Name "zip" p) [a, b] [] pos) (tI X.K X.mg E (iZip fs)) := PI.mono (pi_zipA hg hm ha hs hpl) fun σ H R z => by
  obtain ⟨W0, W, s, ρ, rfl, st, z⟩ := z
  refine (go st z).imp fun x H1 ⟨W1, s1, ds, e1, r1, x1, st1, z1⟩ => ?_
  subst e1
  match ds, r1, z1 with
  | [d, e], r1, z1 =>
    obtain ⟨v, u, rfl, rv, ru⟩ := r1.two_inv
    dsimp only at z1
    split at z1
    · rename_i ht
      split at z1
      · rename_i as bs h1 h2
        obtain ⟨a, xs, rfl, rr, q⟩ := sqv_inv rv h1
        obtain ⟨b, ys, rfl, rr', q'⟩ := sqv_inv ru h2
        rcases q with ⟨t, q⟩ | ⟨t, q⟩
        · rcases q' with ⟨t', q'⟩ | ⟨t', q'⟩
          · exact ⟨a, b, xs, ys, rfl, .inl ⟨st1.base.sub.seq q, st1.base.sub.seq q', z1 _ W1 (Ext.refl _) st1.base (its_zipL q rr q' rr')⟩⟩
          · rw [t, t'] at ht; cases ht
        · rcases q' with ⟨t', q'⟩ | ⟨t', q'⟩
          · rw [t, t'] at ht; cases ht
          · exact ⟨a, b, xs, ys, rfl, .inr ⟨seqT st1.base.sub q, seqT st1.base.sub q', z1 _ W1 (Ext.refl _) st1.base (its_zipT q rr q' rr')⟩⟩
      · exact z1.elim
    · exact z1.elim
  | [], _, z1 => exact z1.elim
  | [_], _, z1 => exact z1.elim
  | _ :: _ :: _ :: _, _, z1 => exact z1.elim
end
end DL
namespace DL
open PySem PySem.Spec PyProof.Rows L2
variable [LT : LawT]

/-! ### special lists of a def's own, forgotten behind it -/
mutual
/-- all special objects in it are among the first n -/
def tokLt (n : Nat) : D → Bool
  | .tok k => decide (k < n)
  | .tup xs => tokLts n xs
  | .lst xs => tokLts n xs
  | .frz xs => tokLts n xs
  | .ktp xs => tokLts n xs
  | .dct kvs => tokLtk n kvs
  | _ => true
def tokLts (n : Nat) : List D → Bool
  | [] => true
  | x :: xs => tokLt n x && tokLts n xs
def tokLtk (n : Nat) : List (D × D) → Bool
  | [] => true
  | (_, v) :: kvs => tokLt n v && tokLtk n kvs
end
section
variable {K : PySem.W.Frag} {mg : Str → Option Value} {G : Hp} {τ : List Addr} {n : Nat}
theorem tokLtk_zip : ∀ {ks vs : List D}, ks.length = vs.length → tokLtk n (ks.zip vs) = tokLts n vs
  | [], [], _ => rfl
  | k :: ks, v :: vs, h => by
    simp only [List.zip_cons_cons, tokLtk, tokLts]
    rw [tokLtk_zip (by simpa using h)]
  | [], _ :: _, h => by simp at h
  | _ :: _, [], h => by simp at h
mutual
theorem Rep.toks : ∀ {v : V} {d : D}, Rep K mg G τ v d → tokLt τ.length d = true
  | _, _, .non => rfl
  | _, _, .bl b => rfl
  | _, _, .int i => rfl
  | _, _, .str x => rfl
  | _, _, .tup _ r => by simpa [tokLt] using RepAll.toks r
  | _, _, .lst _ r => by simpa [tokLt] using RepAll.toks r
  | _, _, .frz _ r => by simpa [tokLt] using RepAll.toks r
  | _, _, .dK (kvs := kvs) _ r => by
    have h := RepAll.toks r
    have l := r.length
    simp only [tokLt]
    rw [tokLtk_zip (by simpa using l)]
    exact h
  | _, _, .dT (kvs := kvs) _ r => by
    have h := RepAll.toks r
    have l := r.length
    simp only [tokLt]
    rw [tokLtk_zip (by simpa using l)]
    exact h
  | _, _, .tok h => by simpa [tokLt] using (List.getElem?_eq_some_iff.mp h).1
  | _, _, .ty n => rfl
  | _, _, .glb _ _ => rfl
  | _, _, .ktp _ r => by simpa [tokLt] using RepAll.toks r
  | _, _, .exc _ _ => rfl
theorem RepAll.toks : ∀ {vs : List V} {ds : List D}, RepAll K mg G τ vs ds → tokLts τ.length ds = true
  | _, _, .nil => rfl
  | _, _, .cons h r => by simp [tokLts, Rep.toks h, RepAll.toks r]
end
mutual
theorem Rep.cut : ∀ {v : V} {d : D}, Rep K mg G τ v d → tokLt n d = true → Rep K mg G (τ.take n) v d
  | _, _, .non, _ => .non
  | _, _, .bl b, _ => .bl b
  | _, _, .int i, _ => .int i
  | _, _, .str x, _ => .str x
  | _, _, .tup h r, f => .tup h (RepAll.cut r (by simpa [tokLt] using f))
  | _, _, .lst h r, f => .lst h (RepAll.cut r (by simpa [tokLt] using f))
  | _, _, .frz h r, f => .frz h (RepAll.cut r (by simpa [tokLt] using f))
  | _, _, .dK h r, f => .dK h (RepAll.cut r (by
      have l := r.length
      simp only [tokLt] at f
      rw [tokLtk_zip (by simpa using l)] at f
      exact f))
  | _, _, .dT h r, f => .dT h (RepAll.cut r (by
      have l := r.length
      simp only [tokLt] at f
      rw [tokLtk_zip (by simpa using l)] at f
      exact f))
  | _, _, .tok h, f => .tok (by
      simp only [tokLt, decide_eq_true_eq] at f
      rw [List.getElem?_take, if_pos f]
      exact h)
  | _, _, .ty n, _ => .ty n
  | _, _, .glb h r, _ => .glb h r
  | _, _, .ktp h r, f => .ktp h (RepAll.cut r (by simpa [tokLt] using f))
  | _, _, .exc h r, _ => .exc h r
theorem RepAll.cut : ∀ {vs : List V} {ds : List D}, RepAll K mg G τ vs ds → tokLts n ds = true → RepAll K mg G (τ.take n) vs ds
  | _, _, .nil, _ => .nil
  | _, _, .cons h r, f => .cons (Rep.cut h (by simp [tokLts] at f; exact f.1)) (RepAll.cut r (by simp [tokLts] at f; exact f.2))
end
end
open Classical in
/-- a def of which new special lists are forgotten -/
noncomputable def scopeD (F : DFun) : DFun := fun ds s => match F ds s with
  | .ok d s' => if (∃ g, s' = s ++ g) ∧ tokLt s.length d = true then .ok d s else .bad
  | .exc c s' => if ∃ g, s' = s ++ g then .exc c s else .bad
  | .bad => .bad
section
variable {K : PySem.W.Frag} {mg : Str → Option Value} {W W' : Hw} {s : S}
theorem cut_base (B : Base K mg W s) (e : Ext W W') {g : S} (B' : Base K mg W' (s ++ g)) : Base K mg ⟨W'.H, W'.G, W.τ⟩ s ∧ Ext W ⟨W'.H, W'.G, W.τ⟩ ∧ W'.τ.take s.length = W.τ := by
  obtain ⟨t, ht⟩ := e.tpre
  have tk : W'.τ.take s.length = W.τ := by rw [← ht, B.len, List.take_left']; rfl
  have mem : ∀ b ∈ W.τ, b ∈ W'.τ := fun b hb => by rw [← ht]; exact List.mem_append_left _ hb
  refine ⟨⟨B'.sub, B'.tupI, fun b hb => B'.spc b (mem b hb), B.nd, B.len, fun n c a h1 h2 => ?_, fun c hc => B'.flt c (List.mem_append_left _ hc), B'.tab, B'.nog, B'.all⟩, ⟨e.keep0, e.grow, e.out, List.prefix_refl _, fun b h1 h2 => absurd h1 h2, e.tab⟩, tk⟩
  have hn := (List.getElem?_eq_some_iff.mp h1).1
  have q := B'.cel n c a (by rw [List.getElem?_append_left hn]; exact h1) (by rw [← ht, List.getElem?_append_left (by rw [← B.len]; exact hn)]; exact h2)
  have q0 := B.cel n c a h1 h2
  cases c with
  | l ds =>
    obtain ⟨vs0, _, r0⟩ := q0
    obtain ⟨vs, e1, r⟩ := q
    refine ⟨vs, e1, ?_⟩
    have := RepAll.cut r (n := s.length) (by rw [B.len]; exact r0.toks)
    rwa [tk] at this
  | o c fs =>
    obtain ⟨C0, dx0, vs0, _, _, r0⟩ := q0
    obtain ⟨C, dx, vs, e0, e1, r⟩ := q
    refine ⟨C, dx, vs, e0, e1, ?_⟩
    have := RepAll.cut r (n := s.length) (by rw [B.len]; exact r0.toks)
    rwa [tk] at this
  | d fs =>
    obtain ⟨vs0, _, r0⟩ := q0
    obtain ⟨vs, e1, r⟩ := q
    refine ⟨vs, e1, ?_⟩
    have := RepAll.cut r (n := s.length) (by rw [B.len]; exact r0.toks)
    rwa [tk] at this
  | t fs =>
    obtain ⟨vs0, _, r0⟩ := q0
    obtain ⟨vs, e1, r⟩ := q
    refine ⟨vs, e1, ?_⟩
    have := RepAll.cut r (n := s.length) (by rw [B.len]; exact r0.toks)
    rwa [tk] at this
theorem sp_scope {F : DFun} {n : Nat} {vs : List V} {H : Hp} {Q : VK} {E : XK} (h : spD K mg (scopeD F) false n vs H Q E) : spD K mg F false n vs H Q E := by
  obtain ⟨hl, W, s, ds, rfl, B, r, p⟩ := h
  refine ⟨hl, W, s, ds, rfl, B, r, ?_⟩
  unfold scopeD at p
  cases hF : F ds s with
  | bad => rw [hF] at p; exact p
  | ok d s' =>
    rw [hF] at p
    dsimp only at p
    split at p
    · rename_i hc
      obtain ⟨⟨g, rfl⟩, ht⟩ := hc
      intro x W' e B' rr
      obtain ⟨B2, e2, tk⟩ := cut_base B e B'
      have rr' : Rep K mg W'.G W'.τ x d := rr
      have := rr'.cut ht
      rw [tk] at this
      exact p x ⟨W'.H, W'.G, W.τ⟩ e2 B2 this
    · exact p.elim
  | exc c s' =>
    rw [hF] at p
    dsimp only at p
    split at p
    · rename_i hc
      obtain ⟨g, rfl⟩ := hc
      intro W' u e B' hu
      obtain ⟨B2, e2, tk⟩ := cut_base B e B'
      exact p ⟨W'.H, W'.G, W.τ⟩ u e2 B2 hu
    · exact p.elim
end
theorem DFn.scope {P : Program} {w : World} {K : PySem.W.Frag} {mg : Str → Option Value} {base : Heap} {k n : Nat} {x : Str} {F : DFun} (h : DFn P w K mg base k x n F false) : DFn P w K mg base k x n (scopeD F) false := by
  obtain ⟨⟨f, fd, ps, h1, h2, h3, h4⟩, ar⟩ := h
  refine ⟨⟨f, fd, ps, h1, h2, h3, ⟨fun vs H Q E q => h4.len vs H Q E (sp_scope q), ?_⟩⟩, fun ds s hn => ?_⟩
  · intro A outer s H args us vs Q E hr
    intro hg I hb r hs
    exact h4.run A outer s H args us vs Q E hr hg I hb r (sp_scope hs)
  · unfold scopeD
    rw [ar ds s hn]
/-! ### tuple(x), x a special list too -/
def tupT (s : S) (ds : List D) : Option D := match ds with
  | [.tok n] => (tokL s n).map .tup
  | _ => dTupOf ds
def eTupT (fs : DA) : DE := fun ρ s => (fs ρ s).bind fun ds s1 => Res.ofO (tupT s1 ds) s1
section
variable {X : Cx} {E : WX} {fs : DA} {pos p : Pos}
theorem e_tupT {e : Expr} (hm : X.mg "tuple" = none) (ha : PA X [e] (tA X.K X.mg E fs)) (hb : bootBuiltins "tuple" = some (.type "tuple") := by decide +kernel) (hg : Gl X "tuple" := by rfl)
    (he : starEach [e] X.env = (false, eval e X.env) :: starEach [] X.env := by rfl) : PE X (.Call (.Name "tuple" p) [e] [] pos) (tE X.K X.mg E (eTupT fs)) :=
  PE.mono (pe_callTy c_tup hg hm hb ha (by decide) (by decide) he rfl) fun σ H Q z => by
    obtain ⟨W0, W, s, ρ, rfl, st, z⟩ := z
    refine (go st z).imp fun x H1 ⟨W1, s1, d1, e1, r1, x1, st1, z1⟩ => ?_
    subst e1
    cases hz : tupT s1 d1 with
    | none => rw [hz] at z1; exact z1.elim
    | some d =>
      rw [hz] at z1
      unfold tupT at hz
      split at hz
      · rename_i n
        obtain ⟨ds, hd, rfl⟩ := Option.map_eq_some_iff.mp hz
        obtain ⟨v, rfl, rv⟩ := RepAll.one_inv r1
        obtain ⟨p, vs, rfl, _, eH, rr⟩ := tok_list st1.base rv hd
        refine ⟨p, vs, rfl, .inl ⟨.of eH, fun l hl => ?_⟩⟩
        obtain ⟨B2, x2⟩ := st1.base.newO hl (.tup vs)
        exact z1 _ _ x2 B2 (.tup upd_same (RepAll.ext x2 rr))
      · exact v_tup W1 s1 x _ d Q st1.base r1 hz z1
end
end DL
namespace DL
open PySem PySem.Spec PyProof.Rows L2
variable [LT : LawT]

/-! ### x[i], x a list of its own -/
def eIxO (i : Nat) (h : DE) : DE := fun ρ s => match ρ[i]? with
  | some (.own ds) => (h ρ s).bind fun k s1 => (match k with
    | .int z => Res.ofO (atI ds z) s1
    | _ => .bad)
  | _ => .bad
section
variable {X : Cx} {E : WX} {b : Expr} {h : DE} {pos p2 : Pos}
theorem e_ixO (i : Nat) {x : Str} (hb : PE X b (tE X.K X.mg E h)) (hN : X.N[i]? = some x := by rfl) (hv : Vis X.env.scope x := by first | exact Or.inl rfl | exact Or.inr (Or.inl rfl) | exact Or.inr (Or.inr rfl)) (hd : (x == ("__debug__" : Str)) = false := by decide)
    (hcd : (x == ("__classdict__" : Str)) = false := by decide) (hs : PlainIx b := by exact fun _ _ => rfl) : PE X (.Subscript (.Name x p2) b pos) (tE X.K X.mg E (eIxO i h)) := by
  refine PE.mono (pe_ix ix_seq (pv i hN hv hd hcd) hb hs) fun σ H Q z => ?_
  obtain ⟨W0, W, s, ρ, rfl, st, z⟩ := z
  unfold eIxO at z
  cases hr : ρ[i]? with
  | none => rw [hr] at z; exact z.elim
  | some y =>
    rw [hr] at z
    cases y with
    | dat d => exact z.elim
    | emp => exact z.elim
    | ownD t kvs => exact z.elim
    | own ds =>
      have hl : i < σ.length := by rw [st.len]; exact (List.getElem?_eq_some_iff.mp hr).1
      have z0 := st.sl i _ _ (List.getElem?_eq_getElem hl) hr
      generalize hx : σ[i] = x at z0
      cases z0 with
      | own o e r =>
        rename_i a vs
        refine ⟨.ref a, by rw [List.getElem?_eq_getElem hl, hx], ?_⟩
        refine (go st z).imp fun y H2 ⟨W1, s1, k, e1, r1, x1, st1, z1⟩ => ?_
        subst e1
        cases k with
        | int n =>
          cases r1.int_inv
          cases ha : atI ds n with
          | none => simp only [ha] at z1; exact z1.elim
          | some d =>
            simp only [ha] at z1
            have z2 := st1.sl i _ _ (List.getElem?_eq_getElem hl) hr
            rw [hx] at z2
            cases z2 with
            | own o2 eH rr =>
              obtain ⟨v, hv, rv⟩ := atI_rep rr ha
              exact .inl ⟨a, _, n, v, rfl, rfl, .of eH, hv, stay st1.base z1 rv⟩
        | _ => exact z1.elim
end
end DL
namespace DL
open PySem PySem.Spec PyProof.Rows L2 PySem.W
variable [LT : LawT]

/-! ### sorted -/
mutual
/-- may be sorted: numbers, truths, texts, tuples and lists of these -/
def okS : D → Bool
  | .non => true
  | .bl _ => true
  | .int _ => true
  | .str _ => true
  | .tup xs => okSs xs
  | .lst xs => okSs xs
  | .frz xs => okSs xs
  | .ktp xs => okSs xs
  | .dct _ => false
  | .tok _ => false
  | .ty _ => false
  | .glb _ => false
  | .exc _ => false
def okSs : List D → Bool
  | [] => true
  | x :: xs => okS x && okSs xs
end
section
variable {X : Cx} {pins : List (Addr × Obj)} {σ : L2.St} {H G : Hp} {τ : List Addr} {s : Shared}
mutual
theorem rds_rep (I : Inv X pins σ H s) (hs : Same G H) : ∀ {v : V} {d : D} {u : Value}, Rep X.K X.mg G τ v d → RelV v u → okS d = true → ∃ as, Reads s.heap u (toPy d) as
  | _, _, u, .non, r, _ => by
    cases r
    exact ⟨[], .none⟩
  | _, _, u, .bl b, r, _ => by
    cases r
    exact ⟨[], .bool b⟩
  | _, _, u, .int i, r, ok => by
    obtain ⟨t, rfl⟩ := r
    exact ⟨[], .int i t⟩
  | _, _, u, .str x, r, _ => by
    obtain ⟨t, rfl⟩ := r
    exact ⟨[], .str x t⟩
  | _, _, u, .tup (a := a) (xs := xs) (ds := ds) h rs, r, ok => by
    cases (show u = Value.ref a from r)
    obtain ⟨its, rv, p, _⟩ := I.tuple (.of (hs _ _ h))
    obtain ⟨as, q⟩ := rdss_rep I hs rs rv (by simpa [okS] using ok)
    obtain ⟨o, h1, h2, n, h3⟩ := p
    simp only [toPy]
    exact ⟨_, .tuple h1 h2 h3 (by simpa using q)⟩
  | _, _, u, .lst (a := a) (xs := xs) (ds := ds) h rs, r, ok => by
    cases (show u = Value.ref a from r)
    obtain ⟨its, rv, p, _⟩ := I.list (.of (hs _ _ h))
    obtain ⟨o, h1, h2, n, h3⟩ := p.isList
    obtain ⟨as, q⟩ := rdss_rep I hs rs rv (by simpa [okS] using ok)
    simp only [toPy]
    exact ⟨_, .list h1 h2 h3 (by simpa using q)⟩
  | _, _, u, .frz (a := a) (xs := xs) (ds := ds) h rs, r, ok => by
    cases (show u = Value.ref a from r)
    obtain ⟨its, rv, p, _⟩ := I.list (hs.seq h)
    obtain ⟨o, h1, h2, n, h3⟩ := p.isList
    obtain ⟨as, q⟩ := rdss_rep I hs rs rv (by simpa [okS] using ok)
    simp only [toPy]
    exact ⟨_, .list h1 h2 h3 (by simpa using q)⟩
  | _, _, u, .dK h rs, r, ok => by simp [okS] at ok
  | _, _, u, .dT h rs, r, ok => by simp [okS] at ok
  | _, _, u, .tok h, r, ok => by simp [okS] at ok
  | _, _, u, .ty n, r, ok => by simp [okS] at ok
  | _, _, u, .glb h h', r, ok => by simp [okS] at ok
  | _, _, u, .exc h h', r, ok => by simp [okS] at ok
  | _, _, u, .ktp (a := a) (xs := xs) (ds := ds) h rs, r, ok => by
    cases (show u = Value.ref a from r)
    obtain ⟨its, rv, p, _⟩ := I.tuple (seqT hs h)
    obtain ⟨as, q⟩ := rdss_rep I hs rs rv (by simpa [okS] using ok)
    obtain ⟨o, h1, h2, n, h3⟩ := p
    simp only [toPy]
    exact ⟨_, .tuple h1 h2 h3 (by simpa using q)⟩
theorem rdss_rep (I : Inv X pins σ H s) (hs : Same G H) : ∀ {vs : List V} {ds : List D} {us : List Value}, RepAll X.K X.mg G τ vs ds → Vals vs us → okSs ds = true → ∃ as, ReadsAll s.heap us (toPys ds) as
  | _, _, _, .nil, r, _ => by
    cases r
    simp only [toPys]
    exact ⟨_, .nil⟩
  | _, _, _, .cons h t, r, ok => by
    cases r with
    | cons r1 r2 =>
      simp only [okSs, Bool.and_eq_true] at ok
      obtain ⟨as, q⟩ := rds_rep I hs h r1 ok.1
      obtain ⟨cs, q2⟩ := rdss_rep I hs t r2 ok.2
      simp only [toPys]
      exact ⟨_, .cons q q2⟩
end
end
/-- one empty tuple alone is sorted as well -/
theorem sortsAt_any {prog : Program} {w : World} {A : Around} {s : Shared} {vs : List Value} {ds : List PyData} (e : EachIs (fun v d => ∃ as, Reads s.heap v d as) vs ds) (al : AllAlike ds) (so : Sortable ds ∨ ds = [.tuple []]) (un : ∀ d, d ∈ ds → A.units + d.depth < cLine) : SortsAt prog w A s (dataKind s.heap ds) vs := by
  rcases so with so | rfl
  · exact SortsAt.data e al so un
  · constructor
    · intro v hv
      obtain ⟨d, hd, as, r⟩ := e.left v hv
      exact ⟨_, dataKind_some al hd r⟩
    · refine ⟨tuples' false, fun E x y a b Q ha hb hq => ?_, fun h2 => ?_⟩
      · obtain ⟨d, as, hd, ra, rfl⟩ := dataKind_inv ha
        obtain ⟨d', as', hd', rb, rfl⟩ := dataKind_inv hb
        rw [List.mem_singleton] at hd hd'
        subst hd hd'
        have hq' : Q false s := by
          have : (dataKind s.heap [PyData.tuple []]).blt (keyToks (.tuple [])) (keyToks (.tuple [])) = false := lex_irrefl (O := itemOrd) _
          rwa [this] at hq
        cases ra with
        | @tuple l o xs n _ _ h1 h2 h3 h4 =>
          cases rb with
          | @tuple l' o' xs' n' _ _ k1 k2 k3 k4 =>
            have n1 : xs.toList = [] := by
              have := SeqAt.ReadsAll.length _ _ _ h4
              exact List.length_eq_zero_iff.mp (by simpa using this)
            have n2 : xs'.toList = [] := by
              have := SeqAt.ReadsAll.length _ _ _ k4
              exact List.length_eq_zero_iff.mp (by simpa using this)
            refine kat_lt h1 h3 k1 k3 ?_
            rw [n1, n2]
            have z1 : xs.size = 0 := by rw [← Array.length_toList, n1]; rfl
            have z2 : xs'.size = 0 := by rw [← Array.length_toList, n2]; rfl
            rw [z1, z2]
            exact hq'
      · have := e.length
        rw [this] at h2
        exact absurd h2 (by simp)
theorem sorted_any {prog : Program} {w : World} {A : Around} {E : Value → Shared → Prop} {s : Shared} {β : Type} {R : Value → β → Prop} {enc : β → PyData} {vs : List Value} {bs : List β} {l : Addr} {Q : Value → Shared → Prop}
    (hl : s.heap.IsList l vs.toArray) (e : EachIs R vs bs) (er : EachIs (fun v b => ∃ as, Reads s.heap v (enc b) as) vs bs) (al : AllAlike (bs.map enc)) (so : Sortable (bs.map enc) ∨ bs.map enc = [.tuple []]) (ln : bs.length ≤ sizeLine) (un : ∀ b, b ∈ bs → A.units + 2 + (enc b).depth < cLine)
    (fin : ∀ out, out.length = bs.length → EachIs R out (bs.mergeSort (dataLe false enc)) → Q (.ref (s.heap.objs.size + 1)) { s with heap := sortedAll s.heap vs (List.toArray out) }) :
    wpAny (model prog w) A (call (.builtin "sorted") [.ref l]) Q E s := by
  have lv : vs.length ≤ sizeLine := e.length ▸ ln
  let s2 : Shared := { s with heap := sortingHeap (copyHeap s.heap vs) (s.heap.objs.size + 1) vs }
  have er2 : EachIs (fun v b => ∃ as, Reads s2.heap v (enc b) as) vs bs := er.mono fun _ _ ⟨as, r⟩ => ⟨as, PyProof.Rows.Reads.keeps (fun _ _ => sorting_copy_old) r⟩
  have S : SortsAt prog w A.in1.in1 s2 (dataKind s2.heap (bs.map enc)) vs := sortsAt_any (each_map (R := fun v d => ∃ as, Reads s2.heap v d as) enc er2) al so (bound_map un)
  apply sorted_vals hl S lv
  apply fin
  · rw [sortVals_length false rfl]
    exact e.length
  · exact sortVals_data false e er2 al
/-- the order of sorted -/
def leD : D → D → Bool := dataLe false toPy
/-- a list that sorted takes -/
structure SortOk (ds : List D) : Prop where
  ok : okSs ds = true
  al : AllAlike (ds.map toPy)
  so : Sortable (ds.map toPy) ∨ ds.map toPy = [.tuple []]
  dp : ∀ d ∈ ds, (toPy d).depth ≤ 60
  ln : ds.length ≤ 16777216
open Classical in
noncomputable def dSorted : FN := fun ds => match ds with
  | [.lst xs] => if SortOk xs then some (.lst (xs.mergeSort leD)) else none
  | [.frz xs] => if SortOk xs then some (.lst (xs.mergeSort leD)) else none
  | _ => none
def rSortD (K : PySem.W.Frag) (mg : Str → Option Value) : List V → Hp → VK → Prop := fun vs H Q => ∃ (G : Hp) (τ : List Addr) (a : Addr) (xs : List V) (ds : List D), vs = [V.ref a] ∧ SqL K H a xs ∧ Same G H ∧ RepAll K mg G τ xs ds ∧ SortOk ds ∧
  ∀ ys, RepAll K mg G τ ys (ds.mergeSort leD) → ∀ p, H p = none → Q (.ref p) (upd H p (.lst ys))
section
variable {X : Cx}
theorem okSs_mem : ∀ {ds : List D}, okSs ds = true → ∀ d ∈ ds, okS d = true
  | d :: ds, h, e, m => by
    simp only [okSs, Bool.and_eq_true] at h
    rcases List.mem_cons.mp m with rfl | m
    · exact h.1
    · exact okSs_mem h.2 e m
theorem each_zip {G : Hp} {τ : List Addr} {K : PySem.W.Frag} {mg : Str → Option Value} {P : Value → V → D → Prop} : ∀ {xs : List V} {ds : List D} {us : List Value}, RepAll K mg G τ xs ds → Vals xs us → (∀ u v d, d ∈ ds → Rep K mg G τ v d → RelV v u → P u v d) → EachIs (fun u (b : V × D) => P u b.1 b.2) us (xs.zip ds)
  | _, _, _, .nil, r, _ => by
    cases r
    exact .nil
  | _, _, _, .cons h t, r, f => by
    cases r with
    | cons r1 r2 => exact .cons (f _ _ _ List.mem_cons_self h r1) (each_zip t r2 fun u v d m => f u v d (List.mem_cons_of_mem _ m))
theorem zip_rep {G : Hp} {τ : List Addr} {K : PySem.W.Frag} {mg : Str → Option Value} : ∀ {xs : List V} {ds : List D}, RepAll K mg G τ xs ds → (∀ b ∈ xs.zip ds, Rep K mg G τ b.1 b.2) ∧ (xs.zip ds).map (·.2) = ds
  | _, _, .nil => ⟨(fun _ z => nomatch z), rfl⟩
  | _, _, .cons h t => by
    obtain ⟨a, b⟩ := zip_rep t
    refine ⟨fun p m => ?_, by simp [b]⟩
    rcases List.mem_cons.mp (show p ∈ (_, _) :: List.zip _ _ from m) with rfl | m
    · exact h
    · exact a p m
theorem rep_of_mem {G : Hp} {τ : List Addr} {K : PySem.W.Frag} {mg : Str → Option Value} : ∀ {bs : List (V × D)}, (∀ b ∈ bs, Rep K mg G τ b.1 b.2) → RepAll K mg G τ (bs.map (·.1)) (bs.map (·.2))
  | [], _ => .nil
  | b :: bs, h => .cons (h b List.mem_cons_self) (rep_of_mem fun b m => h b (List.mem_cons_of_mem _ m))
theorem vals_each : ∀ {bs : List (V × D)} {us : List Value}, EachIs (fun u (b : V × D) => RelV b.1 u) us bs → Vals (bs.map (·.1)) us
  | _, _, .nil => .nil
  | _, _, .cons h t => .cons h (vals_each t)
theorem cr_sortedD (hu : X.A.units + 64 < cLine) : CallR X (.builtin "sorted") (rSortD X.K X.mg) := by
  intro pins s σ H vs us Q I r h
  obtain ⟨G, τ, a, xs, ds, rfl, hs, hG, rr, ok, q⟩ := h
  obtain ⟨its, rv, hl, hz⟩ := I.list hs
  obtain ⟨u, rfl, ru⟩ := vals1 r
  obtain rfl : u = Value.ref a := ru
  obtain ⟨zm, ze⟩ := zip_rep rr
  have em : (xs.zip ds).map (fun b => toPy b.2) = ds.map toPy := by rw [← ze, List.map_map, ze]; rfl
  have hlen : (xs.zip ds).length = ds.length := by rw [← List.length_map (f := fun b : V × D => b.2), ze]
  refine sorted_any (β := V × D) (bs := xs.zip ds) (enc := fun b => toPy b.2) (R := fun u b => RelV b.1 u) hl.isList (each_zip rr rv fun u v d m _ h => h) (each_zip (P := fun u v d => ∃ as, Reads s.heap u (toPy d) as) rr rv fun u v d m h1 h2 => rds_rep I hG h1 h2 (okSs_mem ok.ok d m)) (by rw [em]; exact ok.al) (by rw [em]; exact ok.so) ?_ (fun b hb => ?_) fun out ho eo => ?_
  · rw [hlen, sizeLine_eq]; exact ok.ln
  · have := ok.dp b.2 (by rw [← ze]; exact List.mem_map_of_mem hb)
    omega
  · have e2 : ((xs.zip ds).mergeSort (dataLe false fun b => toPy b.2)).map (·.2) = ds.mergeSort leD := by
      rw [List.map_mergeSort (r := dataLe false fun b : V × D => toPy b.2) (s := leD) (f := fun b : V × D => b.2) (l := xs.zip ds) (fun _ _ _ _ => rfl), ze]
    obtain ⟨c, hc⟩ := sortedAll_at s.heap its (List.toArray out)
    have rep := rep_of_mem (bs := (xs.zip ds).mergeSort (dataLe false fun b => toPy b.2)) fun b m => zm b (List.mem_mergeSort.mp m)
    rw [e2] at rep
    refine ⟨.ref _, upd H _ (.lst _), I.laid (t' := s.toks) (fun b o h => sortedAll_old h) (Nat.le_succ _) ⟨?_, out, c, vals_each eo, hc⟩, rfl, q _ rep _ (I.hok.fresh (Nat.le_succ _))⟩
    have := vals_each eo
    rw [this.length, ho, hlen, sizeLine_eq]; exact ok.ln
variable {K : PySem.W.Frag} {mg : Str → Option Value}
theorem vF_sorted : VCF K mg (rSortD K mg) dSorted := fun W s vs ds z Q B r hz q => by
  unfold dSorted at hz
  have key : ∀ {xs : List D} {p : Addr} {ys : List V}, vs = [.ref p] → SqL K W.H p ys → RepAll K mg W.G W.τ ys xs → SortOk xs → z = .lst (xs.mergeSort leD) → rSortD K mg vs W.H Q := fun ev hl rr ok hz => by
    refine ⟨W.G, W.τ, _, _, _, ev, hl, B.sub, rr, ok, fun ys rs l hl => ?_⟩
    obtain ⟨B2, x2⟩ := B.newL hl (o := .lst _) (fun _ z => nomatch z)
    refine q _ _ x2 B2 ⟨l, _, _, rfl, hz, hl, ?_, ?_, upd_same, RepAll.ext x2 rs⟩
    · exact B.frz_none hl
    · exact fun m => B.tau_some m hl
  split at hz
  · split at hz
    · cases hz
      obtain ⟨v, rfl, rv⟩ := r.one_inv
      obtain ⟨p, ys, rfl, hl, rr⟩ := rv.seqL B.sub (.inl rfl)
      exact key rfl hl rr (by assumption) rfl
    · cases hz
  · split at hz
    · cases hz
      obtain ⟨v, rfl, rv⟩ := r.one_inv
      obtain ⟨p, ys, rfl, hl, rr⟩ := rv.seqL B.sub (.inr rfl)
      exact key rfl hl rr (by assumption) rfl
    · cases hz
  · cases hz
end
end DL
namespace DL
open PySem PySem.Spec PyProof.Rows L2
variable [LT : LawT]

/-! ### reversed(range(..)), list(range(..)) -/
def iRevR1 (f : DE) : DA := fun ρ s => (f ρ s).bind fun d s1 => match d with
  | .int j => if -(2 ^ 62) ≤ j ∧ j < 2 ^ 62 then .ok (rngD ((j.toNat : Int) - 1) (-1) j.toNat) s1 else .bad
  | _ => .bad
def iRevR2 (f g : DE) : DA := fun ρ s => (f ρ s).bind fun d s1 => (g ρ s1).bind fun e s2 => match d, e with
  | .int i, .int j => if -(2 ^ 62) ≤ i ∧ i < 2 ^ 62 ∧ -(2 ^ 62) ≤ j ∧ j < 2 ^ 62 then .ok (rngD (i + ((j - i).toNat : Int) - 1) (-1) (j - i).toNat) s2 else .bad
  | _, _ => .bad
def eLstR1 (f : DE) : DE := fun ρ s => (f ρ s).bind fun d s1 => match d with
  | .int j => if -(2 ^ 62) ≤ j ∧ j ≤ 2 ^ 24 then .ok (.lst (rngD 0 1 j.toNat)) s1 else .bad
  | _ => .bad
def eLstR2 (f g : DE) : DE := fun ρ s => (f ρ s).bind fun d s1 => (g ρ s1).bind fun e s2 => match d, e with
  | .int i, .int j => if -(2 ^ 62) ≤ i ∧ i < 2 ^ 62 ∧ -(2 ^ 62) ≤ j ∧ j < 2 ^ 62 ∧ (j - i).toNat ≤ 2 ^ 24 then .ok (.lst (rngD i 1 (j - i).toNat)) s2 else .bad
  | _, _ => .bad
section
variable {X : Cx} {E : WX} {tg a b : Expr} {f g : DE} {pos p p2 : Pos}
theorem rgV_rep {K : PySem.W.Frag} {mg : Str → Option Value} {G : Hp} {τ : List Addr} {i j : Int} : RepAll K mg G τ (rgV i j) (rngD i 1 (j - i).toNat) := by
  unfold rgV rngD
  generalize List.range (j - i).toNat = ls
  induction ls with
  | nil => exact .nil
  | cons n ls ih => exact .cons (by show Rep _ _ _ _ (V.int (i + (n : Int))) (D.int (i + (n : Int) * 1)); rw [Int.mul_one]; exact .int _) ih
theorem i_revR1 (hm : X.mg "reversed" = none) (hr : X.mg "range" = none) (ha : PE X a (tE X.K X.mg E f)) (hg : Gl X "reversed" := by rfl) (hgr : Gl X "range" := by rfl)
    (hs : starEach [.Call (.Name "range" p2) [a] [] p] X.env = (false, eval (.Call (.Name "range" p2) [a] [] p) X.env) :: starEach [] X.env := by rfl) (na : starEach [a] X.env = (false, eval a X.env) :: starEach [] X.env := by rfl) {p3 : Pos} :
    PI X tg (.Call (.Name "reversed" p3) [.Call (.Name "range" p2) [a] [] p] [] pos) (tI X.K X.mg E (iRevR1 f)) := PI.mono (pi_revR hg hm (prg_1 hgr hr ha na) hs) fun σ H R z => by
  obtain ⟨W0, W, s, ρ, rfl, st, z⟩ := z
  refine (go st z).imp fun x H1 ⟨W1, s1, d, e1, r1, x1, st1, z1⟩ => ?_
  subst e1
  cases d with
  | int n =>
    simp only at z1
    split at z1
    · rename_i hj
      cases r1.int_inv
      refine ⟨n, rfl, by decide, by decide, hj.1, hj.2, ?_⟩
      have := z1 (Itc (0 + (((n - 0).toNat : Nat) : Int) - 1) (-1) (n - 0).toNat) W1 (Ext.refl _) st1.base (by rw [Int.sub_zero, Int.zero_add]; exact its_rngC)
      exact this
    · exact z1.elim
  | _ => exact z1.elim
theorem i_revR2 (hm : X.mg "reversed" = none) (hr : X.mg "range" = none) (ha : PE X a (tE X.K X.mg E f)) (hb : PE X b (tE X.K X.mg E g)) (hg : Gl X "reversed" := by rfl) (hgr : Gl X "range" := by rfl)
    (hs : starEach [.Call (.Name "range" p2) [a, b] [] p] X.env = (false, eval (.Call (.Name "range" p2) [a, b] [] p) X.env) :: starEach [] X.env := by rfl) (na : starEach [a, b] X.env = (false, eval a X.env) :: starEach [b] X.env := by rfl)
    (nb : starEach [b] X.env = (false, eval b X.env) :: starEach [] X.env := by rfl) (hp : (backTo p (starEach [b] X.env)).any (·.1) = false := by rfl) {p3 : Pos} :
    PI X tg (.Call (.Name "reversed" p3) [.Call (.Name "range" p2) [a, b] [] p] [] pos) (tI X.K X.mg E (iRevR2 f g)) := PI.mono (pi_revR hg hm (prg_2 hgr hr ha hb na nb hp) hs) fun σ H R z => by
  obtain ⟨W0, W, s, ρ, rfl, st, z⟩ := z
  refine (go st z).imp fun x H1 ⟨W1, s1, d, e1, r1, x1, st1, z1⟩ => ?_
  subst e1
  refine (go st1 z1).imp fun y H2 ⟨W2, s2, e, e2, r2, x2, st2, z2⟩ => ?_
  subst e2
  have r1 := Rep.ext x2 r1
  cases d with
  | int i =>
    cases e with
    | int j =>
      simp only at z2
      split at z2
      · rename_i hj
        cases r1.int_inv
        cases r2.int_inv
        exact ⟨i, j, rfl, rfl, hj.1, hj.2.1, hj.2.2.1, hj.2.2.2, z2 _ W2 (Ext.refl _) st2.base its_rngC⟩
      · exact z2.elim
    | _ => exact z2.elim
  | _ => exact z2.elim
theorem f_lstR1 (hc : X.calm = true) (hm : X.mg "list" = none) (hr : X.mg "range" = none) (ha : PE X a (tE X.K X.mg E f)) (hg : Gl X "list" := by rfl) (hgr : Gl X "range" := by rfl)
    (hs : starEach [.Call (.Name "range" p2) [a] [] p] X.env = (false, eval (.Call (.Name "range" p2) [a] [] p) X.env) :: starEach [] X.env := by rfl) (na : starEach [a] X.env = (false, eval a X.env) :: starEach [] X.env := by rfl) {p3 : Pos} :
    PE X (.Call (.Name "list" p3) [.Call (.Name "range" p2) [a] [] p] [] pos) (tF X.K X.mg E (eLstR1 f)) := PE.mono (pe_listRg hc hg hm (prg_1 hgr hr ha na) hs) fun σ H Q z => by
  obtain ⟨W0, W, s, ρ, rfl, st, z⟩ := z
  refine (go st z).imp fun x H1 ⟨W1, s1, d, e1, r1, x1, st1, z1⟩ => ?_
  subst e1
  cases d with
  | int n =>
    simp only at z1
    split at z1
    · rename_i hj
      cases r1.int_inv
      refine ⟨n, rfl, ⟨by decide, by decide, hj.1, by omega, by omega⟩, fun l hl => ?_⟩
      obtain ⟨B2, x2⟩ := st1.base.newL hl (o := .lst _) (fun _ z => nomatch z)
      exact z1 _ _ x2 B2 (relF.mono x1 st1.base (show relF X.K X.mg W1 _ (.ref l) (.lst (rngD 0 1 n.toNat)) from ⟨l, _, _, rfl, rfl, hl, st1.base.frz_none hl, fun m => st1.base.tau_some m hl, upd_same, by rw [show n.toNat = (n - 0).toNat by rw [Int.sub_zero]]; exact rgV_rep⟩))
    · exact z1.elim
  | _ => exact z1.elim
theorem f_lstR2 (hc : X.calm = true) (hm : X.mg "list" = none) (hr : X.mg "range" = none) (ha : PE X a (tE X.K X.mg E f)) (hb : PE X b (tE X.K X.mg E g)) (hg : Gl X "list" := by rfl) (hgr : Gl X "range" := by rfl)
    (hs : starEach [.Call (.Name "range" p2) [a, b] [] p] X.env = (false, eval (.Call (.Name "range" p2) [a, b] [] p) X.env) :: starEach [] X.env := by rfl) (na : starEach [a, b] X.env = (false, eval a X.env) :: starEach [b] X.env := by rfl)
    (nb : starEach [b] X.env = (false, eval b X.env) :: starEach [] X.env := by rfl) (hp : (backTo p (starEach [b] X.env)).any (·.1) = false := by rfl) {p3 : Pos} :
    PE X (.Call (.Name "list" p3) [.Call (.Name "range" p2) [a, b] [] p] [] pos) (tF X.K X.mg E (eLstR2 f g)) := PE.mono (pe_listRg hc hg hm (prg_2 hgr hr ha hb na nb hp) hs) fun σ H Q z => by
  obtain ⟨W0, W, s, ρ, rfl, st, z⟩ := z
  refine (go st z).imp fun x H1 ⟨W1, s1, d, e1, r1, x1, st1, z1⟩ => ?_
  subst e1
  refine (go st1 z1).imp fun y H2 ⟨W2, s2, e, e2, r2, x2, st2, z2⟩ => ?_
  subst e2
  have r1 := Rep.ext x2 r1
  cases d with
  | int i =>
    cases e with
    | int j =>
      simp only at z2
      split at z2
      · rename_i hj
        cases r1.int_inv
        cases r2.int_inv
        refine ⟨i, j, rfl, rfl, ⟨hj.1, hj.2.1, hj.2.2.1, hj.2.2.2.1, hj.2.2.2.2⟩, fun l hl => ?_⟩
        obtain ⟨B2, x3⟩ := st2.base.newL hl (o := .lst _) (fun _ z => nomatch z)
        exact z2 _ _ x3 B2 (relF.mono x1 st1.base (relF.mono x2 st2.base (show relF X.K X.mg W2 _ (.ref l) (.lst (rngD i 1 (j - i).toNat)) from ⟨l, _, _, rfl, rfl, hl, st2.base.frz_none hl, fun m => st2.base.tau_some m hl, upd_same, rgV_rep⟩)))
      · exact z2.elim
    | _ => exact z2.elim
  | _ => exact z2.elim
end
end DL
namespace DL
open PySem PyProof.Rows PySem.W
variable [LT : LawT]
/-- sorted of a tuple: what is collected is laid out as a list, that list is sorted -/
theorem sortT_raw {prog : Program} {w : World} {A : Around} {E : Value → Shared → Prop} {s : Shared} {β : Type} {R : Value → β → Prop} {enc : β → PyData} {vs : List Value} {bs : List β} {l : Addr} {Q : Value → Shared → Prop}
    (hl : IsTup s.heap l vs.toArray) (e : EachIs R vs bs) (er : EachIs (fun v b => ∃ as, Reads s.heap v (enc b) as) vs bs) (al : AllAlike (bs.map enc)) (so : Sortable (bs.map enc) ∨ bs.map enc = [.tuple []]) (ln : bs.length ≤ sizeLine) (un : ∀ b ∈ bs, A.units + 2 + (enc b).depth < cLine)
    (fin : ∀ (h' : Heap) (out : List Value), (∀ b o, s.heap.get? b = some o → h'.get? b = some o) → (∀ b o, h'.get? b = some o → (sortedHeap (h'.push (seqObj "list" vs.toArray 0)) h'.objs.size vs out.toArray).get? b = some o) → out.length = bs.length → EachIs R out (bs.mergeSort (dataLe false enc)) →
      Q (.ref h'.objs.size) { s with heap := sortedHeap (h'.push (seqObj "list" vs.toArray 0)) h'.objs.size vs out.toArray }) :
    wpAny (model prog w) A (call (.builtin "sorted") [.ref l]) Q E s := by
  have lv : vs.length ≤ sizeLine := e.length ▸ ln
  obtain ⟨o, ho, hc, n, hd⟩ := hl
  apply call_function_entry_kw kind_sorted plain_sorted entry_sorted (args_sorted1 _)
  show wpAny _ _ (checkCount "sorted" 1 1 _ >>= _) _ _ s
  apply wpAny_bind (m := checkCount "sorted" 1 1 _)
  apply wpAny_pure
  apply wpAny_bind
  apply wpAny_collect_seq l (.inr rfl) ho hc hd _ (by simpa using lv)
  intro h' old
  apply wpAny_bind
  apply wpAny_newList _ (by simpa using lv)
  have up : ∀ b o, s.heap.get? b = some o → b ≠ h'.objs.size ∧ (h'.push (seqObj "list" vs.toArray 0)).get? b = some o := fun b o q =>
    ⟨Nat.ne_of_lt (Heap.lt_size (old b o q)), Heap.get?_push_of_some _ (old b o q)⟩
  have there : (h'.push (seqObj "list" vs.toArray 0)).get? h'.objs.size = some (seqObj "list" vs.toArray 0) := Heap.get?_push_size _ rfl
  have ty : Shared.TypeIs { s with heap := h'.push (seqObj "list" vs.toArray 0) } (.ref h'.objs.size) "list" := ⟨_, there, rfl⟩
  refine wpAny_bind (wpAny_holding (wpAny_call_entry_kw slot_list_sort ty entry_list_sort ?_ (args_list_sort _)))
  have er' : EachIs (fun v b => ∃ as, Reads (sortingHeap (h'.push (seqObj "list" vs.toArray 0)) h'.objs.size vs) v (enc b) as) vs bs :=
    er.mono fun _ _ ⟨as, r⟩ => ⟨as, PyProof.Rows.Reads.keeps (fun b o q => sortingHeap_old (up b o q).1 (up b o q).2) r⟩
  have S := DL.sortsAt_any (prog := prog) (w := w) (A := A.in1.in1) (s := { s with heap := sortingHeap (h'.push (seqObj "list" vs.toArray 0)) h'.objs.size vs }) (each_map (R := fun v d => ∃ as, Reads (sortingHeap (h'.push (seqObj "list" vs.toArray 0)) h'.objs.size vs) v d as) enc er') al so (bound_map un)
  refine list_sort_vals (s := { s with heap := h'.push (seqObj "list" vs.toArray 0) }) there S lv ⟨_, rfl, wpAny_pure ⟨_, rfl, fin h' _ old (fun b o q => ?_) (by rw [sortVals_length false rfl]; exact e.length) (sortVals_data false e er' al)⟩⟩
  have lt := Heap.lt_size q
  rw [sortedHeap_old (Nat.ne_of_lt lt) (by rw [size_push']; exact Nat.lt_succ_of_lt lt)]
  exact Heap.get?_push_of_some _ q
end DL
namespace DL
open PySem PySem.Spec PyProof.Rows L2 PySem.W
variable [LT : LawT]

/-! ### sorted of a tuple -/
open Classical in
noncomputable def dSortedT : FN := fun ds => match ds with
  | [.tup xs] => if SortOk xs then some (.lst (xs.mergeSort leD)) else none
  | _ => none
def rSortT (K : PySem.W.Frag) (mg : Str → Option Value) : List V → Hp → VK → Prop := fun vs H Q => ∃ (G : Hp) (τ : List Addr) (a : Addr) (xs : List V) (ds : List D), vs = [V.ref a] ∧ SqT K H a xs ∧ Same G H ∧ RepAll K mg G τ xs ds ∧ SortOk ds ∧
  ∀ ys, RepAll K mg G τ ys (ds.mergeSort leD) → ∀ p, H p = none → Q (.ref p) (upd H p (.lst ys))
section
variable {X : Cx}
theorem cr_sortedT (hu : X.A.units + 64 < cLine) : CallR X (.builtin "sorted") (rSortT X.K X.mg) := by
  intro pins s σ H vs us Q I r h
  obtain ⟨G, τ, a, xs, ds, rfl, hs, hG, rr, ok, q⟩ := h
  obtain ⟨its, rv, hl, hz⟩ := I.tuple hs
  obtain ⟨u, rfl, ru⟩ := vals1 r
  obtain rfl : u = Value.ref a := ru
  obtain ⟨zm, ze⟩ := zip_rep rr
  have em : (xs.zip ds).map (fun b => toPy b.2) = ds.map toPy := by rw [← ze, List.map_map, ze]; rfl
  have hlen : (xs.zip ds).length = ds.length := by rw [← List.length_map (f := fun b : V × D => b.2), ze]
  refine sortT_raw (β := V × D) (bs := xs.zip ds) (enc := fun b => toPy b.2) (R := fun u b => RelV b.1 u) hl (each_zip rr rv fun u v d m _ h => h) (each_zip (P := fun u v d => ∃ as, Reads s.heap u (toPy d) as) rr rv fun u v d m h1 h2 => rds_rep I hG h1 h2 (okSs_mem ok.ok d m)) (by rw [em]; exact ok.al) (by rw [em]; exact ok.so) ?_ (fun b hb => ?_) fun h' out old hk ho eo => ?_
  · rw [hlen, sizeLine_eq]; exact ok.ln
  · have := ok.dp b.2 (by rw [← ze]; exact List.mem_map_of_mem hb)
    omega
  · have e2 : ((xs.zip ds).mergeSort (dataLe false fun b => toPy b.2)).map (·.2) = ds.mergeSort leD := by
      rw [List.map_mergeSort (r := dataLe false fun b : V × D => toPy b.2) (s := leD) (f := fun b : V × D => b.2) (l := xs.zip ds) (fun _ _ _ _ => rfl), ze]
    obtain ⟨c, hc⟩ := sortedHeap_at (h := h'.push (seqObj "list" its.toArray 0)) (a := h'.objs.size) (vs := its) (n := 0) (out := List.toArray out) (Heap.get?_push_size _ rfl)
    have rep := rep_of_mem (bs := (xs.zip ds).mergeSort (dataLe false fun b => toPy b.2)) fun b m => zm b (List.mem_mergeSort.mp m)
    rw [e2] at rep
    refine ⟨.ref _, upd H _ (.lst _), (I.kept (t' := s.toks) old).laid (t' := s.toks) hk (Nat.le_refl _) ⟨?_, out, c, vals_each eo, hc⟩, rfl, q _ rep _ ((I.kept (t' := s.toks) old).hok.fresh (Nat.le_refl _))⟩
    have := vals_each eo
    rw [this.length, ho, hlen, sizeLine_eq]; exact ok.ln
variable {K : PySem.W.Frag} {mg : Str → Option Value}
theorem vF_sortedT : VCF K mg (rSortT K mg) dSortedT := fun W s vs ds z Q B r hz q => by
  unfold dSortedT at hz
  split at hz
  · split at hz
    · cases hz
      obtain ⟨v, rfl, rv⟩ := r.one_inv
      obtain ⟨p, ys, rfl, hl, rr⟩ := rv.tup_inv'
      refine ⟨W.G, W.τ, _, _, _, rfl, .of (B.sub _ _ hl), B.sub, rr, by assumption, fun ys rs l hl => ?_⟩
      obtain ⟨B2, x2⟩ := B.newL hl (o := .lst _) (fun _ z => nomatch z)
      refine q _ _ x2 B2 ⟨l, _, _, rfl, rfl, hl, ?_, ?_, upd_same, RepAll.ext x2 rs⟩
      · exact B.frz_none hl
      · exact fun m => B.tau_some m hl
    · cases hz
  · cases hz
end

/-! ### the order of data that are alike -/
structure OrdOk (a b : D) : Prop where
  oa : okS a = true
  ob : okS b = true
  al : alike (toPy a) (toPy b) = true
  nn : toPy a ≠ .none
  da : (toPy a).depth ≤ 60
  db : (toPy b).depth ≤ 60
def rOrd (K : PySem.W.Frag) (mg : Str → Option Value) (g : PyData → PyData → Bool) : R2 := fun x y H Q => ∃ (G : Hp) (τ : List Addr) (a b : D), Same G H ∧ Rep K mg G τ x a ∧ Rep K mg G τ y b ∧ OrdOk a b ∧ Q (.bl (g (toPy a) (toPy b))) H
open Classical in
noncomputable def dOrd (g : PyData → PyData → Bool) : F2 := fun a b => if OrdOk a b then some (.bl (g (toPy a) (toPy b))) else none
section
variable {X : Cx}
theorem op_ltG (hu : X.A.units + 64 < cLine) : OpR X (compareOp .Lt) (rOrd X.K X.mg fun a b => dataLt a b) := by
  intro pins s σ H x y v u Q I rx ry h
  obtain ⟨G, τ, a, b, hG, ra, rb, ok, q⟩ := h
  obtain ⟨as, za⟩ := rds_rep I hG ra rx ok.oa
  obtain ⟨bs, zb⟩ := rds_rep I hG rb ry ok.ob
  have := ok.da
  exact lt_data za zb ok.al ok.nn (by omega) ⟨.bl _, H, I, rfl, q⟩
theorem op_gtG (hu : X.A.units + 64 < cLine) : OpR X (compareOp .Gt) (rOrd X.K X.mg fun a b => dataLt b a) := by
  intro pins s σ H x y v u Q I rx ry h
  obtain ⟨G, τ, a, b, hG, ra, rb, ok, q⟩ := h
  obtain ⟨as, za⟩ := rds_rep I hG ra rx ok.oa
  obtain ⟨bs, zb⟩ := rds_rep I hG rb ry ok.ob
  have := ok.da
  exact gt_data za zb ok.al ok.nn (by omega) ⟨.bl _, H, I, rfl, q⟩
theorem op_leG (hu : X.A.units + 64 < cLine) : OpR X (compareOp .LtE) (rOrd X.K X.mg fun a b => !dataLt b a) := by
  intro pins s σ H x y v u Q I rx ry h
  obtain ⟨G, τ, a, b, hG, ra, rb, ok, q⟩ := h
  obtain ⟨as, za⟩ := rds_rep I hG ra rx ok.oa
  obtain ⟨bs, zb⟩ := rds_rep I hG rb ry ok.ob
  have := ok.da
  exact le_data za zb ok.al ok.nn (by omega) ⟨.bl _, H, I, rfl, q⟩
theorem op_geG (hu : X.A.units + 64 < cLine) : OpR X (compareOp .GtE) (rOrd X.K X.mg fun a b => !dataLt a b) := by
  intro pins s σ H x y v u Q I rx ry h
  obtain ⟨G, τ, a, b, hG, ra, rb, ok, q⟩ := h
  obtain ⟨as, za⟩ := rds_rep I hG ra rx ok.oa
  obtain ⟨bs, zb⟩ := rds_rep I hG rb ry ok.ob
  have := ok.da
  exact ge_data za zb ok.al ok.nn (by omega) ⟨.bl _, H, I, rfl, q⟩
variable {K : PySem.W.Frag} {mg : Str → Option Value}
theorem v_ord (g : PyData → PyData → Bool) : V2 K mg (rOrd K mg g) (dOrd g) := fun W s x y d e z Q B rx ry hz q => by
  unfold dOrd at hz
  split at hz
  · cases hz
    exact ⟨W.G, W.τ, d, e, B.sub, rx, ry, by assumption, stay B q (.bl _)⟩
  · cases hz
end
end DL
namespace DL
open PySem PySem.Spec PyProof.Rows L2
variable [LT : LawT]

/-! ### dicts as special objects -/
def tokK (s : S) (n : Nat) : Option (List (Key × D)) := match s[n]? with
  | some (.d l) => some l
  | _ => none
def tokT (s : S) (n : Nat) : Option (List (List Key × D)) := match s[n]? with
  | some (.t l) => some l
  | _ => none
def look {κ : Type} [DecidableEq κ] (l : List (κ × D)) (k : κ) : Option D := (l.find? fun p => decide (p.1 = k)).map (·.2)
def putC {κ : Type} [DecidableEq κ] (l : List (κ × D)) (k : κ) (d : D) : List (κ × D) :=
  if (l.any fun p => decide (p.1 = k)) = true then l.map (fun p => if p.1 = k then (p.1, d) else p) else l ++ [(k, d)]
section
variable {κ : Type} [DecidableEq κ] {R : V → D → Prop}
/-- pairs of the heap and pairs of data -/
inductive PC (R : V → D → Prop) : List (κ × V) → List (κ × D) → Prop
  | nil : PC R [] []
  | cons {k : κ} {v : V} {d : D} {l : List (κ × V)} {m : List (κ × D)} : R v d → PC R l m → PC R ((k, v) :: l) ((k, d) :: m)
variable {l : List (κ × V)} {m : List (κ × D)}
theorem PC.get (h : PC R l m) (k : κ) : (valV l k = none ∧ look m k = none) ∨ ∃ v d, valV l k = some v ∧ look m k = some d ∧ R v d := by
  induction h with
  | nil => exact .inl ⟨rfl, rfl⟩
  | @cons k' v d l m r t ih =>
    by_cases e : k' = k
    · subst e
      exact .inr ⟨v, d, by simp [valV], by simp [look], r⟩
    · rcases ih with ⟨a, b⟩ | ⟨v', d', a, b, r'⟩
      · exact .inl ⟨(valV_neg e).trans a, by unfold look at b ⊢; rw [List.find?_cons_of_neg (by simpa using e)]; exact b⟩
      · exact .inr ⟨v', d', (valV_neg e).trans a, by unfold look at b ⊢; rw [List.find?_cons_of_neg (by simpa using e)]; exact b, r'⟩
theorem PC.any (h : PC R l m) (k : κ) : (l.any fun kv => decide (kv.1 = k)) = (m.any fun p => decide (p.1 = k)) := by
  induction h with
  | nil => rfl
  | @cons k' v d l m r t ih => rw [List.any_cons, List.any_cons, ih]
theorem PC.snoc (h : PC R l m) {v : V} {d : D} (r : R v d) (k : κ) : PC R (l ++ [(k, v)]) (m ++ [(k, d)]) := by
  induction h with
  | nil => exact .cons r .nil
  | cons q t ih => exact .cons q ih
theorem PC.upd (h : PC R l m) {v : V} {d : D} (r : R v d) (k : κ) : PC R (l.map (fun kv => if kv.1 = k then (kv.1, v) else kv)) (m.map (fun p => if p.1 = k then (p.1, d) else p)) := by
  induction h with
  | nil => exact .nil
  | @cons k' v' d' l m q t ih =>
    simp only [List.map_cons]
    by_cases e : k' = k
    · rw [if_pos e, if_pos e]; exact .cons r ih
    · rw [if_neg e, if_neg e]; exact .cons q ih
theorem PC.put (h : PC R l m) {v : V} {d : D} (r : R v d) (k : κ) : PC R (putK l k v) (putC m k d) := by
  unfold putK putC
  rw [h.any k]
  split
  · exact h.upd r k
  · exact h.snoc r k
theorem PC.len (h : PC R l m) : l.length = m.length := by
  induction h with
  | nil => rfl
  | cons _ _ ih => rw [List.length_cons, List.length_cons, ih]
theorem PC.imp {R' : V → D → Prop} (h : PC R l m) (i : ∀ v d, R v d → R' v d) : PC R' l m := by
  induction h with
  | nil => exact .nil
  | cons q t ih => exact .cons (i _ _ q) ih
end
section
variable {κ : Type} {K : PySem.W.Frag} {mg : Str → Option Value} {G : Hp} {τ : List Addr}
theorem pc_of : ∀ {fs : List (κ × D)} {vs : List V}, RepAll K mg G τ vs (fs.map (·.2)) → PC (Rep K mg G τ) ((fs.map (·.1)).zip vs) fs
  | [], _, h => by
    cases h
    exact .nil
  | p :: fs, _, h => by
    rw [List.map_cons] at h
    obtain ⟨p1, p2⟩ := p
    cases h with
    | cons r t => exact .cons r (pc_of t)
theorem pc_to {l : List (κ × V)} {fs : List (κ × D)} (h : PC (Rep K mg G τ) l fs) : ∃ vs, l = (fs.map (·.1)).zip vs ∧ RepAll K mg G τ vs (fs.map (·.2)) := by
  induction h with
  | nil => exact ⟨[], rfl, .nil⟩
  | cons r t ih =>
    obtain ⟨vs, rfl, h1⟩ := ih
    exact ⟨_ :: vs, rfl, .cons r h1⟩
theorem tok_dict {W : Hw} {s : S} {n : Nat} {v : V} {l : List (Key × D)} (B : Base K mg W s) (r : Rep K mg W.G W.τ v (.tok n)) (h : tokK s n = some l) : ∃ a ks, v = .ref a ∧ W.τ[n]? = some a ∧ W.H a = some (.dK ks) ∧ PC (Rep K mg W.G W.τ) ks l := by
  cases r with
  | tok ht =>
    unfold tokK at h
    split at h
    · rename_i l' hs
      cases h
      obtain ⟨vs, e, r⟩ := B.cel n _ _ hs ht
      exact ⟨_, _, rfl, ht, e, pc_of r⟩
    · cases h
theorem tok_dictT {W : Hw} {s : S} {n : Nat} {v : V} {l : List (List Key × D)} (B : Base K mg W s) (r : Rep K mg W.G W.τ v (.tok n)) (h : tokT s n = some l) : ∃ a ks, v = .ref a ∧ W.τ[n]? = some a ∧ W.H a = some (.dT ks) ∧ PC (Rep K mg W.G W.τ) ks l := by
  cases r with
  | tok ht =>
    unfold tokT at h
    split at h
    · rename_i l' hs
      cases h
      obtain ⟨vs, e, r⟩ := B.cel n _ _ hs ht
      exact ⟨_, _, rfl, ht, e, pc_of r⟩
    · cases h
theorem flat_tokK {W : Hw} {s : S} {n : Nat} {l : List (Key × D)} (B : Base K mg W s) (h : tokK s n = some l) : flats (l.map (·.2)) = true := by
  unfold tokK at h
  split at h
  · rename_i l' hs
    cases h
    exact B.flt _ (List.mem_of_getElem? hs)
  · cases h
theorem flat_tokT {W : Hw} {s : S} {n : Nat} {l : List (List Key × D)} (B : Base K mg W s) (h : tokT s n = some l) : flats (l.map (·.2)) = true := by
  unfold tokT at h
  split at h
  · rename_i l' hs
    cases h
    exact B.flt _ (List.mem_of_getElem? hs)
  · cases h
theorem flats_upd {κ : Type} [DecidableEq κ] {d : D} (hd : flat d = true) {k : κ} : ∀ {l : List (κ × D)}, flats (l.map (·.2)) = true → flats ((l.map fun p => if p.1 = k then (p.1, d) else p).map (·.2)) = true
  | [], h => h
  | p :: l, h => by
    simp only [List.map_cons, flats, Bool.and_eq_true] at h ⊢
    refine ⟨?_, flats_upd hd h.2⟩
    split
    · exact hd
    · exact h.1
theorem flats_snoc {κ : Type} {d : D} (hd : flat d = true) {k : κ} : ∀ {l : List (κ × D)}, flats (l.map (·.2)) = true → flats ((l ++ [(k, d)]).map (·.2)) = true
  | [], h => by simp [flats, hd]
  | p :: l, h => by
    simp only [List.cons_append, List.map_cons, flats, Bool.and_eq_true] at h ⊢
    exact ⟨h.1, flats_snoc hd h.2⟩
theorem flats_put {κ : Type} [DecidableEq κ] {d : D} (hd : flat d = true) {k : κ} {l : List (κ × D)} (h : flats (l.map (·.2)) = true) : flats ((putC l k d).map (·.2)) = true := by
  unfold putC
  split
  · exact flats_upd hd h
  · exact flats_snoc hd h
/-- a key of the heap -/
theorem rep_key {W : Hw} {v : V} {d : D} {k : Key} (r : Rep K mg W.G W.τ v d) (h : dk d = some k) : v = kV k := by
  rw [kD_of h] at r
  cases k with
  | inl i => exact r.int_inv
  | inr t => exact r.str_inv
theorem rep_keys {G : Hp} {τ : List Addr} : ∀ {ks : List Key} {vs : List V}, RepAll K mg G τ vs (ks.map kD) → vs = ks.map kV
  | [], _, h => by cases h; rfl
  | k :: ks, _, h => by
    rw [List.map_cons] at h
    cases h with
    | cons r t =>
      rw [rep_keys t]
      congr 1
      cases k with
      | inl i => exact r.int_inv
      | inr t => exact r.str_inv
theorem rep_keyT {W : Hw} {v : V} {d : D} {k : List Key} (r : Rep K mg W.G W.τ v d) (h : dkT d = some k) : ∃ b, v = .ref b ∧ W.G b = some (.tup (k.map kV)) := by
  rw [kT_of h] at r
  obtain ⟨a, xs, rfl, h1, h2⟩ := Rep.tup_inv' (show Rep K mg W.G W.τ v (.tup (k.map kD)) from r)
  rw [rep_keys h2] at h1
  exact ⟨a, rfl, h1⟩
end

/-! ### reading -/
/-- d[k], none where there is none -/
def getC (s : S) : D → D → Option (Option D)
  | .tok n, y => match tokK s n, tokT s n, dk y, dkT y with
    | some l, _, some k, _ => some (look l k)
    | _, some l, _, some k => some (look l k)
    | _, _, _, _ => none
  | .dct l, y => match dk y, dkT y with
    | some k, _ => if (l.all fun p => (dk p.1).isSome) = true ∧ l ≠ [] then some (DL.getD dk l k) else none
    | _, some k => if (l.all fun p => (dkT p.1).isSome) = true ∧ l ≠ [] then some (DL.getD dkT l k) else none
    | _, _ => none
  | _, _ => none
section
variable {K : PySem.W.Frag} {mg : Str → Option Value}
theorem pk_dk {R : V → D → Prop} {ks : List (Key × V)} {l : List (D × D)} (h : PK R kD ks l) (e : (l.all fun p => (dkT p.1).isSome) = true) (ne : l ≠ []) : False := by
  cases h with
  | nil => exact ne rfl
  | @cons k v d l m r t =>
    rw [List.all_cons, Bool.and_eq_true] at e
    have := e.1
    cases k <;> simp [kD, dkT] at this
theorem pk_dT {R : V → D → Prop} {ks : List (List Key × V)} {l : List (D × D)} (h : PK R kT ks l) (e : (l.all fun p => (dk p.1).isSome) = true) (ne : l ≠ []) : False := by
  cases h with
  | nil => exact ne rfl
  | @cons k v d l m r t =>
    rw [List.all_cons, Bool.and_eq_true] at e
    have := e.1
    simp [kT, dk] at this
theorem getC_ok {W : Hw} {s : S} {x y : V} {d e : D} {o : Option D} (B : Base K mg W s) (rx : Rep K mg W.G W.τ x d) (ry : Rep K mg W.G W.τ y e) (h : getC s d e = some o) :
    ∃ a ov, x = .ref a ∧ DGet W.H a y ov ∧ IsD W.H a ∧ ((ov = none ∧ o = none) ∨ ∃ v z, ov = some v ∧ o = some z ∧ Rep K mg W.G W.τ v z) := by
  unfold getC at h
  split at h
  · split at h
    · rename_i l k hl hk
      cases h
      obtain ⟨a, ks, rfl, hτ, eH, pc⟩ := tok_dict B rx hl
      rw [rep_key ry hk]
      exact ⟨a, _, rfl, .k eH, .inl ⟨_, .inl eH⟩, pc.get k⟩
    · rename_i l k hl hk _
      cases h
      obtain ⟨a, ks, rfl, hτ, eH, pc⟩ := tok_dictT B rx hl
      obtain ⟨b, rfl, hb⟩ := rep_keyT ry hk
      exact ⟨a, _, rfl, .t eH (B.sub _ _ hb), .inr ⟨_, .inl eH⟩, pc.get k⟩
    · cases h
  · rename_i l
    split at h
    · rename_i k hk
      split at h
      · rename_i hc
        cases h
        rw [rep_key ry hk]
        rcases rx.dct_inv' with ⟨a, ks, rfl, h1, pk⟩ | ⟨a, ks, rfl, h1, pk⟩
        · exact ⟨a, _, rfl, .k (B.sub _ _ h1), .inl ⟨_, .inl (B.sub _ _ h1)⟩, pk.get dk_kD k⟩
        · exact (pk_dT pk hc.1 hc.2).elim
      · cases h
    · rename_i k hk hn
      split at h
      · rename_i hc
        cases h
        obtain ⟨b, rfl, hb⟩ := rep_keyT ry hk
        rcases rx.dct_inv' with ⟨a, ks, rfl, h1, pk⟩ | ⟨a, ks, rfl, h1, pk⟩
        · exact (pk_dk pk hc.1 hc.2).elim
        · exact ⟨a, _, rfl, .t (B.sub _ _ h1) (B.sub _ _ hb), .inr ⟨_, .inl (B.sub _ _ h1)⟩, pk.get dkT_kT k⟩
      · cases h
    · cases h
  · cases h
end
/-- d[k] -/
def dIxC (s : S) : F2 := fun x y => (getC s x y).bind id
/-- k in d -/
def dInC (b : Bool) (s : S) : F2 := fun y x => (getC s x y).map fun o => .bl (o.isSome == b)
section
variable {X : Cx} {E : WX} {a b c : Expr} {f g h : DE} {pos : Pos}
theorem e_ixC (ha : PE X a (tE X.K X.mg E f)) (hb : PE X b (tE X.K X.mg E h)) (hu : X.A.units + 64 < cLine) (hs : NoSl b := by exact fun _ _ => rfl) : PE X (.Subscript a b pos) (tE X.K X.mg E (eOp2S dIxC f h)) :=
  PE.mono (pe_dget (by omega) ha hb hs) fun σ H Q z => by
    obtain ⟨W0, W, s, ρ, rfl, st, z⟩ := z
    refine (go st z).imp fun x H1 ⟨W1, s1, d1, e1, r1, x1, st1, z1⟩ => ?_
    subst e1
    refine (go st1 z1).imp fun y H2 ⟨W2, s2, d2, e2, r2, x2, st2, z2⟩ => ?_
    subst e2
    unfold dIxC at z2
    cases hg : getC s2 d1 d2 with
    | none => rw [hg] at z2; exact z2.elim
    | some o =>
      rw [hg] at z2
      obtain ⟨p, ov, rfl, dg, _, q⟩ := getC_ok st2.base (r1.ext x2) r2 hg
      cases o with
      | none => exact z2.elim
      | some u =>
        rcases q with ⟨_, e⟩ | ⟨v, w, rfl, e, rv⟩
        · cases e
        · cases e
          exact ⟨p, v, rfl, dg, z2.of_ok st2.base rv⟩
theorem e_inC (hu : X.A.units + 64 < cLine) (hi : PE X a (tE X.K X.mg E f)) (ho : PE X b (tE X.K X.mg E h)) (hm : behindInMarks .In b = false) : PE X (.Compare a [.In] [b] pos) (tE X.K X.mg E (eOp2S (dInC true) f h)) :=
  PE.mono (pe_cmp (pc_din (by omega) hi ho) hm) fun σ H Q z => by
    obtain ⟨W0, W, s, ρ, rfl, st, z⟩ := z
    refine (go st z).imp fun y H1 ⟨W1, s1, d1, e1, r1, x1, st1, z1⟩ => ?_
    subst e1
    refine (go st1 z1).imp fun x H2 ⟨W2, s2, d2, e2, r2, x2, st2, z2⟩ => ?_
    subst e2
    unfold dInC at z2
    cases hg : getC s2 d2 d1 with
    | none => rw [hg] at z2; exact z2.elim
    | some o =>
      rw [hg] at z2
      obtain ⟨p, ov, rfl, dg, _, q⟩ := getC_ok st2.base r2 (r1.ext x2) hg
      refine ⟨p, ov, rfl, dg, ?_⟩
      have e : ov.isSome = o.isSome := by
        rcases q with ⟨rfl, rfl⟩ | ⟨v, w, rfl, rfl, _⟩ <;> rfl
      rw [e]
      have e2 : (o.isSome == true) = o.isSome := by cases o.isSome <;> rfl
      have z3 := z2.of_ok st2.base (.bl _)
      rwa [e2] at z3
end
/-! d.get(k, e) and d[k] = e -/
/-- d[k] = e -/
def sPutC (f fi fv : DE) : DS := fun ρ s => (fv ρ s).thenS fun d s1 => (f ρ s1).thenS fun t s2 => (fi ρ s2).thenS fun k s3 => match t with
  | .tok n => match tokK s3 n, tokT s3 n, dk k, dkT k with
    | some l, _, some k, _ => if flat d = true ∧ l.length < 16777216 then .next ρ (s3.set n (.d (putC l k d))) else .bad
    | _, some l, _, some k => if flat d = true ∧ l.length < 16777216 then .next ρ (s3.set n (.t (putC l k d))) else .bad
    | _, _, _, _ => .bad
  | _ => .bad
section
variable {X : Cx} {E : WX} {fr : Bool} {a b c o : Expr} {f g h fi fv : DE} {pos : Pos}
theorem getC_isD {K : PySem.W.Frag} {mg : Str → Option Value} {W : Hw} {s : S} {x : V} {d : D} (B : Base K mg W s) (rx : Rep K mg W.G W.τ x d) (h : (∃ n l, d = .tok n ∧ tokK s n = some l) ∨ (∃ n l, d = .tok n ∧ tokT s n = some l) ∨ ∃ l, d = .dct l) : ∃ a, x = .ref a ∧ IsD W.H a := by
  rcases h with ⟨n, l, rfl, h⟩ | ⟨n, l, rfl, h⟩ | ⟨l, rfl⟩
  · obtain ⟨a, ks, rfl, _, e, _⟩ := tok_dict B rx h
    exact ⟨a, rfl, .inl ⟨_, .inl e⟩⟩
  · obtain ⟨a, ks, rfl, _, e, _⟩ := tok_dictT B rx h
    exact ⟨a, rfl, .inr ⟨_, .inl e⟩⟩
  · rcases rx.dct_inv' with ⟨a, ks, rfl, h1, _⟩ | ⟨a, ks, rfl, h1, _⟩
    · exact ⟨a, rfl, .inl ⟨_, .inl (B.sub _ _ h1)⟩⟩
    · exact ⟨a, rfl, .inr ⟨_, .inl (B.sub _ _ h1)⟩⟩
/-- a thing that is a dict -/
def isDct (s : S) : D → Bool
  | .tok n => (tokK s n).isSome || (tokT s n).isSome
  | .dct _ => true
  | _ => false
theorem isDct_ok {K : PySem.W.Frag} {mg : Str → Option Value} {W : Hw} {s : S} {x : V} {d : D} (B : Base K mg W s) (rx : Rep K mg W.G W.τ x d) (h : isDct s d = true) : ∃ a, x = .ref a ∧ IsD W.H a := by
  refine getC_isD B rx ?_
  unfold isDct at h
  split at h
  · rename_i n
    rw [Bool.or_eq_true, Option.isSome_iff_exists, Option.isSome_iff_exists] at h
    rcases h with ⟨l, h⟩ | ⟨l, h⟩
    · exact .inl ⟨n, l, rfl, h⟩
    · exact .inr (.inl ⟨n, l, rfl, h⟩)
  · exact .inr (.inr ⟨_, rfl⟩)
  · cases h
def eGet2 (f h g : DE) : DE := fun ρ s => (f ρ s).bind fun a s1 => if isDct s1 a = true then (h ρ s1).bind fun y s2 => (g ρ s2).bind fun z s3 => Res.ofO ((getC s3 a y).map fun o => o.getD z) s3 else .bad
theorem e_get2 {apos : Pos} (hu : X.A.units + 64 < cLine) (ho : PE X o (tE X.K X.mg E f)) (he : PE X a (tE X.K X.mg E h)) (hf : PE X b (tE X.K X.mg E g))
    (h1 : attributeBase o "get" X.env (eval o X.env) = eval o X.env := by rfl) (h2 : ((backTo pos (starEach [a, b] X.env)).all (fun x => !x.1) && (backToKw pos (keywordEach [] X.env)).all (fun x => x.1.isSome)
    && decide (([a, b] : List Expr).length + ([] : List Keyword).length + (if ([] : List Keyword).isEmpty then 0 else 1) < 30)) = true := by rfl) (h3 : (apos.endLine == pos.line) = true := by rfl)
    (h4 : backTo pos (starEach [a, b] X.env) = [(false, eval a X.env), (false, eval b X.env)] := by rfl) : PE X (.Call (.Attribute o "get" apos) [a, b] [] pos) (tE X.K X.mg E (eGet2 f h g)) :=
  PE.mono (pe_dget2 (by omega) ho he hf ⟨h1, h2, h3, h4⟩) fun σ H Q z => by
    obtain ⟨W0, W, s, ρ, rfl, st, z⟩ := z
    refine (go st z).imp fun x H1 ⟨W1, s1, d1, e1, r1, x1, st1, z1⟩ => ?_
    subst e1
    by_cases hd : isDct s1 d1 = true
    · rw [if_pos hd] at z1
      obtain ⟨p, rfl, isd⟩ := isDct_ok st1.base r1 hd
      refine ⟨p, rfl, isd, (go st1 z1).imp fun y H2 ⟨W2, s2, d2, e2, r2, x2, st2, z2⟩ => ?_⟩
      subst e2
      refine (go st2 z2).imp fun u H3 ⟨W3, s3, d3, e3, r3, x3, st3, z3⟩ => ?_
      subst e3
      cases hg : getC s3 d1 d2 with
      | none => rw [hg] at z3; exact z3.elim
      | some o =>
        rw [hg] at z3
        obtain ⟨p', ov, ep, dg, _, q⟩ := getC_ok st3.base ((r1.ext x2).ext x3) (r2.ext x3) hg
        cases ep
        refine ⟨ov, dg, ?_⟩
        rcases q with ⟨rfl, rfl⟩ | ⟨v, w, rfl, rfl, rv⟩
        · exact z3.of_ok st3.base r3
        · exact z3.of_ok st3.base rv
    · rw [if_neg hd] at z1
      exact z1.elim
theorem s_putC {sp : Pos} {v k : Expr} (hu : X.A.units + 64 < cLine) (hv' : PE X v (tE X.K X.mg E fv)) (ho : PE X o (tE X.K X.mg E f)) (hk : PE X k (tE X.K X.mg E fi))
    (ha : ∀ v, assign (.Subscript o k sp) X.env v = (do
      let ov ← holding [v] (eval o X.env)
      let iv ← holding [v, ov] (eval k X.env)
      standAt sp
      holding [v, ov, iv] (setItem ov iv v)
      release [v, ov, iv] []) := by intro _; rfl)
    (hs : swapsWithSole [.Subscript o k sp] v pos.line X.env = pure false := by rfl) (hw : swappedStores [.Subscript o k sp] v X.env = pure none := by rfl)
    (h1 : (assignEach [.Subscript o k sp] X.env).map (·.2) = [assign (.Subscript o k sp) X.env] := by rfl) :
    QS X E fr (.Assign [.Subscript o k sp] v pos) (sPutC f fi fv) := by
  refine PS.mono (ps_asg hv' (pg_sub ho hk (set_dict (by omega)) ha) hs hw h1) fun σ H T z => ?_
  obtain ⟨W0, W, s, ρ, rfl, st, z⟩ := z
  refine (goS st z).imp fun y H1 ⟨W1, s1, d1, e1, r1, x1, st1, z1⟩ => ?_
  subst e1
  refine (goS st1 z1).imp fun t H2 ⟨W2, s2, d2, e2, r2, x2, st2, z2⟩ => ?_
  subst e2
  refine (goS st2 z2).imp fun kk H3 ⟨W3, s3, d3, e3, r3, x3, st3, z3⟩ => ?_
  subst e3
  cases d2 with
  | tok n =>
    simp only at z3
    split at z3
    · rename_i l k hl hk
      split at z3
      · rename_i hc
        obtain ⟨p, ks, rfl, hτ, eH, pc⟩ := tok_dict st3.base (r2.ext x3) hl
        have ek := rep_key r3 hk
        subst ek
        refine ⟨p, _, rfl, .k eH (by rw [pc.len, sizeLine_eq]; exact hc.2), ?_⟩
        obtain ⟨vs, ev, rr⟩ := pc_to (pc.put ((r1.ext x2).ext x3) k)
        exact z3 σ _ (st3.cellPut hτ (fun _ z => nomatch (z : HO.dK _ = HO.tup _)) ⟨vs, by rw [← ev]; exact upd_same, rr⟩ (flats_put hc.1 (flat_tokK st3.base hl)))
      · exact z3.elim
    · rename_i l k hl hk _
      split at z3
      · rename_i hc
        obtain ⟨p, ks, rfl, hτ, eH, pc⟩ := tok_dictT st3.base (r2.ext x3) hl
        obtain ⟨b, rfl, hb⟩ := rep_keyT r3 hk
        refine ⟨p, _, rfl, .t eH (st3.base.sub _ _ hb) (by rw [pc.len, sizeLine_eq]; exact hc.2), ?_⟩
        obtain ⟨vs, ev, rr⟩ := pc_to (pc.put ((r1.ext x2).ext x3) k)
        exact z3 σ _ (st3.cellPut hτ (fun _ z => nomatch (z : HO.dT _ = HO.tup _)) ⟨vs, by rw [← ev]; exact upd_same, rr⟩ (flats_put hc.1 (flat_tokT st3.base hl)))
      · exact z3.elim
    · exact z3.elim
  | _ => exact z3.elim
/-! ### new ones -/
def eNewK : DE := fun _ s => .ok (.tok s.length) (s ++ [.d []])
def eNewT : DE := fun _ s => .ok (.tok s.length) (s ++ [.t []])
theorem newTok {K : PySem.W.Frag} {mg : Str → Option Value} {W0 W : Hw} {s : S} {σ : L2.St} {ρ : List Sl} {u : XK} {Q : VK} {p : Addr} {o : HO} {c : Cell} (st : SSt K mg W0 W s σ ρ) (hp : W.H p = none) (no : ∀ vs, o ≠ .tup vs)
    (hc : CellOk K mg ⟨upd W.H p o, W.G, W.τ⟩ p c) (hf : flatC c = true) (z : Post K mg (relE K mg) u (.ok (.tok s.length) (s ++ [c]) : Res D) W Q) (nt : ∀ ps, o ≠ .tbl ps := by exact fun _ z => nomatch z) : Q (.ref p) (upd W.H p o) := by
  obtain ⟨B2, x2⟩ := st.base.newL hp no nt
  have hG : W.G p = none := st.base.frz_none hp
  have ht : p ∉ W.τ := fun m => st.base.tau_some m hp
  have B3 := B2.pub (a := p) (c := c) hG ht hc hf
  refine z (.ref p) ⟨upd W.H p o, W.G, W.τ ++ [p]⟩ ⟨x2.keep0, x2.grow, x2.out, List.prefix_append _ _, fun b m n => ?_, x2.tab⟩ B3 (.tok ?_)
  · rcases List.mem_append.mp m with m | m
    · exact absurd m n
    · rw [List.mem_singleton.mp m]; exact hp
  · show (W.τ ++ [p])[s.length]? = some p
    rw [st.base.len, List.getElem?_append_right (Nat.le_refl _), Nat.sub_self]; rfl
theorem e_newK : PE X (.Dict [] [] pos) (tE X.K X.mg E eNewK) := PE.mono pe_dnewK fun σ H Q z => by
  obtain ⟨W0, W, s, ρ, rfl, st, z⟩ := z
  intro p hp
  exact newTok st hp (fun _ z => nomatch z) (c := .d []) ⟨[], upd_same, .nil⟩ rfl z
theorem e_newT : PE X (.Dict [] [] pos) (tE X.K X.mg E eNewT) := PE.mono pe_dnewT fun σ H Q z => by
  obtain ⟨W0, W, s, ρ, rfl, st, z⟩ := z
  intro p hp
  exact newTok st hp (fun _ z => nomatch z) (c := .t []) ⟨[], upd_same, .nil⟩ rfl z
end
end DL
namespace DL
open PySem PySem.Spec PyProof.Rows L2
variable [LT : LawT]

/-! ### displays that become special objects -/
section
variable {K : PySem.W.Frag} {mg : Str → Option Value} {W : Hw} {s : S} {p : Addr} {o : HO}
theorem Base.put (B : Base K mg W s) (hG : W.G p = none) (ht : p ∉ W.τ) (no : ∀ vs, o ≠ .tup vs) (pl : ∀ u, W.H p = some u → (∀ ps, u ≠ .tbl ps) ∧ ∀ q, u ≠ LamX.CodeO p q) (nt : ∀ ps, o ≠ .tbl ps := by exact fun _ z => nomatch z) : Base K mg ⟨upd W.H p o, W.G, W.τ⟩ s := by
  have nG : ∀ b x, W.G b = some x → b ≠ p := fun b x e z => by rw [z, hG] at e; cases e
  refine ⟨fun b x e => (upd_ne (nG b x e)).trans (B.sub b x e), fun b xs e => ?_, B.spc, B.nd, B.len, fun m c b h1 h2 => ?_, B.flt, tabs_upd pl B.tab, B.nog, all_upd nt B.all⟩
  · have e' : upd W.H p o b = some (.tup xs) := e
    by_cases hb : b = p
    · rw [hb, upd_same] at e'
      exact absurd (Option.some.inj e') (no xs)
    · rw [upd_ne hb] at e'
      exact B.tupI b xs e'
  · have nb : b ≠ p := fun z => ht (z ▸ List.mem_of_getElem? h2)
    have q := B.cel m c b h1 h2
    cases c with
    | l ds =>
      obtain ⟨us, e, r⟩ := q
      exact ⟨us, (upd_ne nb).trans e, r⟩
    | o c fs =>
      obtain ⟨C, dx, us, e0, e, r⟩ := q
      exact ⟨C, dx, us, e0, (upd_ne nb).trans e, r⟩
    | d fs =>
      obtain ⟨us, e, r⟩ := q
      exact ⟨us, (upd_ne nb).trans e, r⟩
    | t fs =>
      obtain ⟨us, e, r⟩ := q
      exact ⟨us, (upd_ne nb).trans e, r⟩
/-- the object made ahead of what it holds becomes a special one -/
theorem pub_behind {W3 : Hw} {s1 : S} {o1 : HO} {c : Cell} {u : XK} {Q : VK} (B : Base K mg W s) (hp : W.H p = none) (no1 : ∀ vs, o1 ≠ .tup vs) (x3 : Ext ⟨upd W.H p o1, W.G, W.τ⟩ W3) (B3 : Base K mg W3 s1) (no : ∀ vs, o ≠ .tup vs)
    (hc : CellOk K mg ⟨upd W3.H p o, W3.G, W3.τ⟩ p c) (hf : flatC c = true) (z : Post K mg (relE K mg) u (.ok (.tok s1.length) (s1 ++ [c]) : Res D) W Q) (pl1 : (∀ ps, o1 ≠ .tbl ps) ∧ ∀ q, o1 ≠ LamX.CodeO p q := by exact ⟨(fun _ z => nomatch z), (fun _ z => nomatch z)⟩) (nt : ∀ ps, o ≠ .tbl ps := by exact fun _ z => nomatch z) : Q (.ref p) (upd W3.H p o) := by
  have hG : W.G p = none := B.frz_none hp
  have ht : p ∉ W.τ := fun m => B.tau_some m hp
  have g3 : W3.G p = none := (x3.out p (by show upd W.H p o1 p ≠ none; rw [upd_same]; exact fun z => nomatch z)).trans hG
  have t3 : p ∉ W3.τ := fun m => by
    have := x3.tnew p m ht
    have e : upd W.H p o1 p = none := this
    rw [upd_same] at e; cases e
  have h3 : W3.H p = some o1 := x3.keep p o1 upd_same ht pl1.1
  have pl : ∀ u, W3.H p = some u → (∀ ps, u ≠ .tbl ps) ∧ ∀ q, u ≠ LamX.CodeO p q := fun u hu => by rw [h3] at hu; cases hu; exact pl1
  have B4 := (B3.put (o := o) g3 t3 no pl nt).pub (a := p) (c := c) g3 t3 hc hf
  refine z (.ref p) ⟨upd W3.H p o, W3.G, W3.τ ++ [p]⟩ ⟨fun b x e n => ?_, x3.grow, fun b e => ?_, x3.tpre.trans (List.prefix_append _ _), fun b m n => ?_, fun t => tabs_upd pl (x3.tab (tabs_new hp t))⟩ B4 (.tok ?_)
  · have nb : b ≠ p := fun z => by rw [z, hp] at e; cases e
    rcases x3.keep0 b x ((upd_ne nb).trans e) n with z | ⟨ps, ps', z1, z2⟩
    · exact .inl ((upd_ne nb).trans z)
    · exact .inr ⟨ps, ps', z1, (upd_ne nb).trans z2⟩
  · have nb : b ≠ p := fun z => e (z ▸ hp)
    exact x3.out b (by show upd W.H p _ b ≠ none; rw [upd_ne nb]; exact e)
  · rcases List.mem_append.mp m with m | m
    · have e : upd W.H p o1 b = none := x3.tnew b m n
      by_cases hb : b = p
      · rw [hb, upd_same] at e; cases e
      · rw [upd_ne hb] at e; exact e
    · rw [List.mem_singleton.mp m]; exact hp
  · show (W3.τ ++ [p])[s1.length]? = some p
    rw [B3.len, List.getElem?_append_right (Nat.le_refl _), Nat.sub_self]; rfl
end
def mergeC (l : List (Key × D)) : List (Key × D) := l.foldl (fun acc kv => putC acc kv.1 kv.2) []
def eDispK (ps : List (DE × DE)) : DE := fun ρ s => (evPairs ps ρ s).bind fun l s1 => if flats ((mergeC l).map (·.2)) = true then .ok (.tok s1.length) (s1 ++ [.d (mergeC l)]) else .bad
theorem merge_pc {R : V → D → Prop} : ∀ {kvs : List (Key × V)} {l : List (Key × D)} {acc : List (Key × V)} {m : List (Key × D)}, Paired (fun (p : Key × V) (q : Key × D) => p.1 = q.1 ∧ R p.2 q.2) kvs l → PC R acc m → PC R (mergeK acc kvs) (l.foldl (fun acc kv => putC acc kv.1 kv.2) m)
  | _, _, acc, m, .nil, h => h
  | _, _, acc, m, .cons (a := a) (b := b) q t, h => merge_pc (acc := putK acc a.1 a.2) (m := putC m b.1 b.2) t (by rw [q.1]; exact h.put q.2 _)
section
variable {X : Cx} {E : WX} {pos : Pos} {keys : List (Option Expr)} {values : List Expr}
theorem ev_len {ρ : List Sl} : ∀ {ps : List (DE × DE)} {s s' : S} {l : List (Key × D)}, evPairs ps ρ s = .ok l s' → l.length = ps.length := by
  intro ps
  induction ps with
  | nil => intro s s' l e; unfold evPairs at e; cases e; rfl
  | cons q ps ih =>
    intro s s' l e
    obtain ⟨f, g⟩ := q
    unfold evPairs at e
    cases hf : f ρ s with
    | ok k s1 =>
      rw [hf] at e
      simp only [Res.bind] at e
      cases hg : g ρ s1 with
      | ok d s2 =>
        rw [hg] at e
        simp only at e
        cases hk : dk k with
        | none => rw [hk] at e; cases e
        | some k =>
          rw [hk] at e
          simp only at e
          cases hr : evPairs ps ρ s2 with
          | ok l2 s3 =>
            rw [hr] at e
            cases e
            rw [List.length_cons, List.length_cons, ih hr]
          | exc _ _ => rw [hr] at e; cases e
          | bad => rw [hr] at e; cases e
      | exc _ _ => rw [hg] at e; cases e
      | bad => rw [hg] at e; cases e
    | exc _ _ => rw [hf] at e; cases e
    | bad => rw [hf] at e; cases e
theorem e_dispK {ps : List (DE × DE)} (h : DPs X E pos keys values ps) (hall : keys.all (·.isSome) = true := by rfl) (hl : keys.length = values.length := by rfl) (h0 : keys ≠ [] := by exact fun z => nomatch z)
    (h15 : keys.length ≤ 15 := by decide) (hps : ps.length ≤ 15 := by decide) : PE X (.Dict keys values pos) (tE X.K X.mg E (eDispK ps)) := PE.mono (pe_disp h.run hall hl h0 h15) fun σ H Q z => by
  obtain ⟨W0, W, s, ρ, rfl, st, z⟩ := z
  intro p hp
  obtain ⟨B2, x2⟩ := st.base.newL hp (o := .dK []) (fun _ z => nomatch z)
  have st2 := st.step x2 B2
  have ht : p ∉ W.τ := fun m => st.base.tau_some m hp
  refine tPairs_ok (W := ⟨upd W.H p (.dK []), W.G, W.τ⟩) st2 ?_
  unfold eDispK at z
  cases he : evPairs ps ρ s with
  | bad => rw [he] at z; exact z.elim
  | exc c s1 =>
    rw [he] at z
    exact fun W' u e' B' hu => z W' u (x2.trans B2 e') B' hu
  | ok l s1 =>
    rw [he] at z
    refine fun vs W3 x3 B3 ⟨kvs, e3, r3⟩ => ?_
    have h3 : W3.H p = some (.dK []) := x3.keep p _ upd_same ht
    refine ⟨h3, kvs, e3, ?_, ?_⟩
    · rw [Paired.length r3, ev_len he]; exact hps
    have pc := merge_pc (acc := []) (m := []) r3 .nil
    obtain ⟨us, ev, rr⟩ := pc_to pc
    simp only [Res.bind] at z
    split at z
    · rename_i hf
      exact pub_behind (o := .dK (mergeK [] kvs)) (o1 := .dK []) st.base hp (fun _ z => nomatch z) x3 B3 (fun _ z => nomatch z) (c := .d (mergeC l)) ⟨us, by show upd W3.H p _ p = _; rw [upd_same, ev]; rfl, rr⟩ hf z
    · exact z.elim
/-! ### {t: e}, t a tuple -/
def tDisp1 (tk tv : TE) : TE := fun σ H Q => ∀ p, H p = none → tk σ (upd H p (.dT [])) fun x H1 => tv σ H1 fun y H2 => ∃ (k : List Key) (b : Addr), x = .ref b ∧ H2 b = some (.tup (k.map kV)) ∧ H2 p = some (.dT []) ∧ Q (.ref p) (upd H2 p (.dT [(k, y)]))
theorem pe_disp1 {k v : Expr} {tk tv : TE} (hu : X.A.units + 64 < cLine) (hk : PE X k tk) (hv : PE X v tv) : PE X (.Dict [some k] [v] pos) (tDisp1 tk tv) := by
  have h := pps_cons (pos := pos) hk hv pps_nil
  refine ⟨fun pins s σ H Q I q => ?_⟩
  have hn := I.hok.fresh (Nat.le_refl s.heap.objs.size)
  have I1 := I.laid (a := s.heap.objs.size) (o := .dT []) (h' := s.heap.push { cls := .type "dict", data := .dict #[] }) (t' := s.toks) (fun _ _ q => Heap.get?_push_of_some _ q) (Nat.le_refl _) (dt_empty s.heap I.big)
  have hd1 : pairTrees [some k] [v] X.env pos ≠ [] := List.cons_ne_nil _ _
  rw [arm_eval_Dict, zip_pairTrees [some k] [v] X.env pos rfl rfl, dictDisplay_pairs _ hd1 (by show (1 : Nat) < 17; decide)]
  refine wpAny_bind (wpAny_standAt (wpAny_bind (wpAny_subDictH (knd := tupleKind (mixKind X.prog X.w)) (show X.A.units < cLine by omega) (by show (1 : Nat) ≤ 15; decide) (thn (h.run pins _ σ _ (fun ps H2 => match ps with
    | [(x, y)] => ∃ (k : List Key) (b : Addr), x = .ref b ∧ H2 b = some (.tup (k.map kV)) ∧ H2 s.heap.objs.size = some (.dT []) ∧ Q (.ref s.heap.objs.size) (upd H2 s.heap.objs.size (.dT [(k, y)]))
    | _ => False) I1 (q _ hn)) fun ws s2 ⟨ps, H2, I2, rel, q2⟩ => ?_))))
  split at q2
  · rename_i x y
    obtain ⟨kk, b, rfl, eb, e, q3⟩ := q2
    cases rel with
    | @cons a c as bs hr t =>
      cases t
      obtain ⟨c1, c2⟩ := c
      obtain ⟨r1, r2⟩ := hr
      cases (show c1 = Value.ref b from r1)
      obtain ⟨z, hd, xs, rel, dd⟩ := dt_of I2.hok e
      cases rel
      refine ⟨[(kk, b, c2)], ⟨rfl, rfl, key_of I2.hok eb, trivial⟩, dd, fun h' tk dd' hs => wpAny_pure ⟨.ref s.heap.objs.size, _, ?_, rfl, q3⟩⟩
      obtain ⟨qq, es, ep, hq, h2, h3, h4, _, h5⟩ := dd'
      have rel2 : KT H2 [(kk, y)] (storedAllH [] [(kk, b, c2)]) := .cons ⟨rfl, eb, r2⟩ .nil
      refine d_write I2 (by rw [e]; exact True.intro) hs ⟨qq, hq⟩ ⟨by rw [sizeLine_eq]; show (1 : Nat) ≤ 16777216; decide, hd, _, rel2.keeps fun c ys ec => ?_, qq, es, ep, hq, h2, h3, h4, h5⟩
      rw [upd_ne (ne_of ec e (fun z => nomatch z))]
      exact ec
  · exact q2.elim
def eDispT (f g : DE) : DE := fun ρ s => (f ρ s).bind fun k s1 => (g ρ s1).bind fun d s2 => match dkT k with
  | some k => if flat d = true then .ok (.tok s2.length) (s2 ++ [.t [(k, d)]]) else .bad
  | none => .bad
theorem e_dispT {k v : Expr} {f g : DE} (hu : X.A.units + 64 < cLine) (hk : PE X k (tE X.K X.mg E f)) (hv : PE X v (tE X.K X.mg E g)) : PE X (.Dict [some k] [v] pos) (tE X.K X.mg E (eDispT f g)) := PE.mono (pe_disp1 hu hk hv) fun σ H Q z => by
  obtain ⟨W0, W, s, ρ, rfl, st, z⟩ := z
  intro p hp
  obtain ⟨B2, x2⟩ := st.base.newL hp (o := .dT []) (fun _ z => nomatch z)
  have st2 := st.step x2 B2
  have ht : p ∉ W.τ := fun m => st.base.tau_some m hp
  have z2 : Post X.K X.mg (relE X.K X.mg) (fun u d H' => E u d σ H') (eDispT f g ρ s) W Q := z
  unfold eDispT at z2
  refine ⟨W0, ⟨upd W.H p (.dT []), W.G, W.τ⟩, s, ρ, rfl, st2, ?_⟩
  cases hf : f ρ s with
  | bad => rw [hf] at z2; exact z2.elim
  | exc c s1 =>
    rw [hf] at z2
    exact fun W' u e' B' hu => z2 W' u (x2.trans B2 e') B' hu
  | ok d1 s1 =>
    rw [hf] at z2
    refine fun x W3 x3 B3 r3 => ?_
    refine ⟨W0, W3, s1, ρ, rfl, st2.step x3 B3, ?_⟩
    simp only [Res.bind] at z2
    cases hg : g ρ s1 with
    | bad => rw [hg] at z2; exact z2.elim
    | exc c s2 =>
      rw [hg] at z2
      exact fun W' u e' B' hu => z2 W' u ((x2.trans B2 x3).trans B3 e') B' hu
    | ok d2 s2 =>
      rw [hg] at z2
      refine fun y W4 x4 B4 r4 => ?_
      simp only at z2
      cases hk : dkT d1 with
      | none => rw [hk] at z2; exact z2.elim
      | some kk =>
        rw [hk] at z2
        simp only at z2
        split at z2
        · rename_i hfl
          obtain ⟨b, rfl, hb⟩ := rep_keyT (r3.ext x4) hk
          have x34 := x3.trans B3 x4
          have h4 : W4.H p = some (.dT []) := x34.keep p _ upd_same ht
          exact ⟨kk, b, rfl, B4.sub _ _ hb, h4, pub_behind (o := .dT [(kk, y)]) (o1 := .dT []) st.base hp (fun _ z => nomatch z) x34 B4 (fun _ z => nomatch z) (c := .t [(kk, d2)]) ⟨[y], upd_same, .cons r4 .nil⟩ (by simp [flatC, flats, hfl]) z2⟩
        · exact z2.elim
end
end DL
namespace DL
open PySem PySem.Spec PyProof.Rows L2
variable [LT : LawT]

/-! ### zip of a list and a tuple -/
def ItzM (K : PySem.W.Frag) (a b : Addr) : It :=
  ⟨fun i H => ∃ (xs ys : List V) (x y : V), (SqL K H a xs ∧ xs[i]? = some x) ∧ (SqT K H b ys ∧ ys[i]? = some y),
    fun i H v H' => ∃ T x y, (v = .ref T ∧ H T = none ∧ H' = upd H T (.tup [x, y])) ∧ (∀ xs, SqL K H a xs → xs[i]? = some x) ∧ ∀ ys, SqT K H b ys → ys[i]? = some y,
    fun i H => ∃ xs ys : List V, SqL K H a xs ∧ SqT K H b ys ∧ i ≤ xs.length ∧ i ≤ ys.length ∧ (i = xs.length ∨ i = ys.length)⟩
/-- the cells of the zip object -/
structure ZM (h : Heap) (z TI TO i1 i2 a b : Addr) (i : Nat) : Prop where
  z : IsZip h z TI TO .none
  ti : IsTupOf2 h TI (.ref i1) (.ref i2)
  to : ∃ x y, IsTupOf2 h TO x y
  l : h.IsListIter i1 a i
  t : h.IsTupleIter i2 b i
structure ZA (z TI TO i1 i2 a b : Addr) : Prop where
  sep : ZipSep2 z TI TO i1 i2 [i1, a] [i2, b]
  az : a ≠ i1
  bz : b ≠ i2
theorem turnM {P : Program} {w : World} {K : PySem.W.Frag} {elts : List Expr} {kk : Nat} {tpos : Pos} {a b z TI TO i1 i2 : Addr} (D : ZA z TI TO i1 i2 a b) :
    Turn P w K (.Tuple elts kk tpos) (ItzM K a b) [z, TI, TO, i1, i2] z (fun i h => ZM h z TI TO i1 i2 a b i) where
  mem := List.mem_cons_self
  obj := fun i h st => by
    obtain ⟨o1, e1, _, d1⟩ := st.l
    obtain ⟨o2, e2, _, d2⟩ := st.t
    obtain ⟨x, y, e3⟩ := st.to
    simp only [List.forall_mem_cons, List.not_mem_nil, false_implies, implies_true, and_true]
    exact ⟨⟨_, st.z, fun v q => nomatch q⟩, ⟨_, st.ti, fun v q => nomatch q⟩, ⟨_, e3, fun v q => nomatch q⟩, ⟨o1, e1, fun v q => by rw [d1] at q; cases q⟩, ⟨o2, e2, fun v q => by rw [d2] at q; cases q⟩⟩
  keep := fun i h h' st k => by
    obtain ⟨x, y, e3⟩ := st.to
    simp only [List.forall_mem_cons, List.not_mem_nil, false_implies, implies_true, and_true] at k
    obtain ⟨k1, k2, k3, k4, k5⟩ := k
    exact ⟨k1 _ st.z, k2 _ st.ti, ⟨x, y, k3 _ e3⟩, st.l.at k4, st.t.at k5⟩
  item := by
    rintro X rfl rfl rfl hc i pins s σ H E I hf st ⟨xs, ys, x, y, ⟨qx, hx⟩, qy, hy⟩
    obtain ⟨us, rv, pl, _⟩ := I.list qx
    obtain ⟨ws, rw', pt, _⟩ := I.tuple qy
    obtain ⟨u, hu, ru⟩ := rv.get hx
    obtain ⟨u2, hu2, ru2⟩ := rw'.get hy
    obtain ⟨x0, y0, e3⟩ := st.to
    have hh : X.A.in1.handled = none := I.ok.hd hc
    have zl := Heap.lt_size st.z
    have tl := Heap.lt_size st.ti
    have ol := Heap.lt_size e3
    obtain ⟨o1, q1, _, _⟩ := st.l
    obtain ⟨o2, q2, _, _⟩ := st.t
    have l1 := Heap.lt_size q1
    have l2 := Heap.lt_size q2
    have lu : i < us.toArray.size := by
      have := (List.getElem?_eq_some_iff.mp hu).1
      simpa using this
    have lw : i < ws.toArray.size := by
      have := (List.getElem?_eq_some_iff.mp hu2).1
      simpa using this
    refine wpAny_pyNext_zipD2_item D.sep (Draws.list hh i1 a D.az us.toArray) (Draws.tuple hh i2 b D.bz ws.toArray) st.z st.ti e3 ⟨st.l, pl.isList⟩ ⟨st.t, pt⟩ lu lw fun v1 v2 h' tk p1 p2 z' to' s1 s2 nw hsz hk => ?_
    have ev1 : v1 = u := by rw [List.getElem?_toArray, hu] at p1; exact (Option.some.inj p1).symm
    have ev2 : v2 = u2 := by rw [List.getElem?_toArray, hu2] at p2; exact (Option.some.inj p2).symm
    subst ev1 ev2
    refine ⟨_, rfl, wpAny_letOwnedTupleGo_zip (s := { s with heap := h', toks := tk }) z' fun h'' z'' sb => ?_⟩
    have nz : s.heap.objs.size ≠ z := Nat.ne_of_gt zl
    have nw2 : h''.get? s.heap.objs.size = some { cls := .type "tuple", data := .seq #[v1, v2] } := (sb.2 _ nz).trans nw
    have keep : ∀ c o, c ∉ [z, TI, TO, i1, i2] → s.heap.get? c = some o → h''.get? c = some o := fun c o hb q => by
      simp only [List.mem_cons, List.not_mem_nil, or_false, not_or] at hb
      exact (sb.2 c hb.1).trans (hk c o hb.1 hb.2.2.1 hb.2.2.2.1 hb.2.2.2.2 q)
    have new : ObjOk X.prog X.w (upd H s.heap.objs.size (.tup [x, y])) h'' s.heap.objs.size (.tup [x, y]) :=
      ⟨by show 2 ≤ sizeLine; rw [sizeLine_eq]; decide, [v1, v2], .cons ru (.cons ru2 .nil), _, nw2, rfl, _, rfl⟩
    have fresh := I.hok.fresh (Nat.le_refl s.heap.objs.size)
    refine ⟨.ref s.heap.objs.size, _, I.turnedNew (t' := tk) keep hf (Nat.le_refl _) new, rfl, ⟨_, x, y, ⟨rfl, fresh, rfl⟩, fun l hl => by rw [I.list_inj hl qx]; exact hx, fun l hl => by rw [I.tuple_inj hl qy]; exact hy⟩, ⟨z'', ?_, ⟨v1, v2, ?_⟩, ?_, ?_⟩, fun c hcm => ?_⟩
    · exact (sb.2 _ D.sep.TIz).trans (hk _ _ D.sep.TIz D.sep.TITO D.sep.TIi1 D.sep.TIi2 st.ti)
    · exact (sb.2 _ D.sep.TOz).trans to'
    · exact s1.1.at fun o q => (sb.2 _ D.sep.zi1.symm).trans q
    · exact s2.1.at fun o q => (sb.2 _ D.sep.zi2.symm).trans q
    · have lt : c < s.heap.objs.size := by
        revert c hcm
        simp only [List.forall_mem_cons, List.not_mem_nil, false_implies, implies_true, and_true]
        exact ⟨zl, tl, ol, l1, l2⟩
      rw [upd_ne (Nat.ne_of_lt lt)]
      exact (hf c hcm).1
  done := by
    rintro X rfl rfl rfl hc i pins s σ H E I hf st ⟨xs, ys, qx, qy, hx, hy, hend⟩
    obtain ⟨us, rv, pl, _⟩ := I.list qx
    obtain ⟨ws, rw', pt, _⟩ := I.tuple qy
    obtain ⟨x0, y0, e3⟩ := st.to
    have hh : X.A.in1.handled = none := I.ok.hd hc
    have n1 := rv.length
    have n2 := rw'.length
    refine wpAny_pyNext_zipD2_end D.sep (Draws.list hh i1 a D.az us.toArray) (Draws.tuple hh i2 b D.bz ws.toArray) st.z st.ti e3 ⟨st.l, pl.isList⟩ ⟨st.t, pt⟩ (by simp; omega) (by simp; omega) (by simp; omega) fun h' tk hk => ⟨rfl, I.turnedL (t' := tk) (ch := [z, TI, TO, i1, i2]) (fun c o hb q => ?_) hf⟩
    simp only [List.mem_cons, List.not_mem_nil, or_false, not_or] at hb
    exact hk c o hb.1 hb.2.2.1 hb.2.2.2.1 hb.2.2.2.2 q
  self := fun A i s Q E st h => wpAny_pyIter_zip st.z h
def iZipMV (K : PySem.W.Frag) (ta : TA) : TI := fun σ H R => ta σ H fun vs H1 => ∃ a b xs ys, vs = [.ref a, .ref b] ∧ SqL K H1 a xs ∧ SqT K H1 b ys ∧ R (ItzM K a b) H1
theorem pi_zipM {X : Cx} {e e2 : Expr} {ta : TA} {p pos tpos : Pos} {elts : List Expr} {kk : Nat} (hg : Gl X "zip") (hm : X.mg "zip" = none) (ha : PA X [e, e2] ta)
    (hs : starEach [e, e2] X.env = (false, eval e X.env) :: starEach [e2] X.env := by rfl) (hpl : (backTo pos (starEach [e2] X.env)).any (·.1) = false := by rfl) :
    PI X (.Tuple elts kk tpos) (.Call (.Name "zip" p) [e, e2] [] pos) (iZipMV X.K ta) := by
  constructor
  intro pins s σ H R I h
  refine Call_ (ld_blt I hg hm PyProof.Rows.boot_zip (PyProof.Rows.callWith_type1 (thn (ha.run pos pins s σ H _ I h) fun us s1 q => ?_) hs hpl))
  obtain ⟨vs, H1, I1, r1, a, b, xs, ys, rfl, qx, qy, q⟩ := q
  obtain ⟨u1, u2, rfl, e1, e2⟩ : ∃ u1 u2, us = [u1, u2] ∧ u1 = .ref a ∧ u2 = .ref b := by
    cases r1 with
    | cons r rr =>
      cases rr with
      | cons r' rr =>
        cases rr
        exact ⟨_, _, rfl, r, r'⟩
  subst e1 e2
  obtain ⟨its, rv, pl, _⟩ := I1.list qx
  obtain ⟨its2, rv2, pt, _⟩ := I1.tuple qy
  obtain ⟨oa, na, ha1, _⟩ := id pl
  obtain ⟨ob, hb1, _⟩ := id pt
  have la := Heap.lt_size ha1
  have lb := Heap.lt_size hb1
  refine zip_begins2 (begins_list a its.toArray) (begins_tuple b its2.toArray) pl.isList pt fun h' hz hTI hTO g1 g2 hsz hk => wpAny_pyIter_zip hz ?_
  generalize hN : s1.heap.objs.size = N at *
  refine ⟨N + 4, [N + 4, N + 2, N + 3, N, N + 1], _, _, H1, rfl, I1.kept (t' := s1.toks) hk, turnM (z := N + 4) (TI := N + 2) (TO := N + 3) (i1 := N) (i2 := N + 1) (a := a) (b := b) ⟨?_, Nat.ne_of_lt la, Nat.ne_of_lt (Nat.lt_succ_of_lt lb)⟩, ⟨hz, hTI, ⟨_, _, hTO⟩, ⟨_, g1, rfl, rfl⟩, ⟨_, g2, rfl, rfl⟩⟩, fun c hc => ?_, q⟩
  · exact zip_sep2 (fp1 := [a]) (fp2 := [b]) (by simpa using la) (by simpa using lb)
  · have le : s1.heap.objs.size ≤ c := by
      rw [hN]
      revert c hc
      simp only [List.forall_mem_cons, List.not_mem_nil, false_implies, implies_true, and_true]
      exact ⟨Nat.le_add_right _ _, Nat.le_add_right _ _, Nat.le_add_right _ _, Nat.le_refl _, Nat.le_add_right _ _⟩
    exact I1.fpOk le (I1.hok.fresh le)
section
variable {K : PySem.W.Frag} {mg : Str → Option Value} {W1 : Hw}
theorem walk_zipM {a b : Addr} {xs ys : List V} {n : Nat} (hn : n = min xs.length ys.length) : Walk (ItzM K a b) n (fun H => SqL K H a xs ∧ SqT K H b ys) (YPair (fun i => xs[i]?) (fun i => ys[i]?)) := by
  subst hn
  refine ⟨fun i _ hi q => ?_, fun _ q => ⟨xs, ys, q.1, q.2, by omega, by omega, by omega⟩, fun i H v H' _ q y => ?_⟩
  · have h1 : i < xs.length := by omega
    have h2 : i < ys.length := by omega
    exact ⟨xs, ys, xs[i], ys[i], ⟨q.1, by simp [h1]⟩, q.2, by simp [h2]⟩
  · obtain ⟨T, x, z, ⟨h1, h2, h3⟩, h4, h5⟩ := y
    exact ⟨T, x, z, h1, h2, h3, h4 xs q.1, h5 ys q.2⟩
theorem its_zipM {a b : Addr} {xs ys : List V} {as bs : List D} (h : SqL K W1.G a xs) (r : RepAll K mg W1.G W1.τ xs as) (h' : SqT K W1.G b ys) (r' : RepAll K mg W1.G W1.τ ys bs) : ∃ G Y, Its K mg W1 (ItzM K a b) (zipD as bs) G Y := by
  refine ⟨fun H => SqL K H a xs ∧ SqT K H b ys, YPair (fun i => xs[i]?) (fun i => ys[i]?), by rw [zipD_len, ← r.length, ← r'.length]; exact walk_zipM rfl, fun W2 s2 g B => ⟨B.sub.seq (g.seq h), seqT B.sub (seqT g h')⟩, fun i W2 s2 x H' g t B hi hy => ?_⟩
  obtain ⟨T, x0, y0, rfl, hT, rfl, hx, hy⟩ := hy
  obtain ⟨d, hd, rd⟩ := (r.mono g t).get hx
  obtain ⟨e, he, re⟩ := (r'.mono g t).get hy
  obtain ⟨W3, e3, E3, B3, r3⟩ := pair_new B hT rd re
  exact ⟨W3, _, e3, zipD_get hd he, E3, B3, r3⟩
end
def iZipM (fs : DA) : DA := fun ρ s => (fs ρ s).bind fun ds s1 => match ds with
  | [d, e] => if isTu d = false ∧ isTu e = true then (match sqOf d, sqOf e with
    | some as, some bs => .ok (zipD as bs) s1
    | _, _ => .bad) else .bad
  | _ => .bad
theorem i_zipm {X : Cx} {E : WX} {a b : Expr} {fs : DA} {pos p tpos : Pos} {elts : List Expr} {kk : Nat} (hm : X.mg "zip" = none) (ha : PA X [a, b] (tA X.K X.mg E fs)) (hg : Gl X "zip" := by rfl) (hs : starEach [a, b] X.env = (false, eval a X.env) :: starEach [b] X.env := by rfl) (hpl : (backTo pos (starEach [b] X.env)).any (·.1) = false := by rfl) :
    PI X (.Tuple elts kk tpos) (.Call (.Name "zip" p) [a, b] [] pos) (tI X.K X.mg E (iZipM fs)) := PI.mono (pi_zipM hg hm ha hs hpl) fun σ H R z => by
  obtain ⟨W0, W, s, ρ, rfl, st, z⟩ := z
  refine (go st z).imp fun x H1 ⟨W1, s1, ds, e1, r1, x1, st1, z1⟩ => ?_
  subst e1
  match ds, r1, z1 with
  | [d, e], r1, z1 =>
    obtain ⟨v, u, rfl, rv, ru⟩ := r1.two_inv
    dsimp only at z1
    split at z1
    · rename_i ht
      split at z1
      · rename_i as bs h1 h2
        obtain ⟨a, xs, rfl, rr, q⟩ := sqv_inv rv h1
        obtain ⟨b, ys, rfl, rr', q'⟩ := sqv_inv ru h2
        have q1 := q.resolve_right fun q => by rw [ht.1] at q; cases q.1
        have q2 := q'.resolve_left fun q => by rw [ht.2] at q; cases q.1
        exact ⟨a, b, xs, ys, rfl, st1.base.sub.seq q1.2, seqT st1.base.sub q2.2, z1 _ W1 (Ext.refl _) st1.base (its_zipM q1.2 rr q2.2 rr')⟩
      · exact z1.elim
    · exact z1.elim
  | [], _, z1 => exact z1.elim
  | [_], _, z1 => exact z1.elim
  | _ :: _ :: _ :: _, _, z1 => exact z1.elim
end DL
namespace DL
open PySem PySem.Spec PyProof.Rows L2
variable [LT : LawT]

/-! ### in, of a tuple written in the module -/
def dInK : F2 := fun x y => match y with
  | .ktp ds => if ready x && ready (.ktp ds) then some (.bl (inB x ds)) else none
  | _ => none
theorem v_inK {K : PySem.W.Frag} {mg : Str → Option Value} : V2 K mg (rInA K) dInK := by
  intro W s x y d e z Q B rx ry hz q
  unfold dInK at hz
  split at hz
  · rename_i ds
    by_cases h : (ready d && ready (.ktp ds)) = true
    · rw [if_pos h] at hz
      cases hz
      rw [Bool.and_eq_true] at h
      have h1 := dp_of B.sub rx (ready_ok h.1)
      have h2 := dp_of B.sub ry (ready_ok h.2)
      have s1 := shaped_of h.1
      have s2 := shaped_of h.2
      simp only [toPy] at h2 s2
      refine .inr (.inl ⟨_, _, h1, h2, s1, s2, ?_⟩)
      rw [inB_py]
      exact stay B q (.bl _)
    · rw [if_neg h] at hz
      cases hz
  · cases hz
/-! a tuple of four texts, written in the module -/
section
variable {K : PySem.W.Frag} {mg : Str → Option Value} {h : Heap} {x : Str}
theorem mkTS4 {p : Addr} {i j k l : Str} {t u v o : Tok} {dd : Option Addr} {n : Nat} {sl : Array (Option Value)} (X : K.In h) (G : h.Ns mainGlobals mg) (a : PySem.W.nsIn K mainGlobals x = some (some (.ref p)))
    (e : K.lookup p = some ⟨.type "tuple", dd, .seq #[.str i t, .str j u, .str k v, .str l o] n, sl⟩) : KVal K mg x (.ktp [.str i, .str j, .str k, .str l]) :=
  ⟨.ref p, .ref p, PySem.W.mg_of X G a, rfl, fun _ _ => .ktp (xs := [.str i, .str j, .str k, .str l]) (.inr ⟨_, #[.str i t, .str j u, .str k v, .str l o], n, e, rfl, rfl, by rw [sizeLine_eq]; exact Nat.le_of_ble_eq_true rfl, .cons ⟨t, rfl⟩ (.cons ⟨u, rfl⟩ (.cons ⟨v, rfl⟩ (.cons ⟨o, rfl⟩ .nil)))⟩) (.cons (.str i) (.cons (.str j) (.cons (.str k) (.cons (.str l) .nil))))⟩
end
end DL
namespace DL
open PySem PySem.Spec PyProof.Rows L2
variable [LT : LawT]

/-! ### an own list gets another name -/
def sMove (i j : Nat) : DS := fun ρ s => ownAt j ρ fun ds => .next ((ρ.set j .emp).set i (.own ds)) s
section
variable {K : PySem.W.Frag} {mg : Str → Option Value} {W0 W : Hw} {s : S} {σ : L2.St} {ρ : List Sl}
theorem SSt.move (st : SSt K mg W0 W s σ ρ) {i j : Nat} {a : Addr} {ds : List D} (e1 : σ[j]? = some (some (.ref a))) (e2 : ρ[j]? = some (.own ds)) :
    SSt K mg W0 W s (σ.set i (some (.ref a))) ((ρ.set j .emp).set i (.own ds)) := by
  have hj : j < ρ.length := (List.getElem?_eq_some_iff.mp e2).1
  have zz := st.sl j _ _ e1 e2
  have not_own : ∀ (k : Nat) (y : Sl), (ρ.set j .emp)[k]? = some y → y.isOwn = true → k ≠ j ∧ ρ[k]? = some y := fun k y h o => by
    by_cases q : k = j
    · subst q
      rw [List.getElem?_set_self hj] at h
      cases h
      exact Bool.noConfusion o
    · rw [List.getElem?_set_ne (Ne.symm q)] at h
      exact ⟨q, h⟩
  refine ⟨st.ext, st.base, by simp [st.len], fun k x y h1 h2 => ?_, fun k l b y z ne h1 h2 h3 h4 o1 o2 => ?_⟩
  · by_cases q : k = i
    · subst q
      have hk : k < σ.length := by
        have := (List.getElem?_eq_some_iff.mp h1).1
        simpa using this
      rw [List.getElem?_set_self hk] at h1
      rw [List.getElem?_set_self (by simp [← st.len, hk])] at h2
      cases h1; cases h2
      exact zz
    · rw [List.getElem?_set_ne (Ne.symm q)] at h1 h2
      by_cases q2 : k = j
      · subst q2
        rw [List.getElem?_set_self hj] at h2
        cases h2
        exact .emp
      · rw [List.getElem?_set_ne (Ne.symm q2)] at h2
        exact st.sl k x y h1 h2
  · have key : ∀ (k : Nat) (b : Addr) (y : Sl), (σ.set i (some (.ref a)))[k]? = some (some (.ref b)) → ((ρ.set j .emp).set i (.own ds))[k]? = some y → y.isOwn = true → (k = i ∧ b = a) ∨ (k ≠ i ∧ k ≠ j ∧ σ[k]? = some (some (.ref b)) ∧ ρ[k]? = some y) := fun k b y h1 h2 o => by
      by_cases q : k = i
      · subst q
        have hk : k < σ.length := by
          have := (List.getElem?_eq_some_iff.mp h1).1
          simpa using this
        rw [List.getElem?_set_self hk] at h1
        cases h1
        exact .inl ⟨rfl, rfl⟩
      · rw [List.getElem?_set_ne (Ne.symm q)] at h1 h2
        obtain ⟨q2, h2⟩ := not_own k y h2 o
        exact .inr ⟨q, q2, h1, h2⟩
    rcases key k b y h1 h3 o1 with ⟨rfl, rfl⟩ | ⟨n1, n2, g1, g2⟩
    · rcases key l b z h2 h4 o2 with ⟨rfl, _⟩ | ⟨m1, m2, k1, k2⟩
      · exact ne rfl
      · exact st.dist l j b z (.own ds) m2 k1 e1 k2 e2 o2 rfl
    · rcases key l b z h2 h4 o2 with ⟨rfl, rfl⟩ | ⟨m1, m2, k1, k2⟩
      · exact st.dist k j b y (.own ds) n2 g1 e1 g2 e2 o1 rfl
      · exact st.dist k l b y z ne g1 k1 g2 k2 o1 o2
end
section
variable {X : Cx} {E : WX} {fr : Bool} {pos : Pos}
theorem s_move {i j : Nat} {x y : Str} {px py : Pos} (hN : X.N.Nodup) (hj : X.N[j]? = some y := by rfl) (hv : Vis X.env.scope y := by first | exact Or.inl rfl | exact Or.inr (Or.inl rfl) | exact Or.inr (Or.inr rfl)) (hd : (y == ("__debug__" : Str)) = false := by decide)
    (hcd : (y == ("__classdict__" : Str)) = false := by decide) (hi : X.N[i]? = some x := by rfl) (hx : Loc X.env.scope x := by first | exact Or.inl rfl | exact Or.inr rfl) (hs : swapsWith (.Name y py) (some (.Name x px)) pos.line X.env = pure false := by rfl)
    (hf : X.fn x = true ∨ X.env.scope.names.lookup x = some .local := by first | exact .inl rfl | exact .inr rfl) : QS X E fr (.Assign [.Name x px] (.Name y py) pos) (sMove i j) := PS.mono (ps_set (i := i) hN hi hx (pv j hj hv hd hcd) hs hf) fun σ H T z => by
  obtain ⟨W0, W, s, ρ, rfl, st, z⟩ := z
  obtain ⟨a, vs, ds, h1, h2, h3, h4, h5, z⟩ := ownAt_inv st z
  exact ⟨_, h1, z _ W (st.move h1 h2)⟩
end

/-! ### expressions that change an own list -/
abbrev DY := List Sl → S → Res (D × List Sl)
def PostY (K : PySem.W.Frag) (mg : Str → Option Value) (E : XK) (W0 : Hw) (σ : L2.St) (r : Res (D × List Sl)) (Q : V → Hp → Prop) : Prop :=
  match r with
  | .ok (d, ρ') s => ∀ v W', SSt K mg W0 W' s σ ρ' → Rep K mg W'.G W'.τ v d → Q v W'.H
  | .exc c s => ∀ W' u, Ext W0 W' → Base K mg W' s → mg c = some u → E u none W'.H
  | .bad => False
def tY (K : PySem.W.Frag) (mg : Str → Option Value) (E : WX) (f : DY) : TE := fun σ H Q =>
  ∃ (W0 W : Hw) (s : S) (ρ : List Sl), W.H = H ∧ SSt K mg W0 W s σ ρ ∧ PostY K mg (fun u d H' => E u d σ H') W0 σ (f ρ s) Q
def yPop (i : Nat) : DY := fun ρ s => match ρ[i]? with
  | some (.own ds) => match ds.getLast? with
    | some d => .ok (d, ρ.set i (.own ds.dropLast)) s
    | none => .bad
  | _ => .bad
def yPopI (i : Nat) (f : DE) : DY := fun ρ s => match ρ[i]? with
  | some (.own ds) => (f ρ s).bind fun k s1 => (match k with
    | .int z => if -(2 ^ 63) ≤ z ∧ z < 2 ^ 63 then (match dropAt ds z with
      | some (d, es) => .ok (d, ρ.set i (.own es)) s1
      | none => .bad) else .bad
    | _ => .bad)
  | _ => .bad
def yOp2 (g : F2) (f : DY) (h : DE) : DY := fun ρ s => (f ρ s).bind fun p s1 => (h p.2 s1).bind fun b s2 => match g p.1 b with
  | some d => .ok (d, p.2) s2
  | none => .bad
section
variable {K : PySem.W.Frag} {mg : Str → Option Value} {E : WX} {σ : L2.St} {W0 W : Hw} {s : S} {ρ : List Sl} {Q : V → Hp → Prop}
theorem own_inv {i : Nat} {ds : List D} (st : SSt K mg W0 W s σ ρ) (hr : ρ[i]? = some (.own ds)) : ∃ a vs, σ[i]? = some (some (.ref a)) ∧ OwnAt W0 W a ∧ W.H a = some (.lst vs) ∧ RepAll K mg W.G W.τ vs ds := by
  have hl : i < σ.length := by rw [st.len]; exact (List.getElem?_eq_some_iff.mp hr).1
  have q := st.sl i _ _ (List.getElem?_eq_getElem hl) hr
  generalize hx : σ[i] = x at q
  cases q with
  | own o e r => exact ⟨_, _, by rw [List.getElem?_eq_getElem hl, hx], o, e, r⟩
theorem goY {f : DY} {k : D × List Sl → S → Res (D × List Sl)} (st : SSt K mg W0 W s σ ρ) (p : PostY K mg (fun u d H' => E u d σ H') W0 σ ((f ρ s).bind k) Q) :
    tY K mg E f σ W.H (fun x H1 => ∃ W1 s1 d ρ1, W1.H = H1 ∧ Rep K mg W1.G W1.τ x d ∧ SSt K mg W0 W1 s1 σ ρ1 ∧ PostY K mg (fun u d H' => E u d σ H') W0 σ (k (d, ρ1) s1) Q) := by
  refine ⟨W0, W, s, ρ, rfl, st, ?_⟩
  cases hf : f ρ s with
  | ok a s1 =>
    rw [hf] at p
    obtain ⟨d, ρ1⟩ := a
    exact fun v W1 st1 r => ⟨W1, s1, d, ρ1, rfl, r, st1, p⟩
  | exc c s1 => rw [hf] at p; exact p
  | bad => rw [hf] at p; exact p.elim
theorem goYE {f : DE} {k : D → S → Res (D × List Sl)} (st : SSt K mg W0 W s σ ρ) (p : PostY K mg (fun u d H' => E u d σ H') W0 σ ((f ρ s).bind k) Q) :
    tE K mg E f σ W.H (fun x H1 => ∃ W1 s1 d, W1.H = H1 ∧ Rep K mg W1.G W1.τ x d ∧ Ext W W1 ∧ SSt K mg W0 W1 s1 σ ρ ∧ PostY K mg (fun u d H' => E u d σ H') W0 σ (k d s1) Q) := by
  refine ⟨W0, W, s, ρ, rfl, st, ?_⟩
  cases hf : f ρ s with
  | ok d s1 =>
    rw [hf] at p
    exact fun v W1 e B r => ⟨W1, s1, d, rfl, r, e, st.step e B, p⟩
  | exc c s1 =>
    rw [hf] at p
    exact fun W1 u e B hu => p W1 u (st.ext.trans st.base e) B hu
  | bad => rw [hf] at p; exact p.elim
end
section
variable {X : Cx} {E : WX} {fr : Bool} {pos apos cpos : Pos}
theorem y_pop (i : Nat) {x : Str} {p2 : Pos} (hN : X.N[i]? = some x := by rfl) (hv : Vis X.env.scope x := by first | exact Or.inl rfl | exact Or.inr (Or.inl rfl) | exact Or.inr (Or.inr rfl)) (hd : (x == ("__debug__" : Str)) = false := by decide)
    (hcd : (x == ("__classdict__" : Str)) = false := by decide)
    (hbase : attributeBase (.Name x p2) "pop" X.env (eval (.Name x p2) X.env) = eval (.Name x p2) X.env := by rfl)
    (hline : (apos.endLine == cpos.line) = true := by rfl) :
    PE X (.Call (.Attribute (.Name x p2) "pop" apos) [] [] cpos) (tY X.K X.mg E (yPop i)) := by
  refine PE.mono (pe_bm0 PySem.F.plainAttrs_list PySem.F.slot_list_pop PySem.F.type_list_pop mt_pop (pv i hN hv hd hcd) hbase hline) fun σ H Q z => ?_
  obtain ⟨W0, W, s, ρ, rfl, st, z⟩ := z
  unfold yPop at z
  split at z
  · rename_i ds hr
    split at z
    · rename_i d hl
      obtain ⟨a, vs, h1, h3, h4, h5⟩ := own_inv st hr
      refine ⟨_, h1, tyL h4, ?_⟩
      have hne : ds ≠ [] := by rintro rfl; simp at hl
      have e5 := h5.length
      have g5 : RepAll X.K X.mg W.G W.τ vs ds := h5
      obtain ⟨es, rfl⟩ : ∃ es, ds = es ++ [d] := List.getLast?_eq_some_iff.mp hl
      obtain ⟨a1, b1, rfl, r1, r2⟩ := RepAll.split (us := [d]) h5
      obtain ⟨v, rfl, rv⟩ := r2.one_inv
      refine ⟨a, a1 ++ [v], v, rfl, rfl, h4, by simp, ?_⟩
      have e6 : (a1 ++ [v]).dropLast = a1 := by simp
      rw [e6]
      refine z v ⟨upd W.H a (.lst a1), W.G, W.τ⟩ ?_ rv
      have := st.newC h1 hr h3 h4 (vs' := a1) (ds' := es) r1
      simpa using this
    · exact z.elim
  · exact z.elim
theorem y_popI (i : Nat) {x : Str} {p2 : Pos} {e : Expr} {f : DE} (he : PE X e (tE X.K X.mg E f)) (hN : X.N[i]? = some x := by rfl) (hv : Vis X.env.scope x := by first | exact Or.inl rfl | exact Or.inr (Or.inl rfl) | exact Or.inr (Or.inr rfl)) (hd : (x == ("__debug__" : Str)) = false := by decide)
    (hcd : (x == ("__classdict__" : Str)) = false := by decide)
    (hbase : attributeBase (.Name x p2) "pop" X.env (eval (.Name x p2) X.env) = eval (.Name x p2) X.env := by rfl)
    (hfew : ((backTo cpos (starEach [e] X.env)).all (fun x => !x.1) && (backToKw cpos (keywordEach [] X.env)).all (fun x => x.1.isSome) && decide (([e] : List Expr).length + ([] : List Keyword).length + (if ([] : List Keyword).isEmpty then 0 else 1) < 30)) = true := by rfl)
    (hline : (apos.endLine == cpos.line) = true := by rfl) (hs : starEach [e] X.env = (false, eval e X.env) :: starEach [] X.env := by rfl) (hplain : (backTo cpos (starEach [] X.env)).any (·.1) = false := by rfl) :
    PE X (.Call (.Attribute (.Name x p2) "pop" apos) [e] [] cpos) (tY X.K X.mg E (yPopI i f)) := by
  refine PE.mono (pe_bm PySem.F.plainAttrs_list PySem.F.slot_list_pop PySem.F.type_list_pop mt_popAt (pv i hN hv hd hcd) (pa_cons he pa_nil hs) hbase hfew hline hs hplain) fun σ H Q z => ?_
  obtain ⟨W0, W, s, ρ, rfl, st, z⟩ := z
  unfold yPopI at z
  split at z
  · rename_i ds hr
    obtain ⟨a, vs, h1, h3, h4, h5⟩ := own_inv st hr
    refine ⟨_, h1, tyL h4, (goYE st z).imp fun y H1 ⟨W1, s1, d1, e1, r1, x1, st1, z1⟩ => ?_⟩
    subst e1
    have g4 : W1.H a = some (.lst vs) := x1.keep a _ h4 h3.spc
    have g3 : OwnAt W0 W1 a := h3.ext x1 (by rw [h4]; exact fun z => nomatch z)
    have g5 := RepAll.ext x1 h5
    cases d1 with
    | int k =>
      cases r1.int_inv
      simp only at z1
      split at z1
      · rename_i hk
        unfold dropAt at z1
        cases e3 : seqIndex? k ds.length with
        | none => rw [e3] at z1; exact z1.elim
        | some j =>
          rw [e3] at z1
          simp only at z1
          cases e4 : ds[j]? with
          | none => rw [e4] at z1; exact z1.elim
          | some d =>
            rw [e4] at z1
            obtain ⟨v, hv', rv⟩ := g5.getD e4
            exact ⟨a, vs, k, j, v, rfl, rfl, g4, hk.1, hk.2, by rw [g5.length]; exact e3, hv', z1 v _ (st1.newC h1 hr g3 g4 (g5.eraseIdx j)) rv⟩
      · exact z1.elim
    | _ => exact z1.elim
  · exact z.elim
theorem y_op2 {op : Operator} {r : R2} {g : F2} {a b : Expr} {f : DY} {h : DE} (ho : OpR X (binaryOp op) r) (hv : V2 X.K X.mg r g) (ha : PE X a (tY X.K X.mg E f)) (hb : PE X b (tE X.K X.mg E h)) : PE X (.BinOp a op b pos) (tY X.K X.mg E (yOp2 g f h)) := by
  refine PE.mono (pe_op ho ha hb) fun σ H Q z => ?_
  obtain ⟨W0, W, s, ρ, rfl, st, z⟩ := z
  unfold yOp2 at z
  show tY X.K X.mg E f σ W.H _
  have z' := goY st z
  obtain ⟨W0', W', s', ρ', eH, st', p'⟩ := z'
  refine ⟨W0', W', s', ρ', eH, st', ?_⟩
  cases hf : f ρ' s' with
  | bad => rw [hf] at p'; exact p'.elim
  | exc c s1 => rw [hf] at p'; exact p'
  | ok p s1 =>
    obtain ⟨d, ρ1⟩ := p
    rw [hf] at p'
    intro v W1 st1 rv
    obtain ⟨W2, s2, d2, ρ2, e2, r2, st2, z2⟩ := p' v W1 st1 rv
    rw [← e2]
    refine (goYE st2 z2).imp fun y H3 ⟨W3, s3, b3, e3, r3, x3, st3, z3⟩ => ?_
    subst e3
    simp only at z3
    cases hg : g d2 b3 with
    | none => rw [hg] at z3; exact z3.elim
    | some dz =>
      rw [hg] at z3
      exact hv W3 s3 v y d2 b3 dz Q st3.base (r2.ext x3) r3 hg fun v' W4 e4 B4 r4 => z3 v' W4 (st3.step e4 B4) r4

/-- x.append(e), e changes an own list too -/
def sAppY (i : Nat) (f : DY) : DS := fun ρ s => ownAt i ρ fun _ => (f ρ s).thenS fun p s1 => ownAt i p.2 fun ds => if ds.length < 16777216 then .next (p.2.set i (.own (ds ++ [p.1]))) s1 else .bad
def sSetY (i : Nat) (f : DY) : DS := fun ρ s => (f ρ s).thenS fun p s1 => .next (p.2.set i (.dat p.1)) s1
end
section
variable {K : PySem.W.Frag} {mg : Str → Option Value} {E : WX} {fr : Bool} {σ : L2.St} {W W0 : Hw} {s : S} {ρ : List Sl} {T : Ends}
theorem goSY {f : DY} {k : D × List Sl → S → Fl} (st : SSt K mg W0 W s σ ρ) (p : PostS K mg E fr W0 ((f ρ s).thenS k) T) :
    tY K mg E f σ W.H (fun x H1 => ∃ W1 s1 d ρ1, W1.H = H1 ∧ Rep K mg W1.G W1.τ x d ∧ SSt K mg W0 W1 s1 σ ρ1 ∧ PostS K mg E fr W0 (k (d, ρ1) s1) T) := by
  refine ⟨W0, W, s, ρ, rfl, st, ?_⟩
  cases hf : f ρ s with
  | ok a s1 =>
    rw [hf] at p
    obtain ⟨d, ρ1⟩ := a
    exact fun v W1 st1 r => ⟨W1, s1, d, ρ1, rfl, r, st1, p⟩
  | exc c s1 =>
    rw [hf] at p
    exact fun W1 u e B hu => p σ W1 u e B hu
  | bad => rw [hf] at p; exact p.elim
end
section
variable {X : Cx} {E : WX} {fr : Bool} {pos apos cpos : Pos} {e : Expr} {f : DY}
theorem s_appY (i : Nat) {x : Str} {p2 : Pos} (he : PE X e (tY X.K X.mg E f)) (hN : X.N[i]? = some x := by rfl) (hv : Vis X.env.scope x := by first | exact Or.inl rfl | exact Or.inr (Or.inl rfl) | exact Or.inr (Or.inr rfl)) (hd : (x == ("__debug__" : Str)) = false := by decide)
    (hcd : (x == ("__classdict__" : Str)) = false := by decide)
    (hbase : attributeBase (.Name x p2) "append" X.env (eval (.Name x p2) X.env) = eval (.Name x p2) X.env := by rfl)
    (hfew : ((backTo cpos (starEach [e] X.env)).all (fun x => !x.1) && (backToKw cpos (keywordEach [] X.env)).all (fun x => x.1.isSome) && decide (([e] : List Expr).length + ([] : List Keyword).length + (if ([] : List Keyword).isEmpty then 0 else 1) < 30)) = true := by rfl)
    (hline : (apos.endLine == cpos.line) = true := by rfl) (hs : starEach [e] X.env = (false, eval e X.env) :: starEach [] X.env := by rfl) (hplain : (backTo cpos (starEach [] X.env)).any (·.1) = false := by rfl)
    (hsw : swapsWith (.Call (.Attribute (.Name x p2) "append" apos) [e] [] cpos) none pos.line X.env = pure false := by rfl) :
    QS X E fr (.Expr (.Call (.Attribute (.Name x p2) "append" apos) [e] [] cpos) pos) (sAppY i f) := by
  refine PS.mono (ps_expr (pe_bm PySem.F.plainAttrs_list PySem.F.slot_list_append PySem.F.type_list_append mt_append (pv i hN hv hd hcd) (pa_cons he pa_nil hs) hbase hfew hline hs hplain) hsw) fun σ H T z => ?_
  obtain ⟨W0, W, s, ρ, rfl, st, z⟩ := z
  obtain ⟨a, vs0, ds0, h1, h2, h3, h4, h5, z⟩ := ownAt_inv st z
  refine ⟨_, h1, tyL h4, ?_⟩
  obtain ⟨V0, V, t, r, eV, stV, pV⟩ := goSY st z
  refine ⟨V0, V, t, r, eV, stV, ?_⟩
  cases hf : f r t with
  | bad => rw [hf] at pV; exact pV.elim
  | exc c s1 => rw [hf] at pV; exact pV
  | ok p s1 =>
    obtain ⟨d, ρ1⟩ := p
    rw [hf] at pV
    intro y W1' st1' ry
    obtain ⟨W1, s1, d1, ρ1, e1, r1, st1, z1⟩ := pV y W1' st1' ry
    rw [← e1]
    show rAppend (.ref a) [y] W1.H fun x H1 => T.nx σ H1
    obtain ⟨a', vs, ds, g1, g2, g3, g4, g5, z2⟩ := ownAt_inv st1 z1
    rw [h1] at g1
    cases g1
    split at z2
    · refine ⟨a, vs, y, rfl, rfl, g4, ?_, z2 σ _ (st1.newC h1 g2 g3 g4 (g5.snoc r1))⟩
      rw [g5.length, sizeLine_eq]; assumption
    · exact z2.elim
end
end DL
namespace DL
open PySem PySem.Spec PyProof.Rows L2
variable [LT : LawT]

/-! ### texts put together of parts -/
def eFmt (f : DE) : DE := fun ρ s => (f ρ s).bind fun d s1 => match d with
  | .int i => if i.natAbs.log2 < 1920 then .ok (.str (toString i)) s1 else .bad
  | .str y => if y.length ≤ 16777216 then .ok (.str y) s1 else .bad
  | _ => .bad
def jsD : List DE → Str → List Sl → S → Res D
  | [], acc, _, s => .ok (.str acc) s
  | f :: fs, acc, ρ, s => (f ρ s).bind fun d s1 => match d with
    | .str y => if (acc ++ y).length ≤ 16777216 then jsD fs (acc ++ y) ρ s1 else .bad
    | _ => .bad
def eJs (fs : List DE) : DE := fun ρ s => jsD fs Str.empty ρ s
section
variable {X : Cx} {E : WX} {pos : Pos}
theorem e_fmt {e : Expr} {f : DE} (he : PE X e (tE X.K X.mg E f)) : PE X (.FormattedValue e (-1) none pos) (tE X.K X.mg E (eFmt f)) := PE.mono (pe_fmt he) fun σ H Q z => by
  obtain ⟨W0, W, s, ρ, rfl, st, z⟩ := z
  refine (go st z).imp fun x H1 ⟨W1, s1, d, e1, r1, x1, st1, z1⟩ => ?_
  subst e1
  cases d with
  | int i =>
    cases r1.int_inv
    simp only at z1
    split at z1
    · rename_i h
      exact .inr ⟨i, rfl, h, stay st1.base z1 (.str _)⟩
    · exact z1.elim
  | str y =>
    cases r1.str_inv
    simp only at z1
    split at z1
    · rename_i h
      exact .inl ⟨y, rfl, line_le h, stay st1.base z1 (.str _)⟩
    · exact z1.elim
  | _ => exact z1.elim
inductive PJD (X : Cx) (E : WX) : List Expr → List DE → Prop where
  | nil : PJD X E [] []
  | cons {e : Expr} {f : DE} {es : List Expr} {fs : List DE} (h : PE X e (tE X.K X.mg E f)) (r : PJD X E es fs) : PJD X E (e :: es) (f :: fs)
theorem PJD.pj {es : List Expr} {fs : List DE} (h : PJD X E es fs) : PJ X es (fs.map fun f => tE X.K X.mg E f) := by
  induction h with
  | nil => exact .nil
  | cons h r ih => exact .cons h ih
theorem js_run {fs : List DE} : ∀ {acc : Str} {σ : L2.St} {W0 W : Hw} {s : S} {ρ : List Sl} {Q : VK}, SSt X.K X.mg W0 W s σ ρ → Post X.K X.mg (relE X.K X.mg) (fun u d H' => E u d σ H') (jsD fs acc ρ s) W Q →
    tJs (fs.map fun f => tE X.K X.mg E f) acc σ W.H fun out H1 => Q (.str out) H1 := by
  induction fs with
  | nil =>
    intro acc σ W0 W s ρ Q st z
    exact z _ W (Ext.refl W) st.base (.str _)
  | cons f fs ih =>
    intro acc σ W0 W s ρ Q st z
    refine (go st z).imp fun x H1 ⟨W1, s1, d, e1, r1, x1, st1, z1⟩ => ?_
    subst e1
    cases d with
    | str y =>
      cases r1.str_inv
      simp only at z1
      split at z1
      · rename_i h
        exact ⟨y, rfl, line_le h, ih st1 z1⟩
      · exact z1.elim
    | _ => exact z1.elim
theorem e_joined {v1 v2 : Expr} {rest : List Expr} {fs : List DE} (h : PJD X E (v1 :: v2 :: rest) fs) : PE X (.JoinedStr (v1 :: v2 :: rest) pos) (tE X.K X.mg E (eJs fs)) := PE.mono (pe_joined h.pj) fun σ H Q z => by
  obtain ⟨W0, W, s, ρ, rfl, st, z⟩ := z
  exact js_run st z
end

/-! ### divmod -/
def dDivmod : FN := fun ds => match ds with
  | [.int i, .int j] => if 0 < j ∧ j < 1073741824 then some (.tup [.int (i / j), .int (i % j)]) else none
  | _ => none
theorem v_divmod {K : PySem.W.Frag} {mg : Str → Option Value} : VC K mg (fun xs H Q => ∃ i j, xs = [.int i, .int j] ∧ CDiv i j ∧ ∀ p, H p = none → Q (.ref p) (upd H p (.tup [.int (i / j), .int (i % j)]))) dDivmod := fun W s vs ds z Q B r hz q => by
  unfold dDivmod at hz
  split at hz
  · rename_i i j
    split at hz
    · rename_i h
      cases hz
      obtain ⟨v, u, rfl, r1, r2⟩ := r.two_inv
      cases r1.int_inv
      cases r2.int_inv
      refine ⟨i, j, rfl, h, fun l hl => ?_⟩
      obtain ⟨B2, x2⟩ := B.newO hl (.tup [.int (i / j), .int (i % j)])
      exact q _ _ x2 B2 (.tup upd_same (.cons (.int _) (.cons (.int _) .nil)))
    · cases hz
  · cases hz

/-! ### x.append(e), x whatever is a special list -/
def isTokL (s : S) : D → Bool
  | .tok n => (tokL s n).isSome
  | _ => false
def appS (s : S) (t d : D) : Option S := match t with
  | .tok n => match tokL s n with
    | some ds => if flat d = true ∧ ds.length < 16777216 then some (s.set n (.l (ds ++ [d]))) else none
    | none => none
  | _ => none
def sAppT (f fv : DE) : DS := fun ρ s => (f ρ s).thenS fun t s1 => if isTokL s1 t = true then (fv ρ s1).thenS fun d s2 => (match appS s2 t d with
    | some s3 => .next ρ s3
    | none => .bad) else .bad
section
variable {X : Cx} {E : WX} {fr : Bool} {pos apos cpos : Pos} {f fv : DE} {o e : Expr}
theorem flats_ap1 {d : D} (hd : flat d = true) : ∀ {ds : List D}, flats ds = true → flats (ds ++ [d]) = true
  | [], _ => by simp [flats, hd]
  | x :: xs, h => by simp [flats] at h ⊢; exact ⟨h.1, flats_ap1 hd h.2⟩
theorem s_appT (ho : PE X o (tE X.K X.mg E f)) (he : PE X e (tE X.K X.mg E fv))
    (hbase : attributeBase o "append" X.env (eval o X.env) = eval o X.env := by rfl)
    (hfew : ((backTo cpos (starEach [e] X.env)).all (fun x => !x.1) && (backToKw cpos (keywordEach [] X.env)).all (fun x => x.1.isSome) && decide (([e] : List Expr).length + ([] : List Keyword).length + (if ([] : List Keyword).isEmpty then 0 else 1) < 30)) = true := by rfl)
    (hline : (apos.endLine == cpos.line) = true := by rfl) (hs : starEach [e] X.env = (false, eval e X.env) :: starEach [] X.env := by rfl) (hplain : (backTo cpos (starEach [] X.env)).any (·.1) = false := by rfl)
    (hsw : swapsWith (.Call (.Attribute o "append" apos) [e] [] cpos) none pos.line X.env = pure false := by rfl) :
    QS X E fr (.Expr (.Call (.Attribute o "append" apos) [e] [] cpos) pos) (sAppT f fv) := by
  refine PS.mono (ps_expr (pe_bm PySem.F.plainAttrs_list PySem.F.slot_list_append PySem.F.type_list_append mt_append ho (pa_cons he pa_nil hs) hbase hfew hline hs hplain) hsw) fun σ H T z => ?_
  obtain ⟨W0, W, s, ρ, rfl, st, z⟩ := z
  refine (goS st z).imp fun t H1 ⟨W1, s1, d1, e1, r1, x1, st1, z1⟩ => ?_
  subst e1
  have tL : ∀ {W' : Hw} {s' : S} {v : V} {n : Nat} {ds : List D}, Base X.K X.mg W' s' → Rep X.K X.mg W'.G W'.τ v (.tok n) → tokL s' n = some ds → tyV X.K "list" v W'.H := fun B r h => by
    obtain ⟨p, vs, rfl, hτ, eH, rr⟩ := tok_list B r h
    exact tyL eH
  split at z1
  · rename_i ht
    refine ⟨?_, (goS st1 z1).imp fun y H2 ⟨W2, s2, d2, e2, r2, x2, st2, z2⟩ => ?_⟩
    · cases d1 with
      | tok n =>
        cases hd : tokL s1 n with
        | none => simp [isTokL, hd] at ht
        | some ds => exact tL st1.base r1 hd
      | _ => simp [isTokL] at ht
    · subst e2
      cases ha : appS s2 d1 d2 with
      | none => rw [ha] at z2; exact z2.elim
      | some s3 =>
        rw [ha] at z2
        unfold appS at ha
        split at ha
        · rename_i n
          split at ha
          · rename_i ds hd
            split at ha
            · rename_i hf
              cases ha
              obtain ⟨p, vs, rfl, hτ, eH, rr⟩ := tok_list st2.base (r1.ext x2) hd
              refine ⟨p, vs, y, rfl, rfl, eH, by rw [rr.length, sizeLine_eq]; exact hf.2, ?_⟩
              have hfl : flats ds = true := by
                unfold tokL at hd
                split at hd
                · rename_i ds' hds
                  cases hd
                  exact st2.base.flt _ (List.mem_of_getElem? hds)
                · cases hd
              exact z2 σ _ (st2.cellPut hτ (fun _ z => nomatch (z : HO.lst _ = HO.tup _)) ⟨_, upd_same, rr.snoc r2⟩ (flats_ap1 hf.1 hfl))
            · cases ha
          · cases ha
        · cases ha
  · exact z1.elim
end

/-! ### a < b < c < d -/
def eChain3 (g g' g'' : F2) (f h k l : DE) : DE := fun ρ s => (f ρ s).bind fun x s1 => (h ρ s1).bind fun y s2 => match g x y with
  | some (.bl b) => if b then (k ρ s2).bind fun z s3 => (match g' y z with
    | some (.bl c) => if c then (l ρ s3).bind fun u s4 => Res.ofO (g'' z u) s4 else .ok (.bl false) s3
    | _ => .bad) else .ok (.bl false) s2
  | _ => .bad
def tChain3 (r r' r'' : R2) (ta tb tc td : TE) : TE := fun σ H Q => ta σ H fun x H1 => tb σ H1 fun y H2 => r x y H2 fun z H3 => ∃ k, z = .bl k ∧
  (if k = true then tc σ H3 fun w' H4 => r' y w' H4 fun z2 H5 => ∃ k2, z2 = .bl k2 ∧ (if k2 = true then td σ H5 fun u H6 => r'' w' u H6 Q else Q (.bl false) H5) else Q (.bl false) H3)
section
variable {X : Cx} {a b c d : Expr} {pos : Pos} {E : WX} {f h fc fd : DE} {g g' g'' : F2} {r r' r'' : R2}
theorem pe_chain3 {op op' op'' : CmpOp} {ta tb tc td : TE} (ho : OpR X (compareOp op) r) (ho' : OpR X (compareOp op') r') (ho'' : OpR X (compareOp op'') r'') (ha : PE X a ta) (hb : PE X b tb) (hc : PE X c tc) (hd : PE X d td)
    (hm : lastMarks [op, op', op''] [b, c, d] = false := by with_unfolding_all rfl) : PE X (.Compare a [op, op', op''] [b, c, d] pos) (tChain3 r r' r'' ta tb tc td) := by
  refine ⟨fun pins s σ H Q I h => ?_⟩
  refine Compare_chain (thn (ha.run pins s σ H _ I h) fun v s1 ⟨x, H1, I1, r1, q1⟩ => chain_link (thn (hb.run pins s1 σ H1 _ I1 q1) fun u s2 ⟨y, H2, I2, r2, q2⟩ =>
    thn (ho pins s2 σ H2 x y v u _ I2 r1 r2 q2) fun d s3 ⟨z, H3, I3, r3, k, e, q3⟩ => ?_)) hm
  subst e
  cases r3
  refine wpAny_truthy_bool ?_
  cases k with
  | false => exact ite_ff ⟨.bl false, H3, I3, rfl, q3⟩
  | true =>
    refine ite_tt (chain_link (thn (hc.run pins s3 σ H3 _ I3 q3) fun w' s4 ⟨z', H4, I4, r4, q4⟩ => thn (ho' pins s4 σ H4 y z' u w' _ I4 r2 r4 q4) fun d' s5 ⟨z2, H5, I5, r5, k2, e2, q5⟩ => ?_))
    subst e2
    cases r5
    refine wpAny_truthy_bool ?_
    cases k2 with
    | false => exact ite_ff ⟨.bl false, H5, I5, rfl, q5⟩
    | true => exact ite_tt (chain_last (thn (hd.run pins s5 σ H5 _ I5 q5) fun w2 s6 ⟨z3, H6, I6, r6, q6⟩ => ho'' pins s6 σ H6 z' z3 w' w2 Q I6 r4 r6 q6))
theorem e_chain3 {op op' op'' : CmpOp} (ho : OpR X (compareOp op) r) (hv : V2 X.K X.mg r g) (ho' : OpR X (compareOp op') r') (hv' : V2 X.K X.mg r' g') (ho'' : OpR X (compareOp op'') r'') (hv'' : V2 X.K X.mg r'' g'') (ha : PE X a (tE X.K X.mg E f)) (hb : PE X b (tE X.K X.mg E h)) (hc : PE X c (tE X.K X.mg E fc)) (hd : PE X d (tE X.K X.mg E fd))
    (hm : lastMarks [op, op', op''] [b, c, d] = false := by with_unfolding_all rfl) : PE X (.Compare a [op, op', op''] [b, c, d] pos) (tE X.K X.mg E (eChain3 g g' g'' f h fc fd)) := PE.mono (pe_chain3 ho ho' ho'' ha hb hc hd hm) fun σ H Q z => by
  obtain ⟨W0, W, s, ρ, rfl, st, p⟩ := z
  refine (go st p).imp fun x H1 ⟨W1, s1, d1, e1, r1, x1, st1, p1⟩ => ?_
  subst e1
  refine (go st1 p1).imp fun y H2 ⟨W2, s2, d2, e2, r2, x2, st2, p2⟩ => ?_
  subst e2
  cases hg : g d1 d2 with
  | none => rw [hg] at p2; exact p2.elim
  | some z =>
    rw [hg] at p2
    cases z with
    | bl k =>
      refine hv W2 s2 x y d1 d2 (.bl k) _ st2.base (r1.ext x2) r2 hg fun v W3 e3 B3 r3 => ?_
      cases r3.bl_inv
      refine ⟨k, rfl, ?_⟩
      have st3 := st2.step e3 B3
      simp only at p2
      cases k with
      | false => exact (p2.ext e3 B3).of_ok B3 (.bl _)
      | true =>
        simp only [if_true] at p2 ⊢
        have p3 := p2.ext e3 B3
        refine (go st3 p3).imp fun u H4 ⟨W4, s4, d4, e4, r4, x4, st4, p4⟩ => ?_
        subst e4
        cases hg' : g' d2 d4 with
        | none => rw [hg'] at p4; exact p4.elim
        | some z =>
          rw [hg'] at p4
          cases z with
          | bl k2 =>
            refine hv' W4 s4 y u d2 d4 (.bl k2) _ st4.base ((r2.ext e3).ext x4) r4 hg' fun v W5 e5 B5 r5 => ?_
            cases r5.bl_inv
            refine ⟨k2, rfl, ?_⟩
            have st5 := st4.step e5 B5
            simp only at p4
            cases k2 with
            | false => exact (p4.ext e5 B5).of_ok B5 (.bl _)
            | true =>
              simp only [if_true] at p4 ⊢
              have p5 := p4.ext e5 B5
              refine (go st5 p5).imp fun u2 H6 ⟨W6, s6, d6, e6, r6, x6, st6, p6⟩ => ?_
              subst e6
              cases hg'' : g'' d4 d6 with
              | none => rw [hg''] at p6; exact p6.elim
              | some z =>
                rw [hg''] at p6
                exact hv'' W6 s6 u u2 d4 d6 z Q st6.base ((r4.ext e5).ext x6) r6 hg'' p6
          | _ => exact p4.elim
    | _ => exact p2.elim
end

/-! ### a def that calls itself -/
section
variable {P : Program} {w : World} {K : PySem.W.Frag} {mg : Str → Option Value} {base : Heap}
theorem DFn.zero {x x' qual : Str} {st : Stmt} {f : Addr} {fd : FuncData} {N ps : List Str} {n k : Nat} {fr : Bool} (F : Fun K x' qual st f fd) (S : FnScope N ps (defScope st)) (gx : mg x = some (.ref f)) (hb : Binds K fd ps []) (hn : ps.length = n) :
    DFn P w K mg base k x n (fun _ _ => .bad) fr := by
  refine ⟨⟨f, fd, ps, gx, F.kp, hb, ⟨fun vs H Q E h => h.1.trans hn.symm, ?_⟩⟩, fun _ _ _ => rfl⟩
  intro A outer s H args us vs Q E hr hg I hbd r h
  obtain ⟨_, W, s', ds, _, _, _, p⟩ := h
  exact p.elim
end
end DL
namespace DL
open PySem PySem.Spec PyProof.Rows L2
variable [LT : LawT]
/-! ### two places of an own list at once -/
def sSwap (i : Nat) (fe gi gj : DE) : DS := fun ρ s => (fe ρ s).thenS fun v s1 => match v with
  | .tup [d, e] => ownAt i ρ fun ds => (gi ρ s1).thenS fun k s2 => match k with
    | .int z => match ixN ds.length z with
      | some j => (gj (ρ.set i (.own (ds.set j d))) s2).thenS fun k' s3 => match k' with
        | .int z' => match ixN ds.length z' with
          | some j' => .next (ρ.set i (.own ((ds.set j d).set j' e))) s3
          | none => .bad
        | _ => .bad
      | none => .bad
    | _ => .bad
  | _ => .bad
section
variable {X : Cx} {E : WX} {fr : Bool} {pos : Pos} {fe gi gj : DE}
theorem s_swap (i : Nat) {x : Str} {p2 sp p3 sp' pt : Pos} {kt : Nat} {v k k' : Expr} (hc : X.calm = true) (hv' : PE X v (tE X.K X.mg E fe)) (hk : PE X k (tE X.K X.mg E gi)) (hk' : PE X k' (tE X.K X.mg E gj)) (hN : X.N[i]? = some x := by rfl) (hv : Vis X.env.scope x := by first | exact Or.inl rfl | exact Or.inr (Or.inl rfl) | exact Or.inr (Or.inr rfl)) (hd : (x == ("__debug__" : Str)) = false := by decide)
    (hcd : (x == ("__classdict__" : Str)) = false := by decide)
    (ha : ∀ v, assign (.Subscript (.Name x p2) k sp) X.env v = (do
      let ov ← holding [v] (eval (.Name x p2) X.env)
      let iv ← holding [v, ov] (eval k X.env)
      standAt sp
      holding [v, ov, iv] (setItem ov iv v)
      release [v, ov, iv] []) := by intro _; rfl)
    (ha' : ∀ v, assign (.Subscript (.Name x p3) k' sp') X.env v = (do
      let ov ← holding [v] (eval (.Name x p3) X.env)
      let iv ← holding [v, ov] (eval k' X.env)
      standAt sp'
      holding [v, ov, iv] (setItem ov iv v)
      release [v, ov, iv] []) := by intro _; rfl)
    (hs1 : (assignEach [.Subscript (.Name x p2) k sp, .Subscript (.Name x p3) k' sp'] X.env).map (·.2) = assign (.Subscript (.Name x p2) k sp) X.env :: (assignEach [.Subscript (.Name x p3) k' sp'] X.env).map (·.2) := by rfl)
    (hs2 : (assignEach [.Subscript (.Name x p3) k' sp'] X.env).map (·.2) = assign (.Subscript (.Name x p3) k' sp') X.env :: (assignEach [] X.env).map (·.2) := by rfl)
    (hn : (assignEach [.Subscript (.Name x p2) k sp, .Subscript (.Name x p3) k' sp'] X.env).length = 2 := by rfl)
    (hst : (assignEach [.Subscript (.Name x p2) k sp, .Subscript (.Name x p3) k' sp'] X.env).findIdx? (·.1) = none := by rfl)
    (hs : swapsWithSole [.Tuple [.Subscript (.Name x p2) k sp, .Subscript (.Name x p3) k' sp'] kt pt] v pos.line X.env = pure false := by rfl)
    (hw : swappedStores [.Tuple [.Subscript (.Name x p2) k sp, .Subscript (.Name x p3) k' sp'] kt pt] v X.env = pure none := by rfl)
    (h1 : (assignEach [.Tuple [.Subscript (.Name x p2) k sp, .Subscript (.Name x p3) k' sp'] kt pt] X.env).map (·.2) = [assign (.Tuple [.Subscript (.Name x p2) k sp, .Subscript (.Name x p3) k' sp'] kt pt) X.env] := by rfl) :
    QS X E fr (.Assign [.Tuple [.Subscript (.Name x p2) k sp, .Subscript (.Name x p3) k' sp'] kt pt] v pos) (sSwap i fe gi gj) := by
  refine PS.mono (ps_asg hv' (pg_tup hc (pgs_cons (pg_sub (pv i hN hv hd hcd) hk set_list ha) (pgs_cons (pg_sub (pv i hN hv hd hcd) hk' set_list ha') pgs_nil hs2) hs1) hn hst) hs hw h1) fun σ H T z => ?_
  obtain ⟨W0, W, s, ρ, rfl, st, z⟩ := z
  refine (goS st z).imp fun y H1 ⟨W1, s1, d1, e1, r1, x1, st1, z1⟩ => ?_
  subst e1
  match d1, r1, z1 with
  | .tup [d, e], .tup hG (.cons rd (.cons re .nil)), z1 =>
    obtain ⟨a, vs, ds, h1, h2, h3, h4, h5, z⟩ := ownAt_inv st1 z1
    refine ⟨_, _, rfl, .of (st1.base.sub _ _ hG), rfl, _, _, rfl, _, h1, (goS st1 z).imp fun y2 H2 ⟨W2, s2, d2, e2, r2, x2, st2, z2⟩ => ?_⟩
    subst e2
    have g4 : W2.H a = some (.lst vs) := x2.keep a _ h4 h3.spc
    have g3 : OwnAt W0 W2 a := h3.ext x2 (by rw [h4]; exact fun z => nomatch z)
    have g5 := RepAll.ext x2 h5
    cases d2 with
    | int k =>
      cases r2.int_inv
      simp only at z2
      cases e3 : ixN ds.length k with
      | none => rw [e3] at z2; exact z2.elim
      | some j =>
        rw [e3] at z2
        have g6 := g5.set (rd.ext x2) j
        have st3 := st2.newC h1 h2 g3 g4 g6
        refine ⟨a, vs, k, j, rfl, rfl, g4, by rw [g5.length]; exact e3, _, _, rfl, _, h1, (goS st3 z2).imp fun y4 H4 ⟨W4, s4, d4, e4, r4, x4, st4, z4⟩ => ?_⟩
        subst e4
        have hl : i < ρ.length := (List.getElem?_eq_some_iff.mp h2).1
        have k2 : (ρ.set i (.own (ds.set j d)))[i]? = some (.own (ds.set j d)) := by rw [List.getElem?_set_self hl]
        have k0 : ∀ o : HO, OwnAt W0 ⟨upd W2.H a o, W2.G, W2.τ⟩ a := fun o => ⟨g3.old, g3.frz, g3.spc⟩
        have k3 : OwnAt W0 W4 a := (k0 _).ext x4 (by show upd W2.H a _ a ≠ none; rw [upd_same]; exact fun z => nomatch z)
        have k4 : W4.H a = some (.lst (vs.set j _)) := x4.keep a _ upd_same g3.spc
        have k5 := RepAll.ext x4 g6
        cases d4 with
        | int k' =>
          cases r4.int_inv
          simp only at z4
          cases e5 : ixN ds.length k' with
          | none => rw [e5] at z4; exact z4.elim
          | some j' =>
            rw [e5] at z4
            have st5 := st4.newC h1 k2 k3 k4 (k5.set ((re.ext x2).ext x4) j')
            rw [List.set_set] at st5
            exact ⟨a, _, k', j', rfl, rfl, k4, by rw [k5.length, List.length_set]; exact e5, rfl, z4 σ _ st5⟩
        | _ => exact z4.elim
    | _ => exact z2.elim
  | .non, _, z1 => exact z1.elim
  | .bl _, _, z1 => exact z1.elim
  | .int _, _, z1 => exact z1.elim
  | .str _, _, z1 => exact z1.elim
  | .lst _, _, z1 => exact z1.elim
  | .frz _, _, z1 => exact z1.elim
  | .dct _, _, z1 => exact z1.elim
  | .tok _, _, z1 => exact z1.elim
  | .ty _, _, z1 => exact z1.elim
  | .glb _, _, z1 => exact z1.elim
  | .ktp _, _, z1 => exact z1.elim
  | .exc _, _, z1 => exact z1.elim
  | .tup [], _, z1 => exact z1.elim
  | .tup [_], _, z1 => exact z1.elim
  | .tup (_ :: _ :: _ :: _), _, z1 => exact z1.elim
end
end DL
namespace DL
open PySem PySem.Spec PyProof.Rows L2
variable [LT : LawT]
/-! ### index of a list -/
def dIdx (ds : List D) (y : D) : Option D := if ready y && ready (.lst ds) then (ds.findIdx? fun z => eqB z y).map fun j => .int (j : Nat) else none
def eIdx (f h : DE) : DE := fun ρ s => (f ρ s).bind fun x s1 => match x with
  | .lst ds => (h ρ s1).bind fun y s2 => Res.ofO (dIdx ds y) s2
  | _ => .bad
section
variable {X : Cx} {E : WX} {apos pos : Pos} {o e : Expr} {f h : DE}
theorem e_idx (hu : X.A.units + 65 < cLine) (ho : PE X o (tE X.K X.mg E f)) (he : PE X e (tE X.K X.mg E h))
    (hbase : attributeBase o "index" X.env (eval o X.env) = eval o X.env := by rfl)
    (hfew : ((backTo pos (starEach [e] X.env)).all (fun x => !x.1) && (backToKw pos (keywordEach [] X.env)).all (fun x => x.1.isSome) && decide (([e] : List Expr).length + ([] : List Keyword).length + (if ([] : List Keyword).isEmpty then 0 else 1) < 30)) = true := by rfl)
    (hline : (apos.endLine == pos.line) = true := by rfl) (hs : starEach [e] X.env = (false, eval e X.env) :: starEach [] X.env := by rfl) (hplain : (backTo pos (starEach [] X.env)).any (·.1) = false := by rfl) :
    PE X (.Call (.Attribute o "index" apos) [e] [] pos) (tE X.K X.mg E (eIdx f h)) := by
  refine PE.mono (pe_bm PySem.F.plainAttrs_list PySem.F.slot_list_index PySem.F.type_list_index (mt_indexD hu) ho (pa_cons he pa_nil hs) hbase hfew hline hs hplain) fun σ H Q z => ?_
  obtain ⟨W0, W, s, ρ, rfl, st, z⟩ := z
  refine (go st z).imp fun x H1 ⟨W1, s1, d1, e1, r1, x1, st1, z1⟩ => ?_
  subst e1
  cases d1 with
  | lst ds =>
    obtain ⟨a, xs, rfl, hG, rr⟩ := r1.lst_inv
    refine ⟨tyL (st1.base.sub _ _ hG), (go st1 z1).imp fun y H2 ⟨W2, s2, d2, e2, r2, x2, st2, z2⟩ => ?_⟩
    subst e2
    cases hz : dIdx ds d2 with
    | none => rw [hz] at z2; exact z2.elim
    | some d =>
      rw [hz] at z2
      unfold dIdx at hz
      split at hz
      · rename_i hr
        rw [Bool.and_eq_true] at hr
        obtain ⟨j, hj, rfl⟩ := Option.map_eq_some_iff.mp hz
        obtain ⟨hjl, hp, hn⟩ := List.findIdx?_eq_some_iff_getElem.mp hj
        have r1' := Rep.ext x2 r1
        refine ⟨a, y, toPy d2, toPys ds, j, toPy ds[j], rfl, rfl, by simpa [toPy] using dp_of st2.base.sub r1' (ready_ok hr.2), dp_of st2.base.sub r2 (ready_ok hr.1), by simpa [toPy] using shaped_of hr.2, shaped_of hr.1, ?_, hp, fun m z' hm hz' => ?_, z2.of_ok st2.base (.int _)⟩
        · rw [toPys_map, List.getElem?_map, List.getElem?_eq_getElem hjl]; rfl
        · rw [toPys_map, List.getElem?_map, List.getElem?_eq_getElem (by omega)] at hz'
          cases hz'
          have := hn m hm
          simpa [eqB] using this
      · cases hz
  | _ => exact z1.elim
end
end DL
namespace DL
open PySem PySem.Spec PyProof.Rows L2
variable [LT : LawT]

/-! ### zip of three lists -/
def ItzL3 (K : PySem.W.Frag) (a b c : Addr) : It :=
  ⟨fun i H => ∃ (xs ys zs : List V) (x y z : V), (SqL K H a xs ∧ xs[i]? = some x) ∧ (SqL K H b ys ∧ ys[i]? = some y) ∧ (SqL K H c zs ∧ zs[i]? = some z),
    fun i H v H' => ∃ T x y z, (v = .ref T ∧ H T = none ∧ H' = upd H T (.tup [x, y, z])) ∧ (∀ xs, SqL K H a xs → xs[i]? = some x) ∧ (∀ ys, SqL K H b ys → ys[i]? = some y) ∧ ∀ zs, SqL K H c zs → zs[i]? = some z,
    fun i H => ∃ xs ys zs : List V, SqL K H a xs ∧ SqL K H b ys ∧ SqL K H c zs ∧ i ≤ xs.length ∧ i ≤ ys.length ∧ i ≤ zs.length ∧ (i = xs.length ∨ i = ys.length ∨ i = zs.length)⟩
/-- the cells of the zip object -/
structure ZM3 (h : Heap) (z TI TO i1 i2 i3 a b c : Addr) (i : Nat) : Prop where
  z : IsZip h z TI TO .none
  ti : IsTupOf3 h TI (.ref i1) (.ref i2) (.ref i3)
  to : ∃ x y u, IsTupOf3 h TO x y u
  l1 : h.IsListIter i1 a i
  l2 : h.IsListIter i2 b i
  l3 : h.IsListIter i3 c i
structure ZA3 (z TI TO i1 i2 i3 a b c : Addr) : Prop where
  sep : ZipSep3 z TI TO i1 i2 i3 [i1, a] [i2, b] [i3, c]
  az : a ≠ i1
  bz : b ≠ i2
  cz : c ≠ i3
theorem turnL3 {P : Program} {w : World} {K : PySem.W.Frag} {elts : List Expr} {kk : Nat} {tpos : Pos} {a b e z TI TO i1 i2 i3 : Addr} (D : ZA3 z TI TO i1 i2 i3 a b e) :
    Turn P w K (.Tuple elts kk tpos) (ItzL3 K a b e) [z, TI, TO, i1, i2, i3] z (fun i h => ZM3 h z TI TO i1 i2 i3 a b e i) where
  mem := List.mem_cons_self
  obj := fun i h st => by
    obtain ⟨o1, e1, _, d1⟩ := st.l1
    obtain ⟨o2, e2, _, d2⟩ := st.l2
    obtain ⟨o3, e4, _, d3⟩ := st.l3
    obtain ⟨x, y, u, e3⟩ := st.to
    simp only [List.forall_mem_cons, List.not_mem_nil, false_implies, implies_true, and_true]
    exact ⟨⟨_, st.z, fun v q => nomatch q⟩, ⟨_, st.ti, fun v q => nomatch q⟩, ⟨_, e3, fun v q => nomatch q⟩, ⟨o1, e1, fun v q => by rw [d1] at q; cases q⟩, ⟨o2, e2, fun v q => by rw [d2] at q; cases q⟩, ⟨o3, e4, fun v q => by rw [d3] at q; cases q⟩⟩
  keep := fun i h h' st k => by
    obtain ⟨x, y, u, e3⟩ := st.to
    simp only [List.forall_mem_cons, List.not_mem_nil, false_implies, implies_true, and_true] at k
    obtain ⟨k1, k2, k3, k4, k5, k6⟩ := k
    exact ⟨k1 _ st.z, k2 _ st.ti, ⟨x, y, u, k3 _ e3⟩, st.l1.at k4, st.l2.at k5, st.l3.at k6⟩
  item := by
    rintro X rfl rfl rfl hc i pins s σ H E I hf st ⟨xs, ys, zs, x, y, t, ⟨qx, hx⟩, ⟨qy, hy⟩, qt, ht⟩
    obtain ⟨us, rv, pl, _⟩ := I.list qx
    obtain ⟨ws, rw', pt, _⟩ := I.list qy
    obtain ⟨ts, rt, pk, _⟩ := I.list qt
    obtain ⟨u, hu, ru⟩ := rv.get hx
    obtain ⟨u2, hu2, ru2⟩ := rw'.get hy
    obtain ⟨u3, hu3, ru3⟩ := rt.get ht
    obtain ⟨x0, y0, t0, e3⟩ := st.to
    have hh : X.A.in1.handled = none := I.ok.hd hc
    have zl := Heap.lt_size st.z
    have tl := Heap.lt_size st.ti
    have ol := Heap.lt_size e3
    obtain ⟨o1, q1, _, _⟩ := st.l1
    obtain ⟨o2, q2, _, _⟩ := st.l2
    obtain ⟨o3, q3, _, _⟩ := st.l3
    have l1 := Heap.lt_size q1
    have l2 := Heap.lt_size q2
    have l3 := Heap.lt_size q3
    have lu : i < us.toArray.size := by
      have := (List.getElem?_eq_some_iff.mp hu).1
      simpa using this
    have lw : i < ws.toArray.size := by
      have := (List.getElem?_eq_some_iff.mp hu2).1
      simpa using this
    have lt3 : i < ts.toArray.size := by
      have := (List.getElem?_eq_some_iff.mp hu3).1
      simpa using this
    refine wpAny_pyNext_zipD3_item D.sep (Draws.list hh i1 a D.az us.toArray) (Draws.list hh i2 b D.bz ws.toArray) (Draws.list hh i3 e D.cz ts.toArray) st.z st.ti e3 ⟨st.l1, pl.isList⟩ ⟨st.l2, pt.isList⟩ ⟨st.l3, pk.isList⟩ lu lw lt3 fun v1 v2 v3 h' tk p1 p2 p3 z' to' s1 s2 s3 nw hsz hk => ?_
    have ev1 : v1 = u := by rw [List.getElem?_toArray, hu] at p1; exact (Option.some.inj p1).symm
    have ev2 : v2 = u2 := by rw [List.getElem?_toArray, hu2] at p2; exact (Option.some.inj p2).symm
    have ev3 : v3 = u3 := by rw [List.getElem?_toArray, hu3] at p3; exact (Option.some.inj p3).symm
    subst ev1 ev2 ev3
    refine ⟨_, rfl, wpAny_letOwnedTupleGo_zip (s := { s with heap := h', toks := tk }) z' fun h'' z'' sb => ?_⟩
    have nz : s.heap.objs.size ≠ z := Nat.ne_of_gt zl
    have nw2 : h''.get? s.heap.objs.size = some { cls := .type "tuple", data := .seq #[v1, v2, v3] } := (sb.2 _ nz).trans nw
    have keep : ∀ c o, c ∉ [z, TI, TO, i1, i2, i3] → s.heap.get? c = some o → h''.get? c = some o := fun c o hb q => by
      simp only [List.mem_cons, List.not_mem_nil, or_false, not_or] at hb
      exact (sb.2 c hb.1).trans (hk c o hb.1 hb.2.2.1 hb.2.2.2.1 hb.2.2.2.2.1 hb.2.2.2.2.2 q)
    have new : ObjOk X.prog X.w (upd H s.heap.objs.size (.tup [x, y, t])) h'' s.heap.objs.size (.tup [x, y, t]) :=
      ⟨by show 3 ≤ sizeLine; rw [sizeLine_eq]; decide, [v1, v2, v3], .cons ru (.cons ru2 (.cons ru3 .nil)), _, nw2, rfl, _, rfl⟩
    have fresh := I.hok.fresh (Nat.le_refl s.heap.objs.size)
    have zi3 : i3 ≠ z := fun q => D.sep.zf3 (q ▸ List.mem_cons_self)
    have zi2 : i2 ≠ z := fun q => D.sep.zf2 (q ▸ List.mem_cons_self)
    have zi1 : i1 ≠ z := fun q => D.sep.zf1 (q ▸ List.mem_cons_self)
    refine ⟨.ref s.heap.objs.size, _, I.turnedNew (t' := tk) keep hf (Nat.le_refl _) new, rfl, ⟨_, x, y, t, ⟨rfl, fresh, rfl⟩, fun l hl => by rw [I.list_inj hl qx]; exact hx, fun l hl => by rw [I.list_inj hl qy]; exact hy, fun l hl => by rw [I.list_inj hl qt]; exact ht⟩, ⟨z'', ?_, ⟨v1, v2, v3, ?_⟩, ?_, ?_, ?_⟩, fun c hcm => ?_⟩
    · exact (sb.2 _ D.sep.TIz).trans (hk _ _ D.sep.TIz D.sep.TITO D.sep.TIi1 D.sep.TIi2 D.sep.TIi3 st.ti)
    · exact (sb.2 _ D.sep.TOz).trans to'
    · exact s1.1.at fun o q => (sb.2 _ zi1).trans q
    · exact s2.1.at fun o q => (sb.2 _ zi2).trans q
    · exact s3.1.at fun o q => (sb.2 _ zi3).trans q
    · have lt : c < s.heap.objs.size := by
        revert c hcm
        simp only [List.forall_mem_cons, List.not_mem_nil, false_implies, implies_true, and_true]
        exact ⟨zl, tl, ol, l1, l2, l3⟩
      rw [upd_ne (Nat.ne_of_lt lt)]
      exact (hf c hcm).1
  done := by
    rintro X rfl rfl rfl hc i pins s σ H E I hf st ⟨xs, ys, zs, qx, qy, qt, hx, hy, ht, hend⟩
    obtain ⟨us, rv, pl, _⟩ := I.list qx
    obtain ⟨ws, rw', pt, _⟩ := I.list qy
    obtain ⟨ts, rt, pk, _⟩ := I.list qt
    obtain ⟨x0, y0, t0, e3⟩ := st.to
    have hh : X.A.in1.handled = none := I.ok.hd hc
    have n1 := rv.length
    have n2 := rw'.length
    have n3 := rt.length
    refine wpAny_pyNext_zipD3_end D.sep (Draws.list hh i1 a D.az us.toArray) (Draws.list hh i2 b D.bz ws.toArray) (Draws.list hh i3 e D.cz ts.toArray) st.z st.ti e3 ⟨st.l1, pl.isList⟩ ⟨st.l2, pt.isList⟩ ⟨st.l3, pk.isList⟩ (by simp; omega) (by simp; omega) (by simp; omega) (by simp; omega) fun h' tk hk => ⟨rfl, I.turnedL (t' := tk) (ch := [z, TI, TO, i1, i2, i3]) (fun c o hb q => ?_) hf⟩
    simp only [List.mem_cons, List.not_mem_nil, or_false, not_or] at hb
    exact hk c o hb.1 hb.2.2.1 hb.2.2.2.1 hb.2.2.2.2.1 hb.2.2.2.2.2 q
  self := fun A i s Q E st h => wpAny_pyIter_zip st.z h
def iZip3V (K : PySem.W.Frag) (ta : TA) : TI := fun σ H R => ta σ H fun vs H1 => ∃ a b c xs ys zs, vs = [.ref a, .ref b, .ref c] ∧ SqL K H1 a xs ∧ SqL K H1 b ys ∧ SqL K H1 c zs ∧ R (ItzL3 K a b c) H1
theorem pi_zip3 {X : Cx} {e e2 e3 : Expr} {ta : TA} {p pos tpos : Pos} {elts : List Expr} {kk : Nat} (hg : Gl X "zip") (hm : X.mg "zip" = none) (ha : PA X [e, e2, e3] ta)
    (hs : starEach [e, e2, e3] X.env = (false, eval e X.env) :: starEach [e2, e3] X.env := by rfl) (hpl : (backTo pos (starEach [e2, e3] X.env)).any (·.1) = false := by rfl) :
    PI X (.Tuple elts kk tpos) (.Call (.Name "zip" p) [e, e2, e3] [] pos) (iZip3V X.K ta) := by
  constructor
  intro pins s σ H R I h
  refine Call_ (ld_blt I hg hm PyProof.Rows.boot_zip (PyProof.Rows.callWith_type1 (thn (ha.run pos pins s σ H _ I h) fun us s1 q => ?_) hs hpl))
  obtain ⟨vs, H1, I1, r1, a, b, c, xs, ys, zs, rfl, qx, qy, qz, q⟩ := q
  obtain ⟨u1, u2, u3, rfl, e1, e2, e3⟩ : ∃ u1 u2 u3, us = [u1, u2, u3] ∧ u1 = .ref a ∧ u2 = .ref b ∧ u3 = .ref c := by
    cases r1 with
    | cons r rr =>
      cases rr with
      | cons r' rr =>
        cases rr with
        | cons r'' rr =>
          cases rr
          exact ⟨_, _, _, rfl, r, r', r''⟩
  subst e1 e2 e3
  obtain ⟨its, rv, pl, _⟩ := I1.list qx
  obtain ⟨its2, rv2, pt, _⟩ := I1.list qy
  obtain ⟨its3, rv3, pk, _⟩ := I1.list qz
  obtain ⟨oa, na, ha1, _⟩ := id pl
  obtain ⟨ob, nb, hb1, _⟩ := id pt
  obtain ⟨oc, nc, hc1, _⟩ := id pk
  have la := Heap.lt_size ha1
  have lb := Heap.lt_size hb1
  have lc := Heap.lt_size hc1
  refine zip_begins3 (begins_list a its.toArray) (begins_list b its2.toArray) (begins_list c its3.toArray) pl.isList pt.isList pk.isList fun h' hz hTI hTO g1 g2 g3 hsz hk => wpAny_pyIter_zip hz ?_
  generalize hN : s1.heap.objs.size = N at *
  refine ⟨N + 5, [N + 5, N + 3, N + 4, N, N + 1, N + 2], _, _, H1, rfl, I1.kept (t' := s1.toks) hk, turnL3 (z := N + 5) (TI := N + 3) (TO := N + 4) (i1 := N) (i2 := N + 1) (i3 := N + 2) (a := a) (b := b) (e := c) ⟨?_, Nat.ne_of_lt la, Nat.ne_of_lt (Nat.lt_succ_of_lt lb), Nat.ne_of_lt (Nat.lt_succ_of_lt (Nat.lt_succ_of_lt lc))⟩, ⟨hz, hTI, ⟨_, _, _, hTO⟩, ⟨_, g1, rfl, rfl⟩, ⟨_, g2, rfl, rfl⟩, ⟨_, g3, rfl, rfl⟩⟩, fun d hd => ?_, q⟩
  · exact zip_sep3 (fp1 := [a]) (fp2 := [b]) (fp3 := [c]) (by simpa using la) (by simpa using lb) (by simpa using lc)
  · have le : s1.heap.objs.size ≤ d := by
      rw [hN]
      revert d hd
      simp only [List.forall_mem_cons, List.not_mem_nil, false_implies, implies_true, and_true]
      exact ⟨by omega, by omega, by omega, by omega, by omega, by omega⟩
    exact I1.fpOk le (I1.hok.fresh le)
def zip3D (as bs cs : List D) : List D := List.zipWith (fun a p => match p with
  | .tup [b, c] => .tup [a, b, c]
  | _ => a) as (zipD bs cs)
theorem zip3D_get {as bs cs : List D} {i : Nat} {a b c : D} (h1 : as[i]? = some a) (h2 : bs[i]? = some b) (h3 : cs[i]? = some c) : (zip3D as bs cs)[i]? = some (.tup [a, b, c]) := by
  unfold zip3D
  rw [List.getElem?_zipWith, h1, zipD_get h2 h3]
theorem zip3D_len (as bs cs : List D) : (zip3D as bs cs).length = min as.length (min bs.length cs.length) := by simp [zip3D, zipD_len]
section
variable {K : PySem.W.Frag} {mg : Str → Option Value} {W1 : Hw}
theorem triple_new {W2 : Hw} {s2 : S} (B : Base K mg W2 s2) {T : Addr} {x y z : V} {d e f : D} (hT : W2.H T = none) (rx : Rep K mg W2.G W2.τ x d) (ry : Rep K mg W2.G W2.τ y e) (rz : Rep K mg W2.G W2.τ z f) :
    ∃ W3, W3.H = upd W2.H T (.tup [x, y, z]) ∧ Ext W2 W3 ∧ Base K mg W3 s2 ∧ Rep K mg W3.G W3.τ (.ref T) (.tup [d, e, f]) := by
  obtain ⟨B1, E1⟩ := B.newO hT (.tup [x, y, z])
  exact ⟨_, rfl, E1, B1, .tup upd_same (.cons (rx.ext E1) (.cons (ry.ext E1) (.cons (rz.ext E1) .nil)))⟩
def YTri (xs ys zs : List V) (i : Nat) (H : Hp) (v : V) (H' : Hp) : Prop := ∃ T x y z, (v = .ref T ∧ H T = none ∧ H' = upd H T (.tup [x, y, z])) ∧ xs[i]? = some x ∧ ys[i]? = some y ∧ zs[i]? = some z
theorem walk_zip3 {a b c : Addr} {xs ys zs : List V} {n : Nat} (hn : n = min xs.length (min ys.length zs.length)) : Walk (ItzL3 K a b c) n (fun H => SqL K H a xs ∧ SqL K H b ys ∧ SqL K H c zs) (YTri xs ys zs) := by
  subst hn
  refine ⟨fun i _ hi q => ?_, fun _ q => ⟨xs, ys, zs, q.1, q.2.1, q.2.2, by omega, by omega, by omega, by omega⟩, fun i H v H' _ q y => ?_⟩
  · have h1 : i < xs.length := by omega
    have h2 : i < ys.length := by omega
    have h3 : i < zs.length := by omega
    exact ⟨xs, ys, zs, xs[i], ys[i], zs[i], ⟨q.1, by simp [h1]⟩, ⟨q.2.1, by simp [h2]⟩, q.2.2, by simp [h3]⟩
  · obtain ⟨T, x, y, z, ⟨h1, h2, h3⟩, h4, h5, h6⟩ := y
    exact ⟨T, x, y, z, ⟨h1, h2, h3⟩, h4 xs q.1, h5 ys q.2.1, h6 zs q.2.2⟩
theorem its_zip3 {a b c : Addr} {xs ys zs : List V} {as bs cs : List D} (h : SqL K W1.G a xs) (r : RepAll K mg W1.G W1.τ xs as) (h' : SqL K W1.G b ys) (r' : RepAll K mg W1.G W1.τ ys bs) (h'' : SqL K W1.G c zs) (r'' : RepAll K mg W1.G W1.τ zs cs) : ∃ G Y, Its K mg W1 (ItzL3 K a b c) (zip3D as bs cs) G Y := by
  refine ⟨fun H => SqL K H a xs ∧ SqL K H b ys ∧ SqL K H c zs, YTri xs ys zs, by rw [zip3D_len, ← r.length, ← r'.length, ← r''.length]; exact walk_zip3 rfl, fun W2 s2 g B => ⟨B.sub.seq (g.seq h), B.sub.seq (g.seq h'), B.sub.seq (g.seq h'')⟩, fun i W2 s2 x H' g t B hi hy => ?_⟩
  obtain ⟨T, x0, y0, z0, ⟨rfl, hT, rfl⟩, hx, hy, hz⟩ := hy
  obtain ⟨d, hd, rd⟩ := (r.mono g t).get hx
  obtain ⟨e, he, re⟩ := (r'.mono g t).get hy
  obtain ⟨f, hf, rf⟩ := (r''.mono g t).get hz
  obtain ⟨W3, e3, E3, B3, r3⟩ := triple_new B hT rd re rf
  exact ⟨W3, _, e3, zip3D_get hd he hf, E3, B3, r3⟩
end
def zp3Of (ds : List D) : Option (List D) := match ds with
  | [.lst as, .lst bs, .lst cs] => some (zip3D as bs cs)
  | _ => none
def iZip3 (fs : DA) : DA := fun ρ s => (fs ρ s).bind fun ds s1 => Res.ofO (zp3Of ds) s1
theorem i_zip3 {X : Cx} {E : WX} {a b c : Expr} {fs : DA} {pos p tpos : Pos} {elts : List Expr} {kk : Nat} (hm : X.mg "zip" = none) (ha : PA X [a, b, c] (tA X.K X.mg E fs)) (hg : Gl X "zip" := by rfl) (hs : starEach [a, b, c] X.env = (false, eval a X.env) :: starEach [b, c] X.env := by rfl) (hpl : (backTo pos (starEach [b, c] X.env)).any (·.1) = false := by rfl) :
    PI X (.Tuple elts kk tpos) (.Call (.Name "zip" p) [a, b, c] [] pos) (tI X.K X.mg E (iZip3 fs)) := PI.mono (pi_zip3 hg hm ha hs hpl) fun σ H R z => by
  obtain ⟨W0, W, s, ρ, rfl, st, z⟩ := z
  refine (go st z).imp fun x H1 ⟨W1, s1, ds, e1, r1, x1, st1, z1⟩ => ?_
  subst e1
  have key : ∃ as bs cs, ds = [.lst as, .lst bs, .lst cs] := by
    unfold zp3Of at z1
    split at z1
    · exact ⟨_, _, _, rfl⟩
    · exact z1.elim
  obtain ⟨as, bs, cs, rfl⟩ := key
  obtain ⟨v, us, rfl, rv, r2⟩ := r1.cons_inv
  obtain ⟨u, t, rfl, ru, rt⟩ := r2.two_inv
  obtain ⟨a, xs, rfl, rr, q⟩ := sqv_inv rv (show sqOf (.lst as) = some as from rfl)
  obtain ⟨b, ys, rfl, rr', q'⟩ := sqv_inv ru (show sqOf (.lst bs) = some bs from rfl)
  obtain ⟨c, zs, rfl, rr'', q''⟩ := sqv_inv rt (show sqOf (.lst cs) = some cs from rfl)
  have q1 := q.resolve_right fun q => by cases q.1
  have q2 := q'.resolve_right fun q => by cases q.1
  have q3 := q''.resolve_right fun q => by cases q.1
  exact ⟨a, b, c, xs, ys, zs, rfl, st1.base.sub.seq q1.2, st1.base.sub.seq q2.2, st1.base.sub.seq q3.2, z1 _ W1 (Ext.refl _) st1.base (its_zip3 q1.2 rr q2.2 rr' q3.2 rr'')⟩
end DL
namespace DL
open PySem PySem.Spec PyProof.Rows L2
variable [LT : LawT]
/-! ### len of an own dict -/
def lenC (s : S) (ds : List D) : Option D := match ds with
  | [.tok n] => match tokT s n, tokK s n with
    | some l, _ => some (.int l.length)
    | none, some l => some (.int l.length)
    | none, none => none
  | _ => none
def eLenC (fs : DA) : DE := fun ρ s => (fs ρ s).bind fun ds s1 => Res.ofO (lenC s1 ds) s1
section
variable {X : Cx} {E : WX} {fs : DA} {pos : Pos}
theorem e_lenC {p' : Pos} {e : Expr} (hm : X.mg "len" = none) (ha : PA X [e] (tA X.K X.mg E fs)) (hg : Gl X "len" := by rfl)
    (he : starEach [e] X.env = (false, eval e X.env) :: starEach [] X.env := by rfl) : PE X (.Call (.Name "len" p') [e] [] pos) (tE X.K X.mg E (eLenC fs)) :=
  PE.mono (pe_callB c_len hg hm (by decide +kernel) ha (by decide) (by decide) he rfl) fun σ H Q z => by
    obtain ⟨W0, W, s, ρ, rfl, st, z⟩ := z
    refine (go st z).imp fun x H1 ⟨W1, s1, d1, e1, r1, x1, st1, z1⟩ => ?_
    subst e1
    cases hz : lenC s1 d1 with
    | none => rw [hz] at z1; exact z1.elim
    | some d =>
      rw [hz] at z1
      unfold lenC at hz
      split at hz
      · rename_i n
        obtain ⟨v, rfl, rv⟩ := RepAll.one_inv r1
        split at hz
        · rename_i l h1
          cases hz
          obtain ⟨a, ks, rfl, _, eH, pc⟩ := tok_dictT st1.base rv h1
          exact .inr (.inr ⟨a, ks, rfl, eH, stay st1.base z1 (by rw [pc.len]; exact .int _)⟩)
        · rename_i l _ h1
          cases hz
          obtain ⟨a, ks, rfl, _, eH, pc⟩ := tok_dict st1.base rv h1
          exact .inr (.inl ⟨a, ks, rfl, eH, stay st1.base z1 (by rw [pc.len]; exact .int _)⟩)
        · cases hz
      · cases hz
end
end DL
namespace DL
open PySem PySem.Spec PyProof.Rows L2
variable [LT : LawT]

/-! ### zip of a tuple, a list and a tuple -/
def ItzL3X (K : PySem.W.Frag) (a b c : Addr) : It :=
  ⟨fun i H => ∃ (xs ys zs : List V) (x y z : V), (SqT K H a xs ∧ xs[i]? = some x) ∧ (SqL K H b ys ∧ ys[i]? = some y) ∧ (SqT K H c zs ∧ zs[i]? = some z),
    fun i H v H' => ∃ T x y z, (v = .ref T ∧ H T = none ∧ H' = upd H T (.tup [x, y, z])) ∧ (∀ xs, SqT K H a xs → xs[i]? = some x) ∧ (∀ ys, SqL K H b ys → ys[i]? = some y) ∧ ∀ zs, SqT K H c zs → zs[i]? = some z,
    fun i H => ∃ xs ys zs : List V, SqT K H a xs ∧ SqL K H b ys ∧ SqT K H c zs ∧ i ≤ xs.length ∧ i ≤ ys.length ∧ i ≤ zs.length ∧ (i = xs.length ∨ i = ys.length ∨ i = zs.length)⟩
/-- the cells of the zip object -/
structure ZM3X (h : Heap) (z TI TO i1 i2 i3 a b c : Addr) (i : Nat) : Prop where
  z : IsZip h z TI TO .none
  ti : IsTupOf3 h TI (.ref i1) (.ref i2) (.ref i3)
  to : ∃ x y u, IsTupOf3 h TO x y u
  l1 : h.IsTupleIter i1 a i
  l2 : h.IsListIter i2 b i
  l3 : h.IsTupleIter i3 c i
structure ZA3X (z TI TO i1 i2 i3 a b c : Addr) : Prop where
  sep : ZipSep3 z TI TO i1 i2 i3 [i1, a] [i2, b] [i3, c]
  az : a ≠ i1
  bz : b ≠ i2
  cz : c ≠ i3
theorem turnL3X {P : Program} {w : World} {K : PySem.W.Frag} {elts : List Expr} {kk : Nat} {tpos : Pos} {a b e z TI TO i1 i2 i3 : Addr} (D : ZA3X z TI TO i1 i2 i3 a b e) :
    Turn P w K (.Tuple elts kk tpos) (ItzL3X K a b e) [z, TI, TO, i1, i2, i3] z (fun i h => ZM3X h z TI TO i1 i2 i3 a b e i) where
  mem := List.mem_cons_self
  obj := fun i h st => by
    obtain ⟨o1, e1, _, d1⟩ := st.l1
    obtain ⟨o2, e2, _, d2⟩ := st.l2
    obtain ⟨o3, e4, _, d3⟩ := st.l3
    obtain ⟨x, y, u, e3⟩ := st.to
    simp only [List.forall_mem_cons, List.not_mem_nil, false_implies, implies_true, and_true]
    exact ⟨⟨_, st.z, fun v q => nomatch q⟩, ⟨_, st.ti, fun v q => nomatch q⟩, ⟨_, e3, fun v q => nomatch q⟩, ⟨o1, e1, fun v q => by rw [d1] at q; cases q⟩, ⟨o2, e2, fun v q => by rw [d2] at q; cases q⟩, ⟨o3, e4, fun v q => by rw [d3] at q; cases q⟩⟩
  keep := fun i h h' st k => by
    obtain ⟨x, y, u, e3⟩ := st.to
    simp only [List.forall_mem_cons, List.not_mem_nil, false_implies, implies_true, and_true] at k
    obtain ⟨k1, k2, k3, k4, k5, k6⟩ := k
    exact ⟨k1 _ st.z, k2 _ st.ti, ⟨x, y, u, k3 _ e3⟩, st.l1.at k4, st.l2.at k5, st.l3.at k6⟩
  item := by
    rintro X rfl rfl rfl hc i pins s σ H E I hf st ⟨xs, ys, zs, x, y, t, ⟨qx, hx⟩, ⟨qy, hy⟩, qt, ht⟩
    obtain ⟨us, rv, pl, _⟩ := I.tuple qx
    obtain ⟨ws, rw', pt, _⟩ := I.list qy
    obtain ⟨ts, rt, pk, _⟩ := I.tuple qt
    obtain ⟨u, hu, ru⟩ := rv.get hx
    obtain ⟨u2, hu2, ru2⟩ := rw'.get hy
    obtain ⟨u3, hu3, ru3⟩ := rt.get ht
    obtain ⟨x0, y0, t0, e3⟩ := st.to
    have hh : X.A.in1.handled = none := I.ok.hd hc
    have zl := Heap.lt_size st.z
    have tl := Heap.lt_size st.ti
    have ol := Heap.lt_size e3
    obtain ⟨o1, q1, _, _⟩ := st.l1
    obtain ⟨o2, q2, _, _⟩ := st.l2
    obtain ⟨o3, q3, _, _⟩ := st.l3
    have l1 := Heap.lt_size q1
    have l2 := Heap.lt_size q2
    have l3 := Heap.lt_size q3
    have lu : i < us.toArray.size := by
      have := (List.getElem?_eq_some_iff.mp hu).1
      simpa using this
    have lw : i < ws.toArray.size := by
      have := (List.getElem?_eq_some_iff.mp hu2).1
      simpa using this
    have lt3 : i < ts.toArray.size := by
      have := (List.getElem?_eq_some_iff.mp hu3).1
      simpa using this
    refine wpAny_pyNext_zipD3_item D.sep (Draws.tuple hh i1 a D.az us.toArray) (Draws.list hh i2 b D.bz ws.toArray) (Draws.tuple hh i3 e D.cz ts.toArray) st.z st.ti e3 ⟨st.l1, pl⟩ ⟨st.l2, pt.isList⟩ ⟨st.l3, pk⟩ lu lw lt3 fun v1 v2 v3 h' tk p1 p2 p3 z' to' s1 s2 s3 nw hsz hk => ?_
    have ev1 : v1 = u := by rw [List.getElem?_toArray, hu] at p1; exact (Option.some.inj p1).symm
    have ev2 : v2 = u2 := by rw [List.getElem?_toArray, hu2] at p2; exact (Option.some.inj p2).symm
    have ev3 : v3 = u3 := by rw [List.getElem?_toArray, hu3] at p3; exact (Option.some.inj p3).symm
    subst ev1 ev2 ev3
    refine ⟨_, rfl, wpAny_letOwnedTupleGo_zip (s := { s with heap := h', toks := tk }) z' fun h'' z'' sb => ?_⟩
    have nz : s.heap.objs.size ≠ z := Nat.ne_of_gt zl
    have nw2 : h''.get? s.heap.objs.size = some { cls := .type "tuple", data := .seq #[v1, v2, v3] } := (sb.2 _ nz).trans nw
    have keep : ∀ c o, c ∉ [z, TI, TO, i1, i2, i3] → s.heap.get? c = some o → h''.get? c = some o := fun c o hb q => by
      simp only [List.mem_cons, List.not_mem_nil, or_false, not_or] at hb
      exact (sb.2 c hb.1).trans (hk c o hb.1 hb.2.2.1 hb.2.2.2.1 hb.2.2.2.2.1 hb.2.2.2.2.2 q)
    have new : ObjOk X.prog X.w (upd H s.heap.objs.size (.tup [x, y, t])) h'' s.heap.objs.size (.tup [x, y, t]) :=
      ⟨by show 3 ≤ sizeLine; rw [sizeLine_eq]; decide, [v1, v2, v3], .cons ru (.cons ru2 (.cons ru3 .nil)), _, nw2, rfl, _, rfl⟩
    have fresh := I.hok.fresh (Nat.le_refl s.heap.objs.size)
    have zi3 : i3 ≠ z := fun q => D.sep.zf3 (q ▸ List.mem_cons_self)
    have zi2 : i2 ≠ z := fun q => D.sep.zf2 (q ▸ List.mem_cons_self)
    have zi1 : i1 ≠ z := fun q => D.sep.zf1 (q ▸ List.mem_cons_self)
    refine ⟨.ref s.heap.objs.size, _, I.turnedNew (t' := tk) keep hf (Nat.le_refl _) new, rfl, ⟨_, x, y, t, ⟨rfl, fresh, rfl⟩, fun l hl => by rw [I.tuple_inj hl qx]; exact hx, fun l hl => by rw [I.list_inj hl qy]; exact hy, fun l hl => by rw [I.tuple_inj hl qt]; exact ht⟩, ⟨z'', ?_, ⟨v1, v2, v3, ?_⟩, ?_, ?_, ?_⟩, fun c hcm => ?_⟩
    · exact (sb.2 _ D.sep.TIz).trans (hk _ _ D.sep.TIz D.sep.TITO D.sep.TIi1 D.sep.TIi2 D.sep.TIi3 st.ti)
    · exact (sb.2 _ D.sep.TOz).trans to'
    · exact s1.1.at fun o q => (sb.2 _ zi1).trans q
    · exact s2.1.at fun o q => (sb.2 _ zi2).trans q
    · exact s3.1.at fun o q => (sb.2 _ zi3).trans q
    · have lt : c < s.heap.objs.size := by
        revert c hcm
        simp only [List.forall_mem_cons, List.not_mem_nil, false_implies, implies_true, and_true]
        exact ⟨zl, tl, ol, l1, l2, l3⟩
      rw [upd_ne (Nat.ne_of_lt lt)]
      exact (hf c hcm).1
  done := by
    rintro X rfl rfl rfl hc i pins s σ H E I hf st ⟨xs, ys, zs, qx, qy, qt, hx, hy, ht, hend⟩
    obtain ⟨us, rv, pl, _⟩ := I.tuple qx
    obtain ⟨ws, rw', pt, _⟩ := I.list qy
    obtain ⟨ts, rt, pk, _⟩ := I.tuple qt
    obtain ⟨x0, y0, t0, e3⟩ := st.to
    have hh : X.A.in1.handled = none := I.ok.hd hc
    have n1 := rv.length
    have n2 := rw'.length
    have n3 := rt.length
    refine wpAny_pyNext_zipD3_end D.sep (Draws.tuple hh i1 a D.az us.toArray) (Draws.list hh i2 b D.bz ws.toArray) (Draws.tuple hh i3 e D.cz ts.toArray) st.z st.ti e3 ⟨st.l1, pl⟩ ⟨st.l2, pt.isList⟩ ⟨st.l3, pk⟩ (by simp; omega) (by simp; omega) (by simp; omega) (by simp; omega) fun h' tk hk => ⟨rfl, I.turnedL (t' := tk) (ch := [z, TI, TO, i1, i2, i3]) (fun c o hb q => ?_) hf⟩
    simp only [List.mem_cons, List.not_mem_nil, or_false, not_or] at hb
    exact hk c o hb.1 hb.2.2.1 hb.2.2.2.1 hb.2.2.2.2.1 hb.2.2.2.2.2 q
  self := fun A i s Q E st h => wpAny_pyIter_zip st.z h
def iZip3VX (K : PySem.W.Frag) (ta : TA) : TI := fun σ H R => ta σ H fun vs H1 => ∃ a b c xs ys zs, vs = [.ref a, .ref b, .ref c] ∧ SqT K H1 a xs ∧ SqL K H1 b ys ∧ SqT K H1 c zs ∧ R (ItzL3X K a b c) H1
theorem pi_zip3X {X : Cx} {e e2 e3 : Expr} {ta : TA} {p pos tpos : Pos} {elts : List Expr} {kk : Nat} (hg : Gl X "zip") (hm : X.mg "zip" = none) (ha : PA X [e, e2, e3] ta)
    (hs : starEach [e, e2, e3] X.env = (false, eval e X.env) :: starEach [e2, e3] X.env := by rfl) (hpl : (backTo pos (starEach [e2, e3] X.env)).any (·.1) = false := by rfl) :
    PI X (.Tuple elts kk tpos) (.Call (.Name "zip" p) [e, e2, e3] [] pos) (iZip3VX X.K ta) := by
  constructor
  intro pins s σ H R I h
  refine Call_ (ld_blt I hg hm PyProof.Rows.boot_zip (PyProof.Rows.callWith_type1 (thn (ha.run pos pins s σ H _ I h) fun us s1 q => ?_) hs hpl))
  obtain ⟨vs, H1, I1, r1, a, b, c, xs, ys, zs, rfl, qx, qy, qz, q⟩ := q
  obtain ⟨u1, u2, u3, rfl, e1, e2, e3⟩ : ∃ u1 u2 u3, us = [u1, u2, u3] ∧ u1 = .ref a ∧ u2 = .ref b ∧ u3 = .ref c := by
    cases r1 with
    | cons r rr =>
      cases rr with
      | cons r' rr =>
        cases rr with
        | cons r'' rr =>
          cases rr
          exact ⟨_, _, _, rfl, r, r', r''⟩
  subst e1 e2 e3
  obtain ⟨its, rv, pl, _⟩ := I1.tuple qx
  obtain ⟨its2, rv2, pt, _⟩ := I1.list qy
  obtain ⟨its3, rv3, pk, _⟩ := I1.tuple qz
  obtain ⟨oa, ha1, _⟩ := id pl
  obtain ⟨ob, nb, hb1, _⟩ := id pt
  obtain ⟨oc, hc1, _⟩ := id pk
  have la := Heap.lt_size ha1
  have lb := Heap.lt_size hb1
  have lc := Heap.lt_size hc1
  refine zip_begins3 (begins_tuple a its.toArray) (begins_list b its2.toArray) (begins_tuple c its3.toArray) pl pt.isList pk fun h' hz hTI hTO g1 g2 g3 hsz hk => wpAny_pyIter_zip hz ?_
  generalize hN : s1.heap.objs.size = N at *
  refine ⟨N + 5, [N + 5, N + 3, N + 4, N, N + 1, N + 2], _, _, H1, rfl, I1.kept (t' := s1.toks) hk, turnL3X (z := N + 5) (TI := N + 3) (TO := N + 4) (i1 := N) (i2 := N + 1) (i3 := N + 2) (a := a) (b := b) (e := c) ⟨?_, Nat.ne_of_lt la, Nat.ne_of_lt (Nat.lt_succ_of_lt lb), Nat.ne_of_lt (Nat.lt_succ_of_lt (Nat.lt_succ_of_lt lc))⟩, ⟨hz, hTI, ⟨_, _, _, hTO⟩, ⟨_, g1, rfl, rfl⟩, ⟨_, g2, rfl, rfl⟩, ⟨_, g3, rfl, rfl⟩⟩, fun d hd => ?_, q⟩
  · exact zip_sep3 (fp1 := [a]) (fp2 := [b]) (fp3 := [c]) (by simpa using la) (by simpa using lb) (by simpa using lc)
  · have le : s1.heap.objs.size ≤ d := by
      rw [hN]
      revert d hd
      simp only [List.forall_mem_cons, List.not_mem_nil, false_implies, implies_true, and_true]
      exact ⟨by omega, by omega, by omega, by omega, by omega, by omega⟩
    exact I1.fpOk le (I1.hok.fresh le)
section
variable {K : PySem.W.Frag} {mg : Str → Option Value} {W1 : Hw}
theorem walk_zip3X {a b c : Addr} {xs ys zs : List V} {n : Nat} (hn : n = min xs.length (min ys.length zs.length)) : Walk (ItzL3X K a b c) n (fun H => SqT K H a xs ∧ SqL K H b ys ∧ SqT K H c zs) (YTri xs ys zs) := by
  subst hn
  refine ⟨fun i _ hi q => ?_, fun _ q => ⟨xs, ys, zs, q.1, q.2.1, q.2.2, by omega, by omega, by omega, by omega⟩, fun i H v H' _ q y => ?_⟩
  · have h1 : i < xs.length := by omega
    have h2 : i < ys.length := by omega
    have h3 : i < zs.length := by omega
    exact ⟨xs, ys, zs, xs[i], ys[i], zs[i], ⟨q.1, by simp [h1]⟩, ⟨q.2.1, by simp [h2]⟩, q.2.2, by simp [h3]⟩
  · obtain ⟨T, x, y, z, ⟨h1, h2, h3⟩, h4, h5, h6⟩ := y
    exact ⟨T, x, y, z, ⟨h1, h2, h3⟩, h4 xs q.1, h5 ys q.2.1, h6 zs q.2.2⟩
theorem its_zip3X {a b c : Addr} {xs ys zs : List V} {as bs cs : List D} (h : SqT K W1.G a xs) (r : RepAll K mg W1.G W1.τ xs as) (h' : SqL K W1.G b ys) (r' : RepAll K mg W1.G W1.τ ys bs) (h'' : SqT K W1.G c zs) (r'' : RepAll K mg W1.G W1.τ zs cs) : ∃ G Y, Its K mg W1 (ItzL3X K a b c) (zip3D as bs cs) G Y := by
  refine ⟨fun H => SqT K H a xs ∧ SqL K H b ys ∧ SqT K H c zs, YTri xs ys zs, by rw [zip3D_len, ← r.length, ← r'.length, ← r''.length]; exact walk_zip3X rfl, fun W2 s2 g B => ⟨seqT B.sub (seqT g h), B.sub.seq (g.seq h'), seqT B.sub (seqT g h'')⟩, fun i W2 s2 x H' g t B hi hy => ?_⟩
  obtain ⟨T, x0, y0, z0, ⟨rfl, hT, rfl⟩, hx, hy, hz⟩ := hy
  obtain ⟨d, hd, rd⟩ := (r.mono g t).get hx
  obtain ⟨e, he, re⟩ := (r'.mono g t).get hy
  obtain ⟨f, hf, rf⟩ := (r''.mono g t).get hz
  obtain ⟨W3, e3, E3, B3, r3⟩ := triple_new B hT rd re rf
  exact ⟨W3, _, e3, zip3D_get hd he hf, E3, B3, r3⟩
end
def zp3OfX (ds : List D) : Option (List D) := match ds with
  | [.tup as, .lst bs, .tup cs] => some (zip3D as bs cs)
  | _ => none
def iZip3X (fs : DA) : DA := fun ρ s => (fs ρ s).bind fun ds s1 => Res.ofO (zp3OfX ds) s1
theorem i_zip3X {X : Cx} {E : WX} {a b c : Expr} {fs : DA} {pos p tpos : Pos} {elts : List Expr} {kk : Nat} (hm : X.mg "zip" = none) (ha : PA X [a, b, c] (tA X.K X.mg E fs)) (hg : Gl X "zip" := by rfl) (hs : starEach [a, b, c] X.env = (false, eval a X.env) :: starEach [b, c] X.env := by rfl) (hpl : (backTo pos (starEach [b, c] X.env)).any (·.1) = false := by rfl) :
    PI X (.Tuple elts kk tpos) (.Call (.Name "zip" p) [a, b, c] [] pos) (tI X.K X.mg E (iZip3X fs)) := PI.mono (pi_zip3X hg hm ha hs hpl) fun σ H R z => by
  obtain ⟨W0, W, s, ρ, rfl, st, z⟩ := z
  refine (go st z).imp fun x H1 ⟨W1, s1, ds, e1, r1, x1, st1, z1⟩ => ?_
  subst e1
  have key : ∃ as bs cs, ds = [.tup as, .lst bs, .tup cs] := by
    unfold zp3OfX at z1
    split at z1
    · exact ⟨_, _, _, rfl⟩
    · exact z1.elim
  obtain ⟨as, bs, cs, rfl⟩ := key
  obtain ⟨v, us, rfl, rv, r2⟩ := r1.cons_inv
  obtain ⟨u, t, rfl, ru, rt⟩ := r2.two_inv
  obtain ⟨a, xs, rfl, rr, q⟩ := sqv_inv rv (show sqOf (.tup as) = some as from rfl)
  obtain ⟨b, ys, rfl, rr', q'⟩ := sqv_inv ru (show sqOf (.lst bs) = some bs from rfl)
  obtain ⟨c, zs, rfl, rr'', q''⟩ := sqv_inv rt (show sqOf (.tup cs) = some cs from rfl)
  have q1 := q.resolve_left fun q => by cases q.1
  have q2 := q'.resolve_right fun q => by cases q.1
  have q3 := q''.resolve_left fun q => by cases q.1
  exact ⟨a, b, c, xs, ys, zs, rfl, seqT st1.base.sub q1.2, st1.base.sub.seq q2.2, seqT st1.base.sub q3.2, z1 _ W1 (Ext.refl _) st1.base (its_zip3X q1.2 rr q2.2 rr' q3.2 rr'')⟩
end DL
namespace DL
open PySem PySem.Spec PyProof.Rows L2
variable [LT : LawT]

/-! ### a lambda without parameters, made -/
/-- behind the making: nothing new is known, or the maker's table has grown by a code object -/
def MadeAt (H H1 : Hp) (P c' : Addr) (q : Str) : Prop :=
  H1 = H ∨ (H c' = none ∧ c' ≠ P ∧ ∃ ps', H1 = upd (upd H P (.tbl ps')) c' (LamX.CodeO c' q) ∧ LamX.TabS H1 P q)
section
variable {X : Cx} {pins : List (Addr × Obj)} {σ : L2.St} {H : Hp} {s : Shared}
abbrev lamFn (X : Cx) (params : Arguments) (body : Expr) (scope : Scope) (c' : Addr) (pm ctv : Value) : Obj :=
  PySem.W.kla_obj "<lambda>" (X.env.qual ++ "<lambda>") params body scope (cloFrom X.env.cells scope.names []) pm c' ctv
theorem not_frame (I : Inv X pins σ H s) {f : Addr} (hf : s.heap.objs.size ≤ f) : f ∉ frs X.stack := by
  intro m
  rcases List.mem_cons.mp (I.stkSub _ m) with e | e
  · subst e
    exact absurd I.lt (Nat.not_lt_of_le hf)
  · exact I.nofs hf e
theorem lam_made {c P : Addr} {params : Arguments} {body : Expr} {scope : Scope} {pos : Pos} {E Q : Value → Shared → Prop} (I : Inv X pins σ H s)
    (TB : LamX.TabB X.base X.mg c P) (hcode : X.env.code = .ref c) (hT : LamX.TabS H P (X.env.qual ++ "<lambda>"))
    (hdef : defaultsOf params X.env = ([], [])) (hfree : ∀ y ∈ scope.names, y.2 = .free → ∃ c, X.env.cells.lookup y.1 = some c)
    (h : ∀ (f c' : Addr) (pm ctv : Value) (H1 : Hp) (s' : Shared), Inv X pins σ H1 s' → MadeAt H H1 P c' (X.env.qual ++ "<lambda>") →
      s'.heap.get? f = some (lamFn X params body scope c' pm ctv) → H1 f = none → f ∉ frs X.stack → H1 c' = some (LamX.CodeO c' (X.env.qual ++ "<lambda>")) → Q (.ref f) s') :
    wpAny (model X.prog X.w) X.A (eval (.Lambda params body scope pos) X.env) Q E s := by
  obtain ⟨ps, tP, triples, known⟩ := hT
  have atP := I.hok P _ tP
  have builtins := TB.bm.keeps I.bk
  apply PySem.W.kla_eval hdef
  generalize hq : codeAmong pos ps.toList = found
  match found, hq with
  | some cv, hq =>
    obtain ⟨c', rfl, code⟩ := known pos cv hq
    refine PySem.W.kla_makeFunctionHit (closure_ok hfree) I.ok.glob (I.mod.glob.keeps I.bk) hcode (TB.code.keeps I.bk) atP triples hq builtins ?_
    intro ctv h' tk grown bigger
    refine h _ c' _ ctv H _ (I.kept fun b o e => Heap.get?_push_of_some _ (grown b o e)) (.inl rfl) (Heap.get?_push_size _ rfl) (I.hok.fresh bigger) (not_frame I bigger) code
  | none, hq =>
    refine PySem.W.kla_makeFunction (closure_ok hfree) I.ok.glob (I.mod.glob.keeps I.bk) hcode (TB.code.keeps I.bk) atP triples hq TB.gP builtins ?_
    intro c' ctv h' tk others above below rec tab
    obtain ⟨_, oc, vs, t, same, goc, doc, qoc⟩ := rec
    cases same
    have bigger : s.heap.objs.size ≤ h'.objs.size := Nat.le_of_lt (Nat.lt_of_le_of_lt above below)
    have newC := I.hok.fresh above
    have cP : c' ≠ P := fun z => by rw [z, tP] at newC; cases newC
    have made := LamX.inv_table (t' := tk) (c := c') (q := X.env.qual ++ "<lambda>") (more := #[rawInt pos.line, rawInt pos.col, .ref c'])
      (h' := h'.push (lamFn X params body scope c' ((X.mg "__name__").getD .none) ctv)) I tP
      (fun b o hb e => Heap.get?_push_of_some _ (others b o hb e)) (Heap.get?_push_of_some _ tab) above ⟨oc, vs, t, Heap.get?_push_of_some _ goc, doc, qoc⟩
    have newTab : LamX.TabS (upd (upd H P (.tbl (ps ++ #[rawInt pos.line, rawInt pos.col, .ref c']))) c' (LamX.CodeO c' (X.env.qual ++ "<lambda>"))) P (X.env.qual ++ "<lambda>") := by
      have lst : (ps ++ #[rawInt pos.line, rawInt pos.col, Value.ref c']).toList = ps.toList ++ [rawInt pos.line, rawInt pos.col, .ref c'] := by simp
      refine ⟨_, (upd_ne (Ne.symm cP)).trans upd_same, ?_, fun p' cv => ?_⟩ <;> rw [lst]
      · exact PySem.TriplesOk_snoc _ _ _ _ triples
      · intro hcv
        rcases LamX.among_app _ triples hcv with z | rfl
        · obtain ⟨c0, e1, e2⟩ := known p' cv z
          have n1 : c0 ≠ c' := fun z => by rw [z, newC] at e2; cases e2
          have n2 : c0 ≠ P := fun z => by rw [z, tP] at e2; cases e2
          exact ⟨c0, e1, (upd_ne n1).trans ((upd_ne n2).trans e2)⟩
        · exact ⟨c', rfl, upd_same⟩
    refine h h'.objs.size c' _ ctv _ _ made (.inr ⟨newC, cP, _, rfl, newTab⟩) (Heap.get?_push_size _ rfl) ?_ (not_frame I bigger) upd_same
    have n1 : h'.objs.size ≠ c' := Nat.ne_of_gt below
    have n2 : h'.objs.size ≠ P := Nat.ne_of_gt (Nat.lt_of_lt_of_le (Heap.lt_size atP) bigger)
    exact (upd_ne n1).trans ((upd_ne n2).trans (I.hok.fresh bigger))
/-- the world behind the making -/
theorem made_base {K : PySem.W.Frag} {mg : Str → Option Value} {W : Hw} {s0 : S} {H1 : Hp} {P c' : Addr} {q : Str} (B : Base K mg W s0) (M : MadeAt W.H H1 P c' q) (hP : (P, q) ∈ LT.T) (hu : ∀ p ∈ LT.T, p.1 = P → p.2 = q) :
    Base K mg ⟨H1, W.G, W.τ⟩ s0 ∧ Ext W ⟨H1, W.G, W.τ⟩ := by
  rcases M with rfl | ⟨nC, cP, ps', rfl, tab⟩
  · exact ⟨B, Ext.refl W⟩
  · obtain ⟨ps, tP, _, _⟩ := B.tab _ hP
    have tP : W.H P = some (.tbl ps) := tP
    have off : ∀ b, b ≠ P → b ≠ c' → upd (upd W.H P (.tbl ps')) c' (LamX.CodeO c' q) b = W.H b := fun b h1 h2 => (upd_ne h2).trans (upd_ne h1)
    have atP : upd (upd W.H P (.tbl ps')) c' (LamX.CodeO c' q) P = some (.tbl ps') := (upd_ne (Ne.symm cP)).trans upd_same
    have atC : upd (upd W.H P (.tbl ps')) c' (LamX.CodeO c' q) c' = some (LamX.CodeO c' q) := upd_same
    have keep : ∀ b o, W.H b = some o → (∀ ps, o ≠ .tbl ps) → upd (upd W.H P (.tbl ps')) c' (LamX.CodeO c' q) b = some o := fun b o e n => by
      refine (off b (fun z => ?_) fun z => ?_).trans e
      · rw [z, tP] at e; exact n ps (Option.some.inj e).symm
      · rw [z, nC] at e; cases e
    have tabs : LamX.Tabs LT.T (upd (upd W.H P (.tbl ps')) c' (LamX.CodeO c' q)) := fun p hp => by
      by_cases hb : p.1 = P
      · rw [hu p hp hb, hb]; exact tab
      · obtain ⟨qs, e1, e2, e3⟩ := B.tab p hp
        refine ⟨qs, (off _ hb fun z => ?_).trans e1, e2, fun pos cv hc => ?_⟩
        · rw [z, nC] at e1; cases e1
        · obtain ⟨c0, f1, f2⟩ := e3 pos cv hc
          exact ⟨c0, f1, keep _ _ f2 LamX.codeO_ne⟩
    refine ⟨⟨fun b o e => ?_, fun b xs e => ?_, B.spc, B.nd, B.len, fun n c a h1 h2 => ?_, B.flt, tabs, B.nog, fun b qs e => ?_⟩, fun b o e _ => ?_, fun _ _ e => e, fun _ _ => rfl, List.prefix_refl _, fun _ m n => absurd m n, fun _ => tabs⟩
    · exact keep b o (B.sub b o e) fun qs z => B.nog b qs (by rw [e, z])
    · have e : upd (upd W.H P (.tbl ps')) c' (LamX.CodeO c' q) b = some (.tup xs) := e
      by_cases h1 : b = P
      · rw [h1, atP] at e; cases e
      · by_cases h2 : b = c'
        · rw [h2, atC] at e; cases e
        · rw [off b h1 h2] at e; exact B.tupI b xs e
    · have pl := B.tau_plain (List.mem_of_getElem? h2)
      have z := B.cel n c a h1 h2
      have same : ∀ u, W.H a = some u → upd (upd W.H P (.tbl ps')) c' (LamX.CodeO c' q) a = some u := fun u e => keep a u e (pl u e).1
      cases c with
      | l ds => obtain ⟨us, e, r⟩ := z; exact ⟨us, same _ e, r⟩
      | o c fs => obtain ⟨C, dx, us, e0, e, r⟩ := z; exact ⟨C, dx, us, e0, same _ e, r⟩
      | d fs => obtain ⟨us, e, r⟩ := z; exact ⟨us, same _ e, r⟩
      | t fs => obtain ⟨us, e, r⟩ := z; exact ⟨us, same _ e, r⟩
    · have e : upd (upd W.H P (.tbl ps')) c' (LamX.CodeO c' q) b = some (.tbl qs) := e
      by_cases h1 : b = P
      · rw [h1]; exact ⟨q, hP⟩
      · by_cases h2 : b = c'
        · rw [h2, atC] at e; cases e
        · rw [off b h1 h2] at e; exact B.all b qs e
    · by_cases h1 : b = P
      · subst h1
        rw [tP] at e
        exact .inr ⟨ps, ps', (Option.some.inj e).symm, atP⟩
      · refine .inl ((off b h1 fun z => ?_).trans e)
        rw [z, nC] at e; cases e
end

/-! ### what a def is handed that it may call -/
/-- a(), within X: what r says of the world W -/
def ActAt (X : Cx) (a : Str) (f : Addr) (W : Hw) (r : Res D) : Prop :=
  ∀ (V : WX) (pn : List (Addr × Obj)) (xe : Value → Shared → Prop) (p1 p2 : Pos), Takes (X.tr pn xe) V →
    PE (X.tr pn xe) (.Call (.Name a p1) [] [] p2) (fun σ H Q => σ[0]? = some (some (.ref f)) ∧ H = W.H ∧ Post X.K X.mg (relE X.K X.mg) (fun u d H' => V u d σ H') r W Q)
section
variable {X : Cx} {pins : List (Addr × Obj)} {σ : L2.St} {s : Shared} {W W0 : Hw} {s0 : S} {ρ : List Sl}
theorem act_at {f c' g : Addr} {pm ctv cdg : Value} {params : Arguments} {body : Expr} {scope sg : Scope} {k : Nat} {a qg : Str} {Ng : List Str} {Eg : XK} {fb : DE}
    (I : Inv X pins σ W.H s) (st : SSt X.K X.mg W0 W s0 σ ρ) (L : LamX.LamS X.env.scope scope) (gf : s.heap.get? f = some (lamFn X params body scope c' pm ctv)) (nf : W.H f = none) (off : f ∉ frs X.stack)
    (code : W.H c' = some (LamX.CodeO c' (X.env.qual ++ "<lambda>")))
    (hbind : ∀ (q : Str) (cl : List (Str × Addr)) (pm cv ctv : Value), bindArgs (PySem.W.kla_fn "<lambda>" q params body scope cl pm cv ctv) ⟨[], []⟩ = pure [])
    (hr : Room (k + 2) X.A) (hg : X.A.guards = some [])
    (hbody : ∀ Y : Cx, Y.K = X.K → Y.mg = X.mg → (∃ (A : Around) (outer : List Env) (s : Shared) (H : Hp) (E : XK), Y = LamX.lamCx X A outer s H E scope f c') → Room k Y.A → Y.A.guards = some [] →
      ∀ E : XK, Takes Y (fun u d _ H' => E u d H') → PE Y body (tE X.K X.mg (fun u d _ H' => E u d H') fb))
    (hN : Ng[0]? = some a) (hv : Vis sg a) (hd : (a == ("__debug__" : Str)) = false) (hcd : (a == ("__classdict__" : Str)) = false) :
    ActAt (cxOf (L2.CX X.prog X.w) X.prog X.w X.K X.mg X.base Ng qg sg g cdg X.A X.stack s W.H Eg) a f W (fb ρ s0) := by
  intro V pn xe p1 p2 tk
  refine ⟨fun qs t τ H Q J hp => ?_⟩
  obtain ⟨h0, hH, post⟩ := hp
  subst hH
  have load := (pe_var (X := (cxOf (L2.CX X.prog X.w) X.prog X.w X.K X.mg X.base Ng qg sg g cdg X.A X.stack s W.H Eg).tr pn xe) (pos := p1) (i := 0) hN hv hd hcd).run qs t τ W.H (fun v H1 => v = .ref f ∧ H1 = W.H) J ⟨.ref f, h0, rfl, rfl⟩
  refine wpAny_Call_Name_kw (thn load ?_)
  rintro u t1 ⟨_, _, J1, rv, rfl, rfl⟩
  obtain rfl : u = Value.ref f := rv
  have gf1 := J1.base.keep f _ gf nf off (fun z => nomatch (show f ∈ ([] : List Addr) from z))
  refine PySem.W.callWith_F0 ⟨_, _, _, _, gf1⟩ ?_
  have un : Un (frs X.stack) [] W.H W.H s.heap t1.heap := J1.base
  obtain ⟨⟨oc, vs, tq, goc, doc, qoc⟩, _, _⟩ := J1.hok c' _ code
  have hr1 : Room (k + 1) (X.A.deeper (envOfC qg sg s.heap.objs.size g cdg)) := hr.deeper _
  have run : codeAny (model X.prog X.w) (X.A.deeper (envOfC qg sg s.heap.objs.size g cdg)) (.call (.ref f) ⟨[], []⟩)
      (CR (L2.CX X.prog X.w) (envOfC qg sg s.heap.objs.size g cdg :: X.stack) X.prog X.w W.H t1 Q (fun u d H' => V u d τ H')) t1 := by
    refine PySem.W.kla_callFunE hr1.depth gf1 rfl L.co L.gen rfl ⟨c', oc, vs, tq, rfl, goc, doc, qoc⟩ ?_
    rw [hbind]
    apply wpAny_pure
    refine wpAny_newFunctionEnv (fun y hy => (L.own y hy).2) (fun y hy => absurd hy (by simp)) ?_ L.kind
    intro h₁ names same
    refine ⟨J1.nolimit.fresh _ same, ?_⟩
    have grown : ∀ b o, t1.heap.get? b = some o → h₁.get? b = some o := fun b o e => same.extBut b o (Nat.ne_of_lt (Heap.lt_size e)) (Heap.get?_push_of_some _ e)
    have J2 := LamX.lam_start2 (E := fun u d H' => V u d τ H') (f := f) (c' := c') (tk := t1.toks + ([] : List (Str × Value)).length) I L J1.env0 hr1.hd un names grown
    have told : tE X.K X.mg (fun u d _ H' => V u d τ H') fb σ W.H Q := ⟨W0, W, s0, ρ, rfl, st, post⟩
    have inner := hbody (LamX.lamCx X (X.A.deeper (envOfC qg sg s.heap.objs.size g cdg)) (envOfC qg sg s.heap.objs.size g cdg :: X.stack) t1 W.H (fun u d H' => V u d τ H') scope f c') rfl rfl ⟨_, _, _, _, _, rfl⟩
      (hr1.deeper _) (guards_deeper (guards_deeper hg)) (fun u d H' => V u d τ H') (takes_of rfl rfl rfl rfl)
    refine PySem.W.kla_codeExpr (wpAny_mono (inner.run [] _ _ W.H Q J2 told) ?_ fun e s' hq => hq)
    rintro v s' ⟨w', H', J', rv, q⟩
    exact ⟨w', H', J'.os, J'.bare, J'.base, J'.hok, rv, q⟩
  refine wpAny_call (codeAny_mono run ?_)
  intro res s' hq
  match res, hq with
  | .error e, hq => exact passAt tk τ qs W.H t1 e s' J1 hq
  | .ok (.ret u), hq => exact J1.after hq
  | .ok .next, hq => exact False.elim hq
  | .ok .brk, hq => exact False.elim hq
  | .ok .cont, hq => exact False.elim hq
end
end DL
namespace DL
open PySem PySem.Spec PyProof.Rows L2
variable [LT : LawT]

/-! ### a def that calls what it is handed, once, within a try -/
def finD (x : Fl) : Res D := match x with
  | .ret d s1 => .ok d s1
  | .next _ s1 => .ok .non s1
  | .exc c s1 => .exc c s1
  | _ => .bad
def actD (N : Nat) (tb : XTb) (c : Str) (i j : Nat) (g : DS) : Res D → Res D := fun r => match r with
  | .ok _ s1 => finD (g ((List.replicate N .emp).set j (.dat .non)) s1)
  | .exc x s1 => match isX tb x c with
    | some true => finD (g ((((List.replicate N .emp).set j (.dat .non)).set j (.dat (.exc x))).set i .emp) s1)
    | some false => .exc x s1
    | none => .bad
  | .bad => .bad
structure FnAct (P : Program) (w : World) (K : PySem.W.Frag) (mg : Str → Option Value) (base : Heap) (k : Nat) (g : Addr) (fd : FuncData) (a : Str) (F : Res D → Res D) : Prop where
  run : ∀ (A : Around) (outer : List Env) (s : Shared) (args : Args) (f : Addr) (W : Hw) (s0 : S) (r : Res D) (Q : VK) (E : XK),
    Room k A → A.guards = some [] → Env0 P w K mg base A outer s W.H → BindsTo s fd args [(a, .ref f)] → Base K mg W s0 →
    (∀ (N : List Str) (qual : Str) (sg : Scope) (cdg : Value), N[0]? = some a → Vis sg a → ActAt (cxOf (L2.CX P w) P w K mg base N qual sg g cdg A outer s W.H E) a f W r) →
    Post K mg (relE K mg) E (F r) W Q → codeAny (model P w) A (.call (.ref g) args) (CR (L2.CX P w) outer P w W.H s Q E) s
structure DAct (P : Program) (w : World) (K : PySem.W.Frag) (mg : Str → Option Value) (base : Heap) (k : Nat) (x : Str) (F : Res D → Res D) : Prop where
  ex : ∃ g fd a, mg x = some (.ref g) ∧ PySem.W.keepIn K (.ref g) = true ∧ Binds K fd [a] [] ∧ (a == ("__debug__" : Str)) = false ∧ (a == ("__classdict__" : Str)) = false ∧ FnAct P w K mg base k g fd a F
section
variable {P : Program} {w : World} {K : PySem.W.Frag} {mg : Str → Option Value} {base : Heap}
theorem fin_post {W : Hw} {x : Fl} {Q : VK} {E : XK} (h : Post K mg (relE K mg) E (finD x) W Q) : ∀ W', Ext W W' → Base K mg W' s → PostS K mg (fun u d _ H' => E u d H') false W x { nx := fun _ H' => Q .non H', rt := Q } := fun W' e B => by
  cases x with
  | ret d s1 => exact fun v W1 e1 B1 r => h v W1 e1 B1 r
  | next ρ s1 => exact fun σ W1 st => h .non W1 st.ext st.base .non
  | exc c s1 => exact fun σ W1 u e1 B1 hu => h W1 u e1 B1 hu
  | brk ρ s1 => exact h.elim
  | cont ρ s1 => exact h.elim
  | bad => exact h.elim
theorem empty_ok {W : Hw} {s0 : S} {N : List Str} {f : Addr} (B : Base K mg W s0) (hN : 1 ≤ N.length) : SSt K mg W W s0 (L2.start N [.ref f]) (List.replicate N.length .emp) := by
  have at_ : ∀ (i : Nat) (y : Sl), (List.replicate N.length Sl.emp)[i]? = some y → y = .emp := fun i y e => by
    rw [List.getElem?_replicate] at e
    split at e
    · exact (Option.some.inj e).symm
    · cases e
  refine ⟨Ext.refl W, B, by simp [L2.start]; omega, fun i x y _ e2 => ?_, fun i j b y z _ _ _ e3 _ o1 _ => ?_⟩
  · rw [at_ i y e2]; exact .emp
  · rw [at_ i y e3] at o1; exact Bool.noConfusion o1
theorem act_mk {x qual c n y a : Str} {st : Stmt} {g : Addr} {fd : FuncData} {N : List Str} {k i j j0 : Nat} {tb : XTb} {dn : DS} {rest : List Stmt} {py0 p0 ap0 p1 p2 ep np nn py ap pos pos' : Pos}
    (F : Fun K x qual st g fd) (S : FnScope N [a] (defScope st)) (hT : XTab K mg tb) (hcv : ∃ cv, mg c = some cv)
    (hbd : defBody st = .Assign [.Name y py0] (.Constant .none j0 p0) ap0 :: .Try [.Expr (.Call (.Name a p1) [] [] p2) ep] [.ExceptHandler (some (.Name c np)) (some n) [.Assign [.Name y py] (.Name n nn) ap] pos'] [] [] pos :: rest)
    (hi : N[i]? = some n) (hj : N[j]? = some y) (hN0 : N[0]? = some a) (hij : i ≠ j) (hj0 : j ≠ 0)
    (hva : Vis (defScope st) a) (hly : (defScope st).names.lookup y = some .local) (hln : (defScope st).names.lookup n = some .local)
    (hkd : ∀ f cdv L, (envOfC qual (defScope st) L f cdv).kindOf n = some .local)
    (hg : (defScope st).names.lookup c = some .globalImplicit) (hdc : (c == ("__debug__" : Str)) = false) (hd : (n == ("__debug__" : Str)) = false) (hcd : (n == ("__classdict__" : Str)) = false)
    (hs0 : ∀ env : Env, swapsWith (.Constant .none j0 p0) (some (.Name y py0)) ap0.line env = pure false)
    (hsw : ∀ env : Env, swapsWith (.Name n nn) (some (.Name y py)) ap.line env = pure false)
    (hs : ∀ env : Env, swapsWith (.Call (.Name a p1) [] [] p2) none ep.line env = pure false)
    (body : ∀ (X : Cx) (E : XK), X.K = K → X.mg = mg → (∃ (cdv : Value) (A : Around) (outer : List Env) (s : Shared) (H : Hp), X = cxOf (L2.CX P w) P w K mg base N qual (defScope st) g cdv A outer s H E) → Room k X.A → X.A.guards = some [] →
      QSs X (fun u d _ H' => E u d H') false rest dn) :
    FnAct P w K mg base (k + 1) g fd a (actD N.length tb c i j dn) := by
  obtain ⟨oc, od, kV, doc, pm, an, cdv, ct, osl, rfl, lk, hcode⟩ := F.ex
  obtain ⟨cv, hcv⟩ := hcv
  refine ⟨fun A outer s args f W s0 r Q E hr hgd e0 hb B act post => ?_⟩
  have grown := fun b o e => (e0.bs b o e).1
  have inK : K.In s.heap := e0.mod.kin.keeps grown
  have free : s.heap.NoLimit := e0.mod.nolimit.keeps grown
  have kinds : ∀ z ∈ [a].zip [Value.ref f], (defScope st).names.lookup z.1 = some .local ∨ ((defScope st).names.lookup z.1 = some .cell ∧ ((cellsFrom (s.heap.objs.size + 1) (defScope st).names []).lookup z.1).isSome = true) := by
    intro z hz
    rw [List.mem_singleton.mp hz]
    rcases S.par a List.mem_cons_self with q | q
    · exact .inl q
    · exact .inr ⟨q, PySem.W.cellsFrom_some _ _ _ (.inl q)⟩
  refine codeAny_call_function hr.depth (inK _ _ lk) rfl S.co S.gen rfl (PySem.W.codeRec_of inK hcode) (hb _ _ _ _ ?_)
  refine wpAny_newFunctionEnv_cells S.kind kinds fun env same t1 inCall => ?_
  subst same
  refine ⟨free.keeps inCall.toInCall.keep, codeAny_func ?_⟩
  have hr1 : Room k (A.deeper (envOfC qual (defScope st) s.heap.objs.size g cdv)) := hr.deeper _
  have I : Inv (cxOf (L2.CX P w) P w K mg base N qual (defScope st) g cdv A outer s W.H E) [] (L2.start N [.ref f]) W.H t1 := inv_start S hr.hd e0 rfl (.cons rfl .nil) inCall
  have nd := S.nd
  have lN : 1 ≤ N.length := (List.getElem?_eq_some_iff.mp hN0).1
  have told := act N qual (defScope st) cdv hN0 hva
  have stm := pss_cons (ps_set (X := cxOf (L2.CX P w) P w K mg base N qual (defScope st) g cdv A outer s W.H E) (i := j) (pos := ap0) (pos' := py0) nd hj (.inl hly) (pe_non (pos := p0) (j := j0)) (hs0 _) (.inr hly))
    (pss_cons (ps_try_kept (X := cxOf (L2.CX P w) P w K mg base N qual (defScope st) g cdv A outer s W.H E) (np := np) (nn := nn) (py := py) (ap := ap) (pos := pos) (pos' := pos') (tb := fun V => tDrop fun σ H Q => σ[0]? = some (some (.ref f)) ∧ H = W.H ∧ Post K mg (relE K mg) (fun u d H' => V u d σ H') r W Q)
        rfl rfl rfl nd hi (hkd _ _ _) hj hly hij hln hd hcd (hsw _) ⟨hg, hdc, .inl hcv⟩ (takes_of rfl rfl rfl rfl)
        (fun V pn xe tk _ => pss_one (ps_expr (pos := ep) (told V pn xe p1 p2 tk) (hs _))))
      (body _ E rfl rfl ⟨cdv, A, outer, s, W.H, rfl⟩ hr1 (guards_deeper hgd)))
  rw [← hbd] at stm
  have st0 := (empty_ok (f := f) B lN).setDat (v := .non) (d := .non) .non j
  refine wpAny_mono (stm.run [] t1 _ W.H { nx := fun _ H' => Q .non H', rt := Q } I ?_) (fun fl s' hs => ?_) (fun e s' hs => hs)
  · show (((L2.start N [V.ref f]).set j (some .non))[0]? = some (some (.ref f)) ∧ W.H = W.H ∧ _)
    refine ⟨?_, rfl, ?_⟩
    · rw [List.getElem?_set_ne hj0]; rfl
    · cases r with
      | bad => exact post.elim
      | ok d s1 =>
        intro v W1 e1 B1 r1
        exact ⟨W, W1, s1, _, rfl, st0.step e1 B1, fin_post post W1 e1 B1⟩
      | exc xx s1 =>
        intro W1 u e1 B1 hu
        refine kept_post (fr := false) (T := { nx := fun σ H => tS K mg (fun u d _ H' => E u d H') false dn { nx := fun _ H' => Q .non H', rt := Q } σ H, rt := Q }) hT hcv hij st0 ?_ e1 B1 hu
        unfold actD at post
        dsimp only at post
        cases hx : isX tb xx c with
        | none => rw [hx] at post; exact post.elim
        | some b =>
          rw [hx] at post
          cases b with
          | true => exact fun σ W2 st2 => ⟨W, W2, s1, _, rfl, st2, fin_post post W2 st2.ext st2.base⟩
          | false => exact fun σ W2 u e2 B2 hu => post W2 u e2 B2 hu
  · cases fl with
    | ret u =>
      obtain ⟨v, σ', H', J, rv, q⟩ := hs
      exact ⟨v, H', J.os, J.bare, J.base, J.hok, rv, q⟩
    | next =>
      obtain ⟨σ', H', J, q⟩ := hs
      exact ⟨V.non, H', J.os, J.bare, J.base, J.hok, rfl, q⟩
    | brk =>
      obtain ⟨_, _, _, q⟩ := hs
      exact q.elim
    | cont =>
      obtain ⟨_, _, _, q⟩ := hs
      exact q.elim
end
/-! ### x(lambda: e) -/
section
variable {X : Cx} {E : WX} {k : Nat} {x : Str} {F : Res D → Res D} {fb : DE} {p lpos pos : Pos} {params : Arguments} {body : Expr} {scope : Scope} {c P : Addr}
def eLam (F : Res D → Res D) (f : DE) : DE := fun ρ s => F (f ρ s)
theorem e_lam (D' : DAct X.prog X.w X.K X.mg X.base k x F) (hr : Room k X.A) {j : Nat} (hr2 : Room (j + 2) X.A) (hgd : X.A.guards = some []) (tk : Takes X E)
    (TB : LamX.TabB X.base X.mg c P) (hcode : X.env.code = .ref c) (hmT : (P, X.env.qual ++ "<lambda>") ∈ LT.T) (hu : ∀ p ∈ LT.T, p.1 = P → p.2 = X.env.qual ++ "<lambda>")
    (L : LamX.LamS X.env.scope scope)
    (hbody : ∀ Y : Cx, Y.K = X.K → Y.mg = X.mg → (∃ (f c' : Addr) (A : Around) (outer : List Env) (s : Shared) (H : Hp) (E : XK), Y = LamX.lamCx X A outer s H E scope f c') → Room j Y.A → Y.A.guards = some [] →
      ∀ E : XK, Takes Y (fun u d _ H' => E u d H') → PE Y body (tE X.K X.mg (fun u d _ H' => E u d H') fb))
    (hdef : defaultsOf params X.env = ([], []) := by rfl)
    (hbind : ∀ (q : Str) (cl : List (Str × Addr)) (pm cv ctv : Value), bindArgs (PySem.W.kla_fn "<lambda>" q params body scope cl pm cv ctv) ⟨[], []⟩ = pure [] := by intros; rfl)
    (hg : Gl X x := by rfl) (hdb : (x == ("__debug__" : Str)) = false := by decide) :
    PE X (.Call (.Name x p) [.Lambda params body scope lpos] [] pos) (tE X.K X.mg E (eLam F fb)) := by
  obtain ⟨g, fd, a, gx, kp, hb, hd, hcd, FA⟩ := D'.ex
  refine ⟨fun pins s σ H Q I h => ?_⟩
  obtain ⟨W0, W, s0, ρ, rfl, st, z⟩ := h
  refine wpAny_Call_Name_kw (ld_glob I hg gx ?_ hdb)
  refine PySem.W.callWith_K (h₀ := X.base) I.ok.mod.kin kp ?_ (by rfl) (by rfl)
  show wpAny _ _ (spliced ((false, eval (.Lambda params body scope lpos) X.env) :: backTo pos (starEach [] X.env))) _ _ s
  refine Calls.spliced_cons (lam_made I TB hcode (st.base.tab _ hmT) hdef (L.has I.ok) ?_)
  intro f c' pm ctv H1 s' I1 made gf nf off code
  refine Calls.spliced_nil ⟨I1.kIn, ?_⟩
  obtain ⟨B1, E1⟩ := made_base st.base made hmT hu
  have st1 := st.step E1 B1
  have bd := hb s' [.ref f] I1.kIn rfl
  refine wpAny_call (codeAny_mono (FA.run X.A X.stack s' ⟨[.ref f], []⟩ f ⟨H1, W.G, W.τ⟩ s0 (fb ρ s0) Q (fun u d H' => E u d σ H') hr hgd I1.env0 bd B1
    (fun N qual sg cdg hN hv => act_at (W := ⟨H1, W.G, W.τ⟩) I1 st1 L gf nf off code hbind hr2 hgd (fun Y h1 h2 h3 => hbody Y h1 h2 (by obtain ⟨A, o, s, H, E, h⟩ := h3; exact ⟨f, c', A, o, s, H, E, h⟩)) hN hv hd hcd) (Post.ext E1 B1 z)) ?_)
  intro res s2 hq
  match res, hq with
  | .error e, hq => exact passAt tk σ pins H1 s' e s2 I1 hq
  | .ok (.ret u), hq => exact I1.after hq
  | .ok .next, hq => exact False.elim hq
  | .ok .brk, hq => exact False.elim hq
  | .ok .cont, hq => exact False.elim hq
end
end DL
namespace DL
open PySem PySem.Spec PyProof.Rows L2

/-! ### a def that makes lambdas -/
section
variable [LT : LawT]
/-- the def x at st, its code object's table among the known ones -/
structure LamAt (K : PySem.W.Frag) (mg : Str → Option Value) (base : Heap) (x : Str) (st : Stmt) (f : Addr) (fd : FuncData) (c P : Addr) : Prop where
  fn : Fun K x x st f fd
  gx : mg x = some (.ref f)
  code : fd.code = .ref c
  tb : LamX.TabB base mg c P
  mem : (P, x ++ ".<locals>." ++ "<lambda>") ∈ LT.T
  uni : ∀ p ∈ LT.T, p.1 = P → p.2 = x ++ ".<locals>." ++ "<lambda>"
def LamOf (K : PySem.W.Frag) (mg : Str → Option Value) (base : Heap) (x : Str) (st : Stmt) : Prop := ∃ f fd c P, LamAt K mg base x st f fd c P
end

/-- the def x at st, its code object at c -/
def FnC (K : PySem.W.Frag) (mg : Str → Option Value) (x : Str) (st : Stmt) (c : Addr) : Prop := ∃ f fd, Fun K x x st f fd ∧ mg x = some (.ref f) ∧ fd.code = .ref c
theorem mkFC {K : PySem.W.Frag} {mg : Str → Option Value} {h : Heap} {x : Str} {st : Stmt} {f c : Addr} {oc kV dc pm ct : Value} {od an : Option Addr} {sl : Array (Option Value)} (X : K.In h) (G : h.Ns mainGlobals mg)
    (a : PySem.W.nsIn K mainGlobals x = some (some (.ref f))) (l : K.lookup f = some ⟨oc, od, .func (PySem.W.fnOf x x (defArgs st) (defBody st) (defScope st) .none kV dc pm an (.ref c) ct), sl⟩)
    (cc : PySem.W.codeIn K (.ref c) x = true) (k : PySem.W.keepIn K (.ref f) = true) : FnC K mg x st c := ⟨f, _, fun_mk l cc k, PySem.W.mg_of X G a, rfl⟩
/-! ### the law's call where tables are known -/
/-- what the heap that the law starts from knows: the script, and empty tables -/
structure Start (cs : List (Addr × Addr)) (H : Hp) : Prop where
  tabs : ∀ p ∈ cs, H p.2 = some (.tbl #[])
  only : ∀ b, H b = none ∨ (∃ o xs, H b = some (.frz o (.lst xs))) ∨ (b ∈ cs.map (·.2) ∧ H b = some (.tbl #[]))
section
variable {P : Program} {w : World} {K : PySem.W.Frag} {mg mb : Str → Option Value}
theorem law_callT {k : Nat} {fa a : Addr} {cs : List (Addr × Addr)} {fd : FuncData} {x : Str} {sp : Sp} {t₁ : Shared} {vs : List Value} {ns : List Int}
    (KX : K.In t₁.heap) (hns : t₁.heap.Ns mainGlobals mg) (hb : t₁.heap.Ns builtinsNs mb) (hbb : ∀ x : Str, x ≠ "__name__" → mb x = bootBuiltins x) (hlim : t₁.heap.NoLimit) (hg : t₁.gens = #[])
    (hT : ∀ p ∈ cs, PySem.W.CodeHd t₁.heap p.1 p.2 ∧ t₁.heap.get? p.2 = some (PySem.W.tabObj #[])) (nT : ∀ p ∈ cs, K.lookup p.2 = none)
    (hbm : ∃ (bm : Addr) (ob : Obj), mg "__builtins__" = some (.ref bm) ∧ bm ≠ builtinsNs ∧ t₁.heap.get? bm = some ob ∧ ob.cls = .type "module" ∧ ob.dict = some builtinsNs ∧ ob.data = .plain)
    (ha : t₁.heap.get? a = some { cls := .type "list", data := .seq vs.toArray }) (hi : IntsAre vs ns) (hl : ns.length ≤ sizeLine) (hr : Room k callerA)
    (F : ∀ base : Heap, K.In base → base.Ns mainGlobals mg → (∀ p ∈ cs, LamX.TabB base mg p.1 p.2) → FnG P w K mg base k fa fd [x] sp) (hbind : ∀ (s : Shared) (u : Value), BindsTo s fd ⟨[u], []⟩ [(x, u)])
    (hsp : ∀ H : Hp, Start cs H → SqL K H a (ns.map V.int) → sp [.ref a] H (fun v _ => v = .bl true) fun _ _ _ => False) :
    codeAny (model P w) callerA (.call (.ref fa) ⟨[.ref a], []⟩) (fun r s' => r = .ok (.ret (.bool true)) ∧ OldK t₁.heap s'.heap ∧ s'.os = t₁.os ∧ AllBare s'.gens) t₁ := by
  have lenV := hi.length
  have isT : ∀ b : Addr, b ∈ cs.map (·.2) → t₁.heap.get? b = some (PySem.W.tabObj #[]) := fun b m => by
    obtain ⟨p, hp, rfl⟩ := List.mem_map.mp m
    exact (hT p hp).2
  have listNo : a ∉ cs.map (·.2) := fun m => by
    have q := isT a m
    rw [ha] at q
    cases q
  have core : ∀ H : Hp, Start cs H → SqL K H a (ns.map V.int) → HOk P w H t₁.heap → (∀ b, H b ≠ none → (b = a ∧ K.lookup a = none) ∨ b ∈ cs.map (·.2)) →
      codeAny (model P w) callerA (.call (.ref fa) ⟨[.ref a], []⟩) (fun r s' => r = .ok (.ret (.bool true)) ∧ OldK t₁.heap s'.heap ∧ s'.os = t₁.os ∧ AllBare s'.gens) t₁ := by
    intro H hO hS hok only
    have unseen : ∀ {b : Addr} {o : Obj}, t₁.heap.get? b = some o → (∀ xs n, o.data ≠ .seq xs n) → o.data ≠ .fields #[] → H b = none := by
      intro b o e n1 n2
      cases q : H b with
      | none => rfl
      | some u =>
        rcases only b (by rw [q]; exact fun z => nomatch z) with ⟨z, _⟩ | z
        · subst z; rw [ha] at e; cases e; exact absurd rfl (n1 _ _)
        · rw [isT b z] at e; cases e; exact absurd rfl n2
    have nsK : ∀ {b : Addr} {m : Str → Option Value}, t₁.heap.Ns b m → (hidT t₁.heap H).Ns b m := by
      rintro b m ⟨o, es, ep, e, d, r⟩
      exact ⟨o, es, ep, hidT_get e (unseen e (fun _ _ z => by rw [d] at z; cases z) (fun z => by rw [d] at z; cases z)), d, r⟩
    have hKb : K.In (hidT t₁.heap H) := by
      intro b o e
      refine hidT_get (KX b o e) ?_
      cases q : H b with
      | none => rfl
      | some u =>
        rcases only b (by rw [q]; exact fun z => nomatch z) with ⟨rfl, z⟩ | z
        · rw [z] at e; cases e
        · obtain ⟨p, hp, rfl⟩ := List.mem_map.mp z
          rw [nT p hp] at e; cases e
    have hM : Mod K mg (hidT t₁.heap H) := by
      refine ⟨hKb, nsK hns, ⟨mb, nsK hb, hbb⟩, ?_⟩
      obtain ⟨mc, h1, h2⟩ := hlim
      exact ⟨mc, nsK h1, h2⟩
    have e0 : Env0 P w K mg (hidT t₁.heap H) callerA [] t₁ H := by
      refine ⟨rfl, hM, fun b o e => of_hidT e, Nat.le_of_eq (hidT_size _ _), trivial, fun b hb => ?_, hok, .of_eq hg⟩
      exact absurd (show b ∈ ([] : List Addr) from hb) (by simp)
    have makers : ∀ p ∈ cs, LamX.TabB (hidT t₁.heap H) mg p.1 p.2 := by
      intro p hp
      obtain ⟨⟨o, us, file, tf, flags, tg, inF, text, tt, e1, r1, r2, r3, r⟩, tP⟩ := hT p hp
      obtain ⟨bm, ob, b1, b2, b3, b4, b5, b6⟩ := hbm
      have dict_of : ∃ o es ep, t₁.heap.get? mainGlobals = some o ∧ o.data = .dict es ep := by
        obtain ⟨o, es, ep, e, d, _⟩ := hns
        exact ⟨o, es, ep, e, d⟩
      obtain ⟨og, es, ep, eg, dg⟩ := dict_of
      refine ⟨⟨o, us, file, tf, flags, tg, inF, text, tt, hidT_get e1 (unseen e1 ?_ ?_), r1, r2, r3, r⟩, ⟨bm, ob, b1, b2, ?_, ?_, hidT_get b3 (unseen b3 ?_ ?_), b4, b5, b6⟩, ?_⟩
      · intro xs n z; rw [r2] at z; cases z
      · intro z; rw [r2] at z; cases z; simp at r3
      · intro z; rw [z, eg] at b3; cases b3; rw [dg] at b6; cases b6
      · intro z; rw [z, tP] at b3; cases b3; cases b6
      · intro xs n z; rw [b6] at z; cases z
      · intro z; rw [b6] at z; cases z
      · intro z; rw [z, tP] at eg; cases eg; cases dg
    refine codeAny_mono ((F _ hKb (nsK hns) makers).run callerA [] t₁ H ⟨[.ref a], []⟩ [.ref a] [.ref a] _ _ hr rfl e0 (hbind t₁ (.ref a)) (.cons rfl .nil) (hsp H hO hS)) ?_
    intro r s' h
    match r, h with
    | .error e, h =>
      obtain ⟨_, _, _, _, _, _, _, _, _, _, _, _, z⟩ := h
      exact z.elim
    | .ok .next, h => exact False.elim h
    | .ok .brk, h => exact False.elim h
    | .ok .cont, h => exact False.elim h
    | .ok (.ret u), h =>
      obtain ⟨v, H', os, bare, un, hok', r', q⟩ := h
      have hv : v = .bl true := q
      subst hv
      have hu : u = Value.bool true := r'
      subst hu
      have stays : ∀ b o, b ∉ cs.map (·.2) → t₁.heap.get? b = some o → s'.heap.get? b = some o := by
        intro b o nb e
        rcases hO.only b with z | ⟨ob, xs, z⟩ | ⟨z, _⟩
        · exact un.keep b o e z (by intro z; exact absurd (show b ∈ ([] : List Addr) from z) (by simp)) (by simp)
        · have z2 := un.frzs b ob _ z
          obtain ⟨e1, _⟩ := hok b _ z
          obtain ⟨e2, _⟩ := hok' b _ z2
          rw [e] at e1
          cases e1
          exact e2
        · exact absurd z nb
      have grows : ∀ p ∈ cs, ∃ more : Array Value, s'.heap.get? p.2 = some (PySem.W.tabObj more) := by
        intro p hp
        obtain ⟨more, z⟩ := un.tbls p.2 #[] (hO.tabs p hp)
        exact ⟨_, hok' p.2 _ z⟩
      refine ⟨rfl, ⟨fun b o e => ?_, fun b o e => ?_⟩, os, bare⟩
      · by_cases m : b ∈ cs.map (·.2)
        · obtain ⟨p, hp, rfl⟩ := List.mem_map.mp m
          obtain ⟨more, hm⟩ := grows p hp
          have eP := (hT p hp).2
          rw [eP] at e
          cases e
          exact .inr (.inl ⟨((hT p hp).1.tab eP).isCodeTable, rfl, #[], more, rfl, by simpa using hm⟩)
        · exact .inl (stays b o m e)
      · by_cases m : b ∈ cs.map (·.2)
        · obtain ⟨p, hp, rfl⟩ := List.mem_map.mp m
          obtain ⟨more, hm⟩ := grows p hp
          exact ⟨_, hm⟩
        · exact ⟨o, stays b o m e⟩
  cases hk : K.lookup a with
  | some o =>
    have e := KX a o hk
    rw [ha] at e
    cases e
    refine core (fun b => if b ∈ cs.map (·.2) then some (.tbl #[]) else none) ⟨fun p hp => if_pos (List.mem_map_of_mem hp), fun b => ?_⟩ (.inr ⟨_, vs.toArray, _, hk, rfl, rfl, rfl, ?_, by simpa using vals_ints hi⟩) (fun b u z => ?_) (fun b z => ?_)
    · by_cases m : b ∈ cs.map (·.2)
      · exact .inr (.inr ⟨m, if_pos m⟩)
      · exact .inl (if_neg m)
    · rw [List.size_toArray, lenV]; exact hl
    · by_cases m : b ∈ cs.map (·.2)
      · have z' := (if_pos m).symm.trans z
        cases z'
        exact isT b m
      · exact absurd ((if_neg m).symm.trans z) (fun z => nomatch z)
    · by_cases m : b ∈ cs.map (·.2)
      · exact .inr m
      · exact absurd (if_neg m) z
  | none =>
    refine core (fun b => if b = a then some (.frz { cls := .type "list", data := .seq vs.toArray } (.lst (ns.map V.int))) else if b ∈ cs.map (·.2) then some (.tbl #[]) else none)
      ⟨fun p hp => ?_, fun b => ?_⟩ (.inl (.inr ⟨_, if_pos rfl⟩)) (fun b u z => ?_) (fun b z => ?_)
    · have m : p.2 ∈ cs.map (·.2) := List.mem_map_of_mem hp
      rw [if_neg (fun z : p.2 = a => listNo (z ▸ m)), if_pos m]
    · by_cases hb : b = a
      · exact .inr (.inl ⟨_, _, if_pos hb⟩)
      · by_cases m : b ∈ cs.map (·.2)
        · exact .inr (.inr ⟨m, (if_neg hb).trans (if_pos m)⟩)
        · exact .inl ((if_neg hb).trans (if_neg m))
    · by_cases hb : b = a
      · have z' := (if_pos hb).symm.trans z
        cases z'
        subst hb
        refine ⟨ha, ?_, vs, _, vals_ints hi, ha⟩
        rw [List.length_map]
        exact hl
      · have z1 := (if_neg hb).symm.trans z
        by_cases m : b ∈ cs.map (·.2)
        · have z' := (if_pos m).symm.trans z1
          cases z'
          exact isT b m
        · exact absurd ((if_neg m).symm.trans z1) (fun z => nomatch z)
    · by_cases hb : b = a
      · exact .inl ⟨hb, hk⟩
      · by_cases m : b ∈ cs.map (·.2)
        · exact .inr m
        · exact absurd ((if_neg hb).trans (if_neg m)) z
end
theorem sp_lawT [LT : LawT] {K : PySem.W.Frag} {mg : Str → Option Value} {F : DFun} (h : LawOk F) {H : Hp} {a : Addr} {ns : List Int} {cs : List (Addr × Addr)} (hl : ns.length ≤ 63) (hO : Start cs H) (hS : SqL K H a (ns.map V.int))
    (hT : ∀ p ∈ LT.T, p.1 ∈ cs.map (·.2)) (hC : ∀ p ∈ cs, ∃ q, (p.2, q) ∈ LT.T) :
    spD K mg F false 1 [.ref a] H (fun v _ => v = .bl true) fun _ _ _ => False := by
  obtain ⟨s, e⟩ := h ns hl
  have cut : ∀ b o, (if b ∈ cs.map (·.2) then none else H b) = some o → b ∉ cs.map (·.2) ∧ H b = some o := fun b o z => by
    by_cases m : b ∈ cs.map (·.2)
    · rw [if_pos m] at z; cases z
    · rw [if_neg m] at z; exact ⟨m, z⟩
  have tabs : LamX.Tabs LT.T H := fun p hp => by
    obtain ⟨r, hr, e⟩ := List.mem_map.mp (hT p hp)
    rw [← e]
    exact LamX.TabS.nil (hO.tabs r hr)
  have sq : SqL K (fun b => if b ∈ cs.map (·.2) then none else H b) a (ns.map V.int) := by
    have no : ∀ o, H a = some o → (∀ ps, o ≠ .tbl ps) → a ∉ cs.map (·.2) := fun o e n m => by
      obtain ⟨r, hr, e2⟩ := List.mem_map.mp m
      have := hO.tabs r hr
      rw [e2, e] at this
      exact n _ (Option.some.inj this)
    rcases hS with (z | ⟨o, z⟩) | z
    · exact .inl (.inl ((if_neg (no _ z fun _ z => nomatch z)).trans z))
    · exact .inl (.inr ⟨o, (if_neg (no _ z fun _ z => nomatch z)).trans z⟩)
    · exact .inr z
  refine ⟨rfl, ⟨H, fun b => if b ∈ cs.map (·.2) then none else H b, []⟩, [], [.frz (ns.map .int)], rfl, ⟨fun b o e => (cut b o e).2, fun b xs e => ?_, fun _ m => absurd m (by simp), List.nodup_nil, rfl, fun n c a e => absurd e (by simp), fun c m => absurd m (by simp), tabs, fun b ps z => ?_, fun b ps z => ?_⟩, .cons (.frz sq (ints_rep ns)) .nil, ?_⟩
  · have e : H b = some (.tup xs) := e
    rcases hO.only b with q | ⟨o, ys, q⟩ | ⟨_, q⟩ <;> rw [q] at e <;> cases e
  · obtain ⟨m, z⟩ := cut b _ z
    rcases hO.only b with q | ⟨o, ys, q⟩ | ⟨q, _⟩
    · rw [q] at z; cases z
    · rw [q] at z; cases z
    · exact m q
  · have z : H b = some (.tbl ps) := z
    rcases hO.only b with q | ⟨o, ys, q⟩ | ⟨q, _⟩
    · rw [q] at z; cases z
    · rw [q] at z; cases z
    · obtain ⟨r, hr, e2⟩ := List.mem_map.mp q
      obtain ⟨y, hy⟩ := hC r hr
      exact ⟨y, e2 ▸ hy⟩
  · rw [e]
    exact fun v W1 e B r => Rep.bl_inv r
/-- the end, where some defs make lambdas: ms, their names -/
theorem walk_ofT {l : PySem.W.OpenLaw} {k : Nat} {q : Program} {loose : List Str} {XP : (Str → Option Value) → Heap → Prop} {YP : World → Heap → Prop} {d : DefRec} {K : Params → PySem.W.Frag} {x : Str} {F : DFun} (ms : List Str)
    (hn : l.most = some 63) (hdf : d.params.defaults = []) (hr : Room k callerA)
    (hY : ∀ (w : World) (h : Heap), YP w h → (K w.params).In h) (hF : LawOk F) (hm : ∀ m ∈ ms, ∃ e, (recsOf q).find? (fun e => e.name == m) = some e)
    (hD : ∀ (w : World) (mg : Str → Option Value) (fa : Addr) (h : Heap), (K w.params).In h → h.Ns mainGlobals mg → mg d.name = some (.ref fa) →
      ∃ (cs : List (Addr × Addr)) (LT : LawT) (fd : FuncData), (∀ p ∈ cs, ∃ m ∈ ms, PySem.W.tabIn (K w.params) m = some p) ∧ (∀ p ∈ cs, (K w.params).lookup p.2 = none) ∧ (∀ p ∈ LT.T, p.1 ∈ cs.map (·.2)) ∧ (∀ p ∈ cs, ∃ q, (p.2, q) ∈ LT.T) ∧
        (∀ (s : Shared) (u : Value), BindsTo s fd ⟨[u], []⟩ [(x, u)]) ∧ ∀ base : Heap, (K w.params).In base → base.Ns mainGlobals mg → (∀ p ∈ cs, LamX.TabB base mg p.1 p.2) →
          FnG l.prog w (K w.params) mg base k fa fd [x] (@spD LT (K w.params) mg F false 1)) :
    PySem.W.WalkO q loose XP YP l.row.toRowW d [] (fun f vs => PySem.call f vs) := by
  refine Att.attach_call hn hdf ?_
  intro w s₀ s₁ mg mb fa o pm cd doc a vs ns G Y ho hd hcd hmg hobj hints hlen hg
  have KX := hY w _ Y
  obtain ⟨cs, LT, fd, c1, c2, c3, c4, hb, hF'⟩ := hD w mg fa _ KX G.T.g hmg
  have h63 : ns.length ≤ sizeLine := by
    rw [sizeLine_eq]
    omega
  have hT : ∀ p ∈ cs, PySem.W.CodeHd s₁.heap p.1 p.2 ∧ s₁.heap.get? p.2 = some (PySem.W.tabObj #[]) := by
    intro p hp
    obtain ⟨m, hm1, hm2⟩ := c1 p hp
    obtain ⟨e, he⟩ := hm m hm1
    exact PySem.W.tab_of G.T KX he hm2
  exact law_callT KX G.T.g G.T.b G.T.builtins G.T.nolimit hg hT c2 G.T.bmain hobj hints h63 hr hF' hb (fun H hO hS => @sp_lawT LT _ _ _ hF _ _ _ _ hlen hO hS c3 c4)
end DL
namespace DL
open PySem PySem.Spec PyProof.Rows L2
section
variable [LT : LawT]
/-! ### count of truths in a list -/
def trsOf : List D → Option (List Bool)
  | [] => some []
  | .bl b :: ds => (trsOf ds).map fun l => b :: l
  | _ => none
def dCnt (ds : List D) (y : D) : Option D := match y with
  | .bl k => (trsOf ds).map fun l => .int (l.count k : Nat)
  | _ => none
def eCnt (f h : DE) : DE := fun ρ s => (f ρ s).bind fun x s1 => match x with
  | .lst ds => (h ρ s1).bind fun y s2 => Res.ofO (dCnt ds y) s2
  | _ => .bad
def eqb (k : Bool) (v : Value) : Bool := match v with
  | .bool n => n == k
  | _ => false
theorem bls_vals {us : List Value} {ns : List Bool} (h : Vals (ns.map V.bl) us) : us = ns.map Value.bool := by
  induction ns generalizing us with
  | nil => cases h; rfl
  | cons n ns ih =>
    cases h with
    | cons r t =>
      rw [ih t]
      have : _ = Value.bool n := r
      rw [this]
      rfl
theorem eqb_count (k : Bool) (ns : List Bool) : (ns.map Value.bool).countP (eqb k) = ns.count k := by
  rw [List.countP_map, List.count]
  rfl
def rCntB (K : PySem.W.Frag) : V → List V → Hp → VK → Prop := fun x xs H Q => ∃ (p : Addr) (ns : List Bool) (k : Bool), x = .ref p ∧ xs = [.bl k] ∧ SqL K H p (ns.map V.bl) ∧ Q (.int (ns.count k : Nat)) H
theorem mt_countB {X : Cx} (hu : X.A.units + 65 < cLine) : MtR X "list.count" (rCntB X.K) := by
  rintro pins s σ H x xs v us Q I rx rxs ⟨p, ns, k, rfl, rfl, hs, q⟩
  cases rx
  obtain ⟨u, rfl, ru⟩ := rxs.one
  obtain rfl : u = Value.bool k := ru
  obtain ⟨its, rv, ⟨⟨cls, dd, data, sl⟩, n, ho, hc, hdn, hd⟩, hlen⟩ := I.list hs
  simp only at hc hd
  subst hc hd
  have hi := bls_vals rv
  subst hi
  refine call_meets PySem.F.slot_list_count ⟨_, ho, rfl⟩ PySem.F.entry_list_count (PySem.F.args_list_count_2 _ _)
    (SeqAt.list_countAt p _ n dd sl (.bool k) (eqb k)) ⟨ho, fun y hy => ?_, ?_⟩
  · obtain ⟨b, _, rfl⟩ := List.mem_map.mp (List.mem_toArray.mp hy)
    have z := SeqAt.eqAt_reads (.bool b) (.bool k) X.A.in1 s (.bool b) (.bool k) [] [] (.bool b) (.bool k) rfl rfl (by show X.A.units + 1 + min (PyData.bool b).depth (PyData.bool k).depth < cLine; simp [PyData.depth]; omega)
    have e : PyData.eqv (.bool b) (.bool k) = eqb k (.bool b) := by cases b <;> cases k <;> rfl
    rw [← e]
    exact z
  · refine ⟨.int (ns.count k : Nat), H, I.tok _, ⟨s.toks, ?_⟩, q⟩
    have e : ((ns.map Value.bool).toArray.toList.countP (eqb k) : Nat) = ns.count k := eqb_count k ns
    rw [← e]
theorem bls_of {K : PySem.W.Frag} {mg : Str → Option Value} {G : Hp} {τ : List Addr} : ∀ {vs : List V} {ds : List D} {l : List Bool}, RepAll K mg G τ vs ds → trsOf ds = some l → vs = l.map V.bl
  | _, _, _, .nil, h => by cases h; rfl
  | _, d :: ds, l, .cons r t, h => by
    cases d with
    | bl b =>
      obtain ⟨l2, h2, rfl⟩ := Option.map_eq_some_iff.mp (show (trsOf ds).map _ = some l from h)
      rw [bls_of t h2, r.bl_inv]
      rfl
    | _ => cases h
variable {X : Cx} {E : WX} {apos pos : Pos} {o e : Expr} {f h : DE}
theorem e_cnt (hu : X.A.units + 65 < cLine) (ho : PE X o (tE X.K X.mg E f)) (he : PE X e (tE X.K X.mg E h))
    (hbase : attributeBase o "count" X.env (eval o X.env) = eval o X.env := by rfl)
    (hfew : ((backTo pos (starEach [e] X.env)).all (fun x => !x.1) && (backToKw pos (keywordEach [] X.env)).all (fun x => x.1.isSome) && decide (([e] : List Expr).length + ([] : List Keyword).length + (if ([] : List Keyword).isEmpty then 0 else 1) < 30)) = true := by rfl)
    (hline : (apos.endLine == pos.line) = true := by rfl) (hs : starEach [e] X.env = (false, eval e X.env) :: starEach [] X.env := by rfl) (hplain : (backTo pos (starEach [] X.env)).any (·.1) = false := by rfl) :
    PE X (.Call (.Attribute o "count" apos) [e] [] pos) (tE X.K X.mg E (eCnt f h)) := by
  refine PE.mono (pe_bm PySem.F.plainAttrs_list PySem.F.slot_list_count PySem.F.type_list_count (mt_countB hu) ho (pa_cons he pa_nil hs) hbase hfew hline hs hplain) fun σ H Q z => ?_
  obtain ⟨W0, W, s, ρ, rfl, st, z⟩ := z
  refine (go st z).imp fun x H1 ⟨W1, s1, d1, e1, r1, x1, st1, z1⟩ => ?_
  subst e1
  cases d1 with
  | lst ds =>
    obtain ⟨a, xs, rfl, hG, rr⟩ := r1.lst_inv
    refine ⟨tyL (st1.base.sub _ _ hG), (go st1 z1).imp fun y H2 ⟨W2, s2, d2, e2, r2, x2, st2, z2⟩ => ?_⟩
    subst e2
    cases hz : dCnt ds d2 with
    | none => rw [hz] at z2; exact z2.elim
    | some d =>
      rw [hz] at z2
      cases d2 with
      | bl k =>
        obtain ⟨l, hl, rfl⟩ := Option.map_eq_some_iff.mp (show (trsOf ds).map _ = some d from hz)
        have ev := bls_of rr hl
        subst ev
        refine ⟨a, l, k, rfl, by rw [r2.bl_inv], .inl (.inl (st2.base.sub _ _ (x2.grow _ _ hG))), z2.of_ok st2.base (.int _)⟩
      | _ => cases hz
  | _ => exact z1.elim
end
end DL
namespace DL
open PySem PySem.Spec PyProof.Rows L2

/-! ### plain reasoning about denotations -/
@[irreducible] def wp {α : Type} (r : Res α) (Q : α → S → Prop) (X : Str → S → Prop) : Prop := match r with
  | .ok a s => Q a s
  | .exc c s => X c s
  | .bad => False
@[irreducible] def wps (g : Fl) (N B C : List Sl → S → Prop) (R : D → S → Prop) (X : Str → S → Prop) : Prop := match g with
  | .next ρ s => N ρ s
  | .brk ρ s => B ρ s
  | .cont ρ s => C ρ s
  | .ret d s => R d s
  | .exc c s => X c s
  | .bad => False
section
variable {α β : Type} {Q Q' : α → S → Prop} {X X' : Str → S → Prop} {ρ : List Sl} {s : S} {N B C : List Sl → S → Prop} {R : D → S → Prop}
theorem wp_ok {a : α} : wp (.ok a s) Q X = Q a s := by unfold wp; rfl
theorem wp_exc {c : Str} : wp (.exc c s : Res α) Q X = X c s := by unfold wp; rfl
theorem wp_bad : wp (.bad : Res α) Q X = False := by unfold wp; rfl
theorem wz_next : wps (.next ρ s) N B C R X = N ρ s := by unfold wps; rfl
theorem wz_brk : wps (.brk ρ s) N B C R X = B ρ s := by unfold wps; rfl
theorem wz_cont : wps (.cont ρ s) N B C R X = C ρ s := by unfold wps; rfl
theorem wz_ret {d : D} : wps (.ret d s) N B C R X = R d s := by unfold wps; rfl
theorem wz_exc {c : Str} : wps (.exc c s) N B C R X = X c s := by unfold wps; rfl
theorem wz_bad : wps .bad N B C R X = False := by unfold wps; rfl
theorem wp_bind {r : Res β} {f : β → S → Res α} : wp (r.bind f) Q X = wp r (fun a s => wp (f a s) Q X) X := by cases r <;> (with_unfolding_all rfl)
theorem wp_ofO {o : Option α} : wp (Res.ofO o s) Q X = ∃ a, o = some a ∧ Q a s := by
  cases o with
  | none => simp [Res.ofO, wp]
  | some a => simp [Res.ofO, wp]
theorem wp_ite {c : Prop} [Decidable c] {r q : Res α} : wp (if c then r else q) Q X = if c then wp r Q X else wp q Q X := by split <;> (with_unfolding_all rfl)
theorem wp_mono {r : Res α} (h : wp r Q X) (i : ∀ a s, Q a s → Q' a s) (j : ∀ c s, X c s → X' c s) : wp r Q' X' := by
  cases r with
  | ok a s => rw [wp_ok] at h ⊢; exact i _ _ h
  | exc c s => rw [wp_exc] at h ⊢; exact j _ _ h
  | bad => rw [wp_bad] at h; exact h.elim
/-- the rule for a call whose promise is known -/
theorem wp_call {r : Res α} (h : wp r Q fun _ _ => False) (i : ∀ a s, Q a s → Q' a s) : wp r Q' X' := wp_mono h i fun _ _ z => z.elim
theorem wp_eq {r : Res α} {a : α} (h : r = .ok a s) (q : Q a s) : wp r Q X := by rw [h, wp_ok]; exact q
theorem ok_of_wp {r : Res D} {d : D} (h : wp r (fun a _ => a = d) fun _ _ => False) : ∃ s, r = .ok d s := by
  cases r with
  | ok a s => rw [wp_ok] at h; cases h; exact ⟨s, rfl⟩
  | exc c s => rw [wp_exc] at h; exact h.elim
  | bad => rw [wp_bad] at h; exact h.elim
/-! the slots -/
def slotAt : List Sl → Nat → Sl
  | [], _ => .emp
  | x :: _, 0 => x
  | _ :: r, n + 1 => slotAt r n
def slotD : Sl → Option D
  | .dat d => some d
  | _ => none
theorem slotAt_get : ∀ (ρ : List Sl) (i : Nat), ρ[i]? = none → slotAt ρ i = .emp
  | [], _, _ => rfl
  | x :: r, 0, h => by simp at h
  | x :: r, i + 1, h => slotAt_get r i (by simpa using h)
theorem slotAt_some : ∀ (ρ : List Sl) (i : Nat) (x : Sl), ρ[i]? = some x → slotAt ρ i = x
  | [], _, _, h => by simp at h
  | y :: r, 0, x, h => (by simpa using h : y = x)
  | y :: r, i + 1, x, h => slotAt_some r i x (by simpa using h)
theorem eV_at {i : Nat} : eV i ρ s = match slotAt ρ i with
    | .dat d => .ok d s
    | _ => .bad := by
  unfold eV
  cases h : ρ[i]? with
  | none => rw [slotAt_get _ _ h]
  | some x => rw [slotAt_some _ _ _ h]; cases x <;> rfl
def setAt : List Sl → Nat → Sl → List Sl
  | [], _, _ => []
  | _ :: r, 0, y => y :: r
  | x :: r, n + 1, y => x :: setAt r n y
theorem set_at : ∀ (ρ : List Sl) (i : Nat) (y : Sl), ρ.set i y = setAt ρ i y
  | [], _, _ => rfl
  | x :: r, 0, y => rfl
  | x :: r, i + 1, y => by rw [List.set_cons_succ, set_at r i y]; rfl
/-! expressions -/
theorem wp_eV {i : Nat} {Q : D → S → Prop} : wp (eV i ρ s) Q X = match slotAt ρ i with
    | .dat d => Q d s
    | _ => False := by
  rw [eV_at]
  cases slotAt ρ i <;> (with_unfolding_all rfl)
theorem wp_eC {d : D} {Q : D → S → Prop} : wp (eC d ρ s) Q X = Q d s := by with_unfolding_all rfl
theorem wp_op2 {g : F2} {f h : DE} {Q : D → S → Prop} : wp (eOp2 g f h ρ s) Q X = wp (f ρ s) (fun a s1 => wp (h ρ s1) (fun b s2 => ∃ z, g a b = some z ∧ Q z s2) X) X := by
  unfold eOp2
  rw [wp_bind]
  congr 1
  funext a s1
  rw [wp_bind]
  congr 1
  funext b s2
  rw [wp_ofO]
theorem wp_op2S {g : F2S} {f h : DE} {Q : D → S → Prop} : wp (eOp2S g f h ρ s) Q X = wp (f ρ s) (fun a s1 => wp (h ρ s1) (fun b s2 => ∃ z, g s2 a b = some z ∧ Q z s2) X) X := by
  unfold eOp2S
  rw [wp_bind]
  congr 1
  funext a s1
  rw [wp_bind]
  congr 1
  funext b s2
  rw [wp_ofO]
theorem wp_op1 {g : F1} {f : DE} {Q : D → S → Prop} : wp (eOp1 g f ρ s) Q X = wp (f ρ s) (fun a s1 => ∃ z, g a = some z ∧ Q z s1) X := by
  unfold eOp1
  rw [wp_bind]
  congr 1
  funext a s1
  rw [wp_ofO]
theorem wp_aNil {Q : List D → S → Prop} : wp (aNil ρ s) Q X = Q [] s := by with_unfolding_all rfl
theorem wp_aCons {f : DE} {g : DA} {Q : List D → S → Prop} : wp (aCons f g ρ s) Q X = wp (f ρ s) (fun d s1 => wp (g ρ s1) (fun ds s2 => Q (d :: ds) s2) X) X := by
  unfold aCons
  rw [wp_bind]
  congr 1
  funext a s1
  rw [wp_bind]
  with_unfolding_all rfl
theorem wp_eCall {F : DFun} {fs : DA} {Q : D → S → Prop} : wp (eCall F fs ρ s) Q X = wp (fs ρ s) (fun ds s1 => wp (F ds s1) Q X) X := wp_bind
theorem wp_eB {g : FN} {fs : DA} {Q : D → S → Prop} : wp (eB g fs ρ s) Q X = wp (fs ρ s) (fun ds s1 => ∃ z, g ds = some z ∧ Q z s1) X := by
  unfold eB
  rw [wp_bind]
  congr 1
  funext a s1
  rw [wp_ofO]
theorem wp_eTup {fs : DA} {Q : D → S → Prop} : wp (eTup fs ρ s) Q X = wp (fs ρ s) (fun ds s1 => ds.length ≤ 16777216 ∧ Q (.tup ds) s1) X := by
  unfold eTup
  rw [wp_bind]
  congr 1
  funext a s1
  rw [wp_ite]
  simp only [wp_ok, wp_bad]
  by_cases h : a.length ≤ 16777216 <;> simp [h]
theorem wp_eLst {fs : DA} {Q : D → S → Prop} : wp (eLst fs ρ s) Q X = wp (fs ρ s) (fun ds s1 => ds.length ≤ 16777216 ∧ Q (.lst ds) s1) X := by
  unfold eLst
  rw [wp_bind]
  congr 1
  funext a s1
  rw [wp_ite]
  simp only [wp_ok, wp_bad]
  by_cases h : a.length ≤ 16777216 <;> simp [h]
theorem wp_tBl {f : DE} {Q : Bool → S → Prop} : wp (tBl f ρ s) Q X = wp (f ρ s) (fun d s1 => ∃ b, d = .bl b ∧ Q b s1) X := by
  unfold tBl
  rw [wp_bind]
  congr 1
  funext d s1
  cases d <;> simp [wp]
theorem wp_tTru {f : DE} {Q : Bool → S → Prop} : wp (tTru f ρ s) Q X = wp (f ρ s) (fun d s1 => ∃ b, dTruth d = some b ∧ Q b s1) X := by
  unfold tTru
  rw [wp_bind]
  congr 1
  funext d s1
  rw [wp_ofO]
theorem wp_and {f g : DT} {Q : Bool → S → Prop} : wp (tAndD f g ρ s) Q X = wp (f ρ s) (fun b s1 => if b = true then wp (g ρ s1) Q X else Q false s1) X := by
  unfold tAndD
  rw [wp_bind]
  congr 1
  funext b s1
  cases b <;> simp [wp]
theorem wp_or {f g : DT} {Q : Bool → S → Prop} : wp (tOrD f g ρ s) Q X = wp (f ρ s) (fun b s1 => if b = true then Q true s1 else wp (g ρ s1) Q X) X := by
  unfold tOrD
  rw [wp_bind]
  congr 1
  funext b s1
  cases b <;> simp [wp]
theorem wp_not {f : DT} {Q : Bool → S → Prop} : wp (tNotD f ρ s) Q X = wp (f ρ s) (fun b s1 => Q (!b) s1) X := by
  unfold tNotD
  rw [wp_bind]
  with_unfolding_all rfl
theorem wp_eIf {c : DT} {f g : DE} {Q : D → S → Prop} : wp (eIf c f g ρ s) Q X = wp (c ρ s) (fun b s1 => if b = true then wp (f ρ s1) Q X else wp (g ρ s1) Q X) X := by
  unfold eIf
  rw [wp_bind]
  congr 1
  funext b s1
  cases b <;> simp
theorem wp_eNot {f : DE} {Q : D → S → Prop} : wp (eNot f ρ s) Q X = wp (f ρ s) (fun d s1 => ∃ b, dTruth d = some b ∧ Q (.bl (!b)) s1) X := by
  unfold eNot
  rw [wp_bind]
  congr 1
  funext d s1
  cases h : dTruth d <;> simp [wp]
theorem wp_eAnd {f g : DE} {Q : D → S → Prop} : wp (eAnd f g ρ s) Q X = wp (f ρ s) (fun d s1 => ∃ b, dTruth d = some b ∧ if b = true then wp (g ρ s1) Q X else Q d s1) X := by
  unfold eAnd
  rw [wp_bind]
  congr 1
  funext d s1
  cases h : dTruth d with
  | none => simp [wp]
  | some b => cases b <;> simp [wp]
theorem wp_eOr {f g : DE} {Q : D → S → Prop} : wp (eOr f g ρ s) Q X = wp (f ρ s) (fun d s1 => ∃ b, dTruth d = some b ∧ if b = true then Q d s1 else wp (g ρ s1) Q X) X := by
  unfold eOr
  rw [wp_bind]
  congr 1
  funext d s1
  cases h : dTruth d with
  | none => simp [wp]
  | some b => cases b <;> simp [wp]
theorem wp_eChain {g g' : F2} {f h k : DE} {Q : D → S → Prop} : wp (eChain g g' f h k ρ s) Q X = wp (f ρ s) (fun x s1 => wp (h ρ s1) (fun y s2 => ∃ b, g x y = some (.bl b) ∧ if b = true then wp (k ρ s2) (fun z s3 => ∃ u, g' y z = some u ∧ Q u s3) X else Q (.bl false) s2) X) X := by
  unfold eChain
  rw [wp_bind]
  congr 1
  funext x s1
  rw [wp_bind]
  congr 1
  funext y s2
  split
  · rename_i e
    rw [wp_bind]
    simp only [e, Option.some.injEq, D.bl.injEq, exists_eq_left', if_true]
    congr 1
    funext z s3
    rw [wp_ofO]
  · rename_i e
    simp [e, wp]
  · rename_i h1 h2
    simp only [wp_bad]
    refine propext ⟨fun z => z.elim, fun ⟨b, e, _⟩ => ?_⟩
    cases b with
    | true => exact h1 e
    | false => exact h2 e
theorem wp_lenT {fs : DA} {Q : D → S → Prop} : wp (eLenT fs ρ s) Q X = wp (fs ρ s) (fun ds s1 => ∃ z, lenT s1 ds = some z ∧ Q z s1) X := by
  unfold eLenT
  rw [wp_bind]
  congr 1
  funext ds s1
  rw [wp_ofO]
theorem wp_oNone {Q : Option Int → S → Prop} : wp (oNone ρ s) Q X = Q none s := by with_unfolding_all rfl
theorem wp_oSome {f : DE} {Q : Option Int → S → Prop} : wp (oSome f ρ s) Q X = wp (f ρ s) (fun d s1 => ∃ i, d = .int i ∧ Q (some i) s1) X := by
  unfold oSome
  rw [wp_bind]
  congr 1
  funext d s1
  cases d <;> simp [wp]
theorem wp_eSl {f : DE} {l h : DO} {Q : D → S → Prop} : wp (eSl f l h ρ s) Q X = wp (f ρ s) (fun d s1 => wp (l ρ s1) (fun lo s2 => wp (h ρ s2) (fun hi s3 => ∃ z, dSl d lo hi = some z ∧ Q z s3) X) X) X := by
  unfold eSl
  rw [wp_bind]
  congr 1
  funext d s1
  rw [wp_bind]
  congr 1
  funext lo s2
  rw [wp_bind]
  congr 1
  funext hi s3
  rw [wp_ofO]
theorem wp_iVal {f : DE} {Q : List D → S → Prop} : wp (iVal f ρ s) Q X = wp (f ρ s) (fun d s1 => ∃ z, dIter d = some z ∧ Q z s1) X := by
  unfold iVal
  rw [wp_bind]
  congr 1
  funext d s1
  rw [wp_ofO]
theorem wp_iRange1 {fs : DA} {Q : List D → S → Prop} : wp (iRange1 fs ρ s) Q X = wp (fs ρ s) (fun ds s1 => ∃ j, ds = [.int j] ∧ (-(2 ^ 62) ≤ j ∧ j < 2 ^ 62) ∧ Q (rngD 0 1 j.toNat) s1) X := by
  unfold iRange1
  rw [wp_bind]
  congr 1
  funext ds s1
  split
  · rename_i j
    rw [wp_ite]
    simp only [wp_ok, wp_bad, List.cons.injEq, D.int.injEq, and_true, exists_eq_left']
    by_cases h : -(2 ^ 62) ≤ j ∧ j < 2 ^ 62
    · rw [if_pos h]
      exact propext ⟨fun q => ⟨h, q⟩, fun q => q.2⟩
    · rw [if_neg h]; simp only [h, false_and]
  · rename_i h
    simp only [wp_bad]
    refine propext ⟨fun z => z.elim, fun ⟨j, e, _⟩ => h j e⟩
theorem wp_iRange2 {fs : DA} {Q : List D → S → Prop} : wp (iRange2 fs ρ s) Q X = wp (fs ρ s) (fun ds s1 => ∃ i j, ds = [.int i, .int j] ∧ (-(2 ^ 62) ≤ i ∧ i < 2 ^ 62 ∧ -(2 ^ 62) ≤ j ∧ j < 2 ^ 62) ∧ Q (rngD i 1 (j - i).toNat) s1) X := by
  unfold iRange2
  rw [wp_bind]
  congr 1
  funext ds s1
  split
  · rename_i i j
    rw [wp_ite]
    simp only [wp_ok, wp_bad]
    by_cases h : -(2 ^ 62) ≤ i ∧ i < 2 ^ 62 ∧ -(2 ^ 62) ≤ j ∧ j < 2 ^ 62
    · rw [if_pos h]
      refine propext ⟨fun q => ⟨i, j, rfl, h, q⟩, fun ⟨i', j', e, _, q⟩ => ?_⟩
      cases e
      exact q
    · rw [if_neg h]
      refine propext ⟨fun q => q.elim, fun ⟨i', j', e, h', q⟩ => ?_⟩
      cases e
      exact h h'
  · rename_i h
    simp only [wp_bad]
    refine propext ⟨fun z => z.elim, fun ⟨i, j, e, _⟩ => h i j e⟩
theorem wp_eComp {vs : List Nat} {fi : DA} {g : DG} {c : DT} {f : DE} {Q : D → S → Prop} (h : wp (fi ρ s) (fun ds s1 => ds.length ≤ 16777216 ∧ wp (compN g c f (wipeD ρ vs) ds s1) (fun ys s2 => Q (.lst ys) s2) fun _ _ => False) X) : wp (eComp vs fi g c f ρ s) Q X := by
  unfold eComp
  rw [wp_bind]
  refine wp_mono h (fun ds s1 ⟨h1, h2⟩ => ?_) fun _ _ z => z
  rw [if_pos h1]
  cases hc : compN g c f (wipeD ρ vs) ds s1 with
  | ok ys s2 => rw [hc, wp_ok] at h2; simp only [wp_ok]; exact h2
  | exc c s2 => rw [hc, wp_exc] at h2; exact h2.elim
  | bad => rw [hc, wp_bad] at h2; exact h2.elim
theorem comp_inv {g : DG} {c : DT} {f : DE} {ρ : List Sl} (I : Nat → List D → S → Prop) : ∀ {ds : List D} {s : S} {Q : List D → S → Prop}, I 0 [] s →
    (∀ i d acc s, ds[i]? = some d → I i acc s → ∃ ρ1, g d ρ = some ρ1 ∧ wp (c ρ1 s) (fun b s1 => if b = true then wp (f ρ1 s1) (fun y s2 => I (i + 1) (acc ++ [y]) s2) (fun _ _ => False) else I (i + 1) acc s1) fun _ _ => False) →
    (∀ ys s, I ds.length ys s → Q ys s) → wp (compN g c f ρ ds s) Q fun _ _ => False := by
  have key : ∀ {ds : List D} (k : Nat) (acc : List D) {s : S} {Q : List D → S → Prop}, I k acc s →
      (∀ i d acc s, ds[i]? = some d → I (k + i) acc s → ∃ ρ1, g d ρ = some ρ1 ∧ wp (c ρ1 s) (fun b s1 => if b = true then wp (f ρ1 s1) (fun y s2 => I (k + i + 1) (acc ++ [y]) s2) (fun _ _ => False) else I (k + i + 1) acc s1) fun _ _ => False) →
      (∀ ys s, I (k + ds.length) ys s → Q ys s) → wp (compN g c f ρ ds s) (fun ys s' => Q (acc ++ ys) s') fun _ _ => False := by
    intro ds
    induction ds with
    | nil =>
      intro k acc s Q h0 hs hq
      unfold compN
      simp only [wp_ok, List.append_nil]
      exact hq _ _ h0
    | cons d ds ih =>
      intro k acc s Q h0 hs hq
      obtain ⟨ρ1, e1, h1⟩ := hs 0 d acc s rfl h0
      unfold compN
      rw [e1]
      simp only
      rw [wp_bind]
      have step : ∀ acc' s', I (k + 1) acc' s' → wp (compN g c f ρ ds s') (fun ys s'' => Q (acc' ++ ys) s'') fun _ _ => False := fun acc' s' h' =>
        ih (k + 1) acc' h' (fun i d acc s e h => by
          have := hs (i + 1) d acc s (by simpa using e) (by rw [show k + (i + 1) = k + 1 + i by omega]; exact h)
          rw [show k + (i + 1) + 1 = k + 1 + i + 1 by omega] at this
          exact this) (fun ys s h => hq ys s (by rw [List.length_cons, show k + (ds.length + 1) = k + 1 + ds.length by omega]; exact h))
      refine wp_mono h1 (fun b s1 hb => ?_) fun _ _ z => z
      cases b with
      | true =>
        simp only [if_true] at hb ⊢
        rw [wp_bind]
        refine wp_mono hb (fun y s2 hy => ?_) fun _ _ z => z
        rw [wp_bind]
        refine wp_mono (step _ _ hy) (fun ys s3 q => ?_) fun _ _ z => z
        rw [List.append_assoc] at q
        rw [wp_ok]
        exact q
      | false => exact step _ _ hb
  intro ds s Q h0 hs hq
  have := key (ds := ds) 0 [] (Q := Q) h0 (fun i d acc s e h => by simpa using hs i d acc s e (by simpa using h)) (fun ys s h => hq ys s (by simpa using h))
  simpa using this
/-! statements -/
theorem wps_seq {g h : DS} : wps (sSeq g h ρ s) N B C R X = wps (g ρ s) (fun ρ s => wps (h ρ s) N B C R X) B C R X := by
  unfold sSeq
  cases g ρ s <;> (with_unfolding_all rfl)
theorem wps_then {r : Res α} {k : α → S → Fl} : wps (r.thenS k) N B C R X = wp r (fun a s => wps (k a s) N B C R X) X := by cases r <;> (with_unfolding_all rfl)
theorem wps_set {i : Nat} {f : DE} : wps (sSet i f ρ s) N B C R X = wp (f ρ s) (fun d s => N (setAt ρ i (.dat d)) s) X := by
  unfold sSet
  rw [wps_then]
  simp only [set_at]
  with_unfolding_all rfl
theorem wps_own {i : Nat} {f : DE} : wps (sOwn i f ρ s) N B C R X = wp (f ρ s) (fun d s => ∃ ds, d = .lst ds ∧ N (setAt ρ i (.own ds)) s) X := by
  unfold sOwn
  rw [wps_then]
  congr 1
  funext d s1
  cases d <;> simp [wps, set_at]
theorem wps_ret {f : DE} : wps (sRet f ρ s) N B C R X = wp (f ρ s) R X := by
  unfold sRet
  rw [wps_then]
  with_unfolding_all rfl
theorem wps_expr {f : DE} : wps (sExpr f ρ s) N B C R X = wp (f ρ s) (fun _ s => N ρ s) X := by
  unfold sExpr
  rw [wps_then]
  with_unfolding_all rfl
theorem wps_if {c : DT} {g h : DS} : wps (sIf c g h ρ s) N B C R X = wp (c ρ s) (fun b s => if b = true then wps (g ρ s) N B C R X else wps (h ρ s) N B C R X) X := by
  unfold sIf
  rw [wps_then]
  congr 1
  funext b s1
  cases b <;> simp
theorem wps_skip : wps (sSkip ρ s) N B C R X = N ρ s := by with_unfolding_all rfl
theorem wps_brk : wps (sBrk ρ s) N B C R X = B ρ s := by with_unfolding_all rfl
theorem wps_cont : wps (sCont ρ s) N B C R X = C ρ s := by with_unfolding_all rfl
theorem wps_par {i j : Nat} {fs : DA} : wps (sPar i j fs ρ s) N B C R X = wp (fs ρ s) (fun ds s => ∃ d e, ds = [d, e] ∧ N (setAt (setAt ρ i (.dat d)) j (.dat e)) s) X := by
  unfold sPar
  rw [wps_then]
  congr 1
  funext ds s1
  split
  · rename_i d e
    rw [set_at, set_at, wz_next]
    refine propext ⟨fun q => ⟨d, e, rfl, q⟩, fun ⟨d', e', h, q⟩ => ?_⟩
    cases h
    exact q
  · rename_i h
    rw [wz_bad]
    refine propext ⟨fun z => z.elim, fun ⟨d, e, q, _⟩ => h d e q⟩
theorem wps_unp {g : DG} {f : DE} : wps (sUnp g f ρ s) N B C R X = wp (f ρ s) (fun d s => ∃ ρ1, g d ρ = some ρ1 ∧ N ρ1 s) X := by
  unfold sUnp
  rw [wps_then]
  congr 1
  funext d s1
  cases g d ρ <;> simp [wps]
theorem wps_putT {f fi fv : DE} : wps (sPutT f fi fv ρ s) N B C R X = wp (fv ρ s) (fun d s1 => wp (f ρ s1) (fun t s2 => wp (fi ρ s2) (fun k s3 => ∃ n i l j, t = .tok n ∧ k = .int i ∧ tokL s3 n = some l ∧ ixN l.length i = some j ∧ flat d = true ∧ N ρ (s3.set n (.l (l.set j d)))) X) X) X := by
  unfold sPutT
  rw [wps_then]
  congr 1
  funext d s1
  rw [wps_then]
  congr 1
  funext t s2
  rw [wps_then]
  congr 1
  funext k s3
  split
  · rename_i n i
    cases hl : tokL s3 n with
    | none => simp [wps, hl]
    | some l =>
      cases hj : ixN l.length i with
      | none => simp [wps, hl, hj]
      | some j =>
        simp only [hl, hj]
        by_cases hf : flat d = true
        rw [if_pos hf]
        rotate_left
        rw [if_neg hf]
        rotate_left
        · rw [wz_next]
          refine propext ⟨fun q => ⟨n, i, l, j, rfl, rfl, hl, hj, hf, q⟩, fun ⟨n', i', l', j', e1, e2, e3, e4, _, q⟩ => ?_⟩
          cases e1; cases e2
          rw [hl] at e3
          cases e3
          rw [hj] at e4
          cases e4
          exact q
        · rw [wz_bad]
          refine propext ⟨fun q => q.elim, fun ⟨_, _, _, _, _, _, _, _, e5, _⟩ => hf e5⟩
  · rename_i h
    rw [wz_bad]
    refine propext ⟨fun q => q.elim, fun ⟨n, i, _, _, e1, e2, _⟩ => h n i e1 e2⟩
theorem wps_mono {g : Fl} {N' B' C' : List Sl → S → Prop} {R' : D → S → Prop} (h : wps g N B C R X) (n : ∀ ρ s, N ρ s → N' ρ s) (b : ∀ ρ s, B ρ s → B' ρ s) (c : ∀ ρ s, C ρ s → C' ρ s) (r : ∀ d s, R d s → R' d s) (x : ∀ d s, X d s → X' d s) : wps g N' B' C' R' X' := by
  cases g with
  | next ρ s => rw [wz_next] at h ⊢; exact n _ _ h
  | brk ρ s => rw [wz_brk] at h ⊢; exact b _ _ h
  | cont ρ s => rw [wz_cont] at h ⊢; exact c _ _ h
  | ret d s => rw [wz_ret] at h ⊢; exact r _ _ h
  | exc d s => rw [wz_exc] at h ⊢; exact x _ _ h
  | bad => rw [wz_bad] at h; exact h.elim
theorem loop_inv {clr : List Nat} {g : DG} {body : DS} (I : Nat → List Sl → S → Prop) : ∀ {ds : List D} {ρ : List Sl} {s : S}, I 0 ρ s →
    (∀ i d ρ s, ds[i]? = some d → I i ρ s → ∃ ρ1, g d ρ = some ρ1 ∧ wps (body ρ1 s) (fun ρ2 s2 => I (i + 1) (wipeD ρ2 clr) s2) (fun ρ2 s2 => N (wipeD ρ2 clr) s2) (fun ρ2 s2 => I (i + 1) (wipeD ρ2 clr) s2) R X) →
    (∀ ρ s, I ds.length ρ s → N ρ s) → wps (loopN clr g body ds ρ s) N B C R X := by
  have key : ∀ {ds : List D} (k : Nat) {ρ : List Sl} {s : S}, I k ρ s →
      (∀ i d ρ s, ds[i]? = some d → I (k + i) ρ s → ∃ ρ1, g d ρ = some ρ1 ∧ wps (body ρ1 s) (fun ρ2 s2 => I (k + i + 1) (wipeD ρ2 clr) s2) (fun ρ2 s2 => N (wipeD ρ2 clr) s2) (fun ρ2 s2 => I (k + i + 1) (wipeD ρ2 clr) s2) R X) →
      (∀ ρ s, I (k + ds.length) ρ s → N ρ s) → wps (loopN clr g body ds ρ s) N B C R X := by
    intro ds
    induction ds with
    | nil => intro k ρ s h0 hs hq; unfold loopN; rw [wz_next]; exact hq _ _ h0
    | cons d ds ih =>
      intro k ρ s h0 hs hq
      obtain ⟨ρ1, e1, h1⟩ := hs 0 d ρ s rfl h0
      unfold loopN
      rw [e1]
      simp only
      have step : ∀ ρ' s', I (k + 1) ρ' s' → wps (loopN clr g body ds ρ' s') N B C R X := fun ρ' s' h' =>
        ih (k + 1) h' (fun i d ρ s e h => by
          have := hs (i + 1) d ρ s (by simpa using e) (by rw [show k + (i + 1) = k + 1 + i by omega]; exact h)
          rw [show k + (i + 1) + 1 = k + 1 + i + 1 by omega] at this
          exact this) (fun ρ s h => hq ρ s (by rw [List.length_cons, show k + (ds.length + 1) = k + 1 + ds.length by omega]; exact h))
      cases hb : body ρ1 s with
      | next ρ2 s2 => rw [hb, wz_next] at h1; exact step _ _ h1
      | cont ρ2 s2 => rw [hb, wz_cont] at h1; exact step _ _ h1
      | brk ρ2 s2 => rw [hb, wz_brk] at h1; rw [wz_next]; exact h1
      | ret d s2 => rw [hb, wz_ret] at h1; rw [wz_ret]; exact h1
      | exc c s2 => rw [hb, wz_exc] at h1; rw [wz_exc]; exact h1
      | bad => rw [hb, wz_bad] at h1; exact h1.elim
  intro ds ρ s h0 hs hq
  exact key 0 h0 (fun i d ρ s e h => by simpa using hs i d ρ s e (by simpa using h)) (fun ρ s h => hq ρ s (by simpa using h))
theorem wps_for {clr : List Nat} {fi : DA} {g : DG} {body : DS} (h : wp (fi ρ s) (fun ds s1 => wps (loopN clr g body ds (wipeD ρ clr) s1) N B C R X) X) : wps (sFor clr fi g body ρ s) N B C R X := by
  unfold sFor
  rw [wps_then]
  exact h
theorem wps_while {clr : List Nat} {c : DT} {b : DS} (I : List Sl → S → Prop) (m : List Sl → Nat) (h0 : I (wipeD ρ clr) s)
    (hs : ∀ ρ s, I ρ s → wp (c ρ s) (fun k s1 => if k = true then wps (b ρ s1) (fun ρ2 s2 => I (wipeD ρ2 clr) s2 ∧ m (wipeD ρ2 clr) < m ρ) N (fun ρ2 s2 => I (wipeD ρ2 clr) s2 ∧ m (wipeD ρ2 clr) < m ρ) R X else N ρ s1) X) : wps (sWhile clr c b ρ s) N B C R X := by
  have key : ∀ n ρ s, I ρ s → m ρ < n → ∃ r, whileN clr c b n ρ s = some r ∧ wps r N B C R X := by
    intro n
    induction n with
    | zero => intro ρ s _ h; omega
    | succ n ih =>
      intro ρ s hI hm
      have h := hs ρ s hI
      unfold whileN
      cases hc : c ρ s with
      | ok k s1 =>
        rw [hc] at h
        cases k with
        | true =>
          have h' : wps (b ρ s1) (fun ρ2 s2 => I (wipeD ρ2 clr) s2 ∧ m (wipeD ρ2 clr) < m ρ) N (fun ρ2 s2 => I (wipeD ρ2 clr) s2 ∧ m (wipeD ρ2 clr) < m ρ) R X := by rw [wp_ok] at h; simpa using h
          simp only
          cases hb : b ρ s1 with
          | next ρ2 s2 => rw [hb, wz_next] at h'; exact ih _ _ h'.1 (by have := h'.2; omega)
          | cont ρ2 s2 => rw [hb, wz_cont] at h'; exact ih _ _ h'.1 (by have := h'.2; omega)
          | brk ρ2 s2 => rw [hb, wz_brk] at h'; exact ⟨_, rfl, by rw [wz_next]; exact h'⟩
          | ret d s2 => rw [hb, wz_ret] at h'; exact ⟨_, rfl, by rw [wz_ret]; exact h'⟩
          | exc c s2 => rw [hb, wz_exc] at h'; exact ⟨_, rfl, by rw [wz_exc]; exact h'⟩
          | bad => rw [hb, wz_bad] at h'; exact h'.elim
        | false =>
          have h' : N ρ s1 := by rw [wp_ok] at h; simpa using h
          exact ⟨_, rfl, by rw [wz_next]; exact h'⟩
      | exc c s1 => rw [hc, wp_exc] at h; exact ⟨_, rfl, by rw [wz_exc]; exact h⟩
      | bad => rw [hc, wp_bad] at h; exact h.elim
  obtain ⟨r, e, h⟩ := key _ _ _ h0 (Nat.lt_succ_self _)
  rw [sWhile_of e]
  exact h
theorem wp_defD {N n : Nat} {g : DS} {ds : List D} {Q : D → S → Prop} : wp (defD N n g ds s) Q X = (ds.length = n ∧ wps (g (ds.map .dat ++ List.replicate (N - n) .emp) s) (fun _ s => Q .non s) (fun _ _ => False) (fun _ _ => False) Q X) := by
  unfold defD
  by_cases h : ds.length = n
  · rw [if_pos h]
    simp only [h, true_and]
    cases g (ds.map .dat ++ List.replicate (N - n) .emp) s <;> (with_unfolding_all rfl)
  · rw [if_neg h]
    simp [h, wp]
theorem ex_some {α : Type} {x : α} {P : α → Prop} : (∃ z, some x = some z ∧ P z) = P x := by simp
theorem ex_ite {α : Type} {c : Prop} [Decidable c] {x : α} {P : α → Prop} : (∃ z, (if c then some x else none) = some z ∧ P z) = (c ∧ P x) := by
  by_cases h : c <;> simp [h]
theorem ex_none {α : Type} {P : α → Prop} : (∃ z, (none : Option α) = some z ∧ P z) = False := by simp
end
theorem kb_NoneType_int : kitB "NoneType" "int" = some false := by decide +kernel
theorem kb_NoneType_bool : kitB "NoneType" "bool" = some false := by decide +kernel
theorem kb_NoneType_tuple : kitB "NoneType" "tuple" = some false := by decide +kernel
theorem kb_NoneType_str : kitB "NoneType" "str" = some false := by decide +kernel
theorem kb_NoneType_list : kitB "NoneType" "list" = some false := by decide +kernel
theorem kb_NoneType_dict : kitB "NoneType" "dict" = some false := by decide +kernel
theorem kb_bool_int : kitB "bool" "int" = some true := by decide +kernel
theorem kb_bool_bool : kitB "bool" "bool" = some true := by decide +kernel
theorem kb_bool_tuple : kitB "bool" "tuple" = some false := by decide +kernel
theorem kb_bool_str : kitB "bool" "str" = some false := by decide +kernel
theorem kb_bool_list : kitB "bool" "list" = some false := by decide +kernel
theorem kb_bool_dict : kitB "bool" "dict" = some false := by decide +kernel
theorem kb_int_int : kitB "int" "int" = some true := by decide +kernel
theorem kb_int_bool : kitB "int" "bool" = some false := by decide +kernel
theorem kb_int_tuple : kitB "int" "tuple" = some false := by decide +kernel
theorem kb_int_str : kitB "int" "str" = some false := by decide +kernel
theorem kb_int_list : kitB "int" "list" = some false := by decide +kernel
theorem kb_int_dict : kitB "int" "dict" = some false := by decide +kernel
theorem kb_str_int : kitB "str" "int" = some false := by decide +kernel
theorem kb_str_bool : kitB "str" "bool" = some false := by decide +kernel
theorem kb_str_tuple : kitB "str" "tuple" = some false := by decide +kernel
theorem kb_str_str : kitB "str" "str" = some true := by decide +kernel
theorem kb_str_list : kitB "str" "list" = some false := by decide +kernel
theorem kb_str_dict : kitB "str" "dict" = some false := by decide +kernel
theorem kb_tuple_int : kitB "tuple" "int" = some false := by decide +kernel
theorem kb_tuple_bool : kitB "tuple" "bool" = some false := by decide +kernel
theorem kb_tuple_tuple : kitB "tuple" "tuple" = some true := by decide +kernel
theorem kb_tuple_str : kitB "tuple" "str" = some false := by decide +kernel
theorem kb_tuple_list : kitB "tuple" "list" = some false := by decide +kernel
theorem kb_tuple_dict : kitB "tuple" "dict" = some false := by decide +kernel
theorem kb_list_int : kitB "list" "int" = some false := by decide +kernel
theorem kb_list_bool : kitB "list" "bool" = some false := by decide +kernel
theorem kb_list_tuple : kitB "list" "tuple" = some false := by decide +kernel
theorem kb_list_str : kitB "list" "str" = some false := by decide +kernel
theorem kb_list_list : kitB "list" "list" = some true := by decide +kernel
theorem kb_list_dict : kitB "list" "dict" = some false := by decide +kernel
theorem kb_dict_int : kitB "dict" "int" = some false := by decide +kernel
theorem kb_dict_bool : kitB "dict" "bool" = some false := by decide +kernel
theorem kb_dict_tuple : kitB "dict" "tuple" = some false := by decide +kernel
theorem kb_dict_str : kitB "dict" "str" = some false := by decide +kernel
theorem kb_dict_list : kitB "dict" "list" = some false := by decide +kernel
theorem kb_dict_dict : kitB "dict" "dict" = some true := by decide +kernel
theorem is_non_int  : dIsi [.non, .ty "int"] = some (.bl false) := by simp only [dIsi, tyD, kb_NoneType_int, Option.map_some]
theorem is_non_bool  : dIsi [.non, .ty "bool"] = some (.bl false) := by simp only [dIsi, tyD, kb_NoneType_bool, Option.map_some]
theorem is_non_tuple  : dIsi [.non, .ty "tuple"] = some (.bl false) := by simp only [dIsi, tyD, kb_NoneType_tuple, Option.map_some]
theorem is_non_str  : dIsi [.non, .ty "str"] = some (.bl false) := by simp only [dIsi, tyD, kb_NoneType_str, Option.map_some]
theorem is_non_list  : dIsi [.non, .ty "list"] = some (.bl false) := by simp only [dIsi, tyD, kb_NoneType_list, Option.map_some]
theorem is_non_dict  : dIsi [.non, .ty "dict"] = some (.bl false) := by simp only [dIsi, tyD, kb_NoneType_dict, Option.map_some]
theorem is_bl_int (b : Bool) : dIsi [(.bl b), .ty "int"] = some (.bl true) := by simp only [dIsi, tyD, kb_bool_int, Option.map_some]
theorem is_bl_bool (b : Bool) : dIsi [(.bl b), .ty "bool"] = some (.bl true) := by simp only [dIsi, tyD, kb_bool_bool, Option.map_some]
theorem is_bl_tuple (b : Bool) : dIsi [(.bl b), .ty "tuple"] = some (.bl false) := by simp only [dIsi, tyD, kb_bool_tuple, Option.map_some]
theorem is_bl_str (b : Bool) : dIsi [(.bl b), .ty "str"] = some (.bl false) := by simp only [dIsi, tyD, kb_bool_str, Option.map_some]
theorem is_bl_list (b : Bool) : dIsi [(.bl b), .ty "list"] = some (.bl false) := by simp only [dIsi, tyD, kb_bool_list, Option.map_some]
theorem is_bl_dict (b : Bool) : dIsi [(.bl b), .ty "dict"] = some (.bl false) := by simp only [dIsi, tyD, kb_bool_dict, Option.map_some]
theorem is_int_int (i : Int) : dIsi [(.int i), .ty "int"] = some (.bl true) := by simp only [dIsi, tyD, kb_int_int, Option.map_some]
theorem is_int_bool (i : Int) : dIsi [(.int i), .ty "bool"] = some (.bl false) := by simp only [dIsi, tyD, kb_int_bool, Option.map_some]
theorem is_int_tuple (i : Int) : dIsi [(.int i), .ty "tuple"] = some (.bl false) := by simp only [dIsi, tyD, kb_int_tuple, Option.map_some]
theorem is_int_str (i : Int) : dIsi [(.int i), .ty "str"] = some (.bl false) := by simp only [dIsi, tyD, kb_int_str, Option.map_some]
theorem is_int_list (i : Int) : dIsi [(.int i), .ty "list"] = some (.bl false) := by simp only [dIsi, tyD, kb_int_list, Option.map_some]
theorem is_int_dict (i : Int) : dIsi [(.int i), .ty "dict"] = some (.bl false) := by simp only [dIsi, tyD, kb_int_dict, Option.map_some]
theorem is_str_int (x : Str) : dIsi [(.str x), .ty "int"] = some (.bl false) := by simp only [dIsi, tyD, kb_str_int, Option.map_some]
theorem is_str_bool (x : Str) : dIsi [(.str x), .ty "bool"] = some (.bl false) := by simp only [dIsi, tyD, kb_str_bool, Option.map_some]
theorem is_str_tuple (x : Str) : dIsi [(.str x), .ty "tuple"] = some (.bl false) := by simp only [dIsi, tyD, kb_str_tuple, Option.map_some]
theorem is_str_str (x : Str) : dIsi [(.str x), .ty "str"] = some (.bl true) := by simp only [dIsi, tyD, kb_str_str, Option.map_some]
theorem is_str_list (x : Str) : dIsi [(.str x), .ty "list"] = some (.bl false) := by simp only [dIsi, tyD, kb_str_list, Option.map_some]
theorem is_str_dict (x : Str) : dIsi [(.str x), .ty "dict"] = some (.bl false) := by simp only [dIsi, tyD, kb_str_dict, Option.map_some]
theorem is_tup_int (x : List D) : dIsi [(.tup x), .ty "int"] = some (.bl false) := by simp only [dIsi, tyD, kb_tuple_int, Option.map_some]
theorem is_tup_bool (x : List D) : dIsi [(.tup x), .ty "bool"] = some (.bl false) := by simp only [dIsi, tyD, kb_tuple_bool, Option.map_some]
theorem is_tup_tuple (x : List D) : dIsi [(.tup x), .ty "tuple"] = some (.bl true) := by simp only [dIsi, tyD, kb_tuple_tuple, Option.map_some]
theorem is_tup_str (x : List D) : dIsi [(.tup x), .ty "str"] = some (.bl false) := by simp only [dIsi, tyD, kb_tuple_str, Option.map_some]
theorem is_tup_list (x : List D) : dIsi [(.tup x), .ty "list"] = some (.bl false) := by simp only [dIsi, tyD, kb_tuple_list, Option.map_some]
theorem is_tup_dict (x : List D) : dIsi [(.tup x), .ty "dict"] = some (.bl false) := by simp only [dIsi, tyD, kb_tuple_dict, Option.map_some]
theorem is_lst_int (x : List D) : dIsi [(.lst x), .ty "int"] = some (.bl false) := by simp only [dIsi, tyD, kb_list_int, Option.map_some]
theorem is_lst_bool (x : List D) : dIsi [(.lst x), .ty "bool"] = some (.bl false) := by simp only [dIsi, tyD, kb_list_bool, Option.map_some]
theorem is_lst_tuple (x : List D) : dIsi [(.lst x), .ty "tuple"] = some (.bl false) := by simp only [dIsi, tyD, kb_list_tuple, Option.map_some]
theorem is_lst_str (x : List D) : dIsi [(.lst x), .ty "str"] = some (.bl false) := by simp only [dIsi, tyD, kb_list_str, Option.map_some]
theorem is_lst_list (x : List D) : dIsi [(.lst x), .ty "list"] = some (.bl true) := by simp only [dIsi, tyD, kb_list_list, Option.map_some]
theorem is_lst_dict (x : List D) : dIsi [(.lst x), .ty "dict"] = some (.bl false) := by simp only [dIsi, tyD, kb_list_dict, Option.map_some]
theorem is_frz_int (x : List D) : dIsi [(.frz x), .ty "int"] = some (.bl false) := by simp only [dIsi, tyD, kb_list_int, Option.map_some]
theorem is_frz_bool (x : List D) : dIsi [(.frz x), .ty "bool"] = some (.bl false) := by simp only [dIsi, tyD, kb_list_bool, Option.map_some]
theorem is_frz_tuple (x : List D) : dIsi [(.frz x), .ty "tuple"] = some (.bl false) := by simp only [dIsi, tyD, kb_list_tuple, Option.map_some]
theorem is_frz_str (x : List D) : dIsi [(.frz x), .ty "str"] = some (.bl false) := by simp only [dIsi, tyD, kb_list_str, Option.map_some]
theorem is_frz_list (x : List D) : dIsi [(.frz x), .ty "list"] = some (.bl true) := by simp only [dIsi, tyD, kb_list_list, Option.map_some]
theorem is_frz_dict (x : List D) : dIsi [(.frz x), .ty "dict"] = some (.bl false) := by simp only [dIsi, tyD, kb_list_dict, Option.map_some]
theorem is_dct_int (x : List (D × D)) : dIsi [(.dct x), .ty "int"] = some (.bl false) := by simp only [dIsi, tyD, kb_dict_int, Option.map_some]
theorem is_dct_bool (x : List (D × D)) : dIsi [(.dct x), .ty "bool"] = some (.bl false) := by simp only [dIsi, tyD, kb_dict_bool, Option.map_some]
theorem is_dct_tuple (x : List (D × D)) : dIsi [(.dct x), .ty "tuple"] = some (.bl false) := by simp only [dIsi, tyD, kb_dict_tuple, Option.map_some]
theorem is_dct_str (x : List (D × D)) : dIsi [(.dct x), .ty "str"] = some (.bl false) := by simp only [dIsi, tyD, kb_dict_str, Option.map_some]
theorem is_dct_list (x : List (D × D)) : dIsi [(.dct x), .ty "list"] = some (.bl false) := by simp only [dIsi, tyD, kb_dict_list, Option.map_some]
theorem is_dct_dict (x : List (D × D)) : dIsi [(.dct x), .ty "dict"] = some (.bl true) := by simp only [dIsi, tyD, kb_dict_dict, Option.map_some]
theorem is_ktp_int (x : List D) : dIsi [(.ktp x), .ty "int"] = some (.bl false) := by simp only [dIsi, tyD, kb_tuple_int, Option.map_some]
theorem is_ktp_bool (x : List D) : dIsi [(.ktp x), .ty "bool"] = some (.bl false) := by simp only [dIsi, tyD, kb_tuple_bool, Option.map_some]
theorem is_ktp_tuple (x : List D) : dIsi [(.ktp x), .ty "tuple"] = some (.bl true) := by simp only [dIsi, tyD, kb_tuple_tuple, Option.map_some]
theorem is_ktp_str (x : List D) : dIsi [(.ktp x), .ty "str"] = some (.bl false) := by simp only [dIsi, tyD, kb_tuple_str, Option.map_some]
theorem is_ktp_list (x : List D) : dIsi [(.ktp x), .ty "list"] = some (.bl false) := by simp only [dIsi, tyD, kb_tuple_list, Option.map_some]
theorem is_ktp_dict (x : List D) : dIsi [(.ktp x), .ty "dict"] = some (.bl false) := by simp only [dIsi, tyD, kb_tuple_dict, Option.map_some]
theorem eq_int (i j : Int) : dEq (.int i) (.int j) = some (.bl (decide (i = j))) := by
  simp [dEq, ready, okD, toPy, PyData.depth, eqB, PyData.eqv, BEq.beq]
theorem ne_int (i j : Int) : dNe (.int i) (.int j) = some (.bl (!decide (i = j))) := by
  simp [dNe, ready, okD, toPy, PyData.depth, eqB, PyData.eqv, BEq.beq]
theorem eq_bl (i j : Bool) : dEq (.bl i) (.bl j) = some (.bl (decide (i = j))) := by
  cases i <;> cases j <;> simp [dEq, ready, okD, toPy, PyData.depth, eqB, PyData.eqv]
theorem ne_bl (i j : Bool) : dNe (.bl i) (.bl j) = some (.bl (!decide (i = j))) := by
  cases i <;> cases j <;> simp [dNe, ready, okD, toPy, PyData.depth, eqB, PyData.eqv]
theorem eq_str (i j : Str) : dEq (.str i) (.str j) = some (.bl (decide (i = j))) := rfl
theorem ne_str (i j : Str) : dNe (.str i) (.str j) = some (.bl (!decide (i = j))) := rfl
theorem tr_bl (b : Bool) : dTruth (.bl b) = some b := rfl
theorem tr_int (b : Int) : dTruth (.int b) = some (b != 0) := rfl
theorem ad_int (i j : Int) : dAdd (.int i) (.int j) = some (.int (i + j)) := rfl
theorem sb_int (i j : Int) : dSub (.int i) (.int j) = some (.int (i - j)) := rfl
theorem ng_int (i : Int) : dNeg (.int i) = some (.int (-i)) := rfl
theorem lt_int' (i j : Int) : dLt (.int i) (.int j) = some (.bl (decide (i < j))) := rfl
theorem le_int' (i j : Int) : dLe (.int i) (.int j) = some (.bl (decide (i ≤ j))) := rfl
theorem gt_int' (i j : Int) : dGt (.int i) (.int j) = some (.bl (decide (j < i))) := rfl
theorem ge_int' (i j : Int) : dGe (.int i) (.int j) = some (.bl (decide (j ≤ i))) := rfl
theorem md_int (i j : Int) : dMod (.int i) (.int j) = if j ≠ 0 then some (.int (i.fmod j)) else none := rfl
theorem fd_int (i j : Int) : dFdiv (.int i) (.int j) = if CFd i j then some (.int (i.fdiv j)) else none := rfl
theorem pw_int (i j : Int) : dPow (.int i) (.int j) = if CPw i j then some (.int (i ^ j.toNat)) else none := rfl
theorem ml_int (i j : Int) : dMul (.int i) (.int j) = if CMulX i j then some (.int (i * j)) else none := rfl
theorem ml_tup (a : List D) (k : Int) : dMul (.tup a) (.int k) = if a.length ≤ 1000 ∧ k ≤ 1000 ∧ -1000 ≤ k then some (.tup (List.replicate k.toNat a).flatten) else none := rfl
theorem ad_tup (a b : List D) : dAdd (.tup a) (.tup b) = if a.length + b.length ≤ 16777216 then some (.tup (a ++ b)) else none := rfl
theorem ad_lst (a b : List D) : dAdd (.lst a) (.lst b) = if a.length + b.length ≤ 16777216 then some (.lst (a ++ b)) else none := rfl
theorem ad_str (a b : Str) : dAdd (.str a) (.str b) = if a.length + b.length ≤ 16777216 then some (.str (a ++ b)) else none := rfl
theorem ab_int (i : Int) : dAbs [.int i] = some (.int (if i < 0 then -i else i)) := rfl
theorem ln_tup (xs : List D) {s : S} : lenT s [.tup xs] = some (.int xs.length) := rfl
theorem ln_lst (xs : List D) {s : S} : lenT s [.lst xs] = some (.int xs.length) := rfl
theorem ln_frz (xs : List D) {s : S} : lenT s [.frz xs] = some (.int xs.length) := rfl
theorem ln_ktp (xs : List D) {s : S} : lenT s [.ktp xs] = some (.int xs.length) := rfl
theorem ln_dct (xs : List (D × D)) {s : S} : lenT s [.dct xs] = some (.int xs.length) := rfl
theorem ln_tok (n : Nat) {s : S} : lenT s [.tok n] = (tokL s n).map fun l => .int l.length := rfl
theorem ix_tup (xs : List D) (i : Int) {s : S} : dIxT s (.tup xs) (.int i) = atI xs i := rfl
theorem ix_lst (xs : List D) (i : Int) {s : S} : dIxT s (.lst xs) (.int i) = atI xs i := rfl
theorem ix_frz (xs : List D) (i : Int) {s : S} : dIxT s (.frz xs) (.int i) = atI xs i := rfl
theorem ix_ktp (xs : List D) (i : Int) {s : S} : dIxT s (.ktp xs) (.int i) = atI xs i := rfl
theorem ix_tok (n : Nat) (i : Int) {s : S} : dIxT s (.tok n) (.int i) = (tokL s n).bind fun ds => atI ds i := rfl
theorem dI_tup (x : List D) : dIter (.tup x) = some x := rfl
theorem dI_lst (x : List D) : dIter (.lst x) = some x := rfl
theorem dI_frz (x : List D) : dIter (.frz x) = some x := rfl
theorem dI_ktp (x : List D) : dIter (.ktp x) = some x := rfl
theorem dI_str (x : Str) : dIter (.str x) = some (strD x) := rfl
theorem to_lst (x : List D) : dTupOf [.lst x] = some (.tup x) := rfl
theorem to_tup (x : List D) : dTupOf [.tup x] = some (.tup x) := rfl
theorem to_frz (x : List D) : dTupOf [.frz x] = some (.tup x) := rfl
theorem lo_lst (x : List D) : dLstOf [.lst x] = some (.lst x) := rfl
theorem lo_tup (x : List D) : dLstOf [.tup x] = some (.lst x) := rfl
theorem lo_frz (x : List D) : dLstOf [.frz x] = some (.lst x) := rfl
theorem al_lst (x : List D) : dAll [.lst x] = (blsOf x).map fun ns => .bl (ns.all id) := rfl
theorem an_lst (x : List D) : dAny [.lst x] = (blsOf x).map fun ns => .bl (ns.any id) := rfl
theorem sm_lst (x : List D) : dSum [.lst x] = (intsOf x).map fun ns => .int ns.sum := rfl
theorem sl_tup (x : List D) (l h : Option Int) : dSl (.tup x) l h = some (.tup (cutL x l h)) := rfl
theorem sl_lst (x : List D) (l h : Option Int) : dSl (.lst x) l h = some (.lst (cutL x l h)) := rfl
theorem sl_frz (x : List D) (l h : Option Int) : dSl (.frz x) l h = some (.lst (cutL x l h)) := rfl
theorem al_add (a b : List D) : dAddL (.lst a) (.lst b) = if a.length + b.length ≤ 16777216 then some (.lst (a ++ b)) else none := rfl
theorem st_int (i : Int) : dStr [.int i] = if i.natAbs.log2 < 1920 then some (.str (toString i)) else none := rfl
theorem st_str (i : Str) : dStr [.str i] = some (.str i) := rfl
theorem nt_int (i : Int) : dInt [.int i] = some (.int i) := rfl
theorem nt_bl (k : Bool) : dInt [.bl k] = some (.int (if k then 1 else 0)) := rfl
theorem mx_int (i j : Int) : dMax [.int i, .int j] = some (.int (if j > i then j else i)) := rfl
theorem mn_int (i j : Int) : dMin [.int i, .int j] = some (.int (if j < i then j else i)) := rfl
theorem rp_any (L : Nat) (d : D) : dRepr L [d] = repD L d := rfl
theorem nT_tok (n : Nat) (y : D) {s : S} : dNeT s (.tok n) y = (tokL s n).bind fun ds => dNe (.lst ds) y := rfl
theorem is_bl (a b : Bool) : dIs (.bl a) (.bl b) = some (.bl (decide (a = b))) := rfl
theorem isnt_bl (a b : Bool) : dIsnt (.bl a) (.bl b) = some (.bl (!decide (a = b))) := rfl
theorem ex_map {α β : Type} {o : Option α} {f : α → β} {P : β → Prop} : (∃ z, o.map f = some z ∧ P z) = ∃ z, o = some z ∧ P (f z) := by cases o <;> simp
theorem ex_bind {α β : Type} {o : Option α} {f : α → Option β} {P : β → Prop} : (∃ z, o.bind f = some z ∧ P z) = ∃ a, o = some a ∧ ∃ z, f a = some z ∧ P z := by cases o <;> simp
theorem at_0 {a : D} {l : List D} : atI (a :: l) 0 = some a := atI_nat (j := 0) rfl
theorem at_1 {a b : D} {l : List D} : atI (a :: b :: l) 1 = some b := atI_nat (j := 1) rfl
theorem at_2 {a b c : D} {l : List D} : atI (a :: b :: c :: l) 2 = some c := atI_nat (j := 2) rfl
theorem at_3 {a b c d : D} {l : List D} : atI (a :: b :: c :: d :: l) 3 = some d := atI_nat (j := 3) rfl
theorem at_4 {a b c d e : D} {l : List D} : atI (a :: b :: c :: d :: e :: l) 4 = some e := atI_nat (j := 4) rfl
theorem tk_0 {ds : List D} {r : S} : tokL (.l ds :: r) 0 = some ds := rfl
theorem tk_1 {c : Cell} {ds : List D} {r : S} : tokL (c :: .l ds :: r) 1 = some ds := rfl
theorem st_1 {c d e : Cell} {r : S} : (c :: d :: r).set 1 e = c :: e :: r := rfl
theorem atI_of {xs : List D} {i : Int} (h0 : 0 ≤ i) (h1 : i < xs.length) : ∃ d, atI xs i = some d ∧ xs[i.toNat]? = some d := by
  have h : i.toNat < xs.length := by omega
  refine ⟨xs[i.toNat], ?_, List.getElem?_eq_getElem h⟩
  have := atI_nat (xs := xs) (j := i.toNat) (v := xs[i.toNat]) (List.getElem?_eq_getElem h)
  rwa [Int.toNat_of_nonneg h0] at this
theorem fmod_rng {i j : Int} (h : 0 < j) : 0 ≤ i.fmod j ∧ i.fmod j < j := ⟨Int.fmod_nonneg_of_pos i h, Int.fmod_lt_of_pos i h⟩
theorem fdiv_nn {i j : Int} (h0 : 0 ≤ i) (h : 0 < j) : 0 ≤ i.fdiv j := Int.fdiv_nonneg h0 (Int.le_of_lt h)
/-- the law's pen: the script's numbers, the place, what is left -/
def Pen (k : Int) (r : S) (s : S) : Prop := ∃ (ns : List Int) (p left : Int), s = .l (ns.map .int) :: .l [.tok 0, .int p, .int left] :: r ∧ 0 ≤ p ∧ p ≤ k ∧ 0 ≤ left
/-- what a draw hands out -/
def Drawn (m k : Int) (r : S) (a : D) (s : S) : Prop := ∃ i, a = .int i ∧ 0 ≤ i ∧ i < m ∧ Pen (k + 1) r s
theorem bits_le {i : Int} {n : Nat} (h : i.natAbs < 2 ^ n) : Builtin.Int.intBits i ≤ n := by
  unfold Builtin.Int.intBits
  split
  · exact Nat.zero_le _
  · rename_i h0
    have hne : i.natAbs ≠ 0 := by
      intro z
      exact h0 (by simp [Int.natAbs_eq_zero.mp z])
    exact (Nat.log2_lt hne).mpr h
theorem nab_lt {i : Int} {B : Nat} (h0 : -(B : Int) < i) (h1 : i < B) : i.natAbs < B := by omega
theorem cmul_of {i j : Int} {n m : Nat} (h1 : i.natAbs < 2 ^ n) (h2 : j.natAbs < 2 ^ m) (h : n + m ≤ 134217728 := by decide) : CMulX i j := by
  have a := bits_le h1
  have b := bits_le h2
  unfold CMulX
  omega
theorem cpw_of {i : Int} {n k : Nat} (h1 : i.natAbs < 2 ^ n) (h : n * k ≤ 134217728 := by decide) : CPw i (k : Int) := by
  have a := bits_le h1
  refine ⟨Int.natCast_nonneg k, ?_⟩
  have : Builtin.Int.intBits i * k ≤ n * k := Nat.mul_le_mul_right k a
  have e : ((Builtin.Int.intBits i * k : Nat) : Int) = (Builtin.Int.intBits i : Int) * (k : Int) := by push_cast; rfl
  rw [← e]
  have : (2 : Int) ^ 27 = 134217728 := by decide
  omega
theorem cfd_of {i j : Int} (h0 : j ≠ 0) (h : j.natAbs < 2 ^ 64) : CFd i j := by
  refine ⟨h0, ?_⟩
  unfold Builtin.divisionGoesByPylong
  have : j.natAbs.log2 < 64 := (Nat.log2_lt (by omega)).mpr h
  have hb : (j == 0) = false := by simpa using h0
  simp only [hb]
  simp
  intro h1
  omega
end DL
namespace DL
open PySem PySem.Spec PyProof.Rows L2

/-! ### stops: what hides the rest from the rewriting -/
structure Wit {α : Type} (Q : α → S → Prop) (X : Str → S → Prop) : Type where
structure Wits (N B C : List Sl → S → Prop) (R : D → S → Prop) (X : Str → S → Prop) : Type where
/-- a call -/
def wpc {α : Type} (r : Res α) (Q : α → S → Prop) (X : Str → S → Prop) (_ : Wit Q X) : Prop := wp r Q X
/-- a loop -/
def wpl (clr : List Nat) (g : DG) (b : DS) (ds : List D) (ρ : List Sl) (s : S) (N B C : List Sl → S → Prop) (R : D → S → Prop) (X : Str → S → Prop) (_ : Wits N B C R X) : Prop := wps (loopN clr g b ds (wipeD ρ clr) s) N B C R X
def wpw (clr : List Nat) (c : DT) (b : DS) (ρ : List Sl) (s : S) (N B C : List Sl → S → Prop) (R : D → S → Prop) (X : Str → S → Prop) (_ : Wits N B C R X) : Prop := wps (sWhile clr c b ρ s) N B C R X
/-- a comprehension -/
def wpk (vs : List Nat) (g : DG) (c : DT) (f : DE) (ds : List D) (ρ : List Sl) (s : S) (Q : D → S → Prop) (X : Str → S → Prop) (_ : Wit Q X) : Prop :=
  ds.length ≤ 16777216 ∧ wp (compN g c f (wipeD ρ vs) ds s) (fun ys s2 => Q (.lst ys) s2) fun _ _ => False
/-- slots are set -/
def wpn (ρ : List Sl) : List (Nat × Sl) → (List Sl → Prop) → Prop
  | [], P => P ρ
  | (i, x) :: u, P => wpn (setAt ρ i x) u P
section
variable {α β : Type} {Q Q' : α → S → Prop} {X X' : Str → S → Prop} {ρ : List Sl} {s : S} {N B C : List Sl → S → Prop} {R : D → S → Prop}
theorem wpc_of {r : Res α} {w : Wit Q' X'} (h : wp r Q fun _ _ => False) (i : ∀ a s, Q a s → Q' a s) : wpc r Q' X' w := wp_call h i
theorem wpc_eq {r : Res α} {a : α} {w : Wit Q X} (h : r = .ok a s) (q : Q a s) : wpc r Q X w := wp_eq h q
theorem wpc_exc {r : Res α} {c : Str} {w : Wit Q X} (h : r = .exc c s) (q : X c s) : wpc r Q X w := by unfold wpc; rw [h, wp_exc]; exact q
theorem wpn_nil {P : List Sl → Prop} : wpn ρ [] P = P ρ := by with_unfolding_all rfl
theorem q_call {F : DFun} {fs : DA} {Q : D → S → Prop} : wp (eCall F fs ρ s) Q X = wp (fs ρ s) (fun ds s1 => wpc (F ds s1) Q X ⟨⟩) X := wp_bind
theorem q_comp {vs : List Nat} {fi : DA} {g : DG} {c : DT} {f : DE} {Q : D → S → Prop} : wp (eComp vs fi g c f ρ s) Q X = wp (fi ρ s) (fun ds s1 => wpk vs g c f ds ρ s1 Q X ⟨⟩) X := by
  unfold eComp
  rw [wp_bind]
  congr 1
  funext ds s1
  unfold wpk
  by_cases h : ds.length ≤ 16777216
  · rw [if_pos h]
    simp only [h, true_and]
    cases compN g c f (wipeD ρ vs) ds s1 <;> (with_unfolding_all rfl)
  · rw [if_neg h]
    simp only [h, false_and]
    with_unfolding_all rfl
theorem q_for {clr : List Nat} {fi : DA} {g : DG} {b : DS} : wps (sFor clr fi g b ρ s) N B C R X = wp (fi ρ s) (fun ds s1 => wpl clr g b ds ρ s1 N B C R X ⟨⟩) X := by
  unfold sFor
  rw [wps_then]
  with_unfolding_all rfl
theorem q_while {clr : List Nat} {c : DT} {b : DS} : wps (sWhile clr c b ρ s) N B C R X = wpw clr c b ρ s N B C R X ⟨⟩ := by with_unfolding_all rfl
theorem q_set {i : Nat} {f : DE} : wps (sSet i f ρ s) N B C R X = wp (f ρ s) (fun d s => wpn ρ [(i, .dat d)] fun ρ => N ρ s) X := wps_set
theorem q_own {i : Nat} {f : DE} : wps (sOwn i f ρ s) N B C R X = wp (f ρ s) (fun d s => ∃ ds, d = .lst ds ∧ wpn ρ [(i, .own ds)] fun ρ => N ρ s) X := wps_own
theorem q_par {i j : Nat} {fs : DA} : wps (sPar i j fs ρ s) N B C R X = wp (fs ρ s) (fun ds s => ∃ d e, ds = [d, e] ∧ wpn ρ [(i, .dat d), (j, .dat e)] fun ρ => N ρ s) X := wps_par
theorem q_par2 {d e : D} {P : D → D → Prop} : (∃ d' e', [d, e] = [d', e'] ∧ P d' e') = P d e := by
  refine propext ⟨fun ⟨d', e', h, q⟩ => ?_, fun q => ⟨d, e, rfl, q⟩⟩
  cases h
  exact q
theorem q_gN {i : Nat} {d : D} {P : List Sl → Prop} : (∃ ρ1, gN i d ρ = some ρ1 ∧ P ρ1) = wpn ρ [(i, .dat d)] P := by
  unfold gN
  rw [set_at]
  simp [wpn]
theorem q_gT {n : Nat} {h : List D → List Sl → Option (List Sl)} {ds : List D} {P : List Sl → Prop} : (∃ ρ1, gT n h (.tup ds) ρ = some ρ1 ∧ P ρ1) = (ds.length = n ∧ ∃ ρ1, h ds ρ = some ρ1 ∧ P ρ1) := by
  unfold gT
  by_cases e : ds.length = n <;> simp [e]
theorem q_gTk {n : Nat} {h : List D → List Sl → Option (List Sl)} {ds : List D} {P : List Sl → Prop} : (∃ ρ1, gT n h (.ktp ds) ρ = some ρ1 ∧ P ρ1) = (ds.length = n ∧ ∃ ρ1, h ds ρ = some ρ1 ∧ P ρ1) := by
  unfold gT
  by_cases e : ds.length = n <;> simp [e]
theorem q_gsNil {P : List Sl → Prop} : (∃ ρ1, gsNil [] ρ = some ρ1 ∧ P ρ1) = P ρ := by simp [gsNil]
theorem q_gsCons {g : DG} {h : List D → List Sl → Option (List Sl)} {d : D} {ds : List D} {P : List Sl → Prop} : (∃ ρ1, gsCons g h (d :: ds) ρ = some ρ1 ∧ P ρ1) = ∃ ρ1, g d ρ = some ρ1 ∧ ∃ ρ2, h ds ρ1 = some ρ2 ∧ P ρ2 := by
  show (∃ ρ1, (g d ρ).bind (fun ρ1 => h ds ρ1) = some ρ1 ∧ P ρ1) = _
  exact ex_bind
theorem q_tbl {b : Bool} {P : Bool → Prop} : (∃ c, D.bl b = .bl c ∧ P c) = P b := by simp
theorem q_oint {i : Int} {P : Int → Prop} : (∃ c, D.int i = .int c ∧ P c) = P i := by simp
theorem q_lst {i : List D} {P : List D → Prop} : (∃ c, D.lst i = .lst c ∧ P c) = P i := by simp
theorem q_r1 {i : Int} {P : Int → Prop} : (∃ j, [D.int i] = [D.int j] ∧ P j) = P i := by
  refine propext ⟨fun ⟨j, h, q⟩ => ?_, fun q => ⟨i, rfl, q⟩⟩
  cases h
  exact q
theorem q_r2 {i j : Int} {P : Int → Int → Prop} : (∃ a b, [D.int i, D.int j] = [D.int a, D.int b] ∧ P a b) = P i j := by
  refine propext ⟨fun ⟨a, b, h, q⟩ => ?_, fun q => ⟨i, j, rfl, q⟩⟩
  cases h
  exact q
theorem q_put {n : Nat} {i : Int} {s3 : S} {d : D} {P : Nat → List D → Nat → Prop} : (∃ n' i' l j, D.tok n = .tok n' ∧ D.int i = .int i' ∧ tokL s3 n' = some l ∧ ixN l.length i' = some j ∧ flat d = true ∧ P n' l j) = ∃ l, tokL s3 n = some l ∧ ∃ j, ixN l.length i = some j ∧ flat d = true ∧ P n l j := by
  refine propext ⟨fun ⟨n', i', l, j, e1, e2, q⟩ => ?_, fun ⟨l, e1, j, e2, e3, q⟩ => ⟨n, i, l, j, rfl, rfl, e1, e2, e3, q⟩⟩
  cases e1; cases e2
  exact ⟨l, q.1, j, q.2.1, q.2.2.1, q.2.2.2⟩
theorem q_def {N' n : Nat} {g : DS} {ds : List D} {Q : D → S → Prop} : wp (defD N' n g ds s) Q X = (ds.length = n ∧ wpn (ds.map .dat ++ List.replicate (N' - n) .emp) [] fun ρ => wps (g ρ s) (fun _ s => Q .non s) (fun _ _ => False) (fun _ _ => False) Q X) := wp_defD
theorem q_ite {P : Bool → Prop} {c : Prop} [Decidable c] : P (decide c) = if c then P true else P false := by by_cases h : c <;> simp [h]

theorem v_0 {r : List Sl} {d : D} {Q : D → S → Prop} : wp (eV 0 (.dat d :: r) s) Q X = Q d s := by with_unfolding_all rfl
theorem n_0 {r : List Sl} {y z : Sl} {u : List (Nat × Sl)} {P : List Sl → Prop} : wpn (y :: r) ((0, z) :: u) P = wpn (z :: r) u P := by with_unfolding_all rfl
theorem v_1 {x0 : Sl} {r : List Sl} {d : D} {Q : D → S → Prop} : wp (eV 1 (x0 :: .dat d :: r) s) Q X = Q d s := by with_unfolding_all rfl
theorem n_1 {x0 : Sl} {r : List Sl} {y z : Sl} {u : List (Nat × Sl)} {P : List Sl → Prop} : wpn (x0 :: y :: r) ((1, z) :: u) P = wpn (x0 :: z :: r) u P := by with_unfolding_all rfl
theorem v_2 {x0 x1 : Sl} {r : List Sl} {d : D} {Q : D → S → Prop} : wp (eV 2 (x0 :: x1 :: .dat d :: r) s) Q X = Q d s := by with_unfolding_all rfl
theorem n_2 {x0 x1 : Sl} {r : List Sl} {y z : Sl} {u : List (Nat × Sl)} {P : List Sl → Prop} : wpn (x0 :: x1 :: y :: r) ((2, z) :: u) P = wpn (x0 :: x1 :: z :: r) u P := by with_unfolding_all rfl
theorem v_3 {x0 x1 x2 : Sl} {r : List Sl} {d : D} {Q : D → S → Prop} : wp (eV 3 (x0 :: x1 :: x2 :: .dat d :: r) s) Q X = Q d s := by with_unfolding_all rfl
theorem n_3 {x0 x1 x2 : Sl} {r : List Sl} {y z : Sl} {u : List (Nat × Sl)} {P : List Sl → Prop} : wpn (x0 :: x1 :: x2 :: y :: r) ((3, z) :: u) P = wpn (x0 :: x1 :: x2 :: z :: r) u P := by with_unfolding_all rfl
theorem v_4 {x0 x1 x2 x3 : Sl} {r : List Sl} {d : D} {Q : D → S → Prop} : wp (eV 4 (x0 :: x1 :: x2 :: x3 :: .dat d :: r) s) Q X = Q d s := by with_unfolding_all rfl
theorem n_4 {x0 x1 x2 x3 : Sl} {r : List Sl} {y z : Sl} {u : List (Nat × Sl)} {P : List Sl → Prop} : wpn (x0 :: x1 :: x2 :: x3 :: y :: r) ((4, z) :: u) P = wpn (x0 :: x1 :: x2 :: x3 :: z :: r) u P := by with_unfolding_all rfl
theorem v_5 {x0 x1 x2 x3 x4 : Sl} {r : List Sl} {d : D} {Q : D → S → Prop} : wp (eV 5 (x0 :: x1 :: x2 :: x3 :: x4 :: .dat d :: r) s) Q X = Q d s := by with_unfolding_all rfl
theorem n_5 {x0 x1 x2 x3 x4 : Sl} {r : List Sl} {y z : Sl} {u : List (Nat × Sl)} {P : List Sl → Prop} : wpn (x0 :: x1 :: x2 :: x3 :: x4 :: y :: r) ((5, z) :: u) P = wpn (x0 :: x1 :: x2 :: x3 :: x4 :: z :: r) u P := by with_unfolding_all rfl
theorem v_6 {x0 x1 x2 x3 x4 x5 : Sl} {r : List Sl} {d : D} {Q : D → S → Prop} : wp (eV 6 (x0 :: x1 :: x2 :: x3 :: x4 :: x5 :: .dat d :: r) s) Q X = Q d s := by with_unfolding_all rfl
theorem n_6 {x0 x1 x2 x3 x4 x5 : Sl} {r : List Sl} {y z : Sl} {u : List (Nat × Sl)} {P : List Sl → Prop} : wpn (x0 :: x1 :: x2 :: x3 :: x4 :: x5 :: y :: r) ((6, z) :: u) P = wpn (x0 :: x1 :: x2 :: x3 :: x4 :: x5 :: z :: r) u P := by with_unfolding_all rfl
theorem v_7 {x0 x1 x2 x3 x4 x5 x6 : Sl} {r : List Sl} {d : D} {Q : D → S → Prop} : wp (eV 7 (x0 :: x1 :: x2 :: x3 :: x4 :: x5 :: x6 :: .dat d :: r) s) Q X = Q d s := by with_unfolding_all rfl
theorem n_7 {x0 x1 x2 x3 x4 x5 x6 : Sl} {r : List Sl} {y z : Sl} {u : List (Nat × Sl)} {P : List Sl → Prop} : wpn (x0 :: x1 :: x2 :: x3 :: x4 :: x5 :: x6 :: y :: r) ((7, z) :: u) P = wpn (x0 :: x1 :: x2 :: x3 :: x4 :: x5 :: x6 :: z :: r) u P := by with_unfolding_all rfl
theorem v_8 {x0 x1 x2 x3 x4 x5 x6 x7 : Sl} {r : List Sl} {d : D} {Q : D → S → Prop} : wp (eV 8 (x0 :: x1 :: x2 :: x3 :: x4 :: x5 :: x6 :: x7 :: .dat d :: r) s) Q X = Q d s := by with_unfolding_all rfl
theorem n_8 {x0 x1 x2 x3 x4 x5 x6 x7 : Sl} {r : List Sl} {y z : Sl} {u : List (Nat × Sl)} {P : List Sl → Prop} : wpn (x0 :: x1 :: x2 :: x3 :: x4 :: x5 :: x6 :: x7 :: y :: r) ((8, z) :: u) P = wpn (x0 :: x1 :: x2 :: x3 :: x4 :: x5 :: x6 :: x7 :: z :: r) u P := by with_unfolding_all rfl
theorem v_9 {x0 x1 x2 x3 x4 x5 x6 x7 x8 : Sl} {r : List Sl} {d : D} {Q : D → S → Prop} : wp (eV 9 (x0 :: x1 :: x2 :: x3 :: x4 :: x5 :: x6 :: x7 :: x8 :: .dat d :: r) s) Q X = Q d s := by with_unfolding_all rfl
theorem n_9 {x0 x1 x2 x3 x4 x5 x6 x7 x8 : Sl} {r : List Sl} {y z : Sl} {u : List (Nat × Sl)} {P : List Sl → Prop} : wpn (x0 :: x1 :: x2 :: x3 :: x4 :: x5 :: x6 :: x7 :: x8 :: y :: r) ((9, z) :: u) P = wpn (x0 :: x1 :: x2 :: x3 :: x4 :: x5 :: x6 :: x7 :: x8 :: z :: r) u P := by with_unfolding_all rfl
theorem v_10 {x0 x1 x2 x3 x4 x5 x6 x7 x8 x9 : Sl} {r : List Sl} {d : D} {Q : D → S → Prop} : wp (eV 10 (x0 :: x1 :: x2 :: x3 :: x4 :: x5 :: x6 :: x7 :: x8 :: x9 :: .dat d :: r) s) Q X = Q d s := by with_unfolding_all rfl
theorem n_10 {x0 x1 x2 x3 x4 x5 x6 x7 x8 x9 : Sl} {r : List Sl} {y z : Sl} {u : List (Nat × Sl)} {P : List Sl → Prop} : wpn (x0 :: x1 :: x2 :: x3 :: x4 :: x5 :: x6 :: x7 :: x8 :: x9 :: y :: r) ((10, z) :: u) P = wpn (x0 :: x1 :: x2 :: x3 :: x4 :: x5 :: x6 :: x7 :: x8 :: x9 :: z :: r) u P := by with_unfolding_all rfl
theorem v_11 {x0 x1 x2 x3 x4 x5 x6 x7 x8 x9 x10 : Sl} {r : List Sl} {d : D} {Q : D → S → Prop} : wp (eV 11 (x0 :: x1 :: x2 :: x3 :: x4 :: x5 :: x6 :: x7 :: x8 :: x9 :: x10 :: .dat d :: r) s) Q X = Q d s := by with_unfolding_all rfl
theorem n_11 {x0 x1 x2 x3 x4 x5 x6 x7 x8 x9 x10 : Sl} {r : List Sl} {y z : Sl} {u : List (Nat × Sl)} {P : List Sl → Prop} : wpn (x0 :: x1 :: x2 :: x3 :: x4 :: x5 :: x6 :: x7 :: x8 :: x9 :: x10 :: y :: r) ((11, z) :: u) P = wpn (x0 :: x1 :: x2 :: x3 :: x4 :: x5 :: x6 :: x7 :: x8 :: x9 :: x10 :: z :: r) u P := by with_unfolding_all rfl
theorem v_12 {x0 x1 x2 x3 x4 x5 x6 x7 x8 x9 x10 x11 : Sl} {r : List Sl} {d : D} {Q : D → S → Prop} : wp (eV 12 (x0 :: x1 :: x2 :: x3 :: x4 :: x5 :: x6 :: x7 :: x8 :: x9 :: x10 :: x11 :: .dat d :: r) s) Q X = Q d s := by with_unfolding_all rfl
theorem n_12 {x0 x1 x2 x3 x4 x5 x6 x7 x8 x9 x10 x11 : Sl} {r : List Sl} {y z : Sl} {u : List (Nat × Sl)} {P : List Sl → Prop} : wpn (x0 :: x1 :: x2 :: x3 :: x4 :: x5 :: x6 :: x7 :: x8 :: x9 :: x10 :: x11 :: y :: r) ((12, z) :: u) P = wpn (x0 :: x1 :: x2 :: x3 :: x4 :: x5 :: x6 :: x7 :: x8 :: x9 :: x10 :: x11 :: z :: r) u P := by with_unfolding_all rfl
theorem v_13 {x0 x1 x2 x3 x4 x5 x6 x7 x8 x9 x10 x11 x12 : Sl} {r : List Sl} {d : D} {Q : D → S → Prop} : wp (eV 13 (x0 :: x1 :: x2 :: x3 :: x4 :: x5 :: x6 :: x7 :: x8 :: x9 :: x10 :: x11 :: x12 :: .dat d :: r) s) Q X = Q d s := by with_unfolding_all rfl
theorem n_13 {x0 x1 x2 x3 x4 x5 x6 x7 x8 x9 x10 x11 x12 : Sl} {r : List Sl} {y z : Sl} {u : List (Nat × Sl)} {P : List Sl → Prop} : wpn (x0 :: x1 :: x2 :: x3 :: x4 :: x5 :: x6 :: x7 :: x8 :: x9 :: x10 :: x11 :: x12 :: y :: r) ((13, z) :: u) P = wpn (x0 :: x1 :: x2 :: x3 :: x4 :: x5 :: x6 :: x7 :: x8 :: x9 :: x10 :: x11 :: x12 :: z :: r) u P := by with_unfolding_all rfl
theorem v_14 {x0 x1 x2 x3 x4 x5 x6 x7 x8 x9 x10 x11 x12 x13 : Sl} {r : List Sl} {d : D} {Q : D → S → Prop} : wp (eV 14 (x0 :: x1 :: x2 :: x3 :: x4 :: x5 :: x6 :: x7 :: x8 :: x9 :: x10 :: x11 :: x12 :: x13 :: .dat d :: r) s) Q X = Q d s := by with_unfolding_all rfl
theorem n_14 {x0 x1 x2 x3 x4 x5 x6 x7 x8 x9 x10 x11 x12 x13 : Sl} {r : List Sl} {y z : Sl} {u : List (Nat × Sl)} {P : List Sl → Prop} : wpn (x0 :: x1 :: x2 :: x3 :: x4 :: x5 :: x6 :: x7 :: x8 :: x9 :: x10 :: x11 :: x12 :: x13 :: y :: r) ((14, z) :: u) P = wpn (x0 :: x1 :: x2 :: x3 :: x4 :: x5 :: x6 :: x7 :: x8 :: x9 :: x10 :: x11 :: x12 :: x13 :: z :: r) u P := by with_unfolding_all rfl
theorem v_15 {x0 x1 x2 x3 x4 x5 x6 x7 x8 x9 x10 x11 x12 x13 x14 : Sl} {r : List Sl} {d : D} {Q : D → S → Prop} : wp (eV 15 (x0 :: x1 :: x2 :: x3 :: x4 :: x5 :: x6 :: x7 :: x8 :: x9 :: x10 :: x11 :: x12 :: x13 :: x14 :: .dat d :: r) s) Q X = Q d s := by with_unfolding_all rfl
theorem n_15 {x0 x1 x2 x3 x4 x5 x6 x7 x8 x9 x10 x11 x12 x13 x14 : Sl} {r : List Sl} {y z : Sl} {u : List (Nat × Sl)} {P : List Sl → Prop} : wpn (x0 :: x1 :: x2 :: x3 :: x4 :: x5 :: x6 :: x7 :: x8 :: x9 :: x10 :: x11 :: x12 :: x13 :: x14 :: y :: r) ((15, z) :: u) P = wpn (x0 :: x1 :: x2 :: x3 :: x4 :: x5 :: x6 :: x7 :: x8 :: x9 :: x10 :: x11 :: x12 :: x13 :: x14 :: z :: r) u P := by with_unfolding_all rfl
theorem v_16 {x0 x1 x2 x3 x4 x5 x6 x7 x8 x9 x10 x11 x12 x13 x14 x15 : Sl} {r : List Sl} {d : D} {Q : D → S → Prop} : wp (eV 16 (x0 :: x1 :: x2 :: x3 :: x4 :: x5 :: x6 :: x7 :: x8 :: x9 :: x10 :: x11 :: x12 :: x13 :: x14 :: x15 :: .dat d :: r) s) Q X = Q d s := by with_unfolding_all rfl
theorem n_16 {x0 x1 x2 x3 x4 x5 x6 x7 x8 x9 x10 x11 x12 x13 x14 x15 : Sl} {r : List Sl} {y z : Sl} {u : List (Nat × Sl)} {P : List Sl → Prop} : wpn (x0 :: x1 :: x2 :: x3 :: x4 :: x5 :: x6 :: x7 :: x8 :: x9 :: x10 :: x11 :: x12 :: x13 :: x14 :: x15 :: y :: r) ((16, z) :: u) P = wpn (x0 :: x1 :: x2 :: x3 :: x4 :: x5 :: x6 :: x7 :: x8 :: x9 :: x10 :: x11 :: x12 :: x13 :: x14 :: x15 :: z :: r) u P := by with_unfolding_all rfl
theorem v_17 {x0 x1 x2 x3 x4 x5 x6 x7 x8 x9 x10 x11 x12 x13 x14 x15 x16 : Sl} {r : List Sl} {d : D} {Q : D → S → Prop} : wp (eV 17 (x0 :: x1 :: x2 :: x3 :: x4 :: x5 :: x6 :: x7 :: x8 :: x9 :: x10 :: x11 :: x12 :: x13 :: x14 :: x15 :: x16 :: .dat d :: r) s) Q X = Q d s := by with_unfolding_all rfl
theorem n_17 {x0 x1 x2 x3 x4 x5 x6 x7 x8 x9 x10 x11 x12 x13 x14 x15 x16 : Sl} {r : List Sl} {y z : Sl} {u : List (Nat × Sl)} {P : List Sl → Prop} : wpn (x0 :: x1 :: x2 :: x3 :: x4 :: x5 :: x6 :: x7 :: x8 :: x9 :: x10 :: x11 :: x12 :: x13 :: x14 :: x15 :: x16 :: y :: r) ((17, z) :: u) P = wpn (x0 :: x1 :: x2 :: x3 :: x4 :: x5 :: x6 :: x7 :: x8 :: x9 :: x10 :: x11 :: x12 :: x13 :: x14 :: x15 :: x16 :: z :: r) u P := by with_unfolding_all rfl
theorem v_18 {x0 x1 x2 x3 x4 x5 x6 x7 x8 x9 x10 x11 x12 x13 x14 x15 x16 x17 : Sl} {r : List Sl} {d : D} {Q : D → S → Prop} : wp (eV 18 (x0 :: x1 :: x2 :: x3 :: x4 :: x5 :: x6 :: x7 :: x8 :: x9 :: x10 :: x11 :: x12 :: x13 :: x14 :: x15 :: x16 :: x17 :: .dat d :: r) s) Q X = Q d s := by with_unfolding_all rfl
theorem n_18 {x0 x1 x2 x3 x4 x5 x6 x7 x8 x9 x10 x11 x12 x13 x14 x15 x16 x17 : Sl} {r : List Sl} {y z : Sl} {u : List (Nat × Sl)} {P : List Sl → Prop} : wpn (x0 :: x1 :: x2 :: x3 :: x4 :: x5 :: x6 :: x7 :: x8 :: x9 :: x10 :: x11 :: x12 :: x13 :: x14 :: x15 :: x16 :: x17 :: y :: r) ((18, z) :: u) P = wpn (x0 :: x1 :: x2 :: x3 :: x4 :: x5 :: x6 :: x7 :: x8 :: x9 :: x10 :: x11 :: x12 :: x13 :: x14 :: x15 :: x16 :: x17 :: z :: r) u P := by with_unfolding_all rfl
theorem v_19 {x0 x1 x2 x3 x4 x5 x6 x7 x8 x9 x10 x11 x12 x13 x14 x15 x16 x17 x18 : Sl} {r : List Sl} {d : D} {Q : D → S → Prop} : wp (eV 19 (x0 :: x1 :: x2 :: x3 :: x4 :: x5 :: x6 :: x7 :: x8 :: x9 :: x10 :: x11 :: x12 :: x13 :: x14 :: x15 :: x16 :: x17 :: x18 :: .dat d :: r) s) Q X = Q d s := by with_unfolding_all rfl
theorem n_19 {x0 x1 x2 x3 x4 x5 x6 x7 x8 x9 x10 x11 x12 x13 x14 x15 x16 x17 x18 : Sl} {r : List Sl} {y z : Sl} {u : List (Nat × Sl)} {P : List Sl → Prop} : wpn (x0 :: x1 :: x2 :: x3 :: x4 :: x5 :: x6 :: x7 :: x8 :: x9 :: x10 :: x11 :: x12 :: x13 :: x14 :: x15 :: x16 :: x17 :: x18 :: y :: r) ((19, z) :: u) P = wpn (x0 :: x1 :: x2 :: x3 :: x4 :: x5 :: x6 :: x7 :: x8 :: x9 :: x10 :: x11 :: x12 :: x13 :: x14 :: x15 :: x16 :: x17 :: x18 :: z :: r) u P := by with_unfolding_all rfl
theorem v_20 {x0 x1 x2 x3 x4 x5 x6 x7 x8 x9 x10 x11 x12 x13 x14 x15 x16 x17 x18 x19 : Sl} {r : List Sl} {d : D} {Q : D → S → Prop} : wp (eV 20 (x0 :: x1 :: x2 :: x3 :: x4 :: x5 :: x6 :: x7 :: x8 :: x9 :: x10 :: x11 :: x12 :: x13 :: x14 :: x15 :: x16 :: x17 :: x18 :: x19 :: .dat d :: r) s) Q X = Q d s := by with_unfolding_all rfl
theorem n_20 {x0 x1 x2 x3 x4 x5 x6 x7 x8 x9 x10 x11 x12 x13 x14 x15 x16 x17 x18 x19 : Sl} {r : List Sl} {y z : Sl} {u : List (Nat × Sl)} {P : List Sl → Prop} : wpn (x0 :: x1 :: x2 :: x3 :: x4 :: x5 :: x6 :: x7 :: x8 :: x9 :: x10 :: x11 :: x12 :: x13 :: x14 :: x15 :: x16 :: x17 :: x18 :: x19 :: y :: r) ((20, z) :: u) P = wpn (x0 :: x1 :: x2 :: x3 :: x4 :: x5 :: x6 :: x7 :: x8 :: x9 :: x10 :: x11 :: x12 :: x13 :: x14 :: x15 :: x16 :: x17 :: x18 :: x19 :: z :: r) u P := by with_unfolding_all rfl
theorem v_21 {x0 x1 x2 x3 x4 x5 x6 x7 x8 x9 x10 x11 x12 x13 x14 x15 x16 x17 x18 x19 x20 : Sl} {r : List Sl} {d : D} {Q : D → S → Prop} : wp (eV 21 (x0 :: x1 :: x2 :: x3 :: x4 :: x5 :: x6 :: x7 :: x8 :: x9 :: x10 :: x11 :: x12 :: x13 :: x14 :: x15 :: x16 :: x17 :: x18 :: x19 :: x20 :: .dat d :: r) s) Q X = Q d s := by with_unfolding_all rfl
theorem n_21 {x0 x1 x2 x3 x4 x5 x6 x7 x8 x9 x10 x11 x12 x13 x14 x15 x16 x17 x18 x19 x20 : Sl} {r : List Sl} {y z : Sl} {u : List (Nat × Sl)} {P : List Sl → Prop} : wpn (x0 :: x1 :: x2 :: x3 :: x4 :: x5 :: x6 :: x7 :: x8 :: x9 :: x10 :: x11 :: x12 :: x13 :: x14 :: x15 :: x16 :: x17 :: x18 :: x19 :: x20 :: y :: r) ((21, z) :: u) P = wpn (x0 :: x1 :: x2 :: x3 :: x4 :: x5 :: x6 :: x7 :: x8 :: x9 :: x10 :: x11 :: x12 :: x13 :: x14 :: x15 :: x16 :: x17 :: x18 :: x19 :: x20 :: z :: r) u P := by with_unfolding_all rfl
theorem v_22 {x0 x1 x2 x3 x4 x5 x6 x7 x8 x9 x10 x11 x12 x13 x14 x15 x16 x17 x18 x19 x20 x21 : Sl} {r : List Sl} {d : D} {Q : D → S → Prop} : wp (eV 22 (x0 :: x1 :: x2 :: x3 :: x4 :: x5 :: x6 :: x7 :: x8 :: x9 :: x10 :: x11 :: x12 :: x13 :: x14 :: x15 :: x16 :: x17 :: x18 :: x19 :: x20 :: x21 :: .dat d :: r) s) Q X = Q d s := by with_unfolding_all rfl
theorem n_22 {x0 x1 x2 x3 x4 x5 x6 x7 x8 x9 x10 x11 x12 x13 x14 x15 x16 x17 x18 x19 x20 x21 : Sl} {r : List Sl} {y z : Sl} {u : List (Nat × Sl)} {P : List Sl → Prop} : wpn (x0 :: x1 :: x2 :: x3 :: x4 :: x5 :: x6 :: x7 :: x8 :: x9 :: x10 :: x11 :: x12 :: x13 :: x14 :: x15 :: x16 :: x17 :: x18 :: x19 :: x20 :: x21 :: y :: r) ((22, z) :: u) P = wpn (x0 :: x1 :: x2 :: x3 :: x4 :: x5 :: x6 :: x7 :: x8 :: x9 :: x10 :: x11 :: x12 :: x13 :: x14 :: x15 :: x16 :: x17 :: x18 :: x19 :: x20 :: x21 :: z :: r) u P := by with_unfolding_all rfl
theorem v_23 {x0 x1 x2 x3 x4 x5 x6 x7 x8 x9 x10 x11 x12 x13 x14 x15 x16 x17 x18 x19 x20 x21 x22 : Sl} {r : List Sl} {d : D} {Q : D → S → Prop} : wp (eV 23 (x0 :: x1 :: x2 :: x3 :: x4 :: x5 :: x6 :: x7 :: x8 :: x9 :: x10 :: x11 :: x12 :: x13 :: x14 :: x15 :: x16 :: x17 :: x18 :: x19 :: x20 :: x21 :: x22 :: .dat d :: r) s) Q X = Q d s := by with_unfolding_all rfl
theorem n_23 {x0 x1 x2 x3 x4 x5 x6 x7 x8 x9 x10 x11 x12 x13 x14 x15 x16 x17 x18 x19 x20 x21 x22 : Sl} {r : List Sl} {y z : Sl} {u : List (Nat × Sl)} {P : List Sl → Prop} : wpn (x0 :: x1 :: x2 :: x3 :: x4 :: x5 :: x6 :: x7 :: x8 :: x9 :: x10 :: x11 :: x12 :: x13 :: x14 :: x15 :: x16 :: x17 :: x18 :: x19 :: x20 :: x21 :: x22 :: y :: r) ((23, z) :: u) P = wpn (x0 :: x1 :: x2 :: x3 :: x4 :: x5 :: x6 :: x7 :: x8 :: x9 :: x10 :: x11 :: x12 :: x13 :: x14 :: x15 :: x16 :: x17 :: x18 :: x19 :: x20 :: x21 :: x22 :: z :: r) u P := by with_unfolding_all rfl
theorem v_24 {x0 x1 x2 x3 x4 x5 x6 x7 x8 x9 x10 x11 x12 x13 x14 x15 x16 x17 x18 x19 x20 x21 x22 x23 : Sl} {r : List Sl} {d : D} {Q : D → S → Prop} : wp (eV 24 (x0 :: x1 :: x2 :: x3 :: x4 :: x5 :: x6 :: x7 :: x8 :: x9 :: x10 :: x11 :: x12 :: x13 :: x14 :: x15 :: x16 :: x17 :: x18 :: x19 :: x20 :: x21 :: x22 :: x23 :: .dat d :: r) s) Q X = Q d s := by with_unfolding_all rfl
theorem n_24 {x0 x1 x2 x3 x4 x5 x6 x7 x8 x9 x10 x11 x12 x13 x14 x15 x16 x17 x18 x19 x20 x21 x22 x23 : Sl} {r : List Sl} {y z : Sl} {u : List (Nat × Sl)} {P : List Sl → Prop} : wpn (x0 :: x1 :: x2 :: x3 :: x4 :: x5 :: x6 :: x7 :: x8 :: x9 :: x10 :: x11 :: x12 :: x13 :: x14 :: x15 :: x16 :: x17 :: x18 :: x19 :: x20 :: x21 :: x22 :: x23 :: y :: r) ((24, z) :: u) P = wpn (x0 :: x1 :: x2 :: x3 :: x4 :: x5 :: x6 :: x7 :: x8 :: x9 :: x10 :: x11 :: x12 :: x13 :: x14 :: x15 :: x16 :: x17 :: x18 :: x19 :: x20 :: x21 :: x22 :: x23 :: z :: r) u P := by with_unfolding_all rfl
theorem v_25 {x0 x1 x2 x3 x4 x5 x6 x7 x8 x9 x10 x11 x12 x13 x14 x15 x16 x17 x18 x19 x20 x21 x22 x23 x24 : Sl} {r : List Sl} {d : D} {Q : D → S → Prop} : wp (eV 25 (x0 :: x1 :: x2 :: x3 :: x4 :: x5 :: x6 :: x7 :: x8 :: x9 :: x10 :: x11 :: x12 :: x13 :: x14 :: x15 :: x16 :: x17 :: x18 :: x19 :: x20 :: x21 :: x22 :: x23 :: x24 :: .dat d :: r) s) Q X = Q d s := by with_unfolding_all rfl
theorem n_25 {x0 x1 x2 x3 x4 x5 x6 x7 x8 x9 x10 x11 x12 x13 x14 x15 x16 x17 x18 x19 x20 x21 x22 x23 x24 : Sl} {r : List Sl} {y z : Sl} {u : List (Nat × Sl)} {P : List Sl → Prop} : wpn (x0 :: x1 :: x2 :: x3 :: x4 :: x5 :: x6 :: x7 :: x8 :: x9 :: x10 :: x11 :: x12 :: x13 :: x14 :: x15 :: x16 :: x17 :: x18 :: x19 :: x20 :: x21 :: x22 :: x23 :: x24 :: y :: r) ((25, z) :: u) P = wpn (x0 :: x1 :: x2 :: x3 :: x4 :: x5 :: x6 :: x7 :: x8 :: x9 :: x10 :: x11 :: x12 :: x13 :: x14 :: x15 :: x16 :: x17 :: x18 :: x19 :: x20 :: x21 :: x22 :: x23 :: x24 :: z :: r) u P := by with_unfolding_all rfl
theorem v_26 {x0 x1 x2 x3 x4 x5 x6 x7 x8 x9 x10 x11 x12 x13 x14 x15 x16 x17 x18 x19 x20 x21 x22 x23 x24 x25 : Sl} {r : List Sl} {d : D} {Q : D → S → Prop} : wp (eV 26 (x0 :: x1 :: x2 :: x3 :: x4 :: x5 :: x6 :: x7 :: x8 :: x9 :: x10 :: x11 :: x12 :: x13 :: x14 :: x15 :: x16 :: x17 :: x18 :: x19 :: x20 :: x21 :: x22 :: x23 :: x24 :: x25 :: .dat d :: r) s) Q X = Q d s := by with_unfolding_all rfl
theorem n_26 {x0 x1 x2 x3 x4 x5 x6 x7 x8 x9 x10 x11 x12 x13 x14 x15 x16 x17 x18 x19 x20 x21 x22 x23 x24 x25 : Sl} {r : List Sl} {y z : Sl} {u : List (Nat × Sl)} {P : List Sl → Prop} : wpn (x0 :: x1 :: x2 :: x3 :: x4 :: x5 :: x6 :: x7 :: x8 :: x9 :: x10 :: x11 :: x12 :: x13 :: x14 :: x15 :: x16 :: x17 :: x18 :: x19 :: x20 :: x21 :: x22 :: x23 :: x24 :: x25 :: y :: r) ((26, z) :: u) P = wpn (x0 :: x1 :: x2 :: x3 :: x4 :: x5 :: x6 :: x7 :: x8 :: x9 :: x10 :: x11 :: x12 :: x13 :: x14 :: x15 :: x16 :: x17 :: x18 :: x19 :: x20 :: x21 :: x22 :: x23 :: x24 :: x25 :: z :: r) u P := by with_unfolding_all rfl
theorem v_27 {x0 x1 x2 x3 x4 x5 x6 x7 x8 x9 x10 x11 x12 x13 x14 x15 x16 x17 x18 x19 x20 x21 x22 x23 x24 x25 x26 : Sl} {r : List Sl} {d : D} {Q : D → S → Prop} : wp (eV 27 (x0 :: x1 :: x2 :: x3 :: x4 :: x5 :: x6 :: x7 :: x8 :: x9 :: x10 :: x11 :: x12 :: x13 :: x14 :: x15 :: x16 :: x17 :: x18 :: x19 :: x20 :: x21 :: x22 :: x23 :: x24 :: x25 :: x26 :: .dat d :: r) s) Q X = Q d s := by with_unfolding_all rfl
theorem n_27 {x0 x1 x2 x3 x4 x5 x6 x7 x8 x9 x10 x11 x12 x13 x14 x15 x16 x17 x18 x19 x20 x21 x22 x23 x24 x25 x26 : Sl} {r : List Sl} {y z : Sl} {u : List (Nat × Sl)} {P : List Sl → Prop} : wpn (x0 :: x1 :: x2 :: x3 :: x4 :: x5 :: x6 :: x7 :: x8 :: x9 :: x10 :: x11 :: x12 :: x13 :: x14 :: x15 :: x16 :: x17 :: x18 :: x19 :: x20 :: x21 :: x22 :: x23 :: x24 :: x25 :: x26 :: y :: r) ((27, z) :: u) P = wpn (x0 :: x1 :: x2 :: x3 :: x4 :: x5 :: x6 :: x7 :: x8 :: x9 :: x10 :: x11 :: x12 :: x13 :: x14 :: x15 :: x16 :: x17 :: x18 :: x19 :: x20 :: x21 :: x22 :: x23 :: x24 :: x25 :: x26 :: z :: r) u P := by with_unfolding_all rfl
theorem v_28 {x0 x1 x2 x3 x4 x5 x6 x7 x8 x9 x10 x11 x12 x13 x14 x15 x16 x17 x18 x19 x20 x21 x22 x23 x24 x25 x26 x27 : Sl} {r : List Sl} {d : D} {Q : D → S → Prop} : wp (eV 28 (x0 :: x1 :: x2 :: x3 :: x4 :: x5 :: x6 :: x7 :: x8 :: x9 :: x10 :: x11 :: x12 :: x13 :: x14 :: x15 :: x16 :: x17 :: x18 :: x19 :: x20 :: x21 :: x22 :: x23 :: x24 :: x25 :: x26 :: x27 :: .dat d :: r) s) Q X = Q d s := by with_unfolding_all rfl
theorem n_28 {x0 x1 x2 x3 x4 x5 x6 x7 x8 x9 x10 x11 x12 x13 x14 x15 x16 x17 x18 x19 x20 x21 x22 x23 x24 x25 x26 x27 : Sl} {r : List Sl} {y z : Sl} {u : List (Nat × Sl)} {P : List Sl → Prop} : wpn (x0 :: x1 :: x2 :: x3 :: x4 :: x5 :: x6 :: x7 :: x8 :: x9 :: x10 :: x11 :: x12 :: x13 :: x14 :: x15 :: x16 :: x17 :: x18 :: x19 :: x20 :: x21 :: x22 :: x23 :: x24 :: x25 :: x26 :: x27 :: y :: r) ((28, z) :: u) P = wpn (x0 :: x1 :: x2 :: x3 :: x4 :: x5 :: x6 :: x7 :: x8 :: x9 :: x10 :: x11 :: x12 :: x13 :: x14 :: x15 :: x16 :: x17 :: x18 :: x19 :: x20 :: x21 :: x22 :: x23 :: x24 :: x25 :: x26 :: x27 :: z :: r) u P := by with_unfolding_all rfl
theorem v_29 {x0 x1 x2 x3 x4 x5 x6 x7 x8 x9 x10 x11 x12 x13 x14 x15 x16 x17 x18 x19 x20 x21 x22 x23 x24 x25 x26 x27 x28 : Sl} {r : List Sl} {d : D} {Q : D → S → Prop} : wp (eV 29 (x0 :: x1 :: x2 :: x3 :: x4 :: x5 :: x6 :: x7 :: x8 :: x9 :: x10 :: x11 :: x12 :: x13 :: x14 :: x15 :: x16 :: x17 :: x18 :: x19 :: x20 :: x21 :: x22 :: x23 :: x24 :: x25 :: x26 :: x27 :: x28 :: .dat d :: r) s) Q X = Q d s := by with_unfolding_all rfl
theorem n_29 {x0 x1 x2 x3 x4 x5 x6 x7 x8 x9 x10 x11 x12 x13 x14 x15 x16 x17 x18 x19 x20 x21 x22 x23 x24 x25 x26 x27 x28 : Sl} {r : List Sl} {y z : Sl} {u : List (Nat × Sl)} {P : List Sl → Prop} : wpn (x0 :: x1 :: x2 :: x3 :: x4 :: x5 :: x6 :: x7 :: x8 :: x9 :: x10 :: x11 :: x12 :: x13 :: x14 :: x15 :: x16 :: x17 :: x18 :: x19 :: x20 :: x21 :: x22 :: x23 :: x24 :: x25 :: x26 :: x27 :: x28 :: y :: r) ((29, z) :: u) P = wpn (x0 :: x1 :: x2 :: x3 :: x4 :: x5 :: x6 :: x7 :: x8 :: x9 :: x10 :: x11 :: x12 :: x13 :: x14 :: x15 :: x16 :: x17 :: x18 :: x19 :: x20 :: x21 :: x22 :: x23 :: x24 :: x25 :: x26 :: x27 :: x28 :: z :: r) u P := by with_unfolding_all rfl
theorem v_30 {x0 x1 x2 x3 x4 x5 x6 x7 x8 x9 x10 x11 x12 x13 x14 x15 x16 x17 x18 x19 x20 x21 x22 x23 x24 x25 x26 x27 x28 x29 : Sl} {r : List Sl} {d : D} {Q : D → S → Prop} : wp (eV 30 (x0 :: x1 :: x2 :: x3 :: x4 :: x5 :: x6 :: x7 :: x8 :: x9 :: x10 :: x11 :: x12 :: x13 :: x14 :: x15 :: x16 :: x17 :: x18 :: x19 :: x20 :: x21 :: x22 :: x23 :: x24 :: x25 :: x26 :: x27 :: x28 :: x29 :: .dat d :: r) s) Q X = Q d s := by with_unfolding_all rfl
theorem n_30 {x0 x1 x2 x3 x4 x5 x6 x7 x8 x9 x10 x11 x12 x13 x14 x15 x16 x17 x18 x19 x20 x21 x22 x23 x24 x25 x26 x27 x28 x29 : Sl} {r : List Sl} {y z : Sl} {u : List (Nat × Sl)} {P : List Sl → Prop} : wpn (x0 :: x1 :: x2 :: x3 :: x4 :: x5 :: x6 :: x7 :: x8 :: x9 :: x10 :: x11 :: x12 :: x13 :: x14 :: x15 :: x16 :: x17 :: x18 :: x19 :: x20 :: x21 :: x22 :: x23 :: x24 :: x25 :: x26 :: x27 :: x28 :: x29 :: y :: r) ((30, z) :: u) P = wpn (x0 :: x1 :: x2 :: x3 :: x4 :: x5 :: x6 :: x7 :: x8 :: x9 :: x10 :: x11 :: x12 :: x13 :: x14 :: x15 :: x16 :: x17 :: x18 :: x19 :: x20 :: x21 :: x22 :: x23 :: x24 :: x25 :: x26 :: x27 :: x28 :: x29 :: z :: r) u P := by with_unfolding_all rfl
theorem v_31 {x0 x1 x2 x3 x4 x5 x6 x7 x8 x9 x10 x11 x12 x13 x14 x15 x16 x17 x18 x19 x20 x21 x22 x23 x24 x25 x26 x27 x28 x29 x30 : Sl} {r : List Sl} {d : D} {Q : D → S → Prop} : wp (eV 31 (x0 :: x1 :: x2 :: x3 :: x4 :: x5 :: x6 :: x7 :: x8 :: x9 :: x10 :: x11 :: x12 :: x13 :: x14 :: x15 :: x16 :: x17 :: x18 :: x19 :: x20 :: x21 :: x22 :: x23 :: x24 :: x25 :: x26 :: x27 :: x28 :: x29 :: x30 :: .dat d :: r) s) Q X = Q d s := by with_unfolding_all rfl
theorem n_31 {x0 x1 x2 x3 x4 x5 x6 x7 x8 x9 x10 x11 x12 x13 x14 x15 x16 x17 x18 x19 x20 x21 x22 x23 x24 x25 x26 x27 x28 x29 x30 : Sl} {r : List Sl} {y z : Sl} {u : List (Nat × Sl)} {P : List Sl → Prop} : wpn (x0 :: x1 :: x2 :: x3 :: x4 :: x5 :: x6 :: x7 :: x8 :: x9 :: x10 :: x11 :: x12 :: x13 :: x14 :: x15 :: x16 :: x17 :: x18 :: x19 :: x20 :: x21 :: x22 :: x23 :: x24 :: x25 :: x26 :: x27 :: x28 :: x29 :: x30 :: y :: r) ((31, z) :: u) P = wpn (x0 :: x1 :: x2 :: x3 :: x4 :: x5 :: x6 :: x7 :: x8 :: x9 :: x10 :: x11 :: x12 :: x13 :: x14 :: x15 :: x16 :: x17 :: x18 :: x19 :: x20 :: x21 :: x22 :: x23 :: x24 :: x25 :: x26 :: x27 :: x28 :: x29 :: x30 :: z :: r) u P := by with_unfolding_all rfl
theorem v_32 {x0 x1 x2 x3 x4 x5 x6 x7 x8 x9 x10 x11 x12 x13 x14 x15 x16 x17 x18 x19 x20 x21 x22 x23 x24 x25 x26 x27 x28 x29 x30 x31 : Sl} {r : List Sl} {d : D} {Q : D → S → Prop} : wp (eV 32 (x0 :: x1 :: x2 :: x3 :: x4 :: x5 :: x6 :: x7 :: x8 :: x9 :: x10 :: x11 :: x12 :: x13 :: x14 :: x15 :: x16 :: x17 :: x18 :: x19 :: x20 :: x21 :: x22 :: x23 :: x24 :: x25 :: x26 :: x27 :: x28 :: x29 :: x30 :: x31 :: .dat d :: r) s) Q X = Q d s := by with_unfolding_all rfl
theorem n_32 {x0 x1 x2 x3 x4 x5 x6 x7 x8 x9 x10 x11 x12 x13 x14 x15 x16 x17 x18 x19 x20 x21 x22 x23 x24 x25 x26 x27 x28 x29 x30 x31 : Sl} {r : List Sl} {y z : Sl} {u : List (Nat × Sl)} {P : List Sl → Prop} : wpn (x0 :: x1 :: x2 :: x3 :: x4 :: x5 :: x6 :: x7 :: x8 :: x9 :: x10 :: x11 :: x12 :: x13 :: x14 :: x15 :: x16 :: x17 :: x18 :: x19 :: x20 :: x21 :: x22 :: x23 :: x24 :: x25 :: x26 :: x27 :: x28 :: x29 :: x30 :: x31 :: y :: r) ((32, z) :: u) P = wpn (x0 :: x1 :: x2 :: x3 :: x4 :: x5 :: x6 :: x7 :: x8 :: x9 :: x10 :: x11 :: x12 :: x13 :: x14 :: x15 :: x16 :: x17 :: x18 :: x19 :: x20 :: x21 :: x22 :: x23 :: x24 :: x25 :: x26 :: x27 :: x28 :: x29 :: x30 :: x31 :: z :: r) u P := by with_unfolding_all rfl
theorem v_33 {x0 x1 x2 x3 x4 x5 x6 x7 x8 x9 x10 x11 x12 x13 x14 x15 x16 x17 x18 x19 x20 x21 x22 x23 x24 x25 x26 x27 x28 x29 x30 x31 x32 : Sl} {r : List Sl} {d : D} {Q : D → S → Prop} : wp (eV 33 (x0 :: x1 :: x2 :: x3 :: x4 :: x5 :: x6 :: x7 :: x8 :: x9 :: x10 :: x11 :: x12 :: x13 :: x14 :: x15 :: x16 :: x17 :: x18 :: x19 :: x20 :: x21 :: x22 :: x23 :: x24 :: x25 :: x26 :: x27 :: x28 :: x29 :: x30 :: x31 :: x32 :: .dat d :: r) s) Q X = Q d s := by with_unfolding_all rfl
theorem n_33 {x0 x1 x2 x3 x4 x5 x6 x7 x8 x9 x10 x11 x12 x13 x14 x15 x16 x17 x18 x19 x20 x21 x22 x23 x24 x25 x26 x27 x28 x29 x30 x31 x32 : Sl} {r : List Sl} {y z : Sl} {u : List (Nat × Sl)} {P : List Sl → Prop} : wpn (x0 :: x1 :: x2 :: x3 :: x4 :: x5 :: x6 :: x7 :: x8 :: x9 :: x10 :: x11 :: x12 :: x13 :: x14 :: x15 :: x16 :: x17 :: x18 :: x19 :: x20 :: x21 :: x22 :: x23 :: x24 :: x25 :: x26 :: x27 :: x28 :: x29 :: x30 :: x31 :: x32 :: y :: r) ((33, z) :: u) P = wpn (x0 :: x1 :: x2 :: x3 :: x4 :: x5 :: x6 :: x7 :: x8 :: x9 :: x10 :: x11 :: x12 :: x13 :: x14 :: x15 :: x16 :: x17 :: x18 :: x19 :: x20 :: x21 :: x22 :: x23 :: x24 :: x25 :: x26 :: x27 :: x28 :: x29 :: x30 :: x31 :: x32 :: z :: r) u P := by with_unfolding_all rfl
theorem x_is_non_int  {P : D → Prop} : (∃ z, dIsi [.non, .ty "int"] = some z ∧ P z) = P (.bl false) := by rw [is_non_int]; exact ex_some
theorem x_is_non_bool  {P : D → Prop} : (∃ z, dIsi [.non, .ty "bool"] = some z ∧ P z) = P (.bl false) := by rw [is_non_bool]; exact ex_some
theorem x_is_non_tuple  {P : D → Prop} : (∃ z, dIsi [.non, .ty "tuple"] = some z ∧ P z) = P (.bl false) := by rw [is_non_tuple]; exact ex_some
theorem x_is_non_str  {P : D → Prop} : (∃ z, dIsi [.non, .ty "str"] = some z ∧ P z) = P (.bl false) := by rw [is_non_str]; exact ex_some
theorem x_is_non_list  {P : D → Prop} : (∃ z, dIsi [.non, .ty "list"] = some z ∧ P z) = P (.bl false) := by rw [is_non_list]; exact ex_some
theorem x_is_non_dict  {P : D → Prop} : (∃ z, dIsi [.non, .ty "dict"] = some z ∧ P z) = P (.bl false) := by rw [is_non_dict]; exact ex_some
theorem x_is_bl_int {b : Bool} {P : D → Prop} : (∃ z, dIsi [(.bl b), .ty "int"] = some z ∧ P z) = P (.bl true) := by rw [is_bl_int]; exact ex_some
theorem x_is_bl_bool {b : Bool} {P : D → Prop} : (∃ z, dIsi [(.bl b), .ty "bool"] = some z ∧ P z) = P (.bl true) := by rw [is_bl_bool]; exact ex_some
theorem x_is_bl_tuple {b : Bool} {P : D → Prop} : (∃ z, dIsi [(.bl b), .ty "tuple"] = some z ∧ P z) = P (.bl false) := by rw [is_bl_tuple]; exact ex_some
theorem x_is_bl_str {b : Bool} {P : D → Prop} : (∃ z, dIsi [(.bl b), .ty "str"] = some z ∧ P z) = P (.bl false) := by rw [is_bl_str]; exact ex_some
theorem x_is_bl_list {b : Bool} {P : D → Prop} : (∃ z, dIsi [(.bl b), .ty "list"] = some z ∧ P z) = P (.bl false) := by rw [is_bl_list]; exact ex_some
theorem x_is_bl_dict {b : Bool} {P : D → Prop} : (∃ z, dIsi [(.bl b), .ty "dict"] = some z ∧ P z) = P (.bl false) := by rw [is_bl_dict]; exact ex_some
theorem x_is_int_int {i : Int} {P : D → Prop} : (∃ z, dIsi [(.int i), .ty "int"] = some z ∧ P z) = P (.bl true) := by rw [is_int_int]; exact ex_some
theorem x_is_int_bool {i : Int} {P : D → Prop} : (∃ z, dIsi [(.int i), .ty "bool"] = some z ∧ P z) = P (.bl false) := by rw [is_int_bool]; exact ex_some
theorem x_is_int_tuple {i : Int} {P : D → Prop} : (∃ z, dIsi [(.int i), .ty "tuple"] = some z ∧ P z) = P (.bl false) := by rw [is_int_tuple]; exact ex_some
theorem x_is_int_str {i : Int} {P : D → Prop} : (∃ z, dIsi [(.int i), .ty "str"] = some z ∧ P z) = P (.bl false) := by rw [is_int_str]; exact ex_some
theorem x_is_int_list {i : Int} {P : D → Prop} : (∃ z, dIsi [(.int i), .ty "list"] = some z ∧ P z) = P (.bl false) := by rw [is_int_list]; exact ex_some
theorem x_is_int_dict {i : Int} {P : D → Prop} : (∃ z, dIsi [(.int i), .ty "dict"] = some z ∧ P z) = P (.bl false) := by rw [is_int_dict]; exact ex_some
theorem x_is_str_int {x : Str} {P : D → Prop} : (∃ z, dIsi [(.str x), .ty "int"] = some z ∧ P z) = P (.bl false) := by rw [is_str_int]; exact ex_some
theorem x_is_str_bool {x : Str} {P : D → Prop} : (∃ z, dIsi [(.str x), .ty "bool"] = some z ∧ P z) = P (.bl false) := by rw [is_str_bool]; exact ex_some
theorem x_is_str_tuple {x : Str} {P : D → Prop} : (∃ z, dIsi [(.str x), .ty "tuple"] = some z ∧ P z) = P (.bl false) := by rw [is_str_tuple]; exact ex_some
theorem x_is_str_str {x : Str} {P : D → Prop} : (∃ z, dIsi [(.str x), .ty "str"] = some z ∧ P z) = P (.bl true) := by rw [is_str_str]; exact ex_some
theorem x_is_str_list {x : Str} {P : D → Prop} : (∃ z, dIsi [(.str x), .ty "list"] = some z ∧ P z) = P (.bl false) := by rw [is_str_list]; exact ex_some
theorem x_is_str_dict {x : Str} {P : D → Prop} : (∃ z, dIsi [(.str x), .ty "dict"] = some z ∧ P z) = P (.bl false) := by rw [is_str_dict]; exact ex_some
theorem x_is_tup_int {x : List D} {P : D → Prop} : (∃ z, dIsi [(.tup x), .ty "int"] = some z ∧ P z) = P (.bl false) := by rw [is_tup_int]; exact ex_some
theorem x_is_tup_bool {x : List D} {P : D → Prop} : (∃ z, dIsi [(.tup x), .ty "bool"] = some z ∧ P z) = P (.bl false) := by rw [is_tup_bool]; exact ex_some
theorem x_is_tup_tuple {x : List D} {P : D → Prop} : (∃ z, dIsi [(.tup x), .ty "tuple"] = some z ∧ P z) = P (.bl true) := by rw [is_tup_tuple]; exact ex_some
theorem x_is_tup_str {x : List D} {P : D → Prop} : (∃ z, dIsi [(.tup x), .ty "str"] = some z ∧ P z) = P (.bl false) := by rw [is_tup_str]; exact ex_some
theorem x_is_tup_list {x : List D} {P : D → Prop} : (∃ z, dIsi [(.tup x), .ty "list"] = some z ∧ P z) = P (.bl false) := by rw [is_tup_list]; exact ex_some
theorem x_is_tup_dict {x : List D} {P : D → Prop} : (∃ z, dIsi [(.tup x), .ty "dict"] = some z ∧ P z) = P (.bl false) := by rw [is_tup_dict]; exact ex_some
theorem x_is_lst_int {x : List D} {P : D → Prop} : (∃ z, dIsi [(.lst x), .ty "int"] = some z ∧ P z) = P (.bl false) := by rw [is_lst_int]; exact ex_some
theorem x_is_lst_bool {x : List D} {P : D → Prop} : (∃ z, dIsi [(.lst x), .ty "bool"] = some z ∧ P z) = P (.bl false) := by rw [is_lst_bool]; exact ex_some
theorem x_is_lst_tuple {x : List D} {P : D → Prop} : (∃ z, dIsi [(.lst x), .ty "tuple"] = some z ∧ P z) = P (.bl false) := by rw [is_lst_tuple]; exact ex_some
theorem x_is_lst_str {x : List D} {P : D → Prop} : (∃ z, dIsi [(.lst x), .ty "str"] = some z ∧ P z) = P (.bl false) := by rw [is_lst_str]; exact ex_some
theorem x_is_lst_list {x : List D} {P : D → Prop} : (∃ z, dIsi [(.lst x), .ty "list"] = some z ∧ P z) = P (.bl true) := by rw [is_lst_list]; exact ex_some
theorem x_is_lst_dict {x : List D} {P : D → Prop} : (∃ z, dIsi [(.lst x), .ty "dict"] = some z ∧ P z) = P (.bl false) := by rw [is_lst_dict]; exact ex_some
theorem x_is_frz_int {x : List D} {P : D → Prop} : (∃ z, dIsi [(.frz x), .ty "int"] = some z ∧ P z) = P (.bl false) := by rw [is_frz_int]; exact ex_some
theorem x_is_frz_bool {x : List D} {P : D → Prop} : (∃ z, dIsi [(.frz x), .ty "bool"] = some z ∧ P z) = P (.bl false) := by rw [is_frz_bool]; exact ex_some
theorem x_is_frz_tuple {x : List D} {P : D → Prop} : (∃ z, dIsi [(.frz x), .ty "tuple"] = some z ∧ P z) = P (.bl false) := by rw [is_frz_tuple]; exact ex_some
theorem x_is_frz_str {x : List D} {P : D → Prop} : (∃ z, dIsi [(.frz x), .ty "str"] = some z ∧ P z) = P (.bl false) := by rw [is_frz_str]; exact ex_some
theorem x_is_frz_list {x : List D} {P : D → Prop} : (∃ z, dIsi [(.frz x), .ty "list"] = some z ∧ P z) = P (.bl true) := by rw [is_frz_list]; exact ex_some
theorem x_is_frz_dict {x : List D} {P : D → Prop} : (∃ z, dIsi [(.frz x), .ty "dict"] = some z ∧ P z) = P (.bl false) := by rw [is_frz_dict]; exact ex_some
theorem x_is_dct_int {x : List (D × D)} {P : D → Prop} : (∃ z, dIsi [(.dct x), .ty "int"] = some z ∧ P z) = P (.bl false) := by rw [is_dct_int]; exact ex_some
theorem x_is_dct_bool {x : List (D × D)} {P : D → Prop} : (∃ z, dIsi [(.dct x), .ty "bool"] = some z ∧ P z) = P (.bl false) := by rw [is_dct_bool]; exact ex_some
theorem x_is_dct_tuple {x : List (D × D)} {P : D → Prop} : (∃ z, dIsi [(.dct x), .ty "tuple"] = some z ∧ P z) = P (.bl false) := by rw [is_dct_tuple]; exact ex_some
theorem x_is_dct_str {x : List (D × D)} {P : D → Prop} : (∃ z, dIsi [(.dct x), .ty "str"] = some z ∧ P z) = P (.bl false) := by rw [is_dct_str]; exact ex_some
theorem x_is_dct_list {x : List (D × D)} {P : D → Prop} : (∃ z, dIsi [(.dct x), .ty "list"] = some z ∧ P z) = P (.bl false) := by rw [is_dct_list]; exact ex_some
theorem x_is_dct_dict {x : List (D × D)} {P : D → Prop} : (∃ z, dIsi [(.dct x), .ty "dict"] = some z ∧ P z) = P (.bl true) := by rw [is_dct_dict]; exact ex_some
theorem x_is_ktp_int {x : List D} {P : D → Prop} : (∃ z, dIsi [(.ktp x), .ty "int"] = some z ∧ P z) = P (.bl false) := by rw [is_ktp_int]; exact ex_some
theorem x_is_ktp_bool {x : List D} {P : D → Prop} : (∃ z, dIsi [(.ktp x), .ty "bool"] = some z ∧ P z) = P (.bl false) := by rw [is_ktp_bool]; exact ex_some
theorem x_is_ktp_tuple {x : List D} {P : D → Prop} : (∃ z, dIsi [(.ktp x), .ty "tuple"] = some z ∧ P z) = P (.bl true) := by rw [is_ktp_tuple]; exact ex_some
theorem x_is_ktp_str {x : List D} {P : D → Prop} : (∃ z, dIsi [(.ktp x), .ty "str"] = some z ∧ P z) = P (.bl false) := by rw [is_ktp_str]; exact ex_some
theorem x_is_ktp_list {x : List D} {P : D → Prop} : (∃ z, dIsi [(.ktp x), .ty "list"] = some z ∧ P z) = P (.bl false) := by rw [is_ktp_list]; exact ex_some
theorem x_is_ktp_dict {x : List D} {P : D → Prop} : (∃ z, dIsi [(.ktp x), .ty "dict"] = some z ∧ P z) = P (.bl false) := by rw [is_ktp_dict]; exact ex_some
theorem x_eq_int {i j : Int} {P : D → Prop} : (∃ z, dEq (.int i) (.int j) = some z ∧ P z) = P (.bl (decide (i = j))) := by rw [eq_int]; exact ex_some
theorem x_ne_int {i j : Int} {P : D → Prop} : (∃ z, dNe (.int i) (.int j) = some z ∧ P z) = P (.bl (!decide (i = j))) := by rw [ne_int]; exact ex_some
theorem x_eq_bl {i j : Bool} {P : D → Prop} : (∃ z, dEq (.bl i) (.bl j) = some z ∧ P z) = P (.bl (decide (i = j))) := by rw [eq_bl]; exact ex_some
theorem x_ne_bl {i j : Bool} {P : D → Prop} : (∃ z, dNe (.bl i) (.bl j) = some z ∧ P z) = P (.bl (!decide (i = j))) := by rw [ne_bl]; exact ex_some
theorem x_eq_str {i j : Str} {P : D → Prop} : (∃ z, dEq (.str i) (.str j) = some z ∧ P z) = P (.bl (decide (i = j))) := by rw [eq_str]; exact ex_some
theorem x_ne_str {i j : Str} {P : D → Prop} : (∃ z, dNe (.str i) (.str j) = some z ∧ P z) = P (.bl (!decide (i = j))) := by rw [ne_str]; exact ex_some
theorem x_tr_bl {b : Bool} {P : Bool → Prop} : (∃ z, dTruth (.bl b) = some z ∧ P z) = P b := by rw [tr_bl]; exact ex_some
theorem x_tr_int {b : Int} {P : Bool → Prop} : (∃ z, dTruth (.int b) = some z ∧ P z) = P (b != 0) := by rw [tr_int]; exact ex_some
theorem x_ad_int {i j : Int} {P : D → Prop} : (∃ z, dAdd (.int i) (.int j) = some z ∧ P z) = P (.int (i + j)) := by rw [ad_int]; exact ex_some
theorem x_sb_int {i j : Int} {P : D → Prop} : (∃ z, dSub (.int i) (.int j) = some z ∧ P z) = P (.int (i - j)) := by rw [sb_int]; exact ex_some
theorem x_ng_int {i : Int} {P : D → Prop} : (∃ z, dNeg (.int i) = some z ∧ P z) = P (.int (-i)) := by rw [ng_int]; exact ex_some
theorem x_lt_int {i j : Int} {P : D → Prop} : (∃ z, dLt (.int i) (.int j) = some z ∧ P z) = P (.bl (decide (i < j))) := by rw [lt_int']; exact ex_some
theorem x_le_int {i j : Int} {P : D → Prop} : (∃ z, dLe (.int i) (.int j) = some z ∧ P z) = P (.bl (decide (i ≤ j))) := by rw [le_int']; exact ex_some
theorem x_gt_int {i j : Int} {P : D → Prop} : (∃ z, dGt (.int i) (.int j) = some z ∧ P z) = P (.bl (decide (j < i))) := by rw [gt_int']; exact ex_some
theorem x_ge_int {i j : Int} {P : D → Prop} : (∃ z, dGe (.int i) (.int j) = some z ∧ P z) = P (.bl (decide (j ≤ i))) := by rw [ge_int']; exact ex_some
theorem x_md_int {i j : Int} {P : D → Prop} : (∃ z, dMod (.int i) (.int j) = some z ∧ P z) = (j ≠ 0 ∧ P (.int (i.fmod j))) := by rw [md_int]; exact ex_ite
theorem x_fd_int {i j : Int} {P : D → Prop} : (∃ z, dFdiv (.int i) (.int j) = some z ∧ P z) = (CFd i j ∧ P (.int (i.fdiv j))) := by rw [fd_int]; exact ex_ite
theorem x_pw_int {i j : Int} {P : D → Prop} : (∃ z, dPow (.int i) (.int j) = some z ∧ P z) = (CPw i j ∧ P (.int (i ^ j.toNat))) := by rw [pw_int]; exact ex_ite
theorem x_ml_int {i j : Int} {P : D → Prop} : (∃ z, dMul (.int i) (.int j) = some z ∧ P z) = (CMulX i j ∧ P (.int (i * j))) := by rw [ml_int]; exact ex_ite
theorem x_ml_tup {a : List D} {k : Int} {P : D → Prop} : (∃ z, dMul (.tup a) (.int k) = some z ∧ P z) = ((a.length ≤ 1000 ∧ k ≤ 1000 ∧ -1000 ≤ k) ∧ P (.tup (List.replicate k.toNat a).flatten)) := by rw [ml_tup]; exact ex_ite
theorem x_ad_tup {a b : List D} {P : D → Prop} : (∃ z, dAdd (.tup a) (.tup b) = some z ∧ P z) = (a.length + b.length ≤ 16777216 ∧ P (.tup (a ++ b))) := by rw [ad_tup]; exact ex_ite
theorem x_ad_lst {a b : List D} {P : D → Prop} : (∃ z, dAdd (.lst a) (.lst b) = some z ∧ P z) = (a.length + b.length ≤ 16777216 ∧ P (.lst (a ++ b))) := by rw [ad_lst]; exact ex_ite
theorem x_ad_str {a b : Str} {P : D → Prop} : (∃ z, dAdd (.str a) (.str b) = some z ∧ P z) = (a.length + b.length ≤ 16777216 ∧ P (.str (a ++ b))) := by rw [ad_str]; exact ex_ite
theorem x_ab_int {i : Int} {P : D → Prop} : (∃ z, dAbs [.int i] = some z ∧ P z) = P (.int (if i < 0 then -i else i)) := by rw [ab_int]; exact ex_some
theorem x_ln_tup {xs : List D} {s : S} {P : D → Prop} : (∃ z, lenT s [.tup xs] = some z ∧ P z) = P (.int xs.length) := by rw [ln_tup]; exact ex_some
theorem x_ln_lst {xs : List D} {s : S} {P : D → Prop} : (∃ z, lenT s [.lst xs] = some z ∧ P z) = P (.int xs.length) := by rw [ln_lst]; exact ex_some
theorem x_ln_frz {xs : List D} {s : S} {P : D → Prop} : (∃ z, lenT s [.frz xs] = some z ∧ P z) = P (.int xs.length) := by rw [ln_frz]; exact ex_some
theorem x_ln_ktp {xs : List D} {s : S} {P : D → Prop} : (∃ z, lenT s [.ktp xs] = some z ∧ P z) = P (.int xs.length) := by rw [ln_ktp]; exact ex_some
theorem x_ln_dct {xs : List (D × D)} {s : S} {P : D → Prop} : (∃ z, lenT s [.dct xs] = some z ∧ P z) = P (.int xs.length) := by rw [ln_dct]; exact ex_some
theorem x_dI_tup {x : List D} {P : List D → Prop} : (∃ z, dIter (.tup x) = some z ∧ P z) = P x := by rw [dI_tup]; exact ex_some
theorem x_dI_lst {x : List D} {P : List D → Prop} : (∃ z, dIter (.lst x) = some z ∧ P z) = P x := by rw [dI_lst]; exact ex_some
theorem x_dI_frz {x : List D} {P : List D → Prop} : (∃ z, dIter (.frz x) = some z ∧ P z) = P x := by rw [dI_frz]; exact ex_some
theorem x_dI_ktp {x : List D} {P : List D → Prop} : (∃ z, dIter (.ktp x) = some z ∧ P z) = P x := by rw [dI_ktp]; exact ex_some
theorem x_dI_str {x : Str} {P : List D → Prop} : (∃ z, dIter (.str x) = some z ∧ P z) = P (strD x) := by rw [dI_str]; exact ex_some
theorem x_to_lst {x : List D} {P : D → Prop} : (∃ z, dTupOf [.lst x] = some z ∧ P z) = P (.tup x) := by rw [to_lst]; exact ex_some
theorem x_to_tup {x : List D} {P : D → Prop} : (∃ z, dTupOf [.tup x] = some z ∧ P z) = P (.tup x) := by rw [to_tup]; exact ex_some
theorem x_to_frz {x : List D} {P : D → Prop} : (∃ z, dTupOf [.frz x] = some z ∧ P z) = P (.tup x) := by rw [to_frz]; exact ex_some
theorem x_lo_lst {x : List D} {P : D → Prop} : (∃ z, dLstOf [.lst x] = some z ∧ P z) = P (.lst x) := by rw [lo_lst]; exact ex_some
theorem x_lo_tup {x : List D} {P : D → Prop} : (∃ z, dLstOf [.tup x] = some z ∧ P z) = P (.lst x) := by rw [lo_tup]; exact ex_some
theorem x_lo_frz {x : List D} {P : D → Prop} : (∃ z, dLstOf [.frz x] = some z ∧ P z) = P (.lst x) := by rw [lo_frz]; exact ex_some
theorem x_sl_tup {x : List D} {l h : Option Int} {P : D → Prop} : (∃ z, dSl (.tup x) l h = some z ∧ P z) = P (.tup (cutL x l h)) := by rw [sl_tup]; exact ex_some
theorem x_sl_lst {x : List D} {l h : Option Int} {P : D → Prop} : (∃ z, dSl (.lst x) l h = some z ∧ P z) = P (.lst (cutL x l h)) := by rw [sl_lst]; exact ex_some
theorem x_sl_frz {x : List D} {l h : Option Int} {P : D → Prop} : (∃ z, dSl (.frz x) l h = some z ∧ P z) = P (.lst (cutL x l h)) := by rw [sl_frz]; exact ex_some
theorem x_al_add {a b : List D} {P : D → Prop} : (∃ z, dAddL (.lst a) (.lst b) = some z ∧ P z) = (a.length + b.length ≤ 16777216 ∧ P (.lst (a ++ b))) := by rw [al_add]; exact ex_ite
theorem x_st_int {i : Int} {P : D → Prop} : (∃ z, dStr [.int i] = some z ∧ P z) = (i.natAbs.log2 < 1920 ∧ P (.str (toString i))) := by rw [st_int]; exact ex_ite
theorem x_st_str {i : Str} {P : D → Prop} : (∃ z, dStr [.str i] = some z ∧ P z) = P (.str i) := by rw [st_str]; exact ex_some
theorem x_nt_int {i : Int} {P : D → Prop} : (∃ z, dInt [.int i] = some z ∧ P z) = P (.int i) := by rw [nt_int]; exact ex_some
theorem x_nt_bl {k : Bool} {P : D → Prop} : (∃ z, dInt [.bl k] = some z ∧ P z) = P (.int (if k then 1 else 0)) := by rw [nt_bl]; exact ex_some
theorem x_mx_int {i j : Int} {P : D → Prop} : (∃ z, dMax [.int i, .int j] = some z ∧ P z) = P (.int (if j > i then j else i)) := by rw [mx_int]; exact ex_some
theorem x_mn_int {i j : Int} {P : D → Prop} : (∃ z, dMin [.int i, .int j] = some z ∧ P z) = P (.int (if j < i then j else i)) := by rw [mn_int]; exact ex_some
theorem x_is_bl {a b : Bool} {P : D → Prop} : (∃ z, dIs (.bl a) (.bl b) = some z ∧ P z) = P (.bl (decide (a = b))) := by rw [is_bl]; exact ex_some
theorem x_isnt_bl {a b : Bool} {P : D → Prop} : (∃ z, dIsnt (.bl a) (.bl b) = some z ∧ P z) = P (.bl (!decide (a = b))) := by rw [isnt_bl]; exact ex_some
theorem x_chain {o : Option D} {b : Bool} {P : Bool → Prop} (h : o = some (.bl b)) : (∃ c, o = some (.bl c) ∧ P c) = P b := by subst h; simp
theorem x_cle (i j : Int) {P : Bool → Prop} : (∃ c, dLe (.int i) (.int j) = some (.bl c) ∧ P c) = P (decide (i ≤ j)) := x_chain rfl
theorem x_clt (i j : Int) {P : Bool → Prop} : (∃ c, dLt (.int i) (.int j) = some (.bl c) ∧ P c) = P (decide (i < j)) := x_chain rfl
theorem x_lntok (n : Nat) {s : S} {P : D → Prop} : (∃ z, lenT s [.tok n] = some z ∧ P z) = ∃ l, tokL s n = some l ∧ P (.int (l.length : Int)) := by rw [ln_tok]; exact ex_map
theorem x_ixtok (n : Nat) (i : Int) {s : S} {P : D → Prop} : (∃ z, dIxT s (.tok n) (.int i) = some z ∧ P z) = ∃ l, tokL s n = some l ∧ ∃ z, atI l i = some z ∧ P z := by rw [ix_tok]; exact ex_bind
theorem x_ixtup (xs : List D) (i : Int) {s : S} {P : D → Prop} : (∃ z, dIxT s (.tup xs) (.int i) = some z ∧ P z) = ∃ z, atI xs i = some z ∧ P z := rfl
theorem x_ixlst (xs : List D) (i : Int) {s : S} {P : D → Prop} : (∃ z, dIxT s (.lst xs) (.int i) = some z ∧ P z) = ∃ z, atI xs i = some z ∧ P z := rfl
theorem x_ixfrz (xs : List D) (i : Int) {s : S} {P : D → Prop} : (∃ z, dIxT s (.frz xs) (.int i) = some z ∧ P z) = ∃ z, atI xs i = some z ∧ P z := rfl
theorem x_ixktp (xs : List D) (i : Int) {s : S} {P : D → Prop} : (∃ z, dIxT s (.ktp xs) (.int i) = some z ∧ P z) = ∃ z, atI xs i = some z ∧ P z := rfl
theorem x_all (x : List D) {P : D → Prop} : (∃ z, dAll [.lst x] = some z ∧ P z) = ∃ l, blsOf x = some l ∧ P (.bl (l.all id)) := by rw [al_lst]; exact ex_map
theorem x_any (x : List D) {P : D → Prop} : (∃ z, dAny [.lst x] = some z ∧ P z) = ∃ l, blsOf x = some l ∧ P (.bl (l.any id)) := by rw [an_lst]; exact ex_map
theorem x_sum (x : List D) {P : D → Prop} : (∃ z, dSum [.lst x] = some z ∧ P z) = ∃ l, intsOf x = some l ∧ P (.int l.sum) := by rw [sm_lst]; exact ex_map
theorem x_neT (n : Nat) {y : D} {s : S} {P : D → Prop} : (∃ z, dNeT s (.tok n) y = some z ∧ P z) = ∃ l, tokL s n = some l ∧ ∃ z, dNe (.lst l) y = some z ∧ P z := by rw [nT_tok]; exact ex_bind
theorem x_at0 {a : D} {l : List D} {P : D → Prop} : (∃ z, atI (a :: l) 0 = some z ∧ P z) = P a := by rw [at_0]; exact ex_some
theorem x_at1 {a b : D} {l : List D} {P : D → Prop} : (∃ z, atI (a :: b :: l) 1 = some z ∧ P z) = P b := by rw [at_1]; exact ex_some
theorem x_at2 {a b c : D} {l : List D} {P : D → Prop} : (∃ z, atI (a :: b :: c :: l) 2 = some z ∧ P z) = P c := by rw [at_2]; exact ex_some
theorem x_at3 {a b c d : D} {l : List D} {P : D → Prop} : (∃ z, atI (a :: b :: c :: d :: l) 3 = some z ∧ P z) = P d := by rw [at_3]; exact ex_some
theorem x_at4 {a b c d e : D} {l : List D} {P : D → Prop} : (∃ z, atI (a :: b :: c :: d :: e :: l) 4 = some z ∧ P z) = P e := by rw [at_4]; exact ex_some
theorem x_tk0 {ds : List D} {r : S} {P : List D → Prop} : (∃ l, tokL (.l ds :: r) 0 = some l ∧ P l) = P ds := by rw [tk_0]; exact ex_some
theorem x_tk1 {c : Cell} {ds : List D} {r : S} {P : List D → Prop} : (∃ l, tokL (c :: .l ds :: r) 1 = some l ∧ P l) = P ds := by rw [tk_1]; exact ex_some
theorem ixN_lit {n : Nat} {j : Nat} (h : j < n) : ixN n (j : Int) = some j := by
  have := atI_nat (xs := List.range n) (j := j) (v := j) (by simp [h])
  unfold atI at this
  rw [List.length_range] at this
  cases e : ixN n (j : Int) with
  | none => rw [e] at this; cases this
  | some k =>
    rw [e] at this
    have h2 : (List.range n)[k]? = some j := this
    obtain ⟨hk, e2⟩ := List.getElem?_eq_some_iff.mp h2
    rw [List.getElem_range] at e2
    rw [e2]
theorem x_ix30 {P : Nat → Prop} : (∃ j, ixN 3 0 = some j ∧ P j) = P 0 := by rw [show ixN 3 0 = some 0 from ixN_lit (j := 0) (by decide)]; exact ex_some
theorem x_ix31 {P : Nat → Prop} : (∃ j, ixN 3 1 = some j ∧ P j) = P 1 := by rw [show ixN 3 1 = some 1 from ixN_lit (j := 1) (by decide)]; exact ex_some
theorem x_ix32 {P : Nat → Prop} : (∃ j, ixN 3 2 = some j ∧ P j) = P 2 := by rw [show ixN 3 2 = some 2 from ixN_lit (j := 2) (by decide)]; exact ex_some
/-! ### sizes of numbers -/
def Bd (i : Int) (n : Nat) : Prop := i.natAbs < 2 ^ n
theorem bd_nat {k n : Nat} (h : k < 2 ^ n) : Bd (k : Int) n := by unfold Bd; simpa using h
theorem bd_of {i : Int} {n : Nat} (h : i.natAbs < 2 ^ n) : Bd i n := h
theorem bd_mono {i : Int} {n m : Nat} (h : Bd i n) (k : n ≤ m) : Bd i m := Nat.lt_of_lt_of_le h (Nat.pow_le_pow_right (by decide) k)
theorem bd_add {i j : Int} {n m : Nat} (h : Bd i n) (k : Bd j m) : Bd (i + j) (n + m + 1) := by
  have a := bd_mono h (show n ≤ n + m by omega)
  have b := bd_mono k (show m ≤ n + m by omega)
  unfold Bd at a b ⊢
  rw [Nat.pow_succ]
  have := Int.natAbs_add_le i j
  omega
theorem bd_sub {i j : Int} {n m : Nat} (h : Bd i n) (k : Bd j m) : Bd (i - j) (n + m + 1) := by
  have a := bd_mono h (show n ≤ n + m by omega)
  have b := bd_mono k (show m ≤ n + m by omega)
  unfold Bd at a b ⊢
  rw [Nat.pow_succ]
  omega
theorem bd_mul {i j : Int} {n m : Nat} (h : Bd i n) (k : Bd j m) : Bd (i * j) (n + m) := by
  unfold Bd at h k ⊢
  rw [Int.natAbs_mul, Nat.pow_add]
  exact Nat.mul_lt_mul'' h k
theorem bd_pow {i : Int} {n : Nat} (h : Bd i n) : ∀ k : Nat, Bd (i ^ k) (n * k + 1)
  | 0 => by show (i ^ 0).natAbs < 2 ^ (n * 0 + 1); simp
  | k + 1 => by
    have := bd_mul (bd_pow h k) h
    rw [Int.pow_succ]
    exact bd_mono this (by rw [Nat.mul_succ]; omega)
theorem bd_fmod {i j : Int} {n : Nat} (h : 0 < j) (k : Bd j n) : Bd (i.fmod j) n := by
  have := fmod_rng (i := i) h
  unfold Bd at k ⊢
  omega
theorem bd_rng {i j : Int} {n : Nat} (h0 : 0 ≤ i) (h1 : i ≤ j) (k : j < 2 ^ n) : Bd i n := by
  unfold Bd
  have : ((i.natAbs : Nat) : Int) < ((2 ^ n : Nat) : Int) := by push_cast; omega
  exact Int.ofNat_lt.mp this
theorem c_mul {i j : Int} {n m : Nat} (h1 : Bd i n) (h2 : Bd j m) (h : n + m ≤ 134217728) : CMulX i j := cmul_of h1 h2 h
theorem c_pow {i : Int} {n k : Nat} (h1 : Bd i n) (h : n * k ≤ 134217728) : CPw i (k : Int) := cpw_of h1 h
theorem c_pow3 {i : Int} {n : Nat} (h1 : Bd i n) (h : n * 3 ≤ 134217728) : CPw i 3 := cpw_of (k := 3) h1 h
theorem c_pow5 {i : Int} {n : Nat} (h1 : Bd i n) (h : n * 5 ≤ 134217728) : CPw i 5 := cpw_of (k := 5) h1 h
theorem c_pow2 {i : Int} {n : Nat} (h1 : Bd i n) (h : n * 2 ≤ 134217728) : CPw i 2 := cpw_of (k := 2) h1 h
theorem ne_nil {xs : List D} (h : ready (.lst xs) = true) : dNe (.lst xs) (.lst []) = some (.bl (!xs.isEmpty)) := by
  have : (if ready (.lst xs) && ready (.lst []) then some (D.bl (!eqB (.lst xs) (.lst []))) else none) = dNe (.lst xs) (.lst []) := rfl
  rw [← this, h, show ready (.lst []) = true from rfl]
  simp only [Bool.and_self, if_true]
  cases xs with
  | nil => simp [eqB, toPy, toPys, PyData.eqv, PyData.eqvAll]
  | cons x l => simp [eqB, toPy, toPys, PyData.eqv, PyData.eqvAll]
theorem okDs_ints : ∀ ns : List Int, okDs (ns.map .int) = true
  | [] => by simp [okDs]
  | n :: ns => by simp [okDs, okD, okDs_ints ns]
theorem depth_ints : ∀ ns : List Int, PyData.depthAll (toPys (ns.map .int)) ≤ 1
  | [] => by simp [toPys, PyData.depthAll]
  | n :: ns => by
    have := depth_ints ns
    simp only [List.map_cons, toPys, toPy, PyData.depthAll, PyData.depth]
    omega
theorem ready_ints (ns : List Int) : ready (.lst (ns.map .int)) = true := by
  have := depth_ints ns
  simp only [ready, okD, okDs_ints, toPy, PyData.depth, Bool.true_and, decide_eq_true_eq]
  omega
theorem at_map {ns : List Int} {i : Int} (h0 : 0 ≤ i) (h1 : i < (ns.map D.int).length) : ∃ c : Int, atI (ns.map D.int) i = some (.int c) := by
  obtain ⟨d, e, h⟩ := atI_of h0 h1
  rw [List.getElem?_map] at h
  obtain ⟨c, _, rfl⟩ := Option.map_eq_some_iff.mp h
  exact ⟨c, e⟩
/-- the i-th of some numbers, all of them between 1 and 2 ^ 31 -/
theorem at_pr {l : List Int} {p n : Int} (hp : 0 ≤ p) (hn : (l.length : Int) = n) (h0 : 0 < n) (hl : l.all (fun q => decide (0 < q ∧ q < 2147483648)) = true) : ∃ q : Int, atI (l.map D.int) (p.fmod n) = some (.int q) ∧ 0 < q ∧ q < 2147483648 := by
  obtain ⟨a, b⟩ := fmod_rng (i := p) h0
  obtain ⟨d, e, h⟩ := atI_of (xs := l.map D.int) a (by rw [List.length_map, hn]; exact b)
  rw [List.getElem?_map] at h
  obtain ⟨c, hc, rfl⟩ := Option.map_eq_some_iff.mp h
  have := List.all_eq_true.mp hl c (List.mem_of_getElem? hc)
  exact ⟨c, e, by simpa using this⟩
/-! ### pure comprehensions -/
theorem comp_map {g : DG} {c : DT} {f : DE} {ρ : List Sl} {s : S} {ds : List D} (F : D → D) (h : ∀ d ∈ ds, ∃ ρ1, g d ρ = some ρ1 ∧ wp (c ρ1 s) (fun b s1 => b = true ∧ s1 = s) (fun _ _ => False) ∧ wp (f ρ1 s) (fun y s1 => y = F d ∧ s1 = s) fun _ _ => False) :
    wp (compN g c f ρ ds s) (fun ys s' => ys = ds.map F ∧ s' = s) fun _ _ => False := by
  refine comp_inv (fun i acc s' => acc = (ds.take i).map F ∧ s' = s) ⟨by simp, rfl⟩ (fun i d acc s' e ⟨e1, e2⟩ => ?_) (fun ys s' ⟨e1, e2⟩ => ⟨by rw [e1, List.take_length], e2⟩)
  subst e2
  obtain ⟨ρ1, h1, h2, h3⟩ := h d (List.mem_of_getElem? e)
  refine ⟨ρ1, h1, wp_mono h2 (fun b s1 ⟨eb, es⟩ => ?_) fun _ _ z => z⟩
  subst eb es
  simp only [if_true]
  refine wp_mono h3 (fun y s2 ⟨ey, es⟩ => ⟨?_, es⟩) fun _ _ z => z
  rw [ey, e1, List.take_add_one, e, List.map_append]
  with_unfolding_all rfl
/-- a filter, pure -/
theorem comp_filter {g : DG} {c : DT} {f : DE} {ρ : List Sl} {s : S} {ds : List D} (p : D → Bool) (F : D → D) (h : ∀ d ∈ ds, ∃ ρ1, g d ρ = some ρ1 ∧ wp (c ρ1 s) (fun b s1 => b = p d ∧ s1 = s) (fun _ _ => False) ∧ (p d = true → wp (f ρ1 s) (fun y s1 => y = F d ∧ s1 = s) fun _ _ => False)) :
    wp (compN g c f ρ ds s) (fun ys s' => ys = (ds.filter p).map F ∧ s' = s) fun _ _ => False := by
  refine comp_inv (fun i acc s' => acc = ((ds.take i).filter p).map F ∧ s' = s) ⟨by simp, rfl⟩ (fun i d acc s' e ⟨e1, e2⟩ => ?_) (fun ys s' ⟨e1, e2⟩ => ⟨by rw [e1, List.take_length], e2⟩)
  subst e2
  obtain ⟨ρ1, h1, h2, h3⟩ := h d (List.mem_of_getElem? e)
  refine ⟨ρ1, h1, wp_mono h2 (fun b s1 ⟨eb, es⟩ => ?_) fun _ _ z => z⟩
  subst eb es
  cases hp : p d with
  | true =>
    simp only [if_true]
    refine wp_mono (h3 hp) (fun y s2 ⟨ey, es⟩ => ⟨?_, es⟩) fun _ _ z => z
    rw [ey, e1, List.take_add_one, e]
    simp [List.filter_append, hp]
  | false =>
    simp only [Bool.false_eq_true, if_false]
    refine ⟨?_, by first | rfl | trivial⟩
    rw [e1, List.take_add_one, e]
    simp [List.filter_append, hp]
theorem wpk_of {vs : List Nat} {g : DG} {c : DT} {f : DE} {ds : List D} {Q : D → S → Prop} {w : Wit Q X} {P : List D → S → Prop} (hl : ds.length ≤ 16777216) (h : wp (compN g c f (wipeD ρ vs) ds s) P fun _ _ => False) (i : ∀ ys s', P ys s' → Q (.lst ys) s') : wpk vs g c f ds ρ s Q X w :=
  ⟨hl, wp_mono h (fun ys s' q => i _ _ q) fun _ _ z => z⟩
theorem wpl_of {clr : List Nat} {g : DG} {b : DS} {ds : List D} {w : Wits N B C R X} (I : Nat → List Sl → S → Prop) (h0 : I 0 (wipeD ρ clr) s)
    (hs : ∀ i d ρ s, ds[i]? = some d → I i ρ s → ∃ ρ1, g d ρ = some ρ1 ∧ wps (b ρ1 s) (fun ρ2 s2 => I (i + 1) (wipeD ρ2 clr) s2) (fun ρ2 s2 => N (wipeD ρ2 clr) s2) (fun ρ2 s2 => I (i + 1) (wipeD ρ2 clr) s2) R X)
    (hn : ∀ ρ s, I ds.length ρ s → N ρ s) : wpl clr g b ds ρ s N B C R X w := loop_inv I h0 hs hn
theorem wpw_of {clr : List Nat} {c : DT} {b : DS} {w : Wits N B C R X} (I : List Sl → S → Prop) (m : List Sl → Nat) (h0 : I (wipeD ρ clr) s)
    (hs : ∀ ρ s, I ρ s → wp (c ρ s) (fun k s1 => if k = true then wps (b ρ s1) (fun ρ2 s2 => I (wipeD ρ2 clr) s2 ∧ m (wipeD ρ2 clr) < m ρ) N (fun ρ2 s2 => I (wipeD ρ2 clr) s2 ∧ m (wipeD ρ2 clr) < m ρ) R X else N ρ s1) X) : wpw clr c b ρ s N B C R X w := wps_while I m h0 hs
theorem blsOf_map (f : D → Bool) : ∀ ds : List D, blsOf (ds.map fun d => .bl (f d)) = some (ds.map f)
  | [] => rfl
  | d :: ds => by simp [blsOf, blsOf_map f ds]
theorem all_map_id (f : D → Bool) (ds : List D) : (ds.map f).all id = ds.all f := by simp [List.all_map]
theorem atI_len {xs : List D} {i : Int} {d : D} (h : atI xs i = some d) : True := trivial
/-! ### what may be shown, and how long it is -/
mutual
def wt : D → Nat
  | .non => 4
  | .bl _ => 5
  | .int i => i.natAbs.log2 + 2
  | .str x => 10 * x.length + 2
  | .tup xs => wts xs + 3
  | .lst xs => wts xs + 3
  | .frz xs => wts xs + 3
  | .dct kvs => wtk kvs + 3
  | .tok _ => 4
  | .ty _ => 4
  | .glb _ => 4
  | .ktp xs => wts xs + 3
  | .exc _ => 4
def wts : List D → Nat
  | [] => 0
  | x :: xs => wt x + 2 + wts xs
def wtk : List (D × D) → Nat
  | [] => 0
  | (k, v) :: r => wt k + wt v + 4 + wtk r
end
mutual
def sOk : D → Bool
  | .str x => x.cps.toList.all fun c => decide (c < 16 ^ 8)
  | .tup xs => sOks xs
  | .lst xs => sOks xs
  | .frz xs => sOks xs
  | .dct kvs => sOkk kvs
  | .ktp xs => sOks xs
  | _ => true
def sOks : List D → Bool
  | [] => true
  | x :: xs => sOk x && sOks xs
def sOkk : List (D × D) → Bool
  | [] => true
  | (k, v) :: r => sOk k && sOk v && sOkk r
end
theorem shownAll_len : ∀ xs : List PyData, (PyData.shownAll xs).length = xs.length
  | [] => by simp [PyData.shownAll]
  | x :: xs => by simp [PyData.shownAll, shownAll_len xs]
theorem toPys_len : ∀ xs : List D, (toPys xs).length = xs.length
  | [] => by simp [toPys]
  | x :: xs => by simp [toPys, toPys_len xs]
mutual
theorem shown_wt : ∀ d : D, sOk d = true → (toPy d).shown.length ≤ wt d
  | .non, _ => by simp only [toPy, wt]; exact Nat.le_refl _
  | .bl b, _ => by
    have e : (PyData.shown (.bool b)).length ≤ 5 := by cases b <;> decide
    simpa only [toPy, wt] using e
  | .int i, _ => by
    have e := int_text_length_le (a := i) (k := i.natAbs.log2 + 1) (by omega) (by omega)
    simp only [toPy, wt, PyData.shown]
    rw [PySem.ofString_length]
    exact e
  | .str x, h => by
    have e := StrLaws.reprText_len x (by simpa only [sOk, List.all_eq_true, decide_eq_true_eq] using h)
    simpa only [toPy, wt, PyData.shown] using e
  | .tup xs, h => by
    have h1 := shown_wts xs (by simpa only [sOk] using h)
    have h2 := tupleText_len_le (PyData.shownAll (toPys xs))
    simp only [toPy, wt, PyData.shown]
    rw [shownAll_len] at h2
    omega
  | .lst xs, h => by
    have h1 := shown_wts xs (by simpa only [sOk] using h)
    have h2 := listText_len_le (PyData.shownAll (toPys xs))
    simp only [toPy, wt, PyData.shown]
    rw [shownAll_len] at h2
    omega
  | .frz xs, h => by
    have h1 := shown_wts xs (by simpa only [sOk] using h)
    have h2 := listText_len_le (PyData.shownAll (toPys xs))
    simp only [toPy, wt, PyData.shown]
    rw [shownAll_len] at h2
    omega
  | .ktp xs, h => by
    have h1 := shown_wts xs (by simpa only [sOk] using h)
    have h2 := tupleText_len_le (PyData.shownAll (toPys xs))
    simp only [toPy, wt, PyData.shown]
    rw [shownAll_len] at h2
    omega
  | .dct kvs, h => by
    have h1 := shown_wtk kvs (by simpa only [sOk] using h)
    have h2 := dictText_len_le (PyData.shownKv (toPyKv kvs))
    rw [PyData.shownKv_length] at h2
    simp only [toPy, wt, PyData.shown]
    omega
  | .tok _, _ => by simp only [toPy, wt]; exact Nat.le_refl _
  | .ty _, _ => by simp only [toPy, wt]; exact Nat.le_refl _
  | .glb _, _ => by simp only [toPy, wt]; exact Nat.le_refl _
  | .exc _, _ => by simp only [toPy, wt]; exact Nat.le_refl _
theorem shown_wts : ∀ xs : List D, sOks xs = true → ((PyData.shownAll (toPys xs)).map (·.length)).sum + 2 * (toPys xs).length ≤ wts xs
  | [], _ => by simp [toPys, PyData.shownAll, wts]
  | x :: xs, h => by
    simp only [sOks, Bool.and_eq_true] at h
    have h1 := shown_wt x h.1
    have h2 := shown_wts xs h.2
    simp only [toPys, PyData.shownAll, wts, List.map_cons, List.sum_cons, List.length_cons]
    omega
theorem shown_wtk : ∀ kvs : List (D × D), sOkk kvs = true → ((PyData.shownKv (toPyKv kvs)).map (·.length)).sum + 2 * (toPyKv kvs).length ≤ wtk kvs
  | [], _ => by simp [toPyKv, PyData.shownKv, wtk]
  | (k, v) :: r, h => by
    simp only [sOkk, Bool.and_eq_true] at h
    have h1 := shown_wt k h.1.1
    have h2 := shown_wt v h.1.2
    have h3 := shown_wtk r h.2
    have e2 : ((toPy k).shown ++ ": " ++ (toPy v).shown).length = (toPy k).shown.length + 2 + (toPy v).shown.length := by
      rw [strLen_append, strLen_append]; rfl
    simp only [toPyKv, PyData.shownKv, wtk, List.map_cons, List.sum_cons, List.length_cons]
    omega
end
/-- d may be shown: no deeper than n, no longer than w -/
structure ShyL (L : Nat) (d : D) (n w : Nat) : Prop where
  ok : okR L d = true
  so : sOk d = true
  dp : (toPy d).depth ≤ n
  wt : wt d ≤ w
abbrev Shy := ShyL 1920
structure ShysL (L : Nat) (d : List D) (n w : Nat) : Prop where
  ok : okRs L d = true
  so : sOks d = true
  dp : PyData.depthAll (toPys d) ≤ n
  wt : wts d ≤ w
abbrev Shys := ShysL 1920
theorem ShyL.mono {L : Nat} {d : D} {n w n' w' : Nat} (h : ShyL L d n w) (a : n ≤ n') (b : w ≤ w') : ShyL L d n' w' := ⟨h.ok, h.so, Nat.le_trans h.dp a, Nat.le_trans h.wt b⟩
theorem ShysL.mono {L : Nat} {d : List D} {n w n' w' : Nat} (h : ShysL L d n w) (a : n ≤ n') (b : w ≤ w') : ShysL L d n' w' := ⟨h.ok, h.so, Nat.le_trans h.dp a, Nat.le_trans h.wt b⟩
theorem shys_nil {L : Nat} : ShysL L [] 0 0 := ⟨by simp [okRs], by simp [sOks], by simp [toPys, PyData.depthAll], by simp [wts]⟩
theorem shys_cons {L : Nat} {d : D} {ds : List D} {n w n' w' : Nat} (h : ShyL L d n w) (k : ShysL L ds n' w') : ShysL L (d :: ds) (max n n') (w + w' + 2) := by
  refine ⟨by simp [okRs, h.ok, k.ok], by simp [sOks, h.so, k.so], ?_, ?_⟩
  · have := h.dp; have := k.dp
    simp only [toPys, PyData.depthAll]
    omega
  · have := h.wt; have := k.wt
    simp only [wts]
    omega
theorem shys_all {L : Nat} {n w : Nat} : ∀ {ds : List D}, (∀ d ∈ ds, ShyL L d n w) → ShysL L ds n (ds.length * (w + 2))
  | [], _ => shys_nil.mono (Nat.zero_le _) (Nat.zero_le _)
  | d :: ds, h => (shys_cons (h d List.mem_cons_self) (shys_all fun x hx => h x (List.mem_cons_of_mem _ hx))).mono (by omega) (by rw [List.length_cons, Nat.add_mul]; omega)
theorem shy_tup {L : Nat} {ds : List D} {n w : Nat} (h : ShysL L ds n w) : ShyL L (.tup ds) (n + 1) (w + 3) := ⟨by simpa [okR] using h.ok, by simpa [sOk] using h.so, by have := h.dp; simp only [toPy, PyData.depth]; omega, by have := h.wt; simp only [DL.wt]; omega⟩
theorem shy_lst {L : Nat} {ds : List D} {n w : Nat} (h : ShysL L ds n w) : ShyL L (.lst ds) (n + 1) (w + 3) := ⟨by simpa [okR] using h.ok, by simpa [sOk] using h.so, by have := h.dp; simp only [toPy, PyData.depth]; omega, by have := h.wt; simp only [DL.wt]; omega⟩
theorem shy_ktp {L : Nat} {ds : List D} {n w : Nat} (h : ShysL L ds n w) : ShyL L (.ktp ds) (n + 1) (w + 3) := ⟨by simpa [okR] using h.ok, by simpa [sOk] using h.so, by have := h.dp; simp only [toPy, PyData.depth]; omega, by have := h.wt; simp only [DL.wt]; omega⟩
theorem shy_int {L : Nat} {i : Int} {n : Nat} (h : Bd i n) (hn : 0 < n ∧ n ≤ L) : ShyL L (.int i) 0 (n + 2) := by
  have : i.natAbs.log2 < n := by
    by_cases e : i.natAbs = 0
    · rw [e]; simpa using hn.1
    · exact (Nat.log2_lt e).mpr h
  refine ⟨?_, by simp [sOk], by simp [toPy, PyData.depth], by simp only [DL.wt]; omega⟩
  simp only [okR, decide_eq_true_eq]
  omega
theorem shy_bl {L : Nat} {b : Bool} : ShyL L (.bl b) 0 5 := ⟨by simp [okR], by simp [sOk], by simp [toPy, PyData.depth], by simp [DL.wt]⟩
theorem shy_non {L : Nat} : ShyL L .non 0 4 := ⟨by simp [okR], by simp [sOk], by simp [toPy, PyData.depth], by simp [DL.wt]⟩
theorem shy_str {L : Nat} {x : Str} {k : Nat} (h : (x.cps.toList.all fun c => decide (c < 16 ^ 8)) = true) (hl : x.length ≤ k) : ShyL L (.str x) 0 (10 * k + 2) := ⟨by simp [okR], by simpa [sOk] using h, by simp [toPy, PyData.depth], by simp only [DL.wt]; omega⟩
theorem shy_dct0 {L : Nat} : ShyL L (.dct []) 1 3 := ⟨by simp [okR, okRk], by simp [sOk, sOkk], by simp [toPy, toPyKv, PyData.depth, PyData.depthKv], by simp [DL.wt, wtk]⟩
theorem shy_dct1 {L : Nat} {k v : D} {n w n' w' : Nat} (h : ShyL L k n w) (h' : ShyL L v n' w') : ShyL L (.dct [(k, v)]) (n + n' + 1) (w + w' + 7) := by
  refine ⟨by simp [okR, okRk, h.ok, h'.ok], by simp [sOk, sOkk, h.so, h'.so], ?_, ?_⟩
  · have := h.dp; have := h'.dp
    simp only [toPy, toPyKv, PyData.depth, PyData.depthKv]
    omega
  · have := h.wt; have := h'.wt
    simp only [DL.wt, wtk]
    omega
theorem rep_of {L : Nat} {d : D} {n w : Nat} (h : ShyL L d n w) (hn : n ≤ 90) (hw : w ≤ 16777216) : repD L d = some (.str (toPy d).shown) := by
  unfold repD
  rw [if_pos]
  exact ⟨h.ok, Nat.le_trans h.dp hn, Nat.le_trans (shown_wt d h.so) (Nat.le_trans h.wt hw)⟩
theorem wp_tAll {Q : Bool → S → Prop} : wp (tAll ρ s) Q X = Q true s := by with_unfolding_all rfl
theorem wp_ms1 {g : Str → D → Option D} {f h : DE} {Q : D → S → Prop} : wp (eMs1 g f h ρ s) Q X = wp (f ρ s) (fun x s1 => ∃ a, x = .str a ∧ wp (h ρ s1) (fun y s2 => ∃ z, g a y = some z ∧ Q z s2) X) X := by
  unfold eMs1
  rw [wp_bind]
  congr 1
  funext x s1
  cases x with
  | str a =>
    simp only [D.str.injEq, exists_eq_left']
    rw [wp_bind]
    congr 1
    funext y s2
    rw [wp_ofO]
  | _ => simp [wp]
theorem wp_ms0 {g : Str → Option D} {f : DE} {Q : D → S → Prop} : wp (eMs0 g f ρ s) Q X = wp (f ρ s) (fun x s1 => ∃ a, x = .str a ∧ ∃ z, g a = some z ∧ Q z s1) X := by
  unfold eMs0
  rw [wp_bind]
  congr 1
  funext x s1
  cases x with
  | str a =>
    simp only [D.str.injEq, exists_eq_left']
    rw [wp_ofO]
  | _ => simp [wp]
theorem q_str {i : Str} {P : Str → Prop} : (∃ c, D.str i = .str c ∧ P c) = P i := by simp
theorem wp_ev0 {Q : List (Key × D) → S → Prop} : wp (evPairs [] ρ s) Q X = Q [] s := by with_unfolding_all rfl
theorem wp_ev1 {f g : DE} {r : List (DE × DE)} {Q : List (Key × D) → S → Prop} : wp (evPairs ((f, g) :: r) ρ s) Q X = wp (f ρ s) (fun k s1 => wp (g ρ s1) (fun d s2 => ∃ k', dk k = some k' ∧ wp (evPairs r ρ s2) (fun ps s3 => Q ((k', d) :: ps) s3) X) X) X := by
  rw [evPairs]
  rw [wp_bind]
  congr 1
  funext k s1
  rw [wp_bind]
  congr 1
  funext d s2
  cases dk k with
  | none => simp [wp]
  | some k' =>
    simp only [Option.some.injEq, exists_eq_left']
    rw [wp_bind]
    with_unfolding_all rfl
theorem wp_disp {ps : List (DE × DE)} {Q : D → S → Prop} : wp (eDisp ps ρ s) Q X = wp (evPairs ps ρ s) (fun l s1 => Q (.dct (mergeD l)) s1) X := by
  unfold eDisp
  rw [wp_bind]
  with_unfolding_all rfl
theorem x_dki {i : Int} {P : Key → Prop} : (∃ k, dk (.int i) = some k ∧ P k) = P (.inl i) := by simp [dk]
theorem x_dks {i : Str} {P : Key → Prop} : (∃ k, dk (.str i) = some k ∧ P k) = P (.inr i) := by simp [dk]
theorem merge1 {k : Key} {d : D} : mergeD [(k, d)] = [(kD k, d)] := rfl
theorem tl_ofNum (n : Nat) : ∀ c ∈ (Str.ofString (toString ((n : Nat) : Int))).cps.toList, c < 16 ^ 8 := by
  intro c hc
  have h : c ∈ TL.tl (Str.ofString (toString ((n : Nat) : Int))) := hc
  rw [TL.tl_num] at h
  have := (TL.numL_digits n)
  have h2 := this c h
  omega
theorem mem_joinL {S' : List Nat} {c : Nat} : ∀ {ps : List (List Nat)}, c ∈ TL.joinL S' ps → c ∈ S' ∨ ∃ p ∈ ps, c ∈ p
  | [], h => by simp [TL.joinL] at h
  | [p], h => .inr ⟨p, List.mem_cons_self, h⟩
  | p :: q :: r, h => by
    rcases List.mem_append.mp (show c ∈ p ++ (S' ++ TL.joinL S' (q :: r)) from h) with h | h
    · exact .inr ⟨p, List.mem_cons_self, h⟩
    · rcases List.mem_append.mp h with h | h
      · exact .inl h
      · rcases mem_joinL (ps := q :: r) h with h | ⟨p', hp, h⟩
        · exact .inl h
        · exact .inr ⟨p', List.mem_cons_of_mem _ hp, h⟩
theorem len_joinL {S' : List Nat} : ∀ {ps : List (List Nat)}, (TL.joinL S' ps).length ≤ (ps.map List.length).sum + ps.length * S'.length
  | [] => by simp [TL.joinL]
  | [p] => by simp [TL.joinL]
  | p :: q :: r => by
    have := len_joinL (S' := S') (ps := q :: r)
    show (p ++ (S' ++ TL.joinL S' (q :: r))).length ≤ _
    rw [List.length_append, List.length_append, List.map_cons, List.sum_cons, List.length_cons, Nat.add_mul]
    omega
/-- what is joined may be shown -/
theorem shy_join {L : Nat} {y : Str} {ps : List Str} {k n : Nat} (hy : ∀ c ∈ y.cps.toList, c < 16 ^ 8) (hp : ∀ p ∈ ps, (∀ c ∈ p.cps.toList, c < 16 ^ 8) ∧ p.length ≤ k) (hn : ps.length ≤ n) : ShyL L (.str (Txt.join y ps)) 0 (10 * (n * k + n * y.length) + 2) := by
  have e : (Txt.join y ps).cps.toList = TL.joinL y.cps.toList (ps.map fun p => p.cps.toList) := by
    rw [TL.join_eq]
    exact TL.tl_join y ps
  have hs : ((ps.map fun p => p.cps.toList).map List.length).sum ≤ ps.length * k := by
    clear e hn
    induction ps with
    | nil => simp
    | cons p ps ih =>
      have h1 := (hp p List.mem_cons_self).2
      have h2 := ih fun q hq => hp q (List.mem_cons_of_mem _ hq)
      have h3 : p.cps.toList.length = p.length := by simp [Str.length]
      simp only [List.map_cons, List.sum_cons, List.length_cons, Nat.add_mul]
      omega
  refine shy_str ?_ ?_
  · rw [e, List.all_eq_true]
    intro c hc
    rw [decide_eq_true_eq]
    rcases mem_joinL hc with h | ⟨p, hp', h⟩
    · exact hy c h
    · obtain ⟨q, hq, rfl⟩ := List.mem_map.mp hp'
      exact (hp q hq).1 c h
  · have h1 := len_joinL (S' := y.cps.toList) (ps := ps.map fun p => p.cps.toList)
    rw [← e] at h1
    have h2 : (Txt.join y ps).cps.toList.length = (Txt.join y ps).length := by simp [Str.length]
    have h3 : y.cps.toList.length = y.length := by simp [Str.length]
    rw [h2, h3, List.length_map] at h1
    have h4 : ps.length * k ≤ n * k := Nat.mul_le_mul_right _ hn
    have h5 : ps.length * y.length ≤ n * y.length := Nat.mul_le_mul_right _ hn
    omega
theorem strsOf_map (g : D → Str) : ∀ ds : List D, strsOf (ds.map fun d => .str (g d)) = some (ds.map g)
  | [] => rfl
  | d :: ds => by simp [strsOf, strsOf_map g ds]
theorem dJoin_map {y : Str} {g : D → Str} {ds : List D} {k : Nat} (hk : ∀ d ∈ ds, (g d).length ≤ k) (hz : ds.length * k + ds.length * y.length ≤ 16777216) : dJoin y (.lst (ds.map fun d => .str (g d))) = some (.str (Txt.join y (ds.map g))) := by
  have hs : ((ds.map g).map (·.length)).sum ≤ ds.length * k := by
    clear hz
    induction ds with
    | nil => simp
    | cons d ds ih =>
      have h1 := hk d List.mem_cons_self
      have h2 := ih fun q hq => hk q (List.mem_cons_of_mem _ hq)
      simp only [List.map_cons, List.sum_cons, List.length_cons, Nat.add_mul]
      omega
  unfold dJoin
  simp only [dSeq, strsOf_map]
  rw [if_pos (by rw [List.length_map]; omega)]
theorem wp_pub {f : DE} {Q : D → S → Prop} : wp (ePub f ρ s) Q X = wp (f ρ s) (fun d s1 => ∃ ds, d = .lst ds ∧ flats ds = true ∧ Q (.tok s1.length) (s1 ++ [.l ds])) X := by
  unfold ePub
  rw [wp_bind]
  congr 1
  funext d s1
  cases d with
  | lst ds =>
    simp only [D.lst.injEq, exists_eq_left']
    by_cases h : flats ds = true <;> simp [h, wp]
  | _ => simp [wp]
theorem flats_ints : ∀ ns : List Int, flats (ns.map D.int) = true
  | [] => by simp [flats]
  | n :: ns => by simp [flats, flat, flats_ints ns]
theorem cutL_map {α β : Type} (f : α → β) (xs : List α) (lo hi : Option Int) : cutL (xs.map f) lo hi = (cutL xs lo hi).map f := by
  unfold cutL
  rw [List.length_map, List.map_take, List.map_drop]
end
end DL
namespace DL
open PySem PySem.Spec PyProof.Rows L2

/-! ### exceptions, plainly -/
section
variable {α : Type} {Q Q' : α → S → Prop} {X X' : Str → S → Prop} {ρ : List Sl} {s : S} {N B C : List Sl → S → Prop} {R : D → S → Prop}
theorem wps_raise {c : Str} : wps (sRaise c ρ s) N B C R X = X c s := by with_unfolding_all rfl
theorem q_tryE {tb : XTb} {c : Str} {i j : Nat} {f : DE} : wps (sTryE tb c i j f ρ s) N B C R X = wp (f ρ s) (fun _ s1 => N ρ s1) (fun x s1 => ∃ b, isX tb x c = some b ∧ if b = true then wpn ρ [(j, .dat (.exc x)), (i, .emp)] (fun ρ1 => N ρ1 s1) else X x s1) := by
  unfold sTryE
  cases f ρ s with
  | ok d s1 => with_unfolding_all rfl
  | bad => with_unfolding_all rfl
  | exc x s1 =>
    simp only [wp]
    cases isX tb x c with
    | none => simp [wps]
    | some b =>
      cases b with
      | true => simp [wps, wpn, set_at]
      | false => simp [wps]
theorem q_tryA {tb : XTb} {c : Str} {i j k : Nat} {f : DE} : wps (sTryA tb c i j k f ρ s) N B C R X = wp (f ρ s) (fun d s1 => wpn ρ [(k, .dat d)] fun ρ1 => N ρ1 s1) (fun x s1 => ∃ b, isX tb x c = some b ∧ if b = true then wpn ρ [(j, .dat (.exc x)), (i, .emp)] (fun ρ1 => N ρ1 s1) else X x s1) := by
  unfold sTryA
  cases f ρ s with
  | ok d s1 => simp [wps, wp, wpn, set_at]
  | bad => with_unfolding_all rfl
  | exc x s1 =>
    simp only [wp]
    cases isX tb x c with
    | none => simp [wps]
    | some b =>
      cases b with
      | true => simp [wps, wpn, set_at]
      | false => simp [wps]
theorem wpc_mono {r : Res α} {w : Wit Q' X'} (h : wp r Q X) (i : ∀ a s, Q a s → Q' a s) (j : ∀ c s, X c s → X' c s) : wpc r Q' X' w := wp_mono h i j
theorem x_isX1 {tb : XTb} {x y : Str} {P : D → Prop} : (∃ z, dIsX tb [.exc x, .glb y] = some z ∧ P z) = ∃ b, isX tb x y = some b ∧ P (.bl b) := by
  show (∃ z, (isX tb x y).map D.bl = some z ∧ P z) = _
  exact ex_map
theorem x_isXv {tb : XTb} {x : Str} {P : D → Prop} : (∃ z, dIsX tb [.exc x, .ty "ValueError"] = some z ∧ P z) = ∃ b, isX tb x "ValueError" = some b ∧ P (.bl b) := by
  show (∃ z, (if "ValueError" = "ValueError" then (isX tb x "ValueError").map D.bl else none) = some z ∧ P z) = _
  rw [if_pos rfl]
  exact ex_map
theorem x_isXt {tb : XTb} {x y : Str} {cs : List D} {P : D → Prop} : (∃ z, dIsX tb [.exc x, .tup (.glb y :: cs)] = some z ∧ P z) = ∃ b, isXs tb x (.glb y :: cs) = some b ∧ P (.bl b) := by
  show (∃ z, (isXs tb x (.glb y :: cs)).map D.bl = some z ∧ P z) = _
  exact ex_map
end
/-! ### plain things -/
def isInt : D → Bool
  | .int _ => true
  | _ => false
def plain (d : D) : Bool := (tyD d).isSome
theorem ii_int {i : Int} : isInt (.int i) = true := rfl
theorem ii_bl {i : Bool} : isInt (.bl i) = false := rfl
theorem ii_non : isInt .non = false := rfl
theorem ii_str {i : Str} : isInt (.str i) = false := rfl
theorem ii_tup {i : List D} : isInt (.tup i) = false := rfl
theorem ii_ktp {i : List D} : isInt (.ktp i) = false := rfl
theorem ii_lst {i : List D} : isInt (.lst i) = false := rfl
theorem ii_frz {i : List D} : isInt (.frz i) = false := rfl
theorem ii_dct {i : List (D × D)} : isInt (.dct i) = false := rfl
/-! ### sizes -/
theorem cfd_bd {i j : Int} (h0 : j ≠ 0) (h : Bd j 9000) : CFd i j := by
  refine ⟨h0, ?_⟩
  unfold Builtin.divisionGoesByPylong
  have hne : j.natAbs ≠ 0 := by omega
  have : j.natAbs.log2 < 9000 := (Nat.log2_lt hne).mpr h
  have hb : (j == 0) = false := by simpa using h0
  simp only [hb]
  simp
  intro h1
  omega
theorem bd_neg {i : Int} {n : Nat} (h : Bd i n) : Bd (-i) n := by unfold Bd at h ⊢; omega
theorem bd_abs {i : Int} {n : Nat} (h : Bd i n) : Bd (if i < 0 then -i else i) n := by split; exact bd_neg h; exact h
theorem bd_ite {c : Prop} [Decidable c] {i j : Int} {n : Nat} (h : Bd i n) (k : Bd j n) : Bd (if c then i else j) n := by split; exact h; exact k
theorem bd_int {i : Int} (n : Nat) (h0 : -(2 ^ n : Int) < i) (h1 : i < 2 ^ n) : Bd i n := by
  unfold Bd
  have : ((i.natAbs : Nat) : Int) < ((2 ^ n : Nat) : Int) := by push_cast; omega
  exact Int.ofNat_lt.mp this
theorem bd_le {i j : Int} {n : Nat} (h : Bd j n) (k : i.natAbs ≤ j.natAbs) : Bd i n := Nat.lt_of_le_of_lt k h
theorem bd_fdiv {i j : Int} {n : Nat} (h : Bd i n) (hj : 0 < j) (hi : 0 ≤ i) : Bd (i.fdiv j) n := by
  refine bd_le h ?_
  have h1 := fdiv_nn hi hj
  rw [Int.fdiv_eq_ediv_of_nonneg _ (Int.le_of_lt hj)] at h1 ⊢
  have := Int.ediv_le_self j hi
  omega
theorem bd_gcd {i j : Int} {n : Nat} (h : Bd j n) (hj : j ≠ 0) : Bd (Int.gcd i j : Int) n := by
  refine bd_le h ?_
  rw [Int.natAbs_natCast]
  exact Nat.le_of_dvd (by omega) (Nat.gcd_dvd_right _ _)
/-! ### ratios -/
def rat (q : Rat) : D := .tup [.int q.num, .int q.den]
structure RB (q : Rat) (n : Nat) : Prop where
  nu : Bd q.num n
  de : Bd (q.den : Int) n
theorem RB.mono {q : Rat} {n m : Nat} (h : RB q n) (k : n ≤ m) : RB q m := ⟨bd_mono h.nu k, bd_mono h.de k⟩
theorem fdiv_exact {a g : Int} (hg : 0 < g) (h : g ∣ a) : a.fdiv g = a / g := Int.fdiv_eq_ediv_of_nonneg _ (Int.le_of_lt hg)
theorem fdiv_neg_exact {a g : Int} (hg : 0 < g) (h : g ∣ a) : a.fdiv (-g) = -(a / g) := by
  obtain ⟨k, rfl⟩ := h
  rw [Int.mul_ediv_cancel_left _ (by omega), show g * k = (-g) * (-k) by rw [Int.neg_mul_neg], Int.mul_fdiv_cancel_left _ (by omega)]
theorem low_num {n d : Int} (hd : d ≠ 0) : n.fdiv (if d < 0 then 0 - (Int.gcd n d : Int) else Int.gcd n d) = (Rat.divInt n d).num ∧ d.fdiv (if d < 0 then 0 - (Int.gcd n d : Int) else Int.gcd n d) = ((Rat.divInt n d).den : Int) := by
  have hg : 0 < (Int.gcd n d : Int) := by
    have := Int.gcd_pos_of_ne_zero_right n hd
    omega
  have dn : (Int.gcd n d : Int) ∣ n := Int.gcd_dvd_left _ _
  have dd : (Int.gcd n d : Int) ∣ d := Int.gcd_dvd_right _ _
  rw [Rat.num_divInt, Rat.den_divInt, if_neg hd, Int.gcd_comm d n]
  by_cases h : d < 0
  · rw [if_pos h, Int.zero_sub, fdiv_neg_exact hg dn, fdiv_neg_exact hg dd, Int.sign_eq_neg_one_of_neg h]
    constructor
    · rw [show -1 * n = -n by omega, Int.neg_ediv_of_dvd dn]
    · have : d = -((d.natAbs : Nat) : Int) := by omega
      have e2 : -(d / (Int.gcd n d : Int)) = (-d) / (Int.gcd n d : Int) := (Int.neg_ediv_of_dvd dd).symm
      rw [e2, show -d = ((d.natAbs : Nat) : Int) by omega]
      rfl
  · rw [if_neg h, fdiv_exact hg dn, fdiv_exact hg dd, Int.sign_eq_one_of_pos (by omega)]
    constructor
    · rw [Int.one_mul]
    · rw [show d / (Int.gcd n d : Int) = ((d.natAbs : Nat) : Int) / (Int.gcd n d : Int) by congr 1; omega]
      rfl
theorem rb_divInt {n d : Int} {k : Nat} (hn : Bd n k) (hd : Bd d k) (h0 : d ≠ 0) : RB (Rat.divInt n d) k := by
  constructor
  · refine bd_le hn ?_
    rw [Rat.num_divInt]
    refine Nat.le_trans (Int.natAbs_ediv_le_natAbs _ _) ?_
    rw [Int.natAbs_mul]
    have : d.sign.natAbs = 1 := by
      rw [Int.natAbs_sign_of_ne_zero h0]
    rw [this, Nat.one_mul]
    exact Nat.le_refl _
  · refine bd_le hd ?_
    rw [Rat.den_divInt, if_neg h0]
    exact Nat.div_le_self _ _
theorem den_pos (q : Rat) : (0 : Int) < q.den := by
  have := q.den_pos
  omega
theorem rat_gcd (q : Rat) : Int.gcd q.num q.den = 1 := by
  have := q.reduced
  exact this
/-- gcd by Euclid's steps -/
theorem gcd_step {a b : Int} (h : 0 < b) : Int.gcd b (a.fmod b) = Int.gcd a b := by
  rw [Int.fmod_eq_emod_of_nonneg _ (Int.le_of_lt h)]
  have e : a = a % b + b * (a / b) := by have := Int.emod_add_mul_ediv a b; omega
  rw [Int.gcd_comm b]
  conv => rhs; rw [e]
  simp
theorem gcd_ite (a b : Int) : Int.gcd (if a < 0 then -a else a) (if b < 0 then -b else b) = Int.gcd a b := by
  split <;> split <;> simp
/-- what is a ratio in Python's data is one of Rat -/
theorem rat_of {n d : Int} (h : 0 < d) (g : Int.gcd n d = 1) : D.tup [.int n, .int d] = rat (Rat.divInt n d) := by
  have h0 : d ≠ 0 := by omega
  obtain ⟨e1, e2⟩ := low_num (n := n) (d := d) h0
  rw [if_neg (by omega), g] at e1 e2
  unfold rat
  rw [← e1, ← e2]
  simp
theorem rat_inj {p q : Rat} (h : rat p = rat q) : p = q := by
  unfold rat at h
  simp only [D.tup.injEq, List.cons.injEq, D.int.injEq, and_true] at h
  exact Rat.ext h.1 (by omega)
/-! ### draws -/
def isPr : D → Bool
  | .int q => decide (0 < q ∧ q < 2147483648)
  | _ => false
theorem at_prD {xs : List D} {p n : Int} {P : D → Prop} (hp : 0 ≤ p) (hn : (xs.length : Int) = n) (h0 : 0 < n) (hl : xs.all isPr = true) (k : ∀ q : Int, 0 < q → q < 2147483648 → P (.int q)) : ∃ z, atI xs (p.fmod n) = some z ∧ P z := by
  obtain ⟨a, b⟩ := fmod_rng (i := p) h0
  obtain ⟨d, e, h⟩ := atI_of (xs := xs) a (by rw [hn]; exact b)
  have := List.all_eq_true.mp hl d (List.mem_of_getElem? h)
  cases d with
  | int q =>
    simp only [isPr, decide_eq_true_eq] at this
    exact ⟨_, e, k q this.1 this.2⟩
  | _ => exact Bool.noConfusion this
theorem pr_bd {q : Int} (a : 0 < q) (b : q < 2147483648) : Bd q 32 := bd_rng (Int.le_of_lt a) (Int.le_of_lt b) (by decide)
theorem cfd_64 {i m : Int} (h0 : 0 < m) (h : m < 2 ^ 64) : CFd i m := cfd_of (by omega) (by omega)
/-- one of some things, all of them so -/
theorem at_allD {P : D → Prop} {xs : List D} {i : Int} {Q : D → Prop} (h : ∀ x ∈ xs, P x) (h0 : 0 ≤ i) (h1 : i < xs.length) (k : ∀ x, P x → Q x) : ∃ z, atI xs i = some z ∧ Q z := by
  obtain ⟨d, e, hd⟩ := atI_of h0 h1
  exact ⟨d, e, k d (h d (List.mem_of_getElem? hd))⟩
/-- a number from lo to below hi, the pen behind it -/
def IntIn (lo hi k : Int) (r : S) (a : D) (s : S) : Prop := ∃ i, a = .int i ∧ lo ≤ i ∧ i < hi ∧ Pen k r s
/-- a thing of a kind, the pen behind it -/
def PenD (P : D → Prop) (k : Int) (r : S) (a : D) (s : S) : Prop := P a ∧ Pen k r s
theorem p100 : (2 : Int) ^ 100 = 1267650600228229401496703205376 := by decide
theorem p200 : (2 : Int) ^ 200 = 1606938044258990275541962092341162602522202993782792835301376 := by decide
theorem big200 {k j : Int} (h : k < 2 ^ 100) (hj : j < 2 ^ 100) : k + j < 2 ^ 200 := by rw [p100] at h hj; rw [p200]; omega
theorem ten_le {m n : Nat} (h : m ≤ n) : (10 : Int) ^ m ≤ 10 ^ n := by
  have := Nat.pow_le_pow_right (show 0 < 10 by decide) h
  exact_mod_cast this
theorem two_le {m n : Nat} (h : m ≤ n) : (2 : Int) ^ m ≤ 2 ^ n := by
  have := Nat.pow_le_pow_right (show 0 < 2 by decide) h
  exact_mod_cast this
theorem nc_0 : (((0 : Nat)) : Int) = 0 := rfl
theorem nc_1 : (((1 : Nat)) : Int) = 1 := rfl
theorem nc_2 : (((2 : Nat)) : Int) = 2 := rfl
theorem nc_3 : (((3 : Nat)) : Int) = 3 := rfl
theorem nc_4 : (((4 : Nat)) : Int) = 4 := rfl
theorem nc_5 : (((5 : Nat)) : Int) = 5 := rfl
theorem nc_6 : (((6 : Nat)) : Int) = 6 := rfl
theorem nc_7 : (((7 : Nat)) : Int) = 7 := rfl
theorem nc_8 : (((8 : Nat)) : Int) = 8 := rfl
theorem nc_9 : (((9 : Nat)) : Int) = 9 := rfl
theorem nc_10 : (((10 : Nat)) : Int) = 10 := rfl
theorem nc_11 : (((11 : Nat)) : Int) = 11 := rfl
theorem nc_12 : (((12 : Nat)) : Int) = 12 := rfl
theorem nc_13 : (((13 : Nat)) : Int) = 13 := rfl
theorem nc_14 : (((14 : Nat)) : Int) = 14 := rfl
theorem nc_15 : (((15 : Nat)) : Int) = 15 := rfl
theorem nc_16 : (((16 : Nat)) : Int) = 16 := rfl
theorem nc_17 : (((17 : Nat)) : Int) = 17 := rfl
theorem nc_18 : (((18 : Nat)) : Int) = 18 := rfl
theorem nc_19 : (((19 : Nat)) : Int) = 19 := rfl
theorem nc_20 : (((20 : Nat)) : Int) = 20 := rfl
theorem nc_21 : (((21 : Nat)) : Int) = 21 := rfl
theorem nc_22 : (((22 : Nat)) : Int) = 22 := rfl
theorem nc_23 : (((23 : Nat)) : Int) = 23 := rfl
theorem nc_24 : (((24 : Nat)) : Int) = 24 := rfl
theorem nc_25 : (((25 : Nat)) : Int) = 25 := rfl
theorem nc_26 : (((26 : Nat)) : Int) = 26 := rfl
theorem nc_27 : (((27 : Nat)) : Int) = 27 := rfl
theorem nc_28 : (((28 : Nat)) : Int) = 28 := rfl
theorem nc_29 : (((29 : Nat)) : Int) = 29 := rfl
theorem nc_30 : (((30 : Nat)) : Int) = 30 := rfl
theorem nc_31 : (((31 : Nat)) : Int) = 31 := rfl
theorem nc_32 : (((32 : Nat)) : Int) = 32 := rfl
theorem x_nonnon {P : D → Prop} : (∃ z, dIs .non .non = some z ∧ P z) = P (.bl true) := by show (∃ z, some (D.bl true) = some z ∧ P z) = _; simp
theorem x_tupnon {x : List D} {P : D → Prop} : (∃ z, dIs (.tup x) .non = some z ∧ P z) = P (.bl false) := by show (∃ z, some (D.bl false) = some z ∧ P z) = _; simp
theorem x_excnon {x : Str} {P : D → Prop} : (∃ z, dIs (.exc x) .non = some z ∧ P z) = P (.bl false) := by show (∃ z, some (D.bl false) = some z ∧ P z) = _; simp
theorem x_intnon {x : Int} {P : D → Prop} : (∃ z, dIs (.int x) .non = some z ∧ P z) = P (.bl false) := by show (∃ z, some (D.bl false) = some z ∧ P z) = _; simp
theorem x_nnonnon {P : D → Prop} : (∃ z, dIsnt .non .non = some z ∧ P z) = P (.bl false) := by show (∃ z, some (D.bl false) = some z ∧ P z) = _; simp
theorem x_ntupnon {x : List D} {P : D → Prop} : (∃ z, dIsnt (.tup x) .non = some z ∧ P z) = P (.bl true) := by show (∃ z, some (D.bl true) = some z ∧ P z) = _; simp
theorem eq_tup2 {a b c d : Int} : dEq (.tup [.int a, .int b]) (.tup [.int c, .int d]) = some (.bl (decide (a = c) && decide (b = d))) := by
  simp [dEq, ready, okD, okDs, toPy, toPys, PyData.depth, PyData.depthAll, eqB, PyData.eqv, PyData.eqvAll, BEq.beq]
theorem ne_tup2 {a b c d : Int} : dNe (.tup [.int a, .int b]) (.tup [.int c, .int d]) = some (.bl (!(decide (a = c) && decide (b = d)))) := by
  simp [dNe, ready, okD, okDs, toPy, toPys, PyData.depth, PyData.depthAll, eqB, PyData.eqv, PyData.eqvAll, BEq.beq]
theorem x_eqt2 {a b c d : Int} {P : D → Prop} : (∃ z, dEq (.tup [.int a, .int b]) (.tup [.int c, .int d]) = some z ∧ P z) = P (.bl (decide (a = c) && decide (b = d))) := by rw [eq_tup2]; exact ex_some
theorem x_net2 {a b c d : Int} {P : D → Prop} : (∃ z, dNe (.tup [.int a, .int b]) (.tup [.int c, .int d]) = some z ∧ P z) = P (.bl (!(decide (a = c) && decide (b = d)))) := by rw [ne_tup2]; exact ex_some
/-! ### things through and through plain -/
mutual
def pd : D → Bool
  | .non => true
  | .bl _ => true
  | .int _ => true
  | .str _ => true
  | .tup xs => pds xs
  | .lst xs => pds xs
  | .frz xs => pds xs
  | .dct _ => true
  | .tok _ => false
  | .ty _ => false
  | .glb _ => false
  | .ktp _ => false
  | .exc _ => false
def pds : List D → Bool
  | [] => true
  | x :: xs => pd x && pds xs
end
theorem pd_plain {d : D} (h : pd d = true) : plain d = true := by
  cases d <;> first
    | rfl
    | (simp [pd] at h)
theorem pds_all {xs : List D} : pds xs = true ↔ ∀ x ∈ xs, pd x = true := by
  induction xs with
  | nil => simp [pds]
  | cons x xs ih => simp [pds, ih]
theorem pd_tup {xs : List D} (h : ∀ x ∈ xs, pd x = true) : pd (.tup xs) = true := by simpa [pd] using pds_all.mpr h
theorem pd_lst {xs : List D} (h : ∀ x ∈ xs, pd x = true) : pd (.lst xs) = true := by simpa [pd] using pds_all.mpr h
theorem pd_tup' {xs : List D} (h : pd (.tup xs) = true) : ∀ x ∈ xs, pd x = true := pds_all.mp (by simpa [pd] using h)
/-- is it a ratio -/
def ratB : D → Bool
  | .tup [.int n, .int m] => decide (0 < m) && decide (Int.gcd n m = 1)
  | _ => false
def unitB : D → Bool
  | .tup [.int n, .int m] => decide (0 ≤ n ∧ n ≤ m)
  | _ => false
def fewB : D → Bool
  | .tup [.int _, .int m] => decide (m ≤ 60)
  | _ => false
def shareB (d : D) : Bool := ratB d && unitB d
def chB (d : D) : Bool := shareB d && fewB d
theorem isInt_no {a : D} (h : isInt a = false) : ∀ i, a ≠ .int i := fun i e => by rw [e] at h; cases h
theorem isInt_yes {a : D} (h : isInt a = true) : ∃ i, a = .int i := by
  cases a with
  | int i => exact ⟨i, rfl⟩
  | _ => cases h
theorem ratB_no1 {a b : D} (h : isInt a = false) : ratB (.tup [a, b]) = false := by
  unfold ratB
  split
  · rename_i e
    cases e
    cases h
  · rfl
theorem ratB_no2 {a b : D} (h : isInt b = false) : ratB (.tup [a, b]) = false := by
  unfold ratB
  split
  · rename_i e
    cases e
    cases h
  · rfl
theorem ratB_len {xs : List D} (h : (xs.length : Int) ≠ 2) : ratB (.tup xs) = false := by
  unfold ratB
  split
  · rename_i e
    cases e
    exact absurd rfl h
  · rfl
theorem ratB_inv {d : D} (h : ratB d = true) : ∃ n m : Int, d = .tup [.int n, .int m] ∧ 0 < m ∧ Int.gcd n m = 1 := by
  unfold ratB at h
  split at h
  · rename_i n m
    simp only [Bool.and_eq_true, decide_eq_true_eq] at h
    exact ⟨n, m, rfl, h.1, h.2⟩
  · cases h
theorem shareB_of {d : D} (h : ratB d = false) : shareB d = false := by simp [shareB, h]
theorem chB_of {d : D} (h : shareB d = false) : chB d = false := by simp [chB, h]
theorem two_of {xs : List D} (h : (xs.length : Int) = 2) : ∃ a b, xs = [a, b] := by
  match xs, h with
  | [a, b], _ => exact ⟨a, b, rfl⟩
  | [], h => exact absurd h (by decide)
  | [_], h => exact absurd h (by simp)
  | _ :: _ :: _ :: r, h => simp only [List.length_cons] at h; omega
/-- a plain thing that may be shown -/
structure Thing (L n w : Nat) (d : D) : Prop where
  pl : pd d = true
  sh : ShyL L d n w
section
variable {L n w m n' w' : Nat} {d : D}
theorem Thing.mono (h : Thing L n w d) (a : n ≤ n') (b : w ≤ w') : Thing L n' w' d := ⟨h.pl, h.sh.mono a b⟩
theorem th_int {i : Int} {k : Nat} (h : Bd i k) (hk : 0 < k ∧ k ≤ L) : Thing L 0 (k + 2) (.int i) := ⟨rfl, shy_int h hk⟩
theorem th_bl {b : Bool} : Thing L 0 5 (.bl b) := ⟨rfl, shy_bl⟩
theorem th_non : Thing L 0 4 .non := ⟨rfl, shy_non⟩
theorem th_str {x : Str} {k : Nat} (h : (x.cps.toList.all fun c => decide (c < 16 ^ 8)) = true) (hl : x.length ≤ k) : Thing L 0 (10 * k + 2) (.str x) := ⟨rfl, shy_str h hl⟩
theorem th_dct0 : Thing L 1 3 (.dct []) := ⟨rfl, shy_dct0⟩
theorem th_dct1 {k v : D} (h : Thing L n w k) (h' : Thing L n' w' v) : Thing L (n + n' + 1) (w + w' + 7) (.dct [(k, v)]) := ⟨rfl, shy_dct1 h.sh h'.sh⟩
theorem th_tup {xs : List D} (h : ∀ x ∈ xs, Thing L n w x) (hl : xs.length ≤ m) : Thing L (n + 1) (m * (w + 2) + 3) (.tup xs) :=
  ⟨pd_tup fun x hx => (h x hx).pl, (shy_tup (shys_all fun x hx => (h x hx).sh)).mono (Nat.le_refl _) (Nat.add_le_add_right (Nat.mul_le_mul_right _ hl) _)⟩
theorem th_lst {xs : List D} (h : ∀ x ∈ xs, Thing L n w x) (hl : xs.length ≤ m) : Thing L (n + 1) (m * (w + 2) + 3) (.lst xs) :=
  ⟨pd_lst fun x hx => (h x hx).pl, (shy_lst (shys_all fun x hx => (h x hx).sh)).mono (Nat.le_refl _) (Nat.add_le_add_right (Nat.mul_le_mul_right _ hl) _)⟩
theorem th_rep (h : Thing L n w d) (hn : n ≤ 90) (hw : w ≤ 16777216) : repD L d = some (.str (toPy d).shown) := rep_of h.sh hn hw
theorem cut_mem {α : Type} {xs : List α} {lo hi : Option Int} {x : α} (h : x ∈ cutL xs lo hi) : x ∈ xs := by
  unfold cutL at h
  exact List.mem_of_mem_drop (List.mem_of_mem_take h)
theorem cut_len {α : Type} {xs : List α} {lo hi : Option Int} : (cutL xs lo hi).length ≤ xs.length := by
  unfold cutL
  rw [List.length_take, List.length_drop]
  omega
end
theorem ne_bls {a b c d : Bool} : dNe (.lst [.bl a, .bl b]) (.lst [.bl c, .bl d]) = some (.bl (!(decide (a = c) && decide (b = d)))) := by
  cases a <;> cases b <;> cases c <;> cases d <;> rfl
theorem x_nebls {a b c d : Bool} {P : D → Prop} : (∃ z, dNe (.lst [.bl a, .bl b]) (.lst [.bl c, .bl d]) = some z ∧ P z) = P (.bl (!(decide (a = c) && decide (b = d)))) := by rw [ne_bls]; exact ex_some
theorem x_bls1 {a : Bool} {P : List Bool → Prop} : (∃ l, blsOf [.bl a] = some l ∧ P l) = P [a] := by show (∃ l, some [a] = some l ∧ P l) = _; exact ex_some
theorem x_bls2 {a b : Bool} {P : List Bool → Prop} : (∃ l, blsOf [.bl a, .bl b] = some l ∧ P l) = P [a, b] := by show (∃ l, some [a, b] = some l ∧ P l) = _; exact ex_some
theorem x_bls3 {a b c : Bool} {P : List Bool → Prop} : (∃ l, blsOf [.bl a, .bl b, .bl c] = some l ∧ P l) = P [a, b, c] := by show (∃ l, some [a, b, c] = some l ∧ P l) = _; exact ex_some
theorem x_bls4 {a b c d : Bool} {P : List Bool → Prop} : (∃ l, blsOf [.bl a, .bl b, .bl c, .bl d] = some l ∧ P l) = P [a, b, c, d] := by show (∃ l, some [a, b, c, d] = some l ∧ P l) = _; exact ex_some
theorem id_def (b : Bool) : id b = b := rfl
theorem x_at_ite {a b : D} {c : Prop} [Decidable c] {P : D → Prop} : (∃ z, atI [a, b] (if c then 1 else 0) = some z ∧ P z) = if c then P b else P a := by
  by_cases h : c
  · rw [if_pos h, if_pos h]; exact x_at1
  · rw [if_neg h, if_neg h]; exact x_at0
theorem bd_one : Bd 1 1 := by unfold Bd; decide
theorem bd_mone : Bd (-1) 1 := by unfold Bd; decide
structure Things (L n w : Nat) (xs : List D) : Prop where
  pl : pds xs = true
  sh : ShysL L xs n w
section
variable {L n w m n' w' : Nat} {d : D} {xs : List D}
theorem ths_nil : Things L 0 0 [] := ⟨rfl, shys_nil⟩
theorem ths_cons (h : Thing L n w d) (k : Things L n' w' xs) : Things L (max n n') (w + w' + 2) (d :: xs) := ⟨by simp [pds, h.pl, k.pl], shys_cons h.sh k.sh⟩
theorem th_tups (h : Things L n w xs) : Thing L (n + 1) (w + 3) (.tup xs) := ⟨by simpa [pd] using h.pl, shy_tup h.sh⟩
theorem th_lsts (h : Things L n w xs) : Thing L (n + 1) (w + 3) (.lst xs) := ⟨by simpa [pd] using h.pl, shy_lst h.sh⟩
theorem th_lit {i : Int} (h : i.natAbs < 2 ^ 64) (hL : 64 ≤ L) : Thing L 0 66 (.int i) := th_int (k := 64) (bd_of h) ⟨by decide, hL⟩
theorem th_mrg {k : Key} {v : D} (h : Thing L n w (kD k)) (h' : Thing L n' w' v) : Thing L (n + n' + 1) (w + w' + 7) (.dct (mergeD [(k, v)])) := by rw [merge1]; exact th_dct1 h h'
theorem th_all : ∀ {xs : List D}, (∀ x ∈ xs, Thing L n w x) → xs.length ≤ m → Things L n (m * (w + 2)) xs := fun h hl =>
  ⟨pds_all.mpr fun x hx => (h x hx).pl, (shys_all fun x hx => (h x hx).sh).mono (Nat.le_refl _) (Nat.mul_le_mul_right _ hl)⟩
end
/-! ### own lists, plainly -/
def wpo (i : Nat) (ρ : List Sl) (P : List D → Prop) : Prop := match ρ[i]? with
  | some (.own ds) => P ds
  | _ => False
section
variable {α : Type} {X : Str → S → Prop} {ρ : List Sl} {s : S} {N B C : List Sl → S → Prop} {R : D → S → Prop}
theorem o_0 {r : List Sl} {ds : List D} {P : List D → Prop} : wpo 0 (.own ds :: r) P = P ds := by with_unfolding_all rfl
theorem f_0 {r : List Sl} {y : Sl} : frzAt 0 (y :: r) = frzSl y :: r := rfl
theorem o_1 {x0 : Sl} {r : List Sl} {ds : List D} {P : List D → Prop} : wpo 1 (x0 :: .own ds :: r) P = P ds := by with_unfolding_all rfl
theorem f_1 {x0 : Sl} {r : List Sl} {y : Sl} : frzAt 1 (x0 :: y :: r) = x0 :: frzSl y :: r := rfl
theorem o_2 {x0 x1 : Sl} {r : List Sl} {ds : List D} {P : List D → Prop} : wpo 2 (x0 :: x1 :: .own ds :: r) P = P ds := by with_unfolding_all rfl
theorem f_2 {x0 x1 : Sl} {r : List Sl} {y : Sl} : frzAt 2 (x0 :: x1 :: y :: r) = x0 :: x1 :: frzSl y :: r := rfl
theorem o_3 {x0 x1 x2 : Sl} {r : List Sl} {ds : List D} {P : List D → Prop} : wpo 3 (x0 :: x1 :: x2 :: .own ds :: r) P = P ds := by with_unfolding_all rfl
theorem f_3 {x0 x1 x2 : Sl} {r : List Sl} {y : Sl} : frzAt 3 (x0 :: x1 :: x2 :: y :: r) = x0 :: x1 :: x2 :: frzSl y :: r := rfl
theorem o_4 {x0 x1 x2 x3 : Sl} {r : List Sl} {ds : List D} {P : List D → Prop} : wpo 4 (x0 :: x1 :: x2 :: x3 :: .own ds :: r) P = P ds := by with_unfolding_all rfl
theorem f_4 {x0 x1 x2 x3 : Sl} {r : List Sl} {y : Sl} : frzAt 4 (x0 :: x1 :: x2 :: x3 :: y :: r) = x0 :: x1 :: x2 :: x3 :: frzSl y :: r := rfl
theorem o_5 {x0 x1 x2 x3 x4 : Sl} {r : List Sl} {ds : List D} {P : List D → Prop} : wpo 5 (x0 :: x1 :: x2 :: x3 :: x4 :: .own ds :: r) P = P ds := by with_unfolding_all rfl
theorem f_5 {x0 x1 x2 x3 x4 : Sl} {r : List Sl} {y : Sl} : frzAt 5 (x0 :: x1 :: x2 :: x3 :: x4 :: y :: r) = x0 :: x1 :: x2 :: x3 :: x4 :: frzSl y :: r := rfl
theorem o_6 {x0 x1 x2 x3 x4 x5 : Sl} {r : List Sl} {ds : List D} {P : List D → Prop} : wpo 6 (x0 :: x1 :: x2 :: x3 :: x4 :: x5 :: .own ds :: r) P = P ds := by with_unfolding_all rfl
theorem f_6 {x0 x1 x2 x3 x4 x5 : Sl} {r : List Sl} {y : Sl} : frzAt 6 (x0 :: x1 :: x2 :: x3 :: x4 :: x5 :: y :: r) = x0 :: x1 :: x2 :: x3 :: x4 :: x5 :: frzSl y :: r := rfl
theorem o_7 {x0 x1 x2 x3 x4 x5 x6 : Sl} {r : List Sl} {ds : List D} {P : List D → Prop} : wpo 7 (x0 :: x1 :: x2 :: x3 :: x4 :: x5 :: x6 :: .own ds :: r) P = P ds := by with_unfolding_all rfl
theorem f_7 {x0 x1 x2 x3 x4 x5 x6 : Sl} {r : List Sl} {y : Sl} : frzAt 7 (x0 :: x1 :: x2 :: x3 :: x4 :: x5 :: x6 :: y :: r) = x0 :: x1 :: x2 :: x3 :: x4 :: x5 :: x6 :: frzSl y :: r := rfl
theorem o_8 {x0 x1 x2 x3 x4 x5 x6 x7 : Sl} {r : List Sl} {ds : List D} {P : List D → Prop} : wpo 8 (x0 :: x1 :: x2 :: x3 :: x4 :: x5 :: x6 :: x7 :: .own ds :: r) P = P ds := by with_unfolding_all rfl
theorem f_8 {x0 x1 x2 x3 x4 x5 x6 x7 : Sl} {r : List Sl} {y : Sl} : frzAt 8 (x0 :: x1 :: x2 :: x3 :: x4 :: x5 :: x6 :: x7 :: y :: r) = x0 :: x1 :: x2 :: x3 :: x4 :: x5 :: x6 :: x7 :: frzSl y :: r := rfl
theorem o_9 {x0 x1 x2 x3 x4 x5 x6 x7 x8 : Sl} {r : List Sl} {ds : List D} {P : List D → Prop} : wpo 9 (x0 :: x1 :: x2 :: x3 :: x4 :: x5 :: x6 :: x7 :: x8 :: .own ds :: r) P = P ds := by with_unfolding_all rfl
theorem f_9 {x0 x1 x2 x3 x4 x5 x6 x7 x8 : Sl} {r : List Sl} {y : Sl} : frzAt 9 (x0 :: x1 :: x2 :: x3 :: x4 :: x5 :: x6 :: x7 :: x8 :: y :: r) = x0 :: x1 :: x2 :: x3 :: x4 :: x5 :: x6 :: x7 :: x8 :: frzSl y :: r := rfl
theorem o_10 {x0 x1 x2 x3 x4 x5 x6 x7 x8 x9 : Sl} {r : List Sl} {ds : List D} {P : List D → Prop} : wpo 10 (x0 :: x1 :: x2 :: x3 :: x4 :: x5 :: x6 :: x7 :: x8 :: x9 :: .own ds :: r) P = P ds := by with_unfolding_all rfl
theorem f_10 {x0 x1 x2 x3 x4 x5 x6 x7 x8 x9 : Sl} {r : List Sl} {y : Sl} : frzAt 10 (x0 :: x1 :: x2 :: x3 :: x4 :: x5 :: x6 :: x7 :: x8 :: x9 :: y :: r) = x0 :: x1 :: x2 :: x3 :: x4 :: x5 :: x6 :: x7 :: x8 :: x9 :: frzSl y :: r := rfl
theorem o_11 {x0 x1 x2 x3 x4 x5 x6 x7 x8 x9 x10 : Sl} {r : List Sl} {ds : List D} {P : List D → Prop} : wpo 11 (x0 :: x1 :: x2 :: x3 :: x4 :: x5 :: x6 :: x7 :: x8 :: x9 :: x10 :: .own ds :: r) P = P ds := by with_unfolding_all rfl
theorem f_11 {x0 x1 x2 x3 x4 x5 x6 x7 x8 x9 x10 : Sl} {r : List Sl} {y : Sl} : frzAt 11 (x0 :: x1 :: x2 :: x3 :: x4 :: x5 :: x6 :: x7 :: x8 :: x9 :: x10 :: y :: r) = x0 :: x1 :: x2 :: x3 :: x4 :: x5 :: x6 :: x7 :: x8 :: x9 :: x10 :: frzSl y :: r := rfl
theorem o_12 {x0 x1 x2 x3 x4 x5 x6 x7 x8 x9 x10 x11 : Sl} {r : List Sl} {ds : List D} {P : List D → Prop} : wpo 12 (x0 :: x1 :: x2 :: x3 :: x4 :: x5 :: x6 :: x7 :: x8 :: x9 :: x10 :: x11 :: .own ds :: r) P = P ds := by with_unfolding_all rfl
theorem f_12 {x0 x1 x2 x3 x4 x5 x6 x7 x8 x9 x10 x11 : Sl} {r : List Sl} {y : Sl} : frzAt 12 (x0 :: x1 :: x2 :: x3 :: x4 :: x5 :: x6 :: x7 :: x8 :: x9 :: x10 :: x11 :: y :: r) = x0 :: x1 :: x2 :: x3 :: x4 :: x5 :: x6 :: x7 :: x8 :: x9 :: x10 :: x11 :: frzSl y :: r := rfl
theorem o_13 {x0 x1 x2 x3 x4 x5 x6 x7 x8 x9 x10 x11 x12 : Sl} {r : List Sl} {ds : List D} {P : List D → Prop} : wpo 13 (x0 :: x1 :: x2 :: x3 :: x4 :: x5 :: x6 :: x7 :: x8 :: x9 :: x10 :: x11 :: x12 :: .own ds :: r) P = P ds := by with_unfolding_all rfl
theorem f_13 {x0 x1 x2 x3 x4 x5 x6 x7 x8 x9 x10 x11 x12 : Sl} {r : List Sl} {y : Sl} : frzAt 13 (x0 :: x1 :: x2 :: x3 :: x4 :: x5 :: x6 :: x7 :: x8 :: x9 :: x10 :: x11 :: x12 :: y :: r) = x0 :: x1 :: x2 :: x3 :: x4 :: x5 :: x6 :: x7 :: x8 :: x9 :: x10 :: x11 :: x12 :: frzSl y :: r := rfl
theorem o_14 {x0 x1 x2 x3 x4 x5 x6 x7 x8 x9 x10 x11 x12 x13 : Sl} {r : List Sl} {ds : List D} {P : List D → Prop} : wpo 14 (x0 :: x1 :: x2 :: x3 :: x4 :: x5 :: x6 :: x7 :: x8 :: x9 :: x10 :: x11 :: x12 :: x13 :: .own ds :: r) P = P ds := by with_unfolding_all rfl
theorem f_14 {x0 x1 x2 x3 x4 x5 x6 x7 x8 x9 x10 x11 x12 x13 : Sl} {r : List Sl} {y : Sl} : frzAt 14 (x0 :: x1 :: x2 :: x3 :: x4 :: x5 :: x6 :: x7 :: x8 :: x9 :: x10 :: x11 :: x12 :: x13 :: y :: r) = x0 :: x1 :: x2 :: x3 :: x4 :: x5 :: x6 :: x7 :: x8 :: x9 :: x10 :: x11 :: x12 :: x13 :: frzSl y :: r := rfl
theorem o_15 {x0 x1 x2 x3 x4 x5 x6 x7 x8 x9 x10 x11 x12 x13 x14 : Sl} {r : List Sl} {ds : List D} {P : List D → Prop} : wpo 15 (x0 :: x1 :: x2 :: x3 :: x4 :: x5 :: x6 :: x7 :: x8 :: x9 :: x10 :: x11 :: x12 :: x13 :: x14 :: .own ds :: r) P = P ds := by with_unfolding_all rfl
theorem f_15 {x0 x1 x2 x3 x4 x5 x6 x7 x8 x9 x10 x11 x12 x13 x14 : Sl} {r : List Sl} {y : Sl} : frzAt 15 (x0 :: x1 :: x2 :: x3 :: x4 :: x5 :: x6 :: x7 :: x8 :: x9 :: x10 :: x11 :: x12 :: x13 :: x14 :: y :: r) = x0 :: x1 :: x2 :: x3 :: x4 :: x5 :: x6 :: x7 :: x8 :: x9 :: x10 :: x11 :: x12 :: x13 :: x14 :: frzSl y :: r := rfl
theorem o_16 {x0 x1 x2 x3 x4 x5 x6 x7 x8 x9 x10 x11 x12 x13 x14 x15 : Sl} {r : List Sl} {ds : List D} {P : List D → Prop} : wpo 16 (x0 :: x1 :: x2 :: x3 :: x4 :: x5 :: x6 :: x7 :: x8 :: x9 :: x10 :: x11 :: x12 :: x13 :: x14 :: x15 :: .own ds :: r) P = P ds := by with_unfolding_all rfl
theorem f_16 {x0 x1 x2 x3 x4 x5 x6 x7 x8 x9 x10 x11 x12 x13 x14 x15 : Sl} {r : List Sl} {y : Sl} : frzAt 16 (x0 :: x1 :: x2 :: x3 :: x4 :: x5 :: x6 :: x7 :: x8 :: x9 :: x10 :: x11 :: x12 :: x13 :: x14 :: x15 :: y :: r) = x0 :: x1 :: x2 :: x3 :: x4 :: x5 :: x6 :: x7 :: x8 :: x9 :: x10 :: x11 :: x12 :: x13 :: x14 :: x15 :: frzSl y :: r := rfl
theorem o_17 {x0 x1 x2 x3 x4 x5 x6 x7 x8 x9 x10 x11 x12 x13 x14 x15 x16 : Sl} {r : List Sl} {ds : List D} {P : List D → Prop} : wpo 17 (x0 :: x1 :: x2 :: x3 :: x4 :: x5 :: x6 :: x7 :: x8 :: x9 :: x10 :: x11 :: x12 :: x13 :: x14 :: x15 :: x16 :: .own ds :: r) P = P ds := by with_unfolding_all rfl
theorem f_17 {x0 x1 x2 x3 x4 x5 x6 x7 x8 x9 x10 x11 x12 x13 x14 x15 x16 : Sl} {r : List Sl} {y : Sl} : frzAt 17 (x0 :: x1 :: x2 :: x3 :: x4 :: x5 :: x6 :: x7 :: x8 :: x9 :: x10 :: x11 :: x12 :: x13 :: x14 :: x15 :: x16 :: y :: r) = x0 :: x1 :: x2 :: x3 :: x4 :: x5 :: x6 :: x7 :: x8 :: x9 :: x10 :: x11 :: x12 :: x13 :: x14 :: x15 :: x16 :: frzSl y :: r := rfl
theorem o_18 {x0 x1 x2 x3 x4 x5 x6 x7 x8 x9 x10 x11 x12 x13 x14 x15 x16 x17 : Sl} {r : List Sl} {ds : List D} {P : List D → Prop} : wpo 18 (x0 :: x1 :: x2 :: x3 :: x4 :: x5 :: x6 :: x7 :: x8 :: x9 :: x10 :: x11 :: x12 :: x13 :: x14 :: x15 :: x16 :: x17 :: .own ds :: r) P = P ds := by with_unfolding_all rfl
theorem f_18 {x0 x1 x2 x3 x4 x5 x6 x7 x8 x9 x10 x11 x12 x13 x14 x15 x16 x17 : Sl} {r : List Sl} {y : Sl} : frzAt 18 (x0 :: x1 :: x2 :: x3 :: x4 :: x5 :: x6 :: x7 :: x8 :: x9 :: x10 :: x11 :: x12 :: x13 :: x14 :: x15 :: x16 :: x17 :: y :: r) = x0 :: x1 :: x2 :: x3 :: x4 :: x5 :: x6 :: x7 :: x8 :: x9 :: x10 :: x11 :: x12 :: x13 :: x14 :: x15 :: x16 :: x17 :: frzSl y :: r := rfl
theorem o_19 {x0 x1 x2 x3 x4 x5 x6 x7 x8 x9 x10 x11 x12 x13 x14 x15 x16 x17 x18 : Sl} {r : List Sl} {ds : List D} {P : List D → Prop} : wpo 19 (x0 :: x1 :: x2 :: x3 :: x4 :: x5 :: x6 :: x7 :: x8 :: x9 :: x10 :: x11 :: x12 :: x13 :: x14 :: x15 :: x16 :: x17 :: x18 :: .own ds :: r) P = P ds := by with_unfolding_all rfl
theorem f_19 {x0 x1 x2 x3 x4 x5 x6 x7 x8 x9 x10 x11 x12 x13 x14 x15 x16 x17 x18 : Sl} {r : List Sl} {y : Sl} : frzAt 19 (x0 :: x1 :: x2 :: x3 :: x4 :: x5 :: x6 :: x7 :: x8 :: x9 :: x10 :: x11 :: x12 :: x13 :: x14 :: x15 :: x16 :: x17 :: x18 :: y :: r) = x0 :: x1 :: x2 :: x3 :: x4 :: x5 :: x6 :: x7 :: x8 :: x9 :: x10 :: x11 :: x12 :: x13 :: x14 :: x15 :: x16 :: x17 :: x18 :: frzSl y :: r := rfl
theorem o_20 {x0 x1 x2 x3 x4 x5 x6 x7 x8 x9 x10 x11 x12 x13 x14 x15 x16 x17 x18 x19 : Sl} {r : List Sl} {ds : List D} {P : List D → Prop} : wpo 20 (x0 :: x1 :: x2 :: x3 :: x4 :: x5 :: x6 :: x7 :: x8 :: x9 :: x10 :: x11 :: x12 :: x13 :: x14 :: x15 :: x16 :: x17 :: x18 :: x19 :: .own ds :: r) P = P ds := by with_unfolding_all rfl
theorem f_20 {x0 x1 x2 x3 x4 x5 x6 x7 x8 x9 x10 x11 x12 x13 x14 x15 x16 x17 x18 x19 : Sl} {r : List Sl} {y : Sl} : frzAt 20 (x0 :: x1 :: x2 :: x3 :: x4 :: x5 :: x6 :: x7 :: x8 :: x9 :: x10 :: x11 :: x12 :: x13 :: x14 :: x15 :: x16 :: x17 :: x18 :: x19 :: y :: r) = x0 :: x1 :: x2 :: x3 :: x4 :: x5 :: x6 :: x7 :: x8 :: x9 :: x10 :: x11 :: x12 :: x13 :: x14 :: x15 :: x16 :: x17 :: x18 :: x19 :: frzSl y :: r := rfl
theorem o_21 {x0 x1 x2 x3 x4 x5 x6 x7 x8 x9 x10 x11 x12 x13 x14 x15 x16 x17 x18 x19 x20 : Sl} {r : List Sl} {ds : List D} {P : List D → Prop} : wpo 21 (x0 :: x1 :: x2 :: x3 :: x4 :: x5 :: x6 :: x7 :: x8 :: x9 :: x10 :: x11 :: x12 :: x13 :: x14 :: x15 :: x16 :: x17 :: x18 :: x19 :: x20 :: .own ds :: r) P = P ds := by with_unfolding_all rfl
theorem f_21 {x0 x1 x2 x3 x4 x5 x6 x7 x8 x9 x10 x11 x12 x13 x14 x15 x16 x17 x18 x19 x20 : Sl} {r : List Sl} {y : Sl} : frzAt 21 (x0 :: x1 :: x2 :: x3 :: x4 :: x5 :: x6 :: x7 :: x8 :: x9 :: x10 :: x11 :: x12 :: x13 :: x14 :: x15 :: x16 :: x17 :: x18 :: x19 :: x20 :: y :: r) = x0 :: x1 :: x2 :: x3 :: x4 :: x5 :: x6 :: x7 :: x8 :: x9 :: x10 :: x11 :: x12 :: x13 :: x14 :: x15 :: x16 :: x17 :: x18 :: x19 :: x20 :: frzSl y :: r := rfl
theorem o_22 {x0 x1 x2 x3 x4 x5 x6 x7 x8 x9 x10 x11 x12 x13 x14 x15 x16 x17 x18 x19 x20 x21 : Sl} {r : List Sl} {ds : List D} {P : List D → Prop} : wpo 22 (x0 :: x1 :: x2 :: x3 :: x4 :: x5 :: x6 :: x7 :: x8 :: x9 :: x10 :: x11 :: x12 :: x13 :: x14 :: x15 :: x16 :: x17 :: x18 :: x19 :: x20 :: x21 :: .own ds :: r) P = P ds := by with_unfolding_all rfl
theorem f_22 {x0 x1 x2 x3 x4 x5 x6 x7 x8 x9 x10 x11 x12 x13 x14 x15 x16 x17 x18 x19 x20 x21 : Sl} {r : List Sl} {y : Sl} : frzAt 22 (x0 :: x1 :: x2 :: x3 :: x4 :: x5 :: x6 :: x7 :: x8 :: x9 :: x10 :: x11 :: x12 :: x13 :: x14 :: x15 :: x16 :: x17 :: x18 :: x19 :: x20 :: x21 :: y :: r) = x0 :: x1 :: x2 :: x3 :: x4 :: x5 :: x6 :: x7 :: x8 :: x9 :: x10 :: x11 :: x12 :: x13 :: x14 :: x15 :: x16 :: x17 :: x18 :: x19 :: x20 :: x21 :: frzSl y :: r := rfl
theorem o_23 {x0 x1 x2 x3 x4 x5 x6 x7 x8 x9 x10 x11 x12 x13 x14 x15 x16 x17 x18 x19 x20 x21 x22 : Sl} {r : List Sl} {ds : List D} {P : List D → Prop} : wpo 23 (x0 :: x1 :: x2 :: x3 :: x4 :: x5 :: x6 :: x7 :: x8 :: x9 :: x10 :: x11 :: x12 :: x13 :: x14 :: x15 :: x16 :: x17 :: x18 :: x19 :: x20 :: x21 :: x22 :: .own ds :: r) P = P ds := by with_unfolding_all rfl
theorem f_23 {x0 x1 x2 x3 x4 x5 x6 x7 x8 x9 x10 x11 x12 x13 x14 x15 x16 x17 x18 x19 x20 x21 x22 : Sl} {r : List Sl} {y : Sl} : frzAt 23 (x0 :: x1 :: x2 :: x3 :: x4 :: x5 :: x6 :: x7 :: x8 :: x9 :: x10 :: x11 :: x12 :: x13 :: x14 :: x15 :: x16 :: x17 :: x18 :: x19 :: x20 :: x21 :: x22 :: y :: r) = x0 :: x1 :: x2 :: x3 :: x4 :: x5 :: x6 :: x7 :: x8 :: x9 :: x10 :: x11 :: x12 :: x13 :: x14 :: x15 :: x16 :: x17 :: x18 :: x19 :: x20 :: x21 :: x22 :: frzSl y :: r := rfl
theorem o_24 {x0 x1 x2 x3 x4 x5 x6 x7 x8 x9 x10 x11 x12 x13 x14 x15 x16 x17 x18 x19 x20 x21 x22 x23 : Sl} {r : List Sl} {ds : List D} {P : List D → Prop} : wpo 24 (x0 :: x1 :: x2 :: x3 :: x4 :: x5 :: x6 :: x7 :: x8 :: x9 :: x10 :: x11 :: x12 :: x13 :: x14 :: x15 :: x16 :: x17 :: x18 :: x19 :: x20 :: x21 :: x22 :: x23 :: .own ds :: r) P = P ds := by with_unfolding_all rfl
theorem f_24 {x0 x1 x2 x3 x4 x5 x6 x7 x8 x9 x10 x11 x12 x13 x14 x15 x16 x17 x18 x19 x20 x21 x22 x23 : Sl} {r : List Sl} {y : Sl} : frzAt 24 (x0 :: x1 :: x2 :: x3 :: x4 :: x5 :: x6 :: x7 :: x8 :: x9 :: x10 :: x11 :: x12 :: x13 :: x14 :: x15 :: x16 :: x17 :: x18 :: x19 :: x20 :: x21 :: x22 :: x23 :: y :: r) = x0 :: x1 :: x2 :: x3 :: x4 :: x5 :: x6 :: x7 :: x8 :: x9 :: x10 :: x11 :: x12 :: x13 :: x14 :: x15 :: x16 :: x17 :: x18 :: x19 :: x20 :: x21 :: x22 :: x23 :: frzSl y :: r := rfl
theorem o_25 {x0 x1 x2 x3 x4 x5 x6 x7 x8 x9 x10 x11 x12 x13 x14 x15 x16 x17 x18 x19 x20 x21 x22 x23 x24 : Sl} {r : List Sl} {ds : List D} {P : List D → Prop} : wpo 25 (x0 :: x1 :: x2 :: x3 :: x4 :: x5 :: x6 :: x7 :: x8 :: x9 :: x10 :: x11 :: x12 :: x13 :: x14 :: x15 :: x16 :: x17 :: x18 :: x19 :: x20 :: x21 :: x22 :: x23 :: x24 :: .own ds :: r) P = P ds := by with_unfolding_all rfl
theorem f_25 {x0 x1 x2 x3 x4 x5 x6 x7 x8 x9 x10 x11 x12 x13 x14 x15 x16 x17 x18 x19 x20 x21 x22 x23 x24 : Sl} {r : List Sl} {y : Sl} : frzAt 25 (x0 :: x1 :: x2 :: x3 :: x4 :: x5 :: x6 :: x7 :: x8 :: x9 :: x10 :: x11 :: x12 :: x13 :: x14 :: x15 :: x16 :: x17 :: x18 :: x19 :: x20 :: x21 :: x22 :: x23 :: x24 :: y :: r) = x0 :: x1 :: x2 :: x3 :: x4 :: x5 :: x6 :: x7 :: x8 :: x9 :: x10 :: x11 :: x12 :: x13 :: x14 :: x15 :: x16 :: x17 :: x18 :: x19 :: x20 :: x21 :: x22 :: x23 :: x24 :: frzSl y :: r := rfl
theorem fs_own {ds : List D} : frzSl (.own ds) = .dat (.lst ds) := rfl
theorem fs_dat {d : D} : frzSl (.dat d) = .dat d := rfl
theorem fs_emp : frzSl .emp = .emp := rfl
theorem wpo_of {i : Nat} {k : List D → Fl} : wps (ownAt i ρ k) N B C R X = wpo i ρ fun ds => wps (k ds) N B C R X := by
  unfold ownAt wpo
  cases ρ[i]? with
  | none => with_unfolding_all rfl
  | some y => cases y <;> (with_unfolding_all rfl)
theorem wps_ite {c : Prop} [Decidable c] {g h : Fl} : wps (if c then g else h) N B C R X = if c then wps g N B C R X else wps h N B C R X := by split <;> (with_unfolding_all rfl)
theorem ite_bad {c : Prop} [Decidable c] {g : Fl} : wps (if c then g else .bad) N B C R X = (c ∧ wps g N B C R X) := by
  by_cases h : c
  · rw [if_pos h]; simp [h]
  · rw [if_neg h]; simp [h, wps]
theorem q_app {i : Nat} {f : DE} : wps (sApp i f ρ s) N B C R X = wpo i ρ fun ds => wp (f ρ s) (fun d s1 => ds.length < 16777216 ∧ wpn ρ [(i, .own (ds ++ [d]))] fun ρ1 => N ρ1 s1) X := by
  unfold sApp
  rw [wpo_of]
  congr 1
  funext ds
  rw [wps_then]
  congr 1
  funext d s1
  rw [ite_bad, set_at]
  with_unfolding_all rfl
theorem q_ext {i : Nat} {f : DE} : wps (sExt i f ρ s) N B C R X = wpo i ρ fun ds => wp (f ρ s) (fun d s1 => ∃ es, d = .lst es ∧ ds.length + es.length ≤ 16777216 ∧ wpn ρ [(i, .own (ds ++ es))] fun ρ1 => N ρ1 s1) X := by
  unfold sExt
  rw [wpo_of]
  congr 1
  funext ds
  rw [wps_then]
  congr 1
  funext d s1
  cases d with
  | lst es =>
    simp only [D.lst.injEq, exists_eq_left']
    rw [ite_bad, set_at]
    with_unfolding_all rfl
  | _ => simp [wps]
theorem q_rev {i : Nat} : wps (sRev i ρ s) N B C R X = wpo i ρ fun ds => wpn ρ [(i, .own ds.reverse)] fun ρ1 => N ρ1 s := by
  unfold sRev
  rw [wpo_of]
  congr 1
  funext ds
  rw [set_at]
  with_unfolding_all rfl
theorem q_clr {i : Nat} : wps (sClr i ρ s) N B C R X = wpo i ρ fun ds => wpn ρ [(i, .own [])] fun ρ1 => N ρ1 s := by
  unfold sClr
  rw [wpo_of]
  congr 1
  funext ds
  rw [set_at]
  with_unfolding_all rfl
theorem q_retOwn {i : Nat} : wps (sRetOwn i ρ s) N B C R X = wpo i ρ fun ds => R (.lst ds) s := by
  unfold sRetOwn wpo
  cases ρ[i]? with
  | none => with_unfolding_all rfl
  | some y => cases y <;> (with_unfolding_all rfl)
theorem q_frz {i : Nat} {g : DS} : wps (sFrz i g ρ s) N B C R X = wps (g (frzAt i ρ) s) N B C R X := by with_unfolding_all rfl
theorem q_bor {good : α → Bool} {i : Nat} {f : List Sl → S → Res α} {Q : α → S → Prop} : wp (bor good i f ρ s) Q X = wp (f (frzAt i ρ) s) (fun d s1 => good d = true ∧ Q d s1) X := by
  unfold bor
  rw [wp_bind]
  congr 1
  funext d s1
  rw [wp_ite]
  by_cases h : good d = true
  · rw [if_pos h]; simp [h, wp]
  · rw [if_neg h]; simp [h, wp]
theorem flatB_true {b : Bool} : flatB b = true := rfl
theorem wp_revS {f : DE} {Q : D → S → Prop} : wp (eRevS f ρ s) Q X = wp (f ρ s) (fun d s1 => ∃ z, dRevS d = some z ∧ Q z s1) X := by
  unfold eRevS
  rw [wp_bind]
  congr 1
  funext d s1
  rw [wp_ofO]
theorem x_revt {xs : List D} {P : D → Prop} : (∃ z, dRevS (.tup xs) = some z ∧ P z) = P (.tup xs.reverse) := by show (∃ z, some (D.tup xs.reverse) = some z ∧ P z) = _; exact ex_some
theorem x_revl {xs : List D} {P : D → Prop} : (∃ z, dRevS (.lst xs) = some z ∧ P z) = P (.lst xs.reverse) := by show (∃ z, some (D.lst xs.reverse) = some z ∧ P z) = _; exact ex_some
theorem q_ins {i : Nat} {fk f : DE} : wps (sIns i fk f ρ s) N B C R X = wpo i ρ fun ds => wp (fk ρ s) (fun k s1 => wp (f ρ s1) (fun d s2 => ∃ z, k = .int z ∧ (ds.length < 16777216 ∧ 0 ≤ z ∧ z < 2 ^ 63) ∧ wpn ρ [(i, .own (ds.take z.toNat ++ [d] ++ ds.drop z.toNat))] fun ρ1 => N ρ1 s2) X) X := by
  unfold sIns
  rw [wpo_of]
  congr 1
  funext ds
  rw [wps_then, wp_aCons]
  congr 1
  funext k s1
  rw [wp_aCons]
  congr 1
  funext d s2
  rw [wp_aNil]
  cases k with
  | int z =>
    simp only [D.int.injEq, exists_eq_left']
    rw [ite_bad, set_at]
    with_unfolding_all rfl
  | _ => simp [wps]
end
theorem bd_fdivp {i j : Int} {n : Nat} (h : Bd i n) (hj : 0 < j) : Bd (i.fdiv j) n := by
  rw [Int.fdiv_eq_ediv_of_nonneg _ (Int.le_of_lt hj)]
  exact bd_le h (Int.natAbs_ediv_le_natAbs _ _)
theorem bd_gcd2 {i j : Int} {n : Nat} (h : Bd i n) (k : Bd j n) : Bd (Int.gcd i j : Int) n := by
  by_cases hj : j = 0
  · subst hj
    refine bd_le h ?_
    simp
  · exact bd_gcd k hj
/-- a loop whose slots are known but for something -/
theorem wpl_ofE {β : Type} {clr : List Nat} {g : DG} {b : DS} {ds : List D} {ρ : List Sl} {s : S} {N B C : List Sl → S → Prop} {R : D → S → Prop} {X : Str → S → Prop} {w : Wits N B C R X} (L : β → List Sl) (P : Nat → β → S → Prop) (x0 : β) (h0 : wipeD ρ clr = L x0) (p0 : P 0 x0 s)
    (hs : ∀ i d x s, ds[i]? = some d → P i x s → ∃ ρ1, g d (L x) = some ρ1 ∧ wps (b ρ1 s) (fun ρ2 s2 => ∃ y, wipeD ρ2 clr = L y ∧ P (i + 1) y s2) (fun ρ2 s2 => N (wipeD ρ2 clr) s2) (fun ρ2 s2 => ∃ y, wipeD ρ2 clr = L y ∧ P (i + 1) y s2) R X)
    (hn : ∀ x s, P ds.length x s → N (L x) s) : wpl clr g b ds ρ s N B C R X w := by
  refine wpl_of (fun i ρ s => ∃ x, ρ = L x ∧ P i x s) ⟨x0, h0, p0⟩ ?_ ?_
  · rintro i d _ s hd ⟨x, rfl, hp⟩
    exact hs i d x s hd hp
  · rintro _ s ⟨x, rfl, hp⟩
    exact hn x s hp
/-! ### walks -/
def nuD : D → Int
  | .tup [.int n, .int _] => n
  | _ => 0
def deD : D → Int
  | .tup [.int _, .int m] => m
  | _ => 0
def walkB : D → Bool
  | .tup [.int c, on, back, come, go] => decide (1 ≤ c) && decide (c ≤ 12) && (chB on && chB back && chB come && chB go) && (decide (nuD on ≠ 0) && decide (nuD come ≠ 0) && decide (nuD go ≠ 0)) && decide (nuD back * deD on < nuD on * deD back)
  | _ => false
theorem walkB_len {xs : List D} (h : (xs.length : Int) ≠ 5) : walkB (.tup xs) = false := by
  unfold walkB
  split
  · rename_i e
    cases e
    exact absurd rfl h
  · rfl
theorem walkB_no {c on back come go : D} (h : isInt c = false) : walkB (.tup [c, on, back, come, go]) = false := by
  unfold walkB
  split
  · rename_i e
    cases e
    cases h
  · rfl
theorem five_of {xs : List D} (h : (xs.length : Int) = 5) : ∃ a b c d e, xs = [a, b, c, d, e] := by
  match xs, h with
  | [a, b, c, d, e], _ => exact ⟨a, b, c, d, e, rfl⟩
  | [], h => exact absurd h (by decide)
  | [_], h => exact absurd h (by simp)
  | [_, _], h => exact absurd h (by simp)
  | [_, _, _], h => exact absurd h (by simp)
  | [_, _, _, _], h => exact absurd h (by simp)
  | _ :: _ :: _ :: _ :: _ :: _ :: r, h => simp only [List.length_cons] at h; omega
theorem chB_inv {d : D} (h : chB d = true) : ∃ n m : Int, d = .tup [.int n, .int m] ∧ 0 < m ∧ m ≤ 60 ∧ 0 ≤ n ∧ n ≤ m ∧ Int.gcd n m = 1 := by
  unfold chB shareB at h
  simp only [Bool.and_eq_true] at h
  obtain ⟨n, m, rfl, hm, hg⟩ := ratB_inv h.1.1
  have h1 := h.1.2
  have h2 := h.2
  simp only [unitB, fewB, decide_eq_true_eq] at h1 h2
  exact ⟨n, m, rfl, hm, h2, h1.1, h1.2, hg⟩
theorem chB_mk {n m : Int} (hm : 0 < m) (h60 : m ≤ 60) (h0 : 0 ≤ n) (h1 : n ≤ m) (hg : Int.gcd n m = 1) : chB (.tup [.int n, .int m]) = true := by
  simp [chB, shareB, ratB, unitB, fewB, hm, h60, h0, h1, hg]
theorem notIn3 {a b c d e f : Int} : dNotIn (.ktp [.int 0, .int 1]) (.tup [.tup [.int a, .int b], .tup [.int c, .int d], .tup [.int e, .int f]]) = some (.bl (!((decide (a = 0) && decide (b = 1)) || (decide (c = 0) && decide (d = 1)) || (decide (e = 0) && decide (f = 1))))) := by
  simp [dNotIn, ready, okD, okDs, toPy, toPys, PyData.depth, PyData.depthAll, inB, eqB, PyData.eqv, PyData.eqvAll, BEq.beq, Bool.or_assoc]
theorem nought_iff {n m : Int} (hm : 0 < m) (hg : Int.gcd n m = 1) : (decide (n = 0) && decide (m = 1)) = decide (n = 0) := by
  by_cases h : n = 0
  · subst h
    have : m = 1 := by
      have e : Int.gcd 0 m = m.natAbs := by simp
      rw [e] at hg
      omega
    simp [this]
  · simp [h]
theorem bd60' {n m : Int} (h0 : 0 ≤ n) (h1 : n ≤ m) (h60 : m ≤ 60) : Bd n 8 ∧ Bd m 8 := ⟨bd_int 8 (by omega) (by omega), bd_int 8 (by omega) (by omega)⟩
theorem walkB_eq {c : Int} {on back come go : D} : walkB (.tup [.int c, on, back, come, go]) = (decide (1 ≤ c) && decide (c ≤ 12) && (chB on && chB back && chB come && chB go) && (decide (nuD on ≠ 0) && decide (nuD come ≠ 0) && decide (nuD go ≠ 0)) && decide (nuD back * deD on < nuD on * deD back)) := rfl
/-- a ratio in lowest terms, looked at -/
theorem low_facts {n d : Int} (hn : 0 ≤ n) (hd : 0 < d) : ∃ a b : Int, rat (Rat.divInt n d) = .tup [.int a, .int b] ∧ 0 ≤ a ∧ 0 < b ∧ b ≤ d ∧ Int.gcd a b = 1 ∧ a * d = n * b := by
  have h0 : d ≠ 0 := by omega
  refine ⟨_, _, rfl, ?_, den_pos _, ?_, rat_gcd _, ?_⟩
  · rw [Rat.num_nonneg]
    exact (Rat.divInt_nonneg_iff_of_pos_right hd).mpr hn
  · rw [Rat.den_divInt, if_neg h0]
    have := Nat.div_le_self d.natAbs (Int.gcd d n)
    omega
  · have h1 := Rat.num_divInt_den (Rat.divInt n d)
    rw [Rat.divInt_eq_divInt_iff (by have := den_pos (Rat.divInt n d); omega) h0] at h1
    exact h1
/-- a chance above nought -/
def ChD (x : D) : Prop := ∃ n m : Int, x = .tup [.int n, .int m] ∧ 0 < n ∧ n ≤ m ∧ m ≤ 60 ∧ Int.gcd n m = 1
theorem ChD.ch {x : D} (h : ChD x) : chB x = true := by
  obtain ⟨n, m, rfl, h0, h1, h2, h3⟩ := h
  exact chB_mk (by omega) h2 (by omega) h1 h3
theorem chD_low {n d : Int} (h0 : 0 < n) (h1 : n ≤ d) (h2 : d ≤ 60) : ChD (rat (Rat.divInt n d)) := by
  obtain ⟨a, b, e, a0, b0, b1, g, q⟩ := low_facts (n := n) (d := d) (by omega) (by omega)
  refine ⟨a, b, e, ?_, ?_, by omega, g⟩
  · have : 0 < n * b := Int.mul_pos h0 b0
    rw [← q] at this
    exact Int.pos_of_mul_pos_left this (by omega) |> fun h => h
  · have : a * d ≤ b * d := by
      rw [q, Int.mul_comm b d]
      exact Int.mul_le_mul_of_nonneg_right h1 (by omega)
    exact Int.le_of_mul_le_mul_right this (by omega)
/-- a walk -/
structure WalkP (c : Int) (on back come go : D) : Prop where
  c0 : 1 ≤ c
  c1 : c ≤ 12
  fon : ChD on
  fbk : chB back = true
  less : nuD back * deD on < nuD on * deD back
  fco : ChD come
  fgo : ChD go
theorem ChD.nu {x : D} (h : ChD x) : nuD x ≠ 0 := by
  obtain ⟨n, m, rfl, h0, _⟩ := h
  show n ≠ 0
  omega
theorem WalkP.is {c : Int} {on back come go : D} (h : WalkP c on back come go) : walkB (.tup [.int c, on, back, come, go]) = true := by
  rw [walkB_eq]
  simp [h.c0, h.c1, h.fon.ch, h.fbk, h.fco.ch, h.fgo.ch, h.fon.nu, h.fco.nu, h.fgo.nu, h.less]
theorem WalkP.turn {c : Int} {on back come go : D} (h : WalkP c on back come go) : WalkP c on back go come := ⟨h.c0, h.c1, h.fon, h.fbk, h.less, h.fgo, h.fco⟩
theorem ch_th {L : Nat} {x : D} (h : chB x = true) (hL : 64 ≤ L) : Thing L 1 139 x := by
  obtain ⟨n, m, rfl, h0, h1, h2, h3, _⟩ := chB_inv h
  exact (th_tups (ths_cons (th_lit (by omega) hL) (ths_cons (th_lit (by omega) hL) ths_nil))).mono (by decide) (by decide)
theorem WalkP.th {L : Nat} {c : Int} {on back come go : D} (h : WalkP c on back come go) (hL : 64 ≤ L) : Thing L 2 1000 (.tup [.int c, on, back, come, go]) := by
  have c0 := h.c0
  have c1 := h.c1
  exact (th_tups (ths_cons (th_lit (by omega) hL) (ths_cons (ch_th h.fon.ch hL) (ths_cons (ch_th h.fbk hL) (ths_cons (ch_th h.fco.ch hL) (ths_cons (ch_th h.fgo.ch hL) ths_nil)))))).mono (by decide) (by decide)
theorem less_low {n m : Int} (h0 : 0 < n) (h1 : n ≤ m) (h2 : m ≤ 60) : chB (rat (Rat.divInt (n - 1) m)) = true ∧ nuD (rat (Rat.divInt (n - 1) m)) * m < n * deD (rat (Rat.divInt (n - 1) m)) := by
  obtain ⟨a, b, e, a0, b0, b1, g, q⟩ := low_facts (n := n - 1) (d := m) (by omega) (by omega)
  rw [e]
  constructor
  · refine chB_mk b0 (by omega) a0 ?_ g
    have : a * m ≤ b * m := by
      rw [q, Int.mul_comm b m]
      exact Int.mul_le_mul_of_nonneg_right (by omega) (by omega)
    exact Int.le_of_mul_le_mul_right this (by omega)
  · show a * m < n * b
    rw [q, Int.sub_mul, Int.one_mul]
    omega
theorem cut_take {α : Type} {xs : List α} {n : Int} (h : 0 ≤ n) : cutL xs none (some n) = xs.take n.toNat := by
  have e : n = ((n.toNat : Nat) : Int) := (Int.toNat_of_nonneg h).symm
  unfold cutL
  rw [e, HT.sIx_nat, HT.sIx_none, Int.toNat_natCast, List.drop_zero, Nat.sub_zero]
  rcases Nat.le_total n.toNat xs.length with q | q
  · rw [Nat.min_eq_left q]
  · rw [Nat.min_eq_right q, List.take_length, List.take_of_length_le q]
theorem cut_drop {α : Type} {xs : List α} {n : Int} (h : 0 ≤ n) : cutL xs (some n) none = xs.drop n.toNat := by
  have e : n = ((n.toNat : Nat) : Int) := (Int.toNat_of_nonneg h).symm
  unfold cutL
  rw [e, HT.sIx_nat, HT.sIx_none, Int.toNat_natCast]
  rcases Nat.le_total n.toNat xs.length with q | q
  · rw [Nat.min_eq_left q, List.take_of_length_le (by rw [List.length_drop]; exact Nat.le_refl _)]
  · rw [Nat.min_eq_right q, List.drop_eq_nil_of_le (Nat.le_refl _), List.drop_eq_nil_of_le q, List.take_nil]
end DL
namespace DL
open PySem PySem.Spec PyProof.Rows L2
section
variable {α β : Type} {X : Str → S → Prop} {ρ : List Sl} {s : S} {N B C : List Sl → S → Prop} {R : D → S → Prop}
def enOf (ds : List D) : Option (List D) := match ds with
  | [d] => (sqOf d).map enumD
  | _ => none
def zpOf (ds : List D) : Option (List D) := match ds with
  | [d, e] => if isTu d = isTu e then (match sqOf d, sqOf e with
    | some as, some bs => some (zipD as bs)
    | _, _ => none) else none
  | _ => none
theorem wp_iEnum {fs : DA} {Q : List D → S → Prop} : wp (iEnum fs ρ s) Q X = wp (fs ρ s) (fun ds s1 => ∃ z, enOf ds = some z ∧ Q z s1) X := by
  unfold iEnum
  rw [wp_bind]
  congr 1
  funext ds s1
  rw [← wp_ofO]
  match ds with
  | [d] => rfl
  | [] => rfl
  | _ :: _ :: _ => rfl
theorem wp_iZip {fs : DA} {Q : List D → S → Prop} : wp (iZip fs ρ s) Q X = wp (fs ρ s) (fun ds s1 => ∃ z, zpOf ds = some z ∧ Q z s1) X := by
  unfold iZip
  rw [wp_bind]
  congr 1
  funext ds s1
  rw [← wp_ofO]
  match ds with
  | [d, e] =>
    unfold zpOf
    dsimp only
    split
    · cases sqOf d <;> cases sqOf e <;> rfl
    · rfl
  | [] => rfl
  | [_] => rfl
  | _ :: _ :: _ :: _ => rfl
theorem wp_iRev {f : DE} {Q : List D → S → Prop} : wp (iRev f ρ s) Q X = wp (f ρ s) (fun d s1 => ∃ z, (sqOf d).map List.reverse = some z ∧ Q z s1) X := by
  unfold iRev
  rw [wp_bind]
  congr 1
  funext d s1
  rw [wp_ofO]
end
section
variable {P : List D → Prop} {xs ys : List D}
theorem en_lst : (∃ z, enOf [.lst xs] = some z ∧ P z) = P (enumD xs) := by show (∃ z, some (enumD xs) = some z ∧ P z) = _; exact ex_some
theorem en_tup : (∃ z, enOf [.tup xs] = some z ∧ P z) = P (enumD xs) := by show (∃ z, some (enumD xs) = some z ∧ P z) = _; exact ex_some
theorem zp_lst : (∃ z, zpOf [.lst xs, .lst ys] = some z ∧ P z) = P (zipD xs ys) := by show (∃ z, some (zipD xs ys) = some z ∧ P z) = _; exact ex_some
theorem zp_tup : (∃ z, zpOf [.tup xs, .tup ys] = some z ∧ P z) = P (zipD xs ys) := by show (∃ z, some (zipD xs ys) = some z ∧ P z) = _; exact ex_some
theorem rv_lst : (∃ z, (sqOf (.lst xs)).map List.reverse = some z ∧ P z) = P xs.reverse := by show (∃ z, some xs.reverse = some z ∧ P z) = _; exact ex_some
theorem rv_tup : (∃ z, (sqOf (.tup xs)).map List.reverse = some z ∧ P z) = P xs.reverse := by show (∃ z, some xs.reverse = some z ∧ P z) = _; exact ex_some
end

/-! ### loops: what changes from turn to turn -/
def updL (ρ : List Sl) : List (Nat × Sl) → List Sl
  | [] => ρ
  | (i, x) :: r => updL (ρ.set i x) r
theorem wpl_u {β : Type} {clr : List Nat} {g : DG} {b : DS} {ds : List D} {ρ : List Sl} {s : S} {N B C : List Sl → S → Prop} {R : D → S → Prop} {X : Str → S → Prop} {w : Wits N B C R X} (U : β → List (Nat × Sl)) (P : Nat → β → S → Prop) (x0 : β) (h0 : updL (wipeD ρ clr) (U x0) = wipeD ρ clr) (p0 : P 0 x0 s)
    (hs : ∀ i d x s, ds[i]? = some d → P i x s → ∃ ρ1, g d (updL (wipeD ρ clr) (U x)) = some ρ1 ∧ wps (b ρ1 s) (fun ρ2 s2 => ∃ y, wipeD ρ2 clr = updL (wipeD ρ clr) (U y) ∧ P (i + 1) y s2) (fun ρ2 s2 => N (wipeD ρ2 clr) s2) (fun ρ2 s2 => ∃ y, wipeD ρ2 clr = updL (wipeD ρ clr) (U y) ∧ P (i + 1) y s2) R X)
    (hn : ∀ x s, P ds.length x s → N (updL (wipeD ρ clr) (U x)) s) : wpl clr g b ds ρ s N B C R X w :=
  wpl_ofE (fun x => updL (wipeD ρ clr) (U x)) P x0 h0.symm p0 hs hn

/-- the same, all told by how many turns are done -/
theorem wpl_n {clr : List Nat} {g : DG} {b : DS} {ds : List D} {ρ : List Sl} {s : S} {N B C : List Sl → S → Prop} {R : D → S → Prop} {X : Str → S → Prop} {w : Wits N B C R X} (U : Nat → List (Nat × Sl)) (h0 : updL (wipeD ρ clr) (U 0) = wipeD ρ clr)
    (hs : ∀ i d, ds[i]? = some d → ∃ ρ1, g d (updL (wipeD ρ clr) (U i)) = some ρ1 ∧ wps (b ρ1 s) (fun ρ2 s2 => wipeD ρ2 clr = updL (wipeD ρ clr) (U (i + 1)) ∧ s2 = s) (fun ρ2 s2 => N (wipeD ρ2 clr) s2) (fun ρ2 s2 => wipeD ρ2 clr = updL (wipeD ρ clr) (U (i + 1)) ∧ s2 = s) R X)
    (hn : N (updL (wipeD ρ clr) (U ds.length)) s) : wpl clr g b ds ρ s N B C R X w := by
  refine wpl_of (fun i ρ' s' => ρ' = updL (wipeD ρ clr) (U i) ∧ s' = s) ⟨h0.symm, rfl⟩ ?_ ?_
  · rintro i d _ _ hd ⟨rfl, rfl⟩
    exact hs i d hd
  · rintro _ _ ⟨rfl, rfl⟩
    exact hn
/-! ### rows of numbers as lists -/
def rowI (N : Nat) (f : Nat → Int) : List D := (List.range N).map fun k => .int (f k)
theorem rowI_len {N : Nat} {f : Nat → Int} : (rowI N f).length = N := by simp [rowI]
theorem rowI_get {N i : Nat} {f : Nat → Int} (h : i < N) : (rowI N f)[i]? = some (.int (f i)) := by simp [rowI, h]
theorem rowI_at {N : Nat} {f : Nat → Int} {i : Int} (h0 : 0 ≤ i) (h1 : i < N) : atI (rowI N f) i = some (.int (f i.toNat)) := by
  obtain ⟨d, e, h⟩ := atI_of h0 (show i < (rowI N f).length by rw [rowI_len]; exact h1)
  rw [rowI_get (by omega)] at h
  rw [e, ← h]
theorem at_row {N : Nat} {f : Nat → Int} {i : Int} {P : D → Prop} (h0 : 0 ≤ i) (h1 : i < N) (p : P (.int (f i.toNat))) : ∃ z, atI (rowI N f) i = some z ∧ P z := ⟨_, rowI_at h0 h1, p⟩
theorem at_rowN {N i : Nat} {f : Nat → Int} {P : D → Prop} (h1 : i < N) (p : P (.int (f i))) : ∃ z, atI (rowI N f) (i : Int) = some z ∧ P z := at_row (by omega) (by omega) p
theorem at_last {xs : List D} {d : D} : atI (xs ++ [d]) (-1) = some d := by
  unfold atI ixN
  rw [if_neg (by decide), List.length_append, List.length_singleton, if_pos (by omega)]
  have e : ((-1 : Int) + ((xs.length + 1 : Nat) : Int)).toNat = xs.length := by omega
  rw [Option.bind_some, e]
  simp
theorem rowI_snoc {N : Nat} {f : Nat → Int} : rowI (N + 1) f = rowI N f ++ [.int (f N)] := by simp [rowI, List.range_succ]
theorem rowI_last {N : Nat} {f : Nat → Int} {P : D → Prop} (p : P (.int (f N))) : ∃ z, atI (rowI (N + 1) f) (-1) = some z ∧ P z := by
  rw [rowI_snoc]
  exact ⟨_, at_last, p⟩
theorem rowI_congr {N : Nat} {f g : Nat → Int} (h : ∀ k, k < N → f k = g k) : rowI N f = rowI N g := by
  unfold rowI
  refine List.map_congr_left fun k hk => ?_
  rw [h k (List.mem_range.mp hk)]
theorem rowI_ints {N : Nat} {f : Nat → Int} : rowI N f = ((List.range N).map f).map .int := by simp [rowI]
theorem flats_rowI {N : Nat} {f : Nat → Int} : flats (rowI N f) = true := by rw [rowI_ints]; exact flats_ints _
theorem rng0 {n i : Nat} {d : D} (h : (rngD 0 1 n)[i]? = some d) : i < n ∧ d = .int (i : Int) := by
  have hi := (List.getElem?_eq_some_iff.mp h).1
  rw [rngD_len] at hi
  rw [rngD_get hi] at h
  cases h
  exact ⟨hi, by congr 1; omega⟩
theorem rngE {lo : Int} {n i : Nat} {d : D} (h : (rngD lo 1 n)[i]? = some d) : i < n ∧ d = .int (lo + (i : Int)) := by
  have hi := (List.getElem?_eq_some_iff.mp h).1
  rw [rngD_len] at hi
  rw [rngD_get hi] at h
  cases h
  exact ⟨hi, by congr 1; omega⟩
theorem bd_add' {i j : Int} {n : Nat} (h : Bd i n) (k : Bd j n) : Bd (i + j) (n + 1) := by
  unfold Bd at *
  rw [Nat.pow_succ]
  omega
theorem bd_sub' {i j : Int} {n : Nat} (h : Bd i n) (k : Bd j n) : Bd (i - j) (n + 1) := by
  unfold Bd at *
  rw [Nat.pow_succ]
  omega
theorem bd_zero {n : Nat} : Bd 0 n := by unfold Bd; exact Nat.pow_pos (by decide)

theorem x_mulL {a : List D} {k : Int} {P : D → Prop} : (∃ z, dMulL (.lst a) (.int k) = some z ∧ P z) = ((a.length * k.toNat ≤ 16777216 ∧ k ≤ 1000000 ∧ -1000000 ≤ k) ∧ P (.lst (List.replicate k.toNat a).flatten)) := ex_ite
theorem x_addL {a b : List D} {P : D → Prop} : (∃ z, dAddL (.lst a) (.lst b) = some z ∧ P z) = (a.length + b.length ≤ 16777216 ∧ P (.lst (a ++ b))) := ex_ite
theorem repf {x : D} : ∀ n : Nat, (List.replicate n [x]).flatten = List.replicate n x
  | 0 => rfl
  | n + 1 => by simp [List.replicate_succ, repf n]
theorem x_nileq {P : D → Prop} : (∃ z, dEq (.lst []) (.lst []) = some z ∧ P z) = P (.bl true) := by
  have : (if ready (.lst []) && ready (.lst []) then some (D.bl (eqB (.lst []) (.lst []))) else none) = dEq (.lst []) (.lst []) := rfl
  rw [← this, show ready (.lst []) = true from rfl]
  simp only [Bool.and_self, if_true]
  rw [show eqB (.lst []) (.lst []) = true by simp [eqB, toPy, toPys, PyData.eqv, PyData.eqvAll]]
  exact ex_some
theorem x_nilne {P : D → Prop} : (∃ z, dNe (.lst []) (.lst []) = some z ∧ P z) = P (.bl false) := by
  rw [ne_nil (show ready (.lst []) = true from rfl)]
  exact ex_some

/-! ### special lists of a def's own -/
theorem wp_scope {F : DFun} {ds : List D} {s : S} {Q : D → S → Prop} {X : Str → S → Prop} (h : wp (F ds s) (fun d s' => (∃ g, s' = s ++ g) ∧ tokLt s.length d = true ∧ Q d s) (fun c s' => (∃ g, s' = s ++ g) ∧ X c s)) : wp (scopeD F ds s) Q X := by
  unfold scopeD
  cases hF : F ds s with
  | bad => rw [hF, wp_bad] at h; exact h.elim
  | ok d s' =>
    rw [hF, wp_ok] at h
    have hc : (∃ g, s' = s ++ g) ∧ tokLt s.length d = true := ⟨h.1, h.2.1⟩
    dsimp only
    rw [if_pos hc, wp_ok]
    exact h.2.2
  | exc c s' =>
    rw [hF, wp_exc] at h
    dsimp only
    rw [if_pos h.1, wp_exc]
    exact h.2
section
variable {X : Str → S → Prop} {ρ : List Sl} {s : S}
theorem wp_tupT {fs : DA} {Q : D → S → Prop} : wp (eTupT fs ρ s) Q X = wp (fs ρ s) (fun ds s1 => ∃ z, tupT s1 ds = some z ∧ Q z s1) X := by
  unfold eTupT
  rw [wp_bind]
  congr 1
  funext a s1
  rw [wp_ofO]
theorem x_tt_tok {n : Nat} {P : D → Prop} : (∃ z, tupT s [.tok n] = some z ∧ P z) = ∃ l, tokL s n = some l ∧ P (.tup l) := by
  show (∃ z, (tokL s n).map .tup = some z ∧ P z) = _
  cases tokL s n <;> simp
theorem x_tt_tup {xs : List D} {P : D → Prop} : (∃ z, tupT s [.tup xs] = some z ∧ P z) = P (.tup xs) := by show (∃ z, some (D.tup xs) = some z ∧ P z) = _; exact ex_some
theorem x_tt_lst {xs : List D} {P : D → Prop} : (∃ z, tupT s [.lst xs] = some z ∧ P z) = P (.tup xs) := by show (∃ z, some (D.tup xs) = some z ∧ P z) = _; exact ex_some
end
/-- m lists of n things each -/
def cellsF (m n : Nat) (f : Nat → Nat → D) : List Cell := (List.range m).map fun i => .l ((List.range n).map (f i))
def upd2 (f : Nat → Nat → D) (i j : Nat) (d : D) : Nat → Nat → D := fun a b => if a = i ∧ b = j then d else f a b
theorem cellsF_len {m n : Nat} {f : Nat → Nat → D} : (cellsF m n f).length = m := by simp [cellsF]
theorem tok_cells {s : S} {m n i : Nat} {f : Nat → Nat → D} (h : i < m) : tokL (s ++ cellsF m n f) (s.length + i) = some ((List.range n).map (f i)) := by
  unfold tokL
  rw [List.getElem?_append_right (by omega), show s.length + i - s.length = i by omega]
  simp [cellsF, h]
theorem set_cells {s : S} {m n i j : Nat} {f : Nat → Nat → D} {d : D} (h : i < m) (hj : j < n) : (s ++ cellsF m n f).set (s.length + i) (.l (((List.range n).map (f i)).set j d)) = s ++ cellsF m n (upd2 f i j d) := by
  rw [List.set_append_right _ _ (by omega), show s.length + i - s.length = i by omega]
  congr 1
  apply List.ext_getElem?
  intro a
  rw [List.getElem?_set]
  by_cases ha : a < m
  · simp only [cellsF, List.getElem?_map, List.getElem?_range ha, Option.map_some, List.length_map, List.length_range, ha, if_true]
    by_cases e : i = a
    · subst e
      simp only [ha, if_true]
      congr 2
      apply List.ext_getElem?
      intro b
      rw [List.getElem?_set]
      by_cases hb : b < n
      · simp only [List.getElem?_map, List.getElem?_range hb, Option.map_some, List.length_map, List.length_range, hb, if_true, upd2]
        by_cases eb : j = b
        · simp [eb, eb ▸ hj]
        · simp [eb, Ne.symm eb]
      · simp [hb, show ¬j = b by omega]
    · have : ∀ b, upd2 f i j d a b = f a b := fun b => by unfold upd2; rw [if_neg (by omega)]
      simp only [e, if_false]
      congr 3
      funext b
      exact (this b).symm
  · simp [cellsF, ha, show ¬i = a by omega]
theorem cells_congr {m n : Nat} {f g : Nat → Nat → D} (h : ∀ i j, i < m → j < n → f i j = g i j) : cellsF m n f = cellsF m n g := by
  unfold cellsF
  refine List.map_congr_left fun i hi => ?_
  congr 1
  exact List.map_congr_left fun j hj => h i j (List.mem_range.mp hi) (List.mem_range.mp hj)
theorem ixN_lt {n j : Nat} {i : Int} (h : i = j) (hj : j < n) : ixN n i = some j := by rw [h]; exact ixN_lit hj
theorem wpl_s {clr : List Nat} {g : DG} {b : DS} {ds : List D} {ρ : List Sl} {s : S} {N B C : List Sl → S → Prop} {R : D → S → Prop} {X : Str → S → Prop} {w : Wits N B C R X} (U : Nat → List (Nat × Sl)) (P : Nat → S → Prop) (h0 : updL (wipeD ρ clr) (U 0) = wipeD ρ clr) (p0 : P 0 s)
    (hs : ∀ i d s', ds[i]? = some d → P i s' → ∃ ρ1, g d (updL (wipeD ρ clr) (U i)) = some ρ1 ∧ wps (b ρ1 s') (fun ρ2 s2 => wipeD ρ2 clr = updL (wipeD ρ clr) (U (i + 1)) ∧ P (i + 1) s2) (fun ρ2 s2 => N (wipeD ρ2 clr) s2) (fun ρ2 s2 => wipeD ρ2 clr = updL (wipeD ρ clr) (U (i + 1)) ∧ P (i + 1) s2) R X)
    (hn : ∀ s', P ds.length s' → N (updL (wipeD ρ clr) (U ds.length)) s') : wpl clr g b ds ρ s N B C R X w := by
  refine wpl_of (fun i ρ' s' => ρ' = updL (wipeD ρ clr) (U i) ∧ P i s') ⟨h0.symm, p0⟩ ?_ ?_
  · rintro i d _ s' hd ⟨rfl, hp⟩
    exact hs i d s' hd hp
  · rintro _ s' ⟨rfl, hp⟩
    exact hn s' hp
theorem rg_at {N : Nat} {f : Nat → D} {i : Int} (h0 : 0 ≤ i) (h1 : i < N) : atI ((List.range N).map f) i = some (f i.toNat) := by
  obtain ⟨d, e, h⟩ := atI_of h0 (show i < ((List.range N).map f).length by simpa using h1)
  rw [List.getElem?_map, List.getElem?_range (by omega)] at h
  rw [e, ← h]
  rfl
theorem rg_atN {N i : Nat} {f : Nat → D} (h1 : i < N) : atI ((List.range N).map f) (i : Int) = some (f i) := rg_at (by omega) (by omega)
theorem cells_snoc {m n : Nat} {f : Nat → Nat → D} : cellsF m n f ++ [.l ((List.range n).map (f m))] = cellsF (m + 1) n f := by simp [cellsF, List.range_succ]
theorem rg_const {n : Nat} {x : D} : List.replicate n x = (List.range n).map fun _ => x := by
  apply List.ext_getElem?
  intro i
  by_cases h : i < n <;> simp [h, List.getElem?_replicate]
theorem wp_ixO {i : Nat} {h : DE} {ρ : List Sl} {s : S} {Q : D → S → Prop} {X : Str → S → Prop} : wp (eIxO i h ρ s) Q X = wpo i ρ fun ds => wp (h ρ s) (fun k s1 => ∃ z, k = .int z ∧ ∃ d, atI ds z = some d ∧ Q d s1) X := by
  unfold eIxO wpo
  cases ρ[i]? with
  | none => simp only [wp_bad]
  | some y =>
    cases y with
    | own ds =>
      dsimp only
      rw [wp_bind]
      congr 1
      funext k s1
      cases k with
      | int z =>
        dsimp only
        rw [wp_ofO]
        simp
      | _ => simp [wp_bad]
    | _ => simp only [wp_bad]
theorem q_sput {i : Nat} {fi fv : DE} {ρ : List Sl} {s : S} {N B C : List Sl → S → Prop} {R : D → S → Prop} {X : Str → S → Prop} : wps (sPut i fi fv ρ s) N B C R X = wpo i ρ fun ds => wp (fv ρ s) (fun d s1 => wp (fi ρ s1) (fun k s2 => ∃ z, k = .int z ∧ ∃ j, ixN ds.length z = some j ∧ wpn ρ [(i, .own (ds.set j d))] fun ρ1 => N ρ1 s2) X) X := by
  unfold sPut
  rw [wpo_of]
  congr 1
  funext ds
  rw [wps_then]
  congr 1
  funext d s1
  rw [wps_then]
  congr 1
  funext k s2
  cases k with
  | int z =>
    simp only [D.int.injEq, exists_eq_left']
    cases hx : ixN ds.length z with
    | none => simp [wps, hx]
    | some j =>
      simp only [Option.some.injEq, exists_eq_left', hx]
      rw [set_at]
      with_unfolding_all rfl
  | _ => simp [wps]
end DL
namespace DL
open PySem PySem.Spec PyProof.Rows L2
/-! ### loops over lists that are written out -/
section
variable {clr : List Nat} {g : DG} {b : DS} {d : D} {ds : List D} {ρ : List Sl} {s : S} {N B C : List Sl → S → Prop} {R : D → S → Prop} {X : Str → S → Prop} {w : Wits N B C R X}
theorem wpl_nil (h : N (wipeD ρ clr) s) : wpl clr g b [] ρ s N B C R X w := by
  unfold wpl loopN
  rw [wz_next]
  exact h
theorem wpl_cons {ρ1 : List Sl} (e : g d (wipeD ρ clr) = some ρ1) (h : wps (b ρ1 s) (fun ρ2 s2 => wpl clr g b ds ρ2 s2 N B C R X ⟨⟩) (fun ρ2 s2 => N (wipeD ρ2 clr) s2) (fun ρ2 s2 => wpl clr g b ds ρ2 s2 N B C R X ⟨⟩) R X) : wpl clr g b (d :: ds) ρ s N B C R X w := by
  unfold wpl loopN
  rw [e]
  dsimp only
  cases hb : b ρ1 s with
  | next ρ2 s2 => rw [hb, wz_next] at h; exact h
  | brk ρ2 s2 => rw [hb, wz_brk] at h; rw [wz_next]; exact h
  | cont ρ2 s2 => rw [hb, wz_cont] at h; exact h
  | ret d s2 => rw [hb, wz_ret] at h; rw [wz_ret]; exact h
  | exc c s2 => rw [hb, wz_exc] at h; rw [wz_exc]; exact h
  | bad => rw [hb, wz_bad] at h; exact h.elim
end
section
variable {ρ : List Sl} {s : S} {N B C : List Sl → S → Prop} {R : D → S → Prop} {X : Str → S → Prop}
theorem q_popI {i : Nat} {f : DE} : wps (sPopI i f ρ s) N B C R X = wpo i ρ fun ds => wp (f ρ s) (fun d s1 => ∃ z, d = .int z ∧ (-(2 ^ 63) ≤ z ∧ z < 2 ^ 63) ∧ ∃ p, dropAt ds z = some p ∧ wpn ρ [(i, .own p.2)] fun ρ1 => N ρ1 s1) X := by
  unfold sPopI
  rw [wpo_of]
  congr 1
  funext ds
  rw [wps_then]
  congr 1
  funext d s1
  cases d with
  | int z =>
    simp only [D.int.injEq, exists_eq_left']
    rw [ite_bad]
    congr 1
    cases h : dropAt ds z with
    | none => simp [wps]
    | some p =>
      simp only [Option.some.injEq, exists_eq_left', set_at]
      with_unfolding_all rfl
  | _ => simp [wps]
theorem drop_at {ds : List D} {z : Int} (h0 : 0 ≤ z) (h1 : z < ds.length) : ∃ x, dropAt ds z = some (x, ds.eraseIdx z.toNat) := by
  have hn : z.toNat < ds.length := by omega
  have e : seqIndex? z ds.length = some z.toNat := by
    unfold seqIndex?
    have a : ¬ z < 0 := by omega
    simp [a]
    try omega
  unfold dropAt
  rw [e]
  dsimp only
  rw [List.getElem?_eq_getElem hn]
  exact ⟨_, rfl⟩
theorem wp_lstR1 {f : DE} {Q : D → S → Prop} : wp (eLstR1 f ρ s) Q X = wp (f ρ s) (fun d s1 => ∃ j, d = .int j ∧ (-(2 ^ 62) ≤ j ∧ j ≤ 2 ^ 24) ∧ Q (.lst (rngD 0 1 j.toNat)) s1) X := by
  unfold eLstR1
  rw [wp_bind]
  congr 1
  funext d s1
  cases d with
  | int j =>
    simp only [D.int.injEq, exists_eq_left']
    rw [wp_ite, wp_ok, wp_bad]
    by_cases h : -(2 ^ 62) ≤ j ∧ j ≤ 2 ^ 24
    · rw [if_pos h]; exact propext ⟨fun q => ⟨h, q⟩, fun q => q.2⟩
    · rw [if_neg h]; exact propext ⟨fun q => q.elim, fun q => h q.1⟩
  | _ => simp [wp_bad]
theorem wp_lstR2 {f g : DE} {Q : D → S → Prop} : wp (eLstR2 f g ρ s) Q X = wp (f ρ s) (fun d s1 => wp (g ρ s1) (fun e s2 => ∃ i, d = .int i ∧ ∃ j, e = .int j ∧ (-(2 ^ 62) ≤ i ∧ i < 2 ^ 62 ∧ -(2 ^ 62) ≤ j ∧ j < 2 ^ 62 ∧ (j - i).toNat ≤ 2 ^ 24) ∧ Q (.lst (rngD i 1 (j - i).toNat)) s2) X) X := by
  unfold eLstR2
  rw [wp_bind]
  congr 1
  funext d s1
  rw [wp_bind]
  congr 1
  funext e s2
  cases d with
  | int i =>
    cases e with
    | int j =>
      simp only [D.int.injEq, exists_eq_left']
      rw [wp_ite, wp_ok, wp_bad]
      split
      · rename_i h; exact propext ⟨fun q => ⟨h, q⟩, fun q => q.2⟩
      · rename_i h; exact propext ⟨fun q => q.elim, fun q => h q.1⟩
    | _ => simp [wp_bad]
  | _ => simp [wp_bad]
theorem wp_revR1 {f : DE} {Q : List D → S → Prop} : wp (iRevR1 f ρ s) Q X = wp (f ρ s) (fun d s1 => ∃ j, d = .int j ∧ (-(2 ^ 62) ≤ j ∧ j < 2 ^ 62) ∧ Q (rngD ((j.toNat : Int) - 1) (-1) j.toNat) s1) X := by
  unfold iRevR1
  rw [wp_bind]
  congr 1
  funext d s1
  cases d with
  | int j =>
    simp only [D.int.injEq, exists_eq_left']
    rw [wp_ite, wp_ok, wp_bad]
    split
    · rename_i h; exact propext ⟨fun q => ⟨h, q⟩, fun q => q.2⟩
    · rename_i h; exact propext ⟨fun q => q.elim, fun q => h q.1⟩
  | _ => simp [wp_bad]
theorem wp_revR2 {f g : DE} {Q : List D → S → Prop} : wp (iRevR2 f g ρ s) Q X = wp (f ρ s) (fun d s1 => wp (g ρ s1) (fun e s2 => ∃ i, d = .int i ∧ ∃ j, e = .int j ∧ (-(2 ^ 62) ≤ i ∧ i < 2 ^ 62 ∧ -(2 ^ 62) ≤ j ∧ j < 2 ^ 62) ∧ Q (rngD (i + ((j - i).toNat : Int) - 1) (-1) (j - i).toNat) s2) X) X := by
  unfold iRevR2
  rw [wp_bind]
  congr 1
  funext d s1
  rw [wp_bind]
  congr 1
  funext e s2
  cases d with
  | int i =>
    cases e with
    | int j =>
      simp only [D.int.injEq, exists_eq_left']
      rw [wp_ite, wp_ok, wp_bad]
      split
      · rename_i h; exact propext ⟨fun q => ⟨h, q⟩, fun q => q.2⟩
      · rename_i h; exact propext ⟨fun q => q.elim, fun q => h q.1⟩
    | _ => simp [wp_bad]
  | _ => simp [wp_bad]
end
end DL
namespace DL
open PySem PySem.Spec PyProof.Rows L2
/-! ### the order of data, and what sorted gives -/
theorem leD_not (a b : D) : leD a b = !PySem.W.dataLt (toPy b) (toPy a) := rfl
theorem leD_total : PySem.W.TotalLe leD where
  trans a b c h1 h2 := by
    rw [leD_not, Bool.not_eq_true'] at *
    cases h : PySem.W.dataLt (toPy c) (toPy a) with
    | false => rfl
    | true =>
      rcases lex_negTrans (O := itemOrd) _ (PySem.W.keyToks (toPy b)) _ h with q | q
      · exact absurd (h2.symm.trans q) Bool.false_ne_true
      · exact absurd (h1.symm.trans q) Bool.false_ne_true
  total a b := by
    rw [leD_not, leD_not]
    cases h1 : PySem.W.dataLt (toPy b) (toPy a) with
    | false => exact .inl rfl
    | true =>
      cases h2 : PySem.W.dataLt (toPy a) (toPy b) with
      | false => exact .inr rfl
      | true =>
        have := lex_trans (O := itemOrd) _ _ _ h1 h2
        rw [lex_irrefl] at this
        exact absurd this Bool.false_ne_true
def ltD (a b : D) : Prop := leD b a = false
theorem ltD_le {a b : D} (h : ltD a b) : leD a b = true := (leD_total.total a b).resolve_right fun e => by rw [h] at e; cases e
theorem anti_of {m : List D} (hs : m.Pairwise ltD) : ∀ a ∈ m, ∀ b ∈ m, leD a b = true → leD b a = true → a = b := by
  induction m with
  | nil => intro a ha; cases ha
  | cons x m ih =>
    obtain ⟨h1, h2⟩ := List.pairwise_cons.mp hs
    intro a ha b hb e1 e2
    rcases List.mem_cons.mp ha with rfl | ha
    · rcases List.mem_cons.mp hb with rfl | hb
      · rfl
      · have := h1 b hb; unfold ltD at this; rw [e2] at this; cases this
    · rcases List.mem_cons.mp hb with rfl | hb
      · have := h1 a (by assumption); unfold ltD at this; rw [e1] at this; cases this
      · exact ih h2 a ha b hb e1 e2
/-- the one sorted list -/
theorem sort_is {l m : List D} (hp : m.Perm l) (hs : m.Pairwise ltD) : l.mergeSort leD = m := by
  refine List.Perm.eq_of_pairwise (le := fun a b => leD a b = true) (fun a b ha hb => ?_) (PySem.W.sort_pairwise leD_total l) (hs.imp ltD_le) ((List.mergeSort_perm l leD).trans hp.symm)
  exact anti_of hs a (hp.mem_iff.mpr (List.mem_mergeSort.mp ha)) b hb
theorem sort_self {l : List D} (hs : l.Pairwise ltD) : l.mergeSort leD = l := sort_is (List.Perm.refl _) hs
theorem sort_congrP {l m : List D} (hp : l.Perm m) (ha : ∀ a ∈ l, ∀ b ∈ l, leD a b = true → leD b a = true → a = b) : l.mergeSort leD = m.mergeSort leD := by
  refine List.Perm.eq_of_pairwise (le := fun a b => leD a b = true) (fun a b ha' hb' => ?_) (PySem.W.sort_pairwise leD_total l) (PySem.W.sort_pairwise leD_total m) ((List.mergeSort_perm l leD).trans (hp.trans (List.mergeSort_perm m leD).symm))
  exact ha a (List.mem_mergeSort.mp ha') b (hp.mem_iff.mpr (List.mem_mergeSort.mp hb'))
/-! whole numbers -/
theorem leD_int (i j : Int) : leD (.int i) (.int j) = decide (i ≤ j) := by
  rw [leD_not, toPy, toPy, PySem.W.dataLt_int]
  by_cases h : j < i
  · have : ¬ i ≤ j := by omega
    simp [h, this]
  · have : i ≤ j := by omega
    simp [h, this]
theorem sortOk_ints {ns : List Int} (h : ns.length ≤ 16777216) : SortOk (ns.map .int) := by
  have e : ∀ ns : List Int, okSs (ns.map D.int) = true := fun ns => by
    induction ns with
    | nil => rfl
    | cons n ns ih => show (okS (.int n) && okSs (ns.map D.int)) = true; rw [ih]; rfl
  refine ⟨e ns, ?_, ?_, fun d hd => ?_, by simpa using h⟩
  · rw [List.map_map]
    exact PySem.W.AllAlike.of fun a b => by show PySem.W.alike (toPy (.int a)) (toPy (.int b)) = true; simp [toPy, PySem.W.alike]
  · rw [List.map_map]
    exact .inl <| PySem.W.Sortable.others fun a => by refine ⟨?_, fun xs => ?_⟩ <;> (show toPy (.int a) ≠ _; simp [toPy])
  · obtain ⟨n, _, rfl⟩ := List.mem_map.mp hd
    simp [toPy, PyData.depth]
/-! tuples of whole numbers -/
def tupI (xs : List Int) : D := .tup (xs.map .int)
theorem toPys_ints : ∀ xs : List Int, toPys (xs.map D.int) = xs.map PyData.int
  | [] => rfl
  | x :: xs => by
    show toPy (.int x) :: toPys (xs.map D.int) = _
    rw [toPys_ints xs]; rfl
theorem toPy_tupI (xs : List Int) : toPy (tupI xs) = .tuple (xs.map PyData.int) := by simp [tupI, toPy, toPys_ints]
theorem lt_tupI (xs ys : List Int) : PySem.W.dataLt (toPy (tupI xs)) (toPy (tupI ys)) = decide (xs < ys) := by
  rw [toPy_tupI, toPy_tupI, PySem.W.dataLt_tuple]
  exact PySem.W.dataLt_ints xs ys
theorem leD_tupI (xs ys : List Int) : leD (tupI xs) (tupI ys) = decide (xs ≤ ys) := by
  rw [leD_not, lt_tupI]
  by_cases h : ys < xs
  · have : ¬ xs ≤ ys := fun r => List.not_lt.mpr r h
    simp [h, this]
  · have : xs ≤ ys := List.not_lt.mp h
    simp [h, this]
theorem ltD_tupI {xs ys : List Int} (h : xs < ys) : ltD (tupI xs) (tupI ys) := by
  unfold ltD
  rw [leD_tupI]
  exact decide_eq_false fun r => List.not_lt.mpr r h
theorem okSs_ints (xs : List Int) : okSs (xs.map D.int) = true := by
  induction xs with
  | nil => rfl
  | cons n ns ih => show (okS (.int n) && okSs (ns.map D.int)) = true; rw [ih]; rfl
theorem sortOk_tups {es : List (List Int)} (hn : ∀ e ∈ es, e ≠ []) (h : es.length ≤ 16777216) : SortOk (es.map tupI) := by
  refine ⟨?_, ?_, ?_, fun d hd => ?_, by simpa using h⟩
  · clear hn h
    induction es with
    | nil => rfl
    | cons e es ih => show (okS (tupI e) && okSs (es.map tupI)) = true; rw [ih]; simp [tupI, okS, okSs_ints]
  · rw [List.map_map]
    exact PySem.W.AllAlike.of fun a b => by
      show PySem.W.alike (toPy (tupI a)) (toPy (tupI b)) = true
      rw [toPy_tupI, toPy_tupI]
      simp [PySem.W.alike, PySem.W.alike_ints]
  · refine .inl <| .inl fun d hd => ?_
    obtain ⟨x, hx, rfl⟩ := List.mem_map.mp hd
    obtain ⟨e, he, rfl⟩ := List.mem_map.mp hx
    rw [toPy_tupI]
    cases e with
    | nil => exact absurd rfl (hn _ he)
    | cons a r => exact ⟨_, _, rfl⟩
  · obtain ⟨e, _, rfl⟩ := List.mem_map.mp hd
    rw [toPy_tupI]
    simp [PyData.depth, PySem.W.depth_ints]
theorem ord_tups {xs ys : List Int} : OrdOk (tupI xs) (tupI ys) := by
  have ok : ∀ xs : List Int, okS (tupI xs) = true := fun xs => by simp [tupI, okS, okSs_ints]
  refine ⟨ok _, ok _, ?_, ?_, ?_, ?_⟩
  · rw [toPy_tupI, toPy_tupI]; simp [PySem.W.alike, PySem.W.alike_ints]
  · rw [toPy_tupI]; exact fun z => nomatch z
  · rw [toPy_tupI]; simp [PyData.depth, PySem.W.depth_ints]
  · rw [toPy_tupI]; simp [PyData.depth, PySem.W.depth_ints]
/-! rows of noughts and ones -/
def lets (ls : List Nat) : List D := ls.map fun c => .int (c : Nat)
theorem lets_at {ls : List Nat} {i : Nat} (h : i < ls.length) : atI (lets ls) (i : Int) = some (.int ((ls[i]?.getD 0 : Nat) : Int)) := by
  obtain ⟨d, e, hd⟩ := atI_of (xs := lets ls) (i := (i : Int)) (by omega) (by simp [lets]; omega)
  rw [Int.toNat_natCast, lets, List.getElem?_map, List.getElem?_eq_getElem h] at hd
  rw [List.getElem?_eq_getElem h]
  cases hd
  exact e
theorem lets_len {ls : List Nat} : (lets ls).length = ls.length := by simp [lets]
theorem lets_get {ls : List Nat} {i : Nat} {d : D} (h : (lets ls)[i]? = some d) : i < ls.length ∧ d = .int ((ls[i]?.getD 0 : Nat) : Int) := by
  rw [lets, List.getElem?_map] at h
  obtain ⟨x, hx, rfl⟩ := Option.map_eq_some_iff.mp h
  exact ⟨(List.getElem?_eq_some_iff.mp hx).1, by rw [hx]; rfl⟩
theorem enum_get {xs : List D} {i : Nat} {d : D} (h : (enumD xs)[i]? = some d) : ∃ x, xs[i]? = some x ∧ d = .tup [.int (i : Int), x] := by
  unfold enumD at h
  simp [List.getElem?_zipIdx] at h
  obtain ⟨x, hx, rfl⟩ := h
  exact ⟨x, hx, rfl⟩
theorem enum_len {xs : List D} : (enumD xs).length = xs.length := by simp [enumD]
theorem flats_lets (ls : List Nat) : flats (lets ls) = true := by
  rw [show lets ls = (ls.map (fun n : Nat => (n : Int))).map D.int by simp [lets]]
  exact flats_ints _
/-! equality of tuples of whole numbers -/
theorem eqv_ints : ∀ xs ys : List Int, PyData.eqvAll (xs.map .int) (ys.map .int) = decide (xs = ys)
  | [], [] => rfl
  | [], y :: ys => rfl
  | x :: xs, [] => rfl
  | x :: xs, y :: ys => by
    rw [List.map_cons, List.map_cons]
    simp only [PyData.eqvAll, PyData.eqv, eqv_ints xs ys]
    by_cases h1 : x = y <;> by_cases h2 : xs = ys <;> simp [h1, h2]
theorem eqB_tupI (xs ys : List Int) : eqB (tupI xs) (tupI ys) = decide (xs = ys) := by
  unfold eqB
  rw [toPy_tupI, toPy_tupI, PyData.eqv]
  exact eqv_ints xs ys
theorem ready_tupI (xs : List Int) : ready (tupI xs) = true := by
  have := depth_ints xs
  simp only [tupI, ready, okD, okDs_ints, toPy, PyData.depth, Bool.true_and, decide_eq_true_eq]
  omega
theorem eq_tupI (xs ys : List Int) : dEq (tupI xs) (tupI ys) = some (.bl (decide (xs = ys))) := by
  have e : dEq (tupI xs) (tupI ys) = if ready (tupI xs) && ready (tupI ys) then some (.bl (eqB (tupI xs) (tupI ys))) else none := rfl
  rw [e, ready_tupI, ready_tupI, eqB_tupI]
  rfl
theorem ne_tupI (xs ys : List Int) : dNe (tupI xs) (tupI ys) = some (.bl (!decide (xs = ys))) := by
  have e : dNe (tupI xs) (tupI ys) = if ready (tupI xs) && ready (tupI ys) then some (.bl (!eqB (tupI xs) (tupI ys))) else none := rfl
  rw [e, ready_tupI, ready_tupI, eqB_tupI]
  rfl
/-! tuples of texts, told by numbers -/
theorem okSs_map {α : Type} {f : α → D} (h : ∀ a, okS (f a) = true) : ∀ xs : List α, okSs (xs.map f) = true
  | [] => rfl
  | x :: xs => by show (okS (f x) && okSs (xs.map f)) = true; rw [okSs_map h xs, h x]; rfl
/-! parts of things -/
theorem wts_mem : ∀ {xs : List D} {x : D}, x ∈ xs → wt x ≤ wts xs
  | y :: xs, x, h => by
    rcases List.mem_cons.mp h with rfl | h
    · simp only [wts]; omega
    · have := wts_mem h
      simp only [wts]; omega
theorem wts_len : ∀ xs : List D, 2 * xs.length ≤ wts xs
  | [] => by simp [wts]
  | x :: xs => by
    have := wts_len xs
    simp only [wts, List.length_cons]; omega
theorem okRs_mem {L : Nat} : ∀ {xs : List D} {x : D}, okRs L xs = true → x ∈ xs → okR L x = true
  | y :: xs, x, h, m => by
    simp only [okRs, Bool.and_eq_true] at h
    rcases List.mem_cons.mp m with rfl | m
    · exact h.1
    · exact okRs_mem h.2 m
theorem sOks_mem : ∀ {xs : List D} {x : D}, sOks xs = true → x ∈ xs → sOk x = true
  | y :: xs, x, h, m => by
    simp only [sOks, Bool.and_eq_true] at h
    rcases List.mem_cons.mp m with rfl | m
    · exact h.1
    · exact sOks_mem h.2 m
theorem dps_mem : ∀ {xs : List D} {x : D}, x ∈ xs → (toPy x).depth ≤ PyData.depthAll (toPys xs)
  | y :: xs, x, m => by
    simp only [toPys, PyData.depthAll]
    rcases List.mem_cons.mp m with rfl | m
    · omega
    · have := dps_mem m
      omega
theorem th_part {L n w : Nat} {xs : List D} (h : Thing L n w (.tup xs)) : ∀ x ∈ xs, Thing L n w x := fun x hx => by
  have h1 := h.sh.ok
  have h2 := h.sh.so
  have h3 := h.sh.dp
  have h4 := h.sh.wt
  simp only [okR] at h1
  simp only [sOk] at h2
  simp only [toPy, PyData.depth] at h3
  simp only [wt] at h4
  have := dps_mem hx
  have := wts_mem hx
  exact ⟨pd_tup' h.pl x hx, ⟨okRs_mem h1 hx, sOks_mem h2 hx, by omega, by omega⟩⟩
theorem th_len {L n w : Nat} {xs : List D} (h : Thing L n w (.tup xs)) : 2 * xs.length ≤ w := by
  have h4 := h.sh.wt
  simp only [wt] at h4
  have := wts_len xs
  omega
end DL
namespace DL
open PySem PySem.Spec PyProof.Rows L2
/-! ### dicts, plain -/
section
variable {ρ : List Sl} {s : S} {N B C : List Sl → S → Prop} {R : D → S → Prop} {X : Str → S → Prop}
theorem wp_newK {Q : D → S → Prop} : wp (eNewK ρ s) Q X = Q (.tok s.length) (s ++ [.d []]) := by unfold eNewK; rw [wp_ok]
theorem wp_newT {Q : D → S → Prop} : wp (eNewT ρ s) Q X = Q (.tok s.length) (s ++ [.t []]) := by unfold eNewT; rw [wp_ok]
theorem wp_evp {ps : List (DE × DE)} {Q : List (Key × D) → S → Prop} {f g : DE} : wp (evPairs ((f, g) :: ps) ρ s) Q X = wp (f ρ s) (fun k s1 => wp (g ρ s1) (fun d s2 => ∃ kk, dk k = some kk ∧ wp (evPairs ps ρ s2) (fun l s3 => Q ((kk, d) :: l) s3) X) X) X := by
  conv => lhs; unfold evPairs
  rw [wp_bind]
  congr 1
  funext k s1
  rw [wp_bind]
  congr 1
  funext d s2
  cases dk k with
  | none => simp [wp]
  | some kk =>
    simp only [Option.some.injEq, exists_eq_left']
    rw [wp_bind]
    congr 1
    funext l s3
    rw [wp_ok]
theorem wp_evp0 {Q : List (Key × D) → S → Prop} : wp (evPairs [] ρ s) Q X = Q [] s := by unfold evPairs; rw [wp_ok]
theorem wp_dispK {ps : List (DE × DE)} {Q : D → S → Prop} : wp (eDispK ps ρ s) Q X = wp (evPairs ps ρ s) (fun l s1 => flats ((mergeC l).map (·.2)) = true ∧ Q (.tok s1.length) (s1 ++ [.d (mergeC l)])) X := by
  unfold eDispK
  rw [wp_bind]
  congr 1
  funext l s1
  rw [wp_ite, wp_ok, wp_bad]
  by_cases h : flats ((mergeC l).map (·.2)) = true
  · rw [if_pos h]; exact propext ⟨fun q => ⟨h, q⟩, fun q => q.2⟩
  · rw [if_neg h]; exact propext ⟨fun q => q.elim, fun q => h q.1⟩
theorem wp_dispT {f g : DE} {Q : D → S → Prop} : wp (eDispT f g ρ s) Q X = wp (f ρ s) (fun k s1 => wp (g ρ s1) (fun d s2 => ∃ kk, dkT k = some kk ∧ flat d = true ∧ Q (.tok s2.length) (s2 ++ [.t [(kk, d)]])) X) X := by
  unfold eDispT
  rw [wp_bind]
  congr 1
  funext k s1
  rw [wp_bind]
  congr 1
  funext d s2
  cases dkT k with
  | none => simp [wp]
  | some kk =>
    simp only [Option.some.injEq, exists_eq_left']
    rw [wp_ite, wp_ok, wp_bad]
    by_cases h : flat d = true
    · rw [if_pos h]; exact propext ⟨fun q => ⟨h, q⟩, fun q => q.2⟩
    · rw [if_neg h]; exact propext ⟨fun q => q.elim, fun q => h q.1⟩
theorem wp_get2 {f h g : DE} {Q : D → S → Prop} : wp (eGet2 f h g ρ s) Q X = wp (f ρ s) (fun a s1 => isDct s1 a = true ∧ wp (h ρ s1) (fun y s2 => wp (g ρ s2) (fun z s3 => ∃ o, getC s3 a y = some o ∧ Q (o.getD z) s3) X) X) X := by
  unfold eGet2
  rw [wp_bind]
  congr 1
  funext a s1
  rw [wp_ite, wp_bad]
  by_cases hd : isDct s1 a = true
  · rw [if_pos hd, wp_bind]
    refine propext ⟨fun q => ⟨hd, ?_⟩, fun q => ?_⟩
    · refine wp_mono q (fun y s2 q => ?_) fun _ _ z => z
      rw [wp_bind] at q
      refine wp_mono q (fun z s3 q => ?_) fun _ _ z => z
      rw [wp_ofO] at q
      obtain ⟨u, hu, q⟩ := q
      obtain ⟨o, ho, rfl⟩ := Option.map_eq_some_iff.mp hu
      exact ⟨o, ho, q⟩
    · refine wp_mono q.2 (fun y s2 q => ?_) fun _ _ z => z
      rw [wp_bind]
      refine wp_mono q (fun z s3 q => ?_) fun _ _ z => z
      rw [wp_ofO]
      obtain ⟨o, ho, q⟩ := q
      exact ⟨_, by rw [ho]; rfl, q⟩
  · rw [if_neg hd]
    exact propext ⟨fun q => q.elim, fun q => hd q.1⟩
theorem wp_iRange3 {fs : DA} {Q : List D → S → Prop} : wp (iRange3 fs ρ s) Q X = wp (fs ρ s) (fun ds s1 => ∃ i j c, ds = [.int i, .int j, .int c] ∧ (c = -1 ∧ -(2 ^ 60) ≤ i ∧ i < 2 ^ 60 ∧ -(2 ^ 60) ≤ j ∧ j < 2 ^ 60) ∧ Q (rngD i c (i - j).toNat) s1) X := by
  unfold iRange3
  rw [wp_bind]
  congr 1
  funext ds s1
  split
  · rename_i i j c
    rw [wp_ite, wp_ok, wp_bad]
    by_cases h : c = -1 ∧ -(2 ^ 60) ≤ i ∧ i < 2 ^ 60 ∧ -(2 ^ 60) ≤ j ∧ j < 2 ^ 60
    · rw [if_pos h]
      exact propext ⟨fun q => ⟨i, j, c, rfl, h, q⟩, fun ⟨i', j', c', e, h', q⟩ => by cases e; exact q⟩
    · rw [if_neg h]
      exact propext ⟨fun q => q.elim, fun ⟨i', j', c', e, h', q⟩ => by cases e; exact h h'⟩
  · rename_i h
    rw [wp_bad]
    exact propext ⟨fun z => z.elim, fun ⟨i, j, c, e, _⟩ => h i j c e⟩
def zpMOf (ds : List D) : Option (List D) := match ds with
  | [d, e] => if isTu d = false ∧ isTu e = true then (match sqOf d, sqOf e with
    | some as, some bs => some (zipD as bs)
    | _, _ => none) else none
  | _ => none
theorem wp_iZipM {fs : DA} {Q : List D → S → Prop} : wp (iZipM fs ρ s) Q X = wp (fs ρ s) (fun ds s1 => ∃ z, zpMOf ds = some z ∧ Q z s1) X := by
  unfold iZipM
  rw [wp_bind]
  congr 1
  funext ds s1
  unfold zpMOf
  split
  · rename_i d e
    rw [wp_ite, wp_bad]
    try dsimp only
    by_cases h : isTu d = false ∧ isTu e = true
    · rw [if_pos h, if_pos h]
      cases sqOf d <;> cases sqOf e <;> simp [wp]
    · rw [if_neg h, if_neg h]; simp
  · simp [wp]
theorem zp_m {xs ys : List D} {P : List D → Prop} : (∃ z, zpMOf [.lst xs, .tup ys] = some z ∧ P z) = P (zipD xs ys) := by show (∃ z, some (zipD xs ys) = some z ∧ P z) = _; exact ex_some
theorem q_r3 {i j c : Int} {P : Int → Int → Int → Prop} : (∃ a b d, [D.int i, D.int j, D.int c] = [D.int a, D.int b, D.int d] ∧ P a b d) = P i j c := by
  refine propext ⟨fun ⟨a, b, d, e, p⟩ => by cases e; exact p, fun p => ⟨i, j, c, rfl, p⟩⟩
/-- what a store makes of the special objects -/
def putS (s : S) (t k d : D) : Option S := match t with
  | .tok n => match tokK s n, tokT s n, dk k, dkT k with
    | some l, _, some k, _ => if flat d = true ∧ l.length < 16777216 then some (s.set n (.d (putC l k d))) else none
    | _, some l, _, some k => if flat d = true ∧ l.length < 16777216 then some (s.set n (.t (putC l k d))) else none
    | _, _, _, _ => none
  | _ => none
theorem wps_putC {f fi fv : DE} : wps (sPutC f fi fv ρ s) N B C R X = wp (fv ρ s) (fun d s1 => wp (f ρ s1) (fun t s2 => wp (fi ρ s2) (fun k s3 => ∃ s4, putS s3 t k d = some s4 ∧ N ρ s4) X) X) X := by
  unfold sPutC
  rw [wps_then]
  congr 1
  funext d s1
  rw [wps_then]
  congr 1
  funext t s2
  rw [wps_then]
  congr 1
  funext k s3
  unfold putS
  cases t with
  | tok n =>
    try dsimp only
    cases tokK s3 n <;> cases tokT s3 n <;> cases dk k <;> cases dkT k <;> first
      | (simp [wps]; done)
      | (dsimp only; rw [wps_ite, wz_next, wz_bad]; split <;> simp_all)
  | _ => simp [wps]
end
/-! the pen that is a dict -/
def penC (p left : D) : Cell := .d [(.inr "cells", .tok 0), (.inr "at", p), (.inr "left", left)]
def PenK (k : Int) (r : S) (s : S) : Prop := ∃ (ns : List Int) (p left : Int), s = .l (ns.map .int) :: penC (.int p) (.int left) :: r ∧ 0 ≤ p ∧ p ≤ k ∧ 0 ≤ left
section
variable {c0 : Cell} {p l d : D} {r : S} {P : D → Prop} {Q : S → Prop}
theorem x_pcells : (∃ z, dIxC (c0 :: penC p l :: r) (.tok 1) (.str "cells") = some z ∧ P z) = P (.tok 0) := by
  have e : dIxC (c0 :: penC p l :: r) (.tok 1) (.str "cells") = some (.tok 0) := rfl
  rw [e]; exact ex_some
theorem x_pat : (∃ z, dIxC (c0 :: penC p l :: r) (.tok 1) (.str "at") = some z ∧ P z) = P p := by
  have e : dIxC (c0 :: penC p l :: r) (.tok 1) (.str "at") = some p := rfl
  rw [e]; exact ex_some
theorem x_pleft : (∃ z, dIxC (c0 :: penC p l :: r) (.tok 1) (.str "left") = some z ∧ P z) = P l := by
  have e : dIxC (c0 :: penC p l :: r) (.tok 1) (.str "left") = some l := rfl
  rw [e]; exact ex_some
theorem x_wat : (∃ z, putS (c0 :: penC p l :: r) (.tok 1) (.str "at") d = some z ∧ Q z) = (flat d = true ∧ Q (c0 :: penC d l :: r)) := by
  have e : putS (c0 :: penC p l :: r) (.tok 1) (.str "at") d = if flat d = true ∧ 3 < 16777216 then some (c0 :: penC d l :: r) else none := rfl
  rw [e]
  by_cases h : flat d = true <;> simp [h]
theorem x_wleft : (∃ z, putS (c0 :: penC p l :: r) (.tok 1) (.str "left") d = some z ∧ Q z) = (flat d = true ∧ Q (c0 :: penC p d :: r)) := by
  have e : putS (c0 :: penC p l :: r) (.tok 1) (.str "left") d = if flat d = true ∧ 3 < 16777216 then some (c0 :: penC p d :: r) else none := rfl
  rw [e]
  by_cases h : flat d = true <;> simp [h]
end
theorem pen_merge {a b c : D} : mergeC [(.inr "cells", a), (.inr "at", b), (.inr "left", c)] = [(.inr "cells", a), (.inr "at", b), (.inr "left", c)] := rfl
def DrawnK (m k : Int) (r : S) (a : D) (s : S) : Prop := ∃ i, a = .int i ∧ 0 ≤ i ∧ i < m ∧ PenK (k + 1) r s
def PenDK (P : D → Prop) (k : Int) (r : S) (a : D) (s : S) : Prop := P a ∧ PenK k r s
theorem penK_mono {k k' : Int} {r s : S} (h : PenK k r s) (hk : k ≤ k') : PenK k' r s := by
  obtain ⟨ns, p, l, e, h1, h2, h3⟩ := h
  exact ⟨ns, p, l, e, h1, by omega, h3⟩
end DL
namespace DL
open PySem PySem.Spec PyProof.Rows L2
section
variable {ρ : List Sl} {s : S} {N B C : List Sl → S → Prop} {R : D → S → Prop} {X : Str → S → Prop}
theorem q_move {i j : Nat} : wps (sMove i j ρ s) N B C R X = wpo j ρ fun ds => wpn ρ [(j, .emp), (i, .own ds)] fun ρ1 => N ρ1 s := by
  unfold sMove
  rw [wpo_of]
  congr 1
  funext ds
  simp only [set_at]
  with_unfolding_all rfl
theorem wps_appT {f fv : DE} : wps (sAppT f fv ρ s) N B C R X = wp (f ρ s) (fun t s1 => isTokL s1 t = true ∧ wp (fv ρ s1) (fun d s2 => ∃ s3, appS s2 t d = some s3 ∧ N ρ s3) X) X := by
  unfold sAppT
  rw [wps_then]
  congr 1
  funext t s1
  by_cases h : isTokL s1 t = true
  · rw [if_pos h, wps_then]
    refine propext ⟨fun q => ⟨h, ?_⟩, fun q => ?_⟩
    · refine wp_mono q (fun d s2 q => ?_) fun _ _ z => z
      cases ha : appS s2 t d with
      | none => rw [ha] at q; simp [wps] at q
      | some s3 => rw [ha] at q; exact ⟨s3, rfl, by simpa [wps] using q⟩
    · refine wp_mono q.2 (fun d s2 q => ?_) fun _ _ z => z
      obtain ⟨s3, e, q⟩ := q
      rw [e]
      simpa [wps] using q
  · rw [if_neg h]
    exact propext ⟨fun q => by simp [wps] at q, fun q => absurd q.1 h⟩
/-- the expressions that change an own list -/
theorem wpy_pop {i : Nat} {Q : D × List Sl → S → Prop} : wp (yPop i ρ s) Q X = wpo i ρ fun ds => ∃ d, ds.getLast? = some d ∧ Q (d, ρ.set i (.own ds.dropLast)) s := by
  unfold yPop wpo
  cases ρ[i]? with
  | none => exact propext ⟨fun q => by simp [wp] at q, fun q => q.elim⟩
  | some y =>
    cases y with
    | own ds =>
      dsimp only
      cases ds.getLast? with
      | none => exact propext ⟨fun q => by simp [wp] at q, fun ⟨_, e, _⟩ => by cases e⟩
      | some d => exact propext ⟨fun q => ⟨d, rfl, by rwa [wp_ok] at q⟩, fun ⟨_, e, q⟩ => by cases e; rwa [wp_ok]⟩
    | _ => exact propext ⟨fun q => by simp [wp] at q, fun q => q.elim⟩
theorem wpy_popI {i : Nat} {f : DE} {Q : D × List Sl → S → Prop} : wp (yPopI i f ρ s) Q X = wpo i ρ fun ds => wp (f ρ s) (fun d s1 => ∃ z, d = .int z ∧ (-(2 ^ 63) ≤ z ∧ z < 2 ^ 63) ∧ ∃ p, dropAt ds z = some p ∧ Q (p.1, ρ.set i (.own p.2)) s1) X := by
  unfold yPopI wpo
  cases ρ[i]? with
  | none => exact propext ⟨fun q => by simp [wp] at q, fun q => q.elim⟩
  | some y =>
    cases y with
    | own ds =>
      dsimp only
      rw [wp_bind]
      congr 1
      funext d s1
      cases d with
      | int z =>
        simp only [D.int.injEq, exists_eq_left']
        rw [wp_ite, wp_bad]
        by_cases h : -(2 ^ 63) ≤ z ∧ z < 2 ^ 63
        · rw [if_pos h]
          cases dropAt ds z with
          | none => exact propext ⟨fun q => by simp [wp] at q, fun ⟨_, _, e, _⟩ => by cases e⟩
          | some p => exact propext ⟨fun q => ⟨h, p, rfl, by rwa [wp_ok] at q⟩, fun ⟨_, _, e, q⟩ => by cases e; rwa [wp_ok]⟩
        · rw [if_neg h]
          exact propext ⟨fun q => q.elim, fun q => h q.1⟩
      | _ => exact propext ⟨fun q => by simp [wp] at q, fun ⟨_, e, _⟩ => by cases e⟩
    | _ => exact propext ⟨fun q => by simp [wp] at q, fun q => q.elim⟩
theorem wpy_op2 {g : F2} {f : DY} {h : DE} {Q : D × List Sl → S → Prop} : wp (yOp2 g f h ρ s) Q X = wp (f ρ s) (fun p s1 => wp (h p.2 s1) (fun b s2 => ∃ d, g p.1 b = some d ∧ Q (d, p.2) s2) X) X := by
  unfold yOp2
  rw [wp_bind]
  congr 1
  funext p s1
  rw [wp_bind]
  congr 1
  funext b s2
  cases g p.1 b <;> simp [wp]
theorem q_appY {i : Nat} {f : DY} : wps (sAppY i f ρ s) N B C R X = wpo i ρ fun _ => wp (f ρ s) (fun p s1 => wpo i p.2 fun ds => ds.length < 16777216 ∧ wpn p.2 [(i, .own (ds ++ [p.1]))] fun ρ1 => N ρ1 s1) X := by
  unfold sAppY
  rw [wpo_of]
  congr 1
  funext _
  rw [wps_then]
  congr 1
  funext p s1
  rw [wpo_of]
  congr 1
  funext ds
  rw [ite_bad]
  simp only [set_at]
  with_unfolding_all rfl
theorem wp_fmt {f : DE} {Q : D → S → Prop} : wp (eFmt f ρ s) Q X = wp (f ρ s) (fun d s1 => match d with
    | .int i => i.natAbs.log2 < 1920 ∧ Q (.str (toString i)) s1
    | .str y => y.length ≤ 16777216 ∧ Q (.str y) s1
    | _ => False) X := by
  unfold eFmt
  rw [wp_bind]
  congr 1
  funext d s1
  cases d with
  | int i =>
    dsimp only
    rw [wp_ite, wp_ok, wp_bad]
    by_cases h : i.natAbs.log2 < 1920 <;> simp [h]
  | str y =>
    dsimp only
    rw [wp_ite, wp_ok, wp_bad]
    by_cases h : y.length ≤ 16777216 <;> simp [h]
  | _ => simp [wp]
theorem wp_js {fs : List DE} {Q : D → S → Prop} : wp (eJs fs ρ s) Q X = wp (jsD fs Str.empty ρ s) Q X := rfl
theorem wp_js0 {acc : Str} {Q : D → S → Prop} : wp (jsD [] acc ρ s) Q X = Q (.str acc) s := by unfold jsD; rw [wp_ok]
theorem wp_js1 {acc : Str} {f : DE} {fs : List DE} {Q : D → S → Prop} : wp (jsD (f :: fs) acc ρ s) Q X = wp (f ρ s) (fun d s1 => ∃ y, d = .str y ∧ (acc ++ y).length ≤ 16777216 ∧ wp (jsD fs (acc ++ y) ρ s1) Q X) X := by
  conv => lhs; unfold jsD
  rw [wp_bind]
  congr 1
  funext d s1
  cases d with
  | str y =>
    simp only [D.str.injEq, exists_eq_left']
    rw [wp_ite, wp_bad]
    by_cases h : (acc ++ y).length ≤ 16777216 <;> simp [h]
  | _ => simp [wp]
theorem x_dm {i j : Int} {P : D → Prop} : (∃ z, dDivmod [.int i, .int j] = some z ∧ P z) = ((0 < j ∧ j < 1073741824) ∧ P (.tup [.int (i / j), .int (i % j)])) := by
  unfold dDivmod
  by_cases h : 0 < j ∧ j < 1073741824 <;> simp [h]
def ch3K (r : Option D) (s : S) (Q : D → S → Prop) (K : Prop) : Prop := ∃ b, r = some (.bl b) ∧ if b = true then K else Q (.bl false) s
theorem wp_chain3 {g g' g'' : F2} {f h k l : DE} {Q : D → S → Prop} : wp (eChain3 g g' g'' f h k l ρ s) Q X = wp (f ρ s) (fun x s1 => wp (h ρ s1) (fun y s2 => ∃ d, g x y = some d ∧ ∃ b, d = .bl b ∧ (if b = true then wp (k ρ s2) (fun z s3 => ∃ d, g' y z = some d ∧ ∃ c, d = .bl c ∧ (if c = true then wp (l ρ s3) (fun u s4 => ∃ d, g'' z u = some d ∧ Q d s4) X else Q (.bl false) s3)) X else Q (.bl false) s2)) X) X := by
  unfold eChain3
  rw [wp_bind]
  congr 1
  funext x s1
  rw [wp_bind]
  congr 1
  funext y s2
  cases g x y with
  | none => simp [wp]
  | some d =>
    cases d with
    | bl b =>
      cases b with
      | false => simp [wp]
      | true =>
        simp only [Option.some.injEq, exists_eq_left', D.bl.injEq, if_true]
        rw [wp_bind]
        congr 1
        funext z s3
        cases g' y z with
        | none => simp [wp]
        | some d =>
          cases d with
          | bl c =>
            cases c with
            | false => simp [wp]
            | true =>
              simp only [Option.some.injEq, exists_eq_left', D.bl.injEq, if_true]
              rw [wp_bind]
              congr 1
              funext u s4
              rw [wp_ofO]
          | _ => simp [wp]
    | _ => simp [wp]
end
/-- two special lists behind the others -/
theorem tk2a {s : S} {a b : List D} : tokL (s ++ [.l a, .l b]) s.length = some a := by unfold tokL; rw [List.getElem?_append_right (Nat.le_refl _), Nat.sub_self]; rfl
theorem tk2b {s : S} {a b : List D} : tokL (s ++ [.l a, .l b]) (s.length + 1) = some b := by unfold tokL; rw [List.getElem?_append_right (by omega), show s.length + 1 - s.length = 1 by omega]; rfl
theorem ap2a {s : S} {a b : List D} {d : D} (h : flat d = true) (hl : a.length < 16777216) : appS (s ++ [.l a, .l b]) (.tok s.length) d = some (s ++ [.l (a ++ [d]), .l b]) := by
  unfold appS
  dsimp only
  rw [tk2a]
  dsimp only
  rw [if_pos ⟨h, hl⟩, List.set_append_right _ _ (Nat.le_refl _), Nat.sub_self]
  rfl
theorem ap2b {s : S} {a b : List D} {d : D} (h : flat d = true) (hl : b.length < 16777216) : appS (s ++ [.l a, .l b]) (.tok (s.length + 1)) d = some (s ++ [.l a, .l (b ++ [d])]) := by
  unfold appS
  dsimp only
  rw [tk2b]
  dsimp only
  rw [if_pos ⟨h, hl⟩, List.set_append_right _ _ (by omega), show s.length + 1 - s.length = 1 by omega]
  rfl
theorem it2a {s : S} {a b : List D} : isTokL (s ++ [.l a, .l b]) (.tok s.length) = true := by show (tokL _ _).isSome = true; rw [tk2a]; rfl
theorem it2b {s : S} {a b : List D} : isTokL (s ++ [.l a, .l b]) (.tok (s.length + 1)) = true := by show (tokL _ _).isSome = true; rw [tk2b]; rfl
/-- a place of a told list changed -/
def updF (f : Nat → D) (i : Nat) (d : D) : Nat → D := fun a => if a = i then d else f a
theorem rg_set {n j : Nat} {f : Nat → D} {d : D} : ((List.range n).map f).set j d = (List.range n).map (updF f j d) := by
  apply List.ext_getElem?
  intro a
  rw [List.getElem?_set]
  unfold updF
  by_cases h : j = a
  · subst h
    by_cases hj : j < n <;> simp [hj]
  · rw [if_neg h]
    by_cases ha : a < n
    · simp [ha, Ne.symm h]
    · simp [ha]
theorem x_rat0 {q : Rat} {s : S} {P : D → Prop} : (∃ z, dIxT s (rat q) (.int 0) = some z ∧ P z) = P (.int q.num) := by
  have e : dIxT s (rat q) (.int 0) = some (.int q.num) := rfl
  rw [e]; exact ex_some
theorem x_rat1 {q : Rat} {s : S} {P : D → Prop} : (∃ z, dIxT s (rat q) (.int 1) = some z ∧ P z) = P (.int q.den) := by
  have e : dIxT s (rat q) (.int 1) = some (.int q.den) := rfl
  rw [e]; exact ex_some
theorem flats_map {α : Type} (f : α → D) (h : ∀ a, flat (f a) = true) : ∀ l : List α, flats (l.map f) = true
  | [] => rfl
  | a :: l => by simp [flats, h a, flats_map f h l]
theorem flat_rat (q : Rat) : flat (rat q) = true := rfl
theorem rnum_pos {q : Rat} (h : 0 < q) : 0 < q.num := by simpa using (Rat.lt_iff 0 q).mp h
end DL
namespace DL
open PySem PySem.Spec PyProof.Rows L2
section
variable {ρ : List Sl} {s : S} {N B C : List Sl → S → Prop} {R : D → S → Prop} {X : Str → S → Prop}
theorem q_swap {i : Nat} {fe gi gj : DE} : wps (sSwap i fe gi gj ρ s) N B C R X = wp (fe ρ s) (fun v s1 => ∃ d e, v = .tup [d, e] ∧ wpo i ρ fun ds => wp (gi ρ s1) (fun k s2 => ∃ z, k = .int z ∧ ∃ j, ixN ds.length z = some j ∧ wpn ρ [(i, .own (ds.set j d))] fun ρ1 => wp (gj ρ1 s2) (fun k' s3 => ∃ z', k' = .int z' ∧ ∃ j', ixN ds.length z' = some j' ∧ wpn ρ [(i, .own ((ds.set j d).set j' e))] fun ρ2 => N ρ2 s3) X) X) X := by
  unfold sSwap
  rw [wps_then]
  congr 1
  funext v s1
  match v with
  | .tup [d, e] =>
    refine Eq.trans (b := wpo i ρ fun ds => wp (gi ρ s1) (fun k s2 => ∃ z, k = .int z ∧ ∃ j, ixN ds.length z = some j ∧ wpn ρ [(i, .own (ds.set j d))] fun ρ1 => wp (gj ρ1 s2) (fun k' s3 => ∃ z', k' = .int z' ∧ ∃ j', ixN ds.length z' = some j' ∧ wpn ρ [(i, .own ((ds.set j d).set j' e))] fun ρ2 => N ρ2 s3) X) X) ?_ (propext ⟨fun q => ⟨d, e, rfl, q⟩, fun ⟨_, _, h, q⟩ => by cases h; exact q⟩)
    rw [wpo_of]
    congr 1
    funext ds
    rw [wps_then]
    congr 1
    funext k s2
    cases k with
    | int z =>
      simp only [D.int.injEq, exists_eq_left']
      cases hx : ixN ds.length z with
      | none => simp [wps]
      | some j =>
        simp only [Option.some.injEq, exists_eq_left', wpn]
        rw [wps_then, set_at]
        congr 1
        funext k' s3
        cases k' with
        | int z' =>
          simp only [D.int.injEq, exists_eq_left']
          cases hy : ixN ds.length z' with
          | none => simp [wps]
          | some j' =>
            simp only [Option.some.injEq, exists_eq_left', wz_next]
            rw [set_at]
        | _ => simp [wps]
    | _ => simp [wps]
  | .non => simp [wps]
  | .bl _ => simp [wps]
  | .int _ => simp [wps]
  | .str _ => simp [wps]
  | .lst _ => simp [wps]
  | .frz _ => simp [wps]
  | .dct _ => simp [wps]
  | .tok _ => simp [wps]
  | .ty _ => simp [wps]
  | .glb _ => simp [wps]
  | .ktp _ => simp [wps]
  | .exc _ => simp [wps]
  | .tup [] => simp [wps]
  | .tup [_] => simp [wps]
  | .tup (_ :: _ :: _ :: _) => simp [wps]
theorem wp_idx {f h : DE} {Q : D → S → Prop} : wp (eIdx f h ρ s) Q X = wp (f ρ s) (fun x s1 => ∃ ds, x = .lst ds ∧ wp (h ρ s1) (fun y s2 => ∃ z, dIdx ds y = some z ∧ Q z s2) X) X := by
  unfold eIdx
  rw [wp_bind]
  congr 1
  funext x s1
  cases x with
  | lst ds =>
    simp only [D.lst.injEq, exists_eq_left']
    rw [wp_bind]
    congr 1
    funext y s2
    rw [wp_ofO]
  | _ => simp [wp]
theorem q_tup2 {d e : D} {P : D → D → Prop} : (∃ d' e', D.tup [d, e] = .tup [d', e'] ∧ P d' e') = P d e := propext ⟨fun ⟨_, _, h, q⟩ => by cases h; exact q, fun q => ⟨d, e, rfl, q⟩⟩
theorem wp_iZip3 {fs : DA} {Q : List D → S → Prop} : wp (iZip3 fs ρ s) Q X = wp (fs ρ s) (fun ds s1 => ∃ z, zp3Of ds = some z ∧ Q z s1) X := by
  unfold iZip3
  rw [wp_bind]
  congr 1
  funext ds s1
  rw [wp_ofO]
theorem zp_3 {xs ys zs : List D} {P : List D → Prop} : (∃ z, zp3Of [.lst xs, .lst ys, .lst zs] = some z ∧ P z) = P (zip3D xs ys zs) := by show (∃ z, some (zip3D xs ys zs) = some z ∧ P z) = _; exact ex_some
theorem zip3_get {as bs cs : List D} {i : Nat} {d : D} (h : (zip3D as bs cs)[i]? = some d) : ∃ a b c, as[i]? = some a ∧ bs[i]? = some b ∧ cs[i]? = some c ∧ d = .tup [a, b, c] := by
  have hl := (List.getElem?_eq_some_iff.mp h).1
  rw [zip3D_len] at hl
  have h1 : i < as.length := by omega
  have h2 : i < bs.length := by omega
  have h3 : i < cs.length := by omega
  have e := zip3D_get (List.getElem?_eq_getElem h1) (List.getElem?_eq_getElem h2) (List.getElem?_eq_getElem h3)
  rw [h] at e
  exact ⟨_, _, _, List.getElem?_eq_getElem h1, List.getElem?_eq_getElem h2, List.getElem?_eq_getElem h3, Option.some.inj e⟩
theorem wp_lenC {fs : DA} {Q : D → S → Prop} : wp (eLenC fs ρ s) Q X = wp (fs ρ s) (fun ds s1 => ∃ z, lenC s1 ds = some z ∧ Q z s1) X := by
  unfold eLenC
  rw [wp_bind]
  congr 1
  funext ds s1
  rw [wp_ofO]
theorem wp_iZip3X {fs : DA} {Q : List D → S → Prop} : wp (iZip3X fs ρ s) Q X = wp (fs ρ s) (fun ds s1 => ∃ z, zp3OfX ds = some z ∧ Q z s1) X := by
  unfold iZip3X
  rw [wp_bind]
  congr 1
  funext ds s1
  rw [wp_ofO]
theorem zp_3X {xs ys zs : List D} {P : List D → Prop} : (∃ z, zp3OfX [.tup xs, .lst ys, .tup zs] = some z ∧ P z) = P (zip3D xs ys zs) := by show (∃ z, some (zip3D xs ys zs) = some z ∧ P z) = _; exact ex_some
end
end DL
namespace DL
open PySem PySem.Spec PyProof.Rows L2
section
variable {ρ : List Sl} {s : S} {N B C : List Sl → S → Prop} {R : D → S → Prop} {X : Str → S → Prop}
theorem wp_cnt {f h : DE} {Q : D → S → Prop} : wp (eCnt f h ρ s) Q X = wp (f ρ s) (fun x s1 => ∃ ds, x = .lst ds ∧ wp (h ρ s1) (fun y s2 => ∃ z, dCnt ds y = some z ∧ Q z s2) X) X := by
  unfold eCnt
  rw [wp_bind]
  congr 1
  funext x s1
  cases x with
  | lst ds =>
    simp only [D.lst.injEq, exists_eq_left']
    rw [wp_bind]
    congr 1
    funext y s2
    rw [wp_ofO]
  | _ => simp [wp]
theorem wp_fin {x : Fl} {Q : D → S → Prop} : wp (finD x) Q X = wps x (fun _ s => Q .non s) (fun _ _ => False) (fun _ _ => False) Q X := by
  cases x <;> simp [finD, wp, wps]
theorem exc_of {α : Type} {r : Res α} {x : Str} {s : S} (h : wp r (fun _ _ => False) (fun c s' => c = x ∧ s' = s)) : r = .exc x s := by
  unfold wp at h
  cases r with
  | ok a s1 => exact h.elim
  | exc c s1 => obtain ⟨rfl, rfl⟩ := h; rfl
  | bad => exact h.elim
theorem wp_lamX {F : Res D → Res D} {f : DE} {Q : D → S → Prop} {x : Str} {s1 : S} (h : wp (f ρ s) (fun _ _ => False) (fun c s' => c = x ∧ s' = s1)) (k : wp (F (.exc x s1)) Q X) : wp (eLam F f ρ s) Q X := by
  unfold eLam
  rw [exc_of h]
  exact k
theorem wp_actX {n : Nat} {tb : XTb} {c x : Str} {i j : Nat} {g : DS} {Q : D → S → Prop} (h : isX tb x c = some true)
    (k : wps (g ((((List.replicate n .emp).set j (.dat .non)).set j (.dat (.exc x))).set i .emp) s) (fun _ s => Q .non s) (fun _ _ => False) (fun _ _ => False) Q X) : wp (actD n tb c i j g (.exc x s)) Q X := by
  unfold actD
  simp only [h]
  rw [wp_fin]
  exact k
end
end DL
noncomputable section
namespace DL
open PySem PySem.Spec PyProof.Rows L2
/-! ### the text of the law -/
def topS (i : Nat) : Stmt := PySem.Challenge.pw_nopassing_k68_all_lines_for_a_stand.main.body.getD i (.Pass ⟨0, 0, 0, 0⟩)
structure Facts (K : PySem.W.Frag) (mg : Str → Option Value) : Prop where
  f_arranged : FnAt K mg "arranged" (topS 1)
  f_kind_stands : FnAt K mg "kind_stands" (topS 3)
  f_chosen : FnAt K mg "chosen" (topS 5)
  f_is_places : FnAt K mg "is_places" (topS 6)
  f_is_line : FnAt K mg "is_line" (topS 7)
  f_line_stand : FnAt K mg "line_stand" (topS 8)
  f_all_lines : FnAt K mg "all_lines" (topS 9)
  f_lines_for : FnAt K mg "lines_for" (topS 10)
  f__law_pen : FnAt K mg "_law_pen" (topS 12)
  f__law_draw : FnAt K mg "_law_draw" (topS 13)
  f__law_lowest : FnAt K mg "_law_lowest" (topS 14)
  f__law_ring : FnAt K mg "_law_ring" (topS 15)
  f__law_all : FnAt K mg "_law_all" (topS 17)
  f__law_lead : FnAt K mg "_law_lead" (topS 18)
  f__law_lines : FnAt K mg "_law_lines" (topS 19)
  f__law_right : FnAt K mg "_law_right" (topS 20)
  b_abs : mg "abs" = none
  b_all : mg "all" = none
  b_any : mg "any" = none
  b_bool : mg "bool" = none
  b_enumerate : mg "enumerate" = none
  b_int : mg "int" = none
  b_isinstance : mg "isinstance" = none
  b_len : mg "len" = none
  b_list : mg "list" = none
  b_range : mg "range" = none
  b_repr : mg "repr" = none
  b_sorted : mg "sorted" = none
  b_sum : mg "sum" = none
  b_tuple : mg "tuple" = none
  b_zip : mg "zip" = none
section
variable {P : Program} {w : World} {K : PySem.W.Frag} {mg : Str → Option Value} {base : Heap}
abbrev s_arranged : Stmt := topS 1
theorem sc_arranged : FnScope ["counts", "found", "kind", "many", "left", "rest"] ["counts"] (defScope s_arranged) := ⟨rfl, rfl, rfl, by decide +kernel, rfl, by decide +kernel, by decide +kernel⟩
def D_arranged : Nat → DFun
  | 0 => fun _ _ => .bad
  | rk + 1 => defD 6 1 (sSeq (sIf (tNotD (tTru (eB dAny (aCons (eComp [3] (iVal (eV 0)) (gN 3) (tAll) (eOp2 dGt (eV 3) (eC (.int 0)))) (aNil)))))
    (sRet (eLst (aCons (eTup (aNil)) (aNil))))
    (sSkip))
    (sSeq (sOwn 1 (eLst (aNil)))
    (sSeq (sFor [2, 3, 4, 5] (iEnum (aCons (eV 0) (aNil))) (gT 2 (gsCons (gN 2) (gsCons (gN 3) (gsNil))))
    (sIf (tBl (eOp2 dGt (eV 3) (eC (.int 0))))
    (sSeq (sSet 4 (eOp2 dAddL (eOp2 dAddL (eSl (eV 0) (oNone) (oSome (eV 2))) (eLst (aCons (eOp2 dSub (eV 3) (eC (.int 1))) (aNil)))) (eSl (eV 0) (oSome (eOp2 dAdd (eV 2) (eC (.int 1)))) (oNone))))
    (sExt 1 (eComp [5] (iVal (eCall (D_arranged rk) (aCons (eV 4) (aNil)))) (gN 5) (tAll) (eOp2 dAdd (eTup (aCons (eV 2) (aNil))) (eV 5)))))
    (sSkip)))
    (sRetOwn 1))))
theorem okS_arranged (Z : Facts K mg) (rk : Nat) (ih : DFn P w K mg base (0 + rk) "arranged" 1 (D_arranged rk) true) : DFn P w K mg base (0 + rk + 1) "arranged" 1 (D_arranged (rk + 1)) true := by
  obtain ⟨f, fd, F, gx⟩ := Z.f_arranged
  refine DFn.mk' F sc_arranged gx (F.binds (ps := ["counts"]) fun _ _ _ _ _ _ us hl => match us, hl with | [_], _ => rfl) rfl (fun X E hK hM hX hr hg => ?_) (fun _ => nn_seq (nn_seq (nn_seq (by first | exact nn_ret | exact nn_retOwn | exact nn_frz nn_ret))))
  obtain ⟨cdv, A, outer, s, H, rfl⟩ := hX
  exact s_cons (s_if (t_not (t_truth (e_callB (cr_any rfl) v_any Z.b_any (a_cons (e_ofF (f_comp [("many", 3)] rfl sc_arranged.nd (i_val (e_var 0)) (blkOk_by (by change blkC ["counts", "found", "kind", "many", "left", "rest"] (defScope s_arranged) _ _ = true; decide +kernel)) (fun _ _ _ _ _ => g_name 3 sc_arranged.nd) (fun _ _ _ _ _ => ts_nil) (fun _ _ _ _ _ => e_cmp op_gt v_gt (e_var 3) (e_int) rfl))) (a_nil)))))
    (s_one (s_retF (f_lst (a_cons (e_tup (a_nil)) (a_nil)))))
    (s_nil))
    (s_cons (s_own (i := 1) (f_lst (a_nil)) sc_arranged.nd)
    (s_cons (s_for (vs := [2, 3]) [2, 3, 4, 5] (passes_of rfl) rfl (i_enum Z.b_enumerate (a_cons (e_var 0) (a_nil))) (g_tup (n := 2) rfl (gs_cons (g_name 2 sc_arranged.nd) (gs_cons (g_name 3 sc_arranged.nd) (gs_nil))))
    (s_one (s_if (t_cmp op_gt v_gt (e_var 3) (e_int) rfl)
    (s_cons (s_set (i := 4) (e_ofF (f_op2 op_cat vF_add (e_ofF (f_op2 op_cat vF_add (e_slice (e_var 0) (o_none) (o_some (e_var 2))) (e_ofF (f_lst (a_cons (e_op2 op_sub v_sub (e_var 3) (e_int)) (a_nil)))))) (e_slice (e_var 0) (o_some (e_op2 op_addA v_add (e_var 2) (e_int))) (o_none)))) sc_arranged.nd)
    (s_one (s_ext 1 (e_ofF (f_comp [("rest", 5)] rfl sc_arranged.nd (i_val (e_ofF (f_call ih hr hg (takes_of rfl rfl rfl rfl) (a_cons (e_var 4) (a_nil))))) (blkOk_by (by change blkC ["counts", "found", "kind", "many", "left", "rest"] (defScope s_arranged) _ _ = true; decide +kernel)) (fun _ _ _ _ _ => g_name 5 sc_arranged.nd) (fun _ _ _ _ _ => ts_nil) (fun _ _ _ _ _ => e_op2 op_addA v_add (e_tup (a_cons (e_var 2) (a_nil))) (e_var 5)))))))
    (s_nil))))
    (s_one (s_retOwn 1))))
theorem ok_arranged (Z : Facts K mg) : ∀ rk : Nat, DFn P w K mg base (0 + rk) "arranged" 1 (D_arranged rk) true
  | 0 => by
    obtain ⟨f, fd, F, gx⟩ := Z.f_arranged
    exact DFn.zero F sc_arranged gx (F.binds (ps := ["counts"]) fun _ _ _ _ _ _ us hl => match us, hl with | [_], _ => rfl) rfl
  | rk + 1 => okS_arranged Z rk (ok_arranged Z rk)
abbrev s_kind_stands : Stmt := topS 3
theorem sc_kind_stands : FnScope ["ring", "cells", "quick", "slow", "on"] ["ring"] (defScope s_kind_stands) := ⟨rfl, rfl, rfl, by decide +kernel, rfl, by decide +kernel, by decide +kernel⟩
def D_kind_stands : DFun := defD 5 1 (sSeq (sUnp (gT 4 (gsCons (gN 1) (gsCons (gN 2) (gsCons (gN 3) (gsCons (gN 4) (gsNil)))))) (eV 0))
    (sRet (eCall (D_arranged 20) (aCons (eLst (aCons (eOp2 dSub (eOp2 dSub (eV 1) (eV 2)) (eV 3)) (aCons (eV 2) (aCons (eV 3) (aNil))))) (aNil)))))
theorem ok_kind_stands (Z : Facts K mg) : DFn P w K mg base 21 "kind_stands" 1 D_kind_stands true := by
  obtain ⟨f, fd, F, gx⟩ := Z.f_kind_stands
  refine DFn.mk' F sc_kind_stands gx (F.binds (ps := ["ring"]) fun _ _ _ _ _ _ us hl => match us, hl with | [_], _ => rfl) rfl (fun X E hK hM hX hr hg => ?_) (fun _ => nn_seq (by first | exact nn_ret | exact nn_retOwn | exact nn_frz nn_ret))
  obtain ⟨cdv, A, outer, s, H, rfl⟩ := hX
  exact s_cons (s_unp [1, 2, 3, 4] (e_var 0) (g_tup (n := 4) rfl (gs_cons (g_name 1 sc_kind_stands.nd) (gs_cons (g_name 2 sc_kind_stands.nd) (gs_cons (g_name 3 sc_kind_stands.nd) (gs_cons (g_name 4 sc_kind_stands.nd) (gs_nil)))))))
    (s_one (s_retF (f_call (ok_arranged Z 20) (hr.mono (by decide)) hg (takes_of rfl rfl rfl rfl) (a_cons (e_ofF (f_lst (a_cons (e_op2 op_sub v_sub (e_op2 op_sub v_sub (e_var 1) (e_var 2)) (e_var 3)) (a_cons (e_var 2) (a_cons (e_var 3) (a_nil)))))) (a_nil)))))
abbrev s_chosen : Stmt := topS 5
theorem sc_chosen : FnScope ["cells", "many", "found", "turn", "longer", "ahead", "begin", "place"] ["cells", "many"] (defScope s_chosen) := ⟨rfl, rfl, rfl, by decide +kernel, rfl, by decide +kernel, by decide +kernel⟩
def D_chosen : DFun := defD 8 2 (sSeq (sSet 2 (eLst (aCons (eTup (aNil)) (aNil))))
    (sSeq (sFor [3, 4, 5, 6, 7] (iRange1 (aCons (eV 1) (aNil))) (gN 3)
    (sSeq (sOwn 4 (eLst (aNil)))
    (sSeq (sFor [5, 6, 7] (iVal (eV 2)) (gN 5)
    (sSeq (sSet 6 (eC (.int 0)))
    (sSeq (sIf (tBl (eOp2 dNe (eV 5) (eTup (aNil))))
    (sSet 6 (eOp2 dAdd (eOp2S dIxT (eV 5) (eOp1 dNeg (eC (.int 1)))) (eC (.int 1))))
    (sSkip))
    (sExt 4 (eComp [7] (iRange2 (aCons (eV 6) (aCons (eV 0) (aNil)))) (gN 7) (tAll) (eOp2 dAdd (eV 5) (eTup (aCons (eV 7) (aNil)))))))))
    (sFrz 4 (sSet 2 (eV 4))))))
    (sRet (eV 2))))
theorem ok_chosen (Z : Facts K mg) : DFn P w K mg base 1 "chosen" 2 D_chosen false := by
  obtain ⟨f, fd, F, gx⟩ := Z.f_chosen
  refine DFn.mk' F sc_chosen gx (F.binds (ps := ["cells", "many"]) fun _ _ _ _ _ _ us hl => match us, hl with | [_, _], _ => rfl) rfl (fun X E hK hM hX hr hg => ?_) (fun z => Bool.noConfusion z)
  obtain ⟨cdv, A, outer, s, H, rfl⟩ := hX
  exact s_cons (s_set (i := 2) (e_ofF (f_lst (a_cons (e_tup (a_nil)) (a_nil)))) sc_chosen.nd)
    (s_cons (s_for (vs := [3]) [3, 4, 5, 6, 7] (passes_of rfl) rfl (i_range1 Z.b_range (a_cons (e_var 1) (a_nil))) (g_name 3 sc_chosen.nd)
    (s_cons (s_own (i := 4) (f_lst (a_nil)) sc_chosen.nd)
    (s_cons (s_for (vs := [5]) [5, 6, 7] (passes_of rfl) rfl (i_val (e_var 2)) (g_name 5 sc_chosen.nd)
    (s_cons (s_set (i := 6) (e_int) sc_chosen.nd)
    (s_cons (s_if (t_cmp (op_neA (hu64 hr)) v_ne (e_var 5) (e_tup (a_nil)) rfl)
    (s_one (s_set (i := 6) (e_op2 op_addA v_add (e_ixT (e_var 5) (e_neg (e_int))) (e_int)) sc_chosen.nd))
    (s_nil))
    (s_one (s_ext 4 (e_ofF (f_comp [("place", 7)] rfl sc_chosen.nd (i_range2 Z.b_range (a_cons (e_var 6) (a_cons (e_var 0) (a_nil)))) (blkOk_by (by change blkC ["cells", "many", "found", "turn", "longer", "ahead", "begin", "place"] (defScope s_chosen) _ _ = true; decide +kernel)) (fun _ _ _ _ _ => g_name 7 sc_chosen.nd) (fun _ _ _ _ _ => ts_nil) (fun _ _ _ _ _ => e_op2 op_addA v_add (e_var 5) (e_tup (a_cons (e_var 7) (a_nil)))))))))))
    (s_one (s_frz 4 (s_set (i := 2) (e_var 4) sc_chosen.nd))))))
    (s_one (s_ret (e_var 2))))
abbrev s_is_places : Stmt := topS 6
theorem sc_is_places : FnScope ["thing", "cells", "many", "place", "one", "other"] ["thing", "cells", "many"] (defScope s_is_places) := ⟨rfl, rfl, rfl, by decide +kernel, rfl, by decide +kernel, by decide +kernel⟩
def D_is_places : DFun := defD 6 3 (sSeq (sIf (tOrD (tNotD (tTru (eB dIsi (aCons (eV 0) (aCons (eC (.ty "tuple")) (aNil)))))) (tBl (eOp2 dNe (eLenT (aCons (eV 0) (aNil))) (eV 2))))
    (sRet (eC (.bl false)))
    (sSkip))
    (sSeq (sFor [3] (iVal (eV 0)) (gN 3)
    (sIf (tOrD (tNotD (tTru (eB dIsi (aCons (eV 3) (aCons (eC (.ty "int")) (aNil)))))) (tOrD (tTru (eB dIsi (aCons (eV 3) (aCons (eC (.ty "bool")) (aNil))))) (tNotD (tBl (eChain dLe dLt (eC (.int 0)) (eV 3) (eV 1))))))
    (sRet (eC (.bl false)))
    (sSkip)))
    (sRet (eB dAll (aCons (eComp [4, 5] (iZip (aCons (eV 0) (aCons (eSl (eV 0) (oSome (eC (.int 1))) (oNone)) (aNil)))) (gT 2 (gsCons (gN 4) (gsCons (gN 5) (gsNil)))) (tAll) (eOp2 dLt (eV 4) (eV 5))) (aNil))))))
theorem ok_is_places (Z : Facts K mg) : DFn P w K mg base 1 "is_places" 3 D_is_places false := by
  obtain ⟨f, fd, F, gx⟩ := Z.f_is_places
  refine DFn.mk' F sc_is_places gx (F.binds (ps := ["thing", "cells", "many"]) fun _ _ _ _ _ _ us hl => match us, hl with | [_, _, _], _ => rfl) rfl (fun X E hK hM hX hr hg => ?_) (fun z => Bool.noConfusion z)
  obtain ⟨cdv, A, outer, s, H, rfl⟩ := hX
  exact s_cons (s_if (PW.pt (w_or (t_not (t_truth (e_callB call_isi v_isi Z.b_isinstance (a_cons (e_var 0) (a_cons (e_ty Z.b_tuple) (a_nil)))))) (w_or1 (t_cmp (op_neA (hu64 hr)) v_ne (e_lenT Z.b_len (a_cons (e_var 0) (a_nil))) (e_var 2) rfl))))
    (s_one (s_ret (e_bl)))
    (s_nil))
    (s_cons (s_for (vs := [3]) [3] (passes_of rfl) rfl (i_val (e_var 0)) (g_name 3 sc_is_places.nd)
    (s_one (s_if (PW.pt (w_or (t_not (t_truth (e_callB call_isi v_isi Z.b_isinstance (a_cons (e_var 3) (a_cons (e_ty Z.b_int) (a_nil)))))) (w_or (t_truth (e_callB call_isi v_isi Z.b_isinstance (a_cons (e_var 3) (a_cons (e_ty Z.b_bool) (a_nil))))) (w_or1 (t_not (t_chain op_le v_le op_lt v_lt (e_int) (e_var 3) (e_var 1)))))))
    (s_one (s_ret (e_bl)))
    (s_nil))))
    (s_one (s_ret (e_callB (cr_all rfl) v_all Z.b_all (a_cons (e_ofF (f_comp [("one", 4), ("other", 5)] rfl sc_is_places.nd (i_zip Z.b_zip (a_cons (e_var 0) (a_cons (e_slice (e_var 0) (o_some (e_int)) (o_none)) (a_nil)))) (blkOk_by (by change blkC ["thing", "cells", "many", "place", "one", "other"] (defScope s_is_places) _ _ = true; decide +kernel)) (fun _ _ _ _ _ => g_tup (n := 2) rfl (gs_cons (g_name 4 sc_is_places.nd) (gs_cons (g_name 5 sc_is_places.nd) (gs_nil)))) (fun _ _ _ _ _ => ts_nil) (fun _ _ _ _ _ => e_cmp op_lt v_lt (e_var 4) (e_var 5) rfl))) (a_nil))))))
abbrev s_is_line : Stmt := topS 7
theorem sc_is_line : FnScope ["ring", "thing", "cells", "quick", "slow", "on"] ["ring", "thing"] (defScope s_is_line) := ⟨rfl, rfl, rfl, by decide +kernel, rfl, by decide +kernel, by decide +kernel⟩
def D_is_line : DFun := defD 6 2 (sSeq (sIf (tOrD (tNotD (tTru (eB dIsi (aCons (eV 1) (aCons (eC (.ty "tuple")) (aNil)))))) (tBl (eOp2 dNe (eLenT (aCons (eV 1) (aNil))) (eC (.int 2)))))
    (sRet (eC (.bl false)))
    (sSkip))
    (sSeq (sUnp (gT 4 (gsCons (gN 2) (gsCons (gN 3) (gsCons (gN 4) (gsCons (gN 5) (gsNil)))))) (eV 0))
    (sRet (eAnd (eCall D_is_places (aCons (eOp2S dIxT (eV 1) (eC (.int 0))) (aCons (eV 2) (aCons (eV 3) (aNil))))) (eCall D_is_places (aCons (eOp2S dIxT (eV 1) (eC (.int 1))) (aCons (eV 2) (aCons (eOp2 dAdd (eV 3) (eV 4)) (aNil)))))))))
theorem ok_is_line (Z : Facts K mg) : DFn P w K mg base 2 "is_line" 2 D_is_line false := by
  obtain ⟨f, fd, F, gx⟩ := Z.f_is_line
  refine DFn.mk' F sc_is_line gx (F.binds (ps := ["ring", "thing"]) fun _ _ _ _ _ _ us hl => match us, hl with | [_, _], _ => rfl) rfl (fun X E hK hM hX hr hg => ?_) (fun z => Bool.noConfusion z)
  obtain ⟨cdv, A, outer, s, H, rfl⟩ := hX
  exact s_cons (s_if (PW.pt (w_or (t_not (t_truth (e_callB call_isi v_isi Z.b_isinstance (a_cons (e_var 1) (a_cons (e_ty Z.b_tuple) (a_nil)))))) (w_or1 (t_cmp (op_neA (hu64 hr)) v_ne (e_lenT Z.b_len (a_cons (e_var 1) (a_nil))) (e_int) rfl))))
    (s_one (s_ret (e_bl)))
    (s_nil))
    (s_cons (s_unp [2, 3, 4, 5] (e_var 0) (g_tup (n := 4) rfl (gs_cons (g_name 2 sc_is_line.nd) (gs_cons (g_name 3 sc_is_line.nd) (gs_cons (g_name 4 sc_is_line.nd) (gs_cons (g_name 5 sc_is_line.nd) (gs_nil)))))))
    (s_one (s_ret (e_and (e_call (ok_is_places Z) (hr.mono (by decide)) hg (takes_of rfl rfl rfl rfl) (a_cons (e_ixT (e_var 1) (e_int)) (a_cons (e_var 2) (a_cons (e_var 3) (a_nil))))) (e_one (e_call (ok_is_places Z) (hr.mono (by decide)) hg (takes_of rfl rfl rfl rfl) (a_cons (e_ixT (e_var 1) (e_int)) (a_cons (e_var 2) (a_cons (e_op2 op_addA v_add (e_var 3) (e_var 4)) (a_nil))))))))))
abbrev s_line_stand : Stmt := topS 8
theorem sc_line_stand : FnScope ["ring", "line", "cells", "upper", "lower", "found", "place", "at"] ["ring", "line"] (defScope s_line_stand) := ⟨rfl, rfl, rfl, by decide +kernel, rfl, by decide +kernel, by decide +kernel⟩
def D_line_stand : DFun := defD 8 2 (sSeq (sSet 2 (eOp2S dIxT (eV 0) (eC (.int 0))))
    (sSeq (sUnp (gT 2 (gsCons (gN 3) (gsCons (gN 4) (gsNil)))) (eV 1))
    (sSeq (sOwn 5 (eComp [6] (iRange1 (aCons (eV 2) (aNil))) (gN 6) (tAll) (eOp2 dMul (eC (.int 2)) (eB dInt (aCons (eOp2 dIn (eV 6) (eV 4)) (aNil))))))
    (sSeq (sFor [6, 7] (iVal (eV 3)) (gN 6)
    (sSeq (sSet 7 (eV 6))
    (sSeq (sWhile [] (tBl (eOp2 dNe (bor flat 5 (eOp2S dIxT (eV 5) (eV 7))) (eC (.int 2))))
    (sSet 7 (eOp2 dMod (eOp2 dSub (eV 7) (eC (.int 1))) (eV 2))))
    (sPut 5 (eV 7) (eC (.int 1))))))
    (sFrz 5 (sRet (eB dTupOf (aCons (eV 5) (aNil)))))))))
theorem ok_line_stand (Z : Facts K mg) : DFn P w K mg base 1 "line_stand" 2 D_line_stand false := by
  obtain ⟨f, fd, F, gx⟩ := Z.f_line_stand
  refine DFn.mk' F sc_line_stand gx (F.binds (ps := ["ring", "line"]) fun _ _ _ _ _ _ us hl => match us, hl with | [_, _], _ => rfl) rfl (fun X E hK hM hX hr hg => ?_) (fun z => Bool.noConfusion z)
  obtain ⟨cdv, A, outer, s, H, rfl⟩ := hX
  exact s_cons (s_set (i := 2) (e_ixT (e_var 0) (e_int)) sc_line_stand.nd)
    (s_cons (s_unp [3, 4] (e_var 1) (g_tup (n := 2) rfl (gs_cons (g_name 3 sc_line_stand.nd) (gs_cons (g_name 4 sc_line_stand.nd) (gs_nil)))))
    (s_cons (s_ownC (i := 5) [("place", 6)] rfl sc_line_stand.nd (i_range1 Z.b_range (a_cons (e_var 2) (a_nil))) (blkOk_by (by change blkC ["ring", "line", "cells", "upper", "lower", "found", "place", "at"] (defScope s_line_stand) _ _ = true; decide +kernel)) (fun _ _ _ _ _ => g_name 6 sc_line_stand.nd) (fun _ _ _ _ _ => ts_nil) (fun _ _ _ _ _ => e_op2 op_mulA v_mul (e_int) (e_callTy c_int v_int Z.b_int (a_cons (e_cmp (op_inA (hu65 hr)) v_in (e_var 6) (e_var 4) rfl) (a_nil)))))
    (s_cons (s_for (vs := [6]) [6, 7] (passes_of rfl) rfl (i_val (e_var 3)) (g_name 6 sc_line_stand.nd)
    (s_cons (s_set (i := 7) (e_var 6) sc_line_stand.nd)
    (s_cons (s_while [] (passes_of rfl) (t_cmp (op_neA (hu64 hr)) v_ne (e_bor 5 (e_ixT (e_var 5) (e_var 7))) (e_int) rfl)
    (s_one (s_set (i := 7) (e_op2 op_modN v_mod (e_op2 op_sub v_sub (e_var 7) (e_int)) (e_var 2)) sc_line_stand.nd)))
    (s_one (s_put 5 (e_int) (e_var 7))))))
    (s_one (s_frz 5 (s_ret (e_callTy c_tup v_tup Z.b_tuple (a_cons (e_var 5) (a_nil)))))))))
abbrev s_all_lines : Stmt := topS 9
theorem sc_all_lines : FnScope ["ring", "cells", "quick", "slow", "on", "lowers", "found", "upper", "lower"] ["ring"] (defScope s_all_lines) := ⟨rfl, rfl, rfl, by decide +kernel, rfl, by decide +kernel, by decide +kernel⟩
def D_all_lines : DFun := defD 9 1 (sSeq (sUnp (gT 4 (gsCons (gN 1) (gsCons (gN 2) (gsCons (gN 3) (gsCons (gN 4) (gsNil)))))) (eV 0))
    (sSeq (sSet 5 (eCall D_chosen (aCons (eV 1) (aCons (eOp2 dAdd (eV 2) (eV 3)) (aNil)))))
    (sSeq (sOwn 6 (eLst (aNil)))
    (sSeq (sFor [7, 8] (iVal (eCall D_chosen (aCons (eV 1) (aCons (eV 2) (aNil))))) (gN 7)
    (sExt 6 (eComp [8] (iVal (eV 5)) (gN 8) (tAll) (eTup (aCons (eV 7) (aCons (eV 8) (aNil)))))))
    (sRetOwn 6)))))
theorem ok_all_lines (Z : Facts K mg) : DFn P w K mg base 2 "all_lines" 1 D_all_lines true := by
  obtain ⟨f, fd, F, gx⟩ := Z.f_all_lines
  refine DFn.mk' F sc_all_lines gx (F.binds (ps := ["ring"]) fun _ _ _ _ _ _ us hl => match us, hl with | [_], _ => rfl) rfl (fun X E hK hM hX hr hg => ?_) (fun _ => nn_seq (nn_seq (nn_seq (nn_seq (by first | exact nn_ret | exact nn_retOwn | exact nn_frz nn_ret)))))
  obtain ⟨cdv, A, outer, s, H, rfl⟩ := hX
  exact s_cons (s_unp [1, 2, 3, 4] (e_var 0) (g_tup (n := 4) rfl (gs_cons (g_name 1 sc_all_lines.nd) (gs_cons (g_name 2 sc_all_lines.nd) (gs_cons (g_name 3 sc_all_lines.nd) (gs_cons (g_name 4 sc_all_lines.nd) (gs_nil)))))))
    (s_cons (s_set (i := 5) (e_call (ok_chosen Z) (hr.mono (by decide)) hg (takes_of rfl rfl rfl rfl) (a_cons (e_var 1) (a_cons (e_op2 op_addA v_add (e_var 2) (e_var 3)) (a_nil)))) sc_all_lines.nd)
    (s_cons (s_own (i := 6) (f_lst (a_nil)) sc_all_lines.nd)
    (s_cons (s_for (vs := [7]) [7, 8] (passes_of rfl) rfl (i_val (e_call (ok_chosen Z) (hr.mono (by decide)) hg (takes_of rfl rfl rfl rfl) (a_cons (e_var 1) (a_cons (e_var 2) (a_nil))))) (g_name 7 sc_all_lines.nd)
    (s_one (s_ext 6 (e_ofF (f_comp [("lower", 8)] rfl sc_all_lines.nd (i_val (e_var 5)) (blkOk_by (by change blkC ["ring", "cells", "quick", "slow", "on", "lowers", "found", "upper", "lower"] (defScope s_all_lines) _ _ = true; decide +kernel)) (fun _ _ _ _ _ => g_name 8 sc_all_lines.nd) (fun _ _ _ _ _ => ts_nil) (fun _ _ _ _ _ => e_tup (a_cons (e_var 7) (a_cons (e_var 8) (a_nil)))))))))
    (s_one (s_retOwn 6)))))
abbrev s_lines_for : Stmt := topS 10
theorem sc_lines_for : FnScope ["ring", "stand", "line"] ["ring", "stand"] (defScope s_lines_for) := ⟨rfl, rfl, rfl, by decide +kernel, rfl, by decide +kernel, by decide +kernel⟩
def D_lines_for : DFun := defD 3 2 (sRet (eComp [2] (iVal (eCall D_all_lines (aCons (eV 0) (aNil)))) (gN 2) (tBl (eOp2 dEq (eCall D_line_stand (aCons (eV 0) (aCons (eV 2) (aNil)))) (eV 1))) (eV 2)))
theorem ok_lines_for (Z : Facts K mg) : DFn P w K mg base 3 "lines_for" 2 D_lines_for true := by
  obtain ⟨f, fd, F, gx⟩ := Z.f_lines_for
  refine DFn.mk' F sc_lines_for gx (F.binds (ps := ["ring", "stand"]) fun _ _ _ _ _ _ us hl => match us, hl with | [_, _], _ => rfl) rfl (fun X E hK hM hX hr hg => ?_) (fun _ => by first | exact nn_ret | exact nn_retOwn | exact nn_frz nn_ret)
  obtain ⟨cdv, A, outer, s, H, rfl⟩ := hX
  exact s_one (s_retF (f_comp [("line", 2)] rfl sc_lines_for.nd (i_val (e_ofF (f_call (ok_all_lines Z) (hr.mono (by decide)) hg (takes_of rfl rfl rfl rfl) (a_cons (e_var 0) (a_nil))))) (blkOk_by (by change blkC ["ring", "stand", "line"] (defScope s_lines_for) _ _ = true; decide +kernel)) (fun _ _ _ _ _ => g_name 2 sc_lines_for.nd) (fun _ _ _ _ _ => ts_one (t_cmp (op_eqA (hu64 hr)) v_eq (e_call (ok_line_stand Z) (hr.mono (by decide)) hg takes0 (a_cons (e_var 0) (a_cons (e_var 2) (a_nil)))) (e_var 1) rfl)) (fun _ _ _ _ _ => e_var 2)))
abbrev s__law_pen : Stmt := topS 12
theorem sc__law_pen : FnScope ["_law_script"] ["_law_script"] (defScope s__law_pen) := ⟨rfl, rfl, rfl, by decide +kernel, rfl, by decide +kernel, by decide +kernel⟩
def D__law_pen : DFun := defD 1 1 (sRet (ePub (eLst (aCons (ePub (eB dLstOf (aCons (eSl (eV 0) (oNone) (oSome (eC (.int 63)))) (aNil)))) (aCons (eC (.int 0)) (aCons (eC (.int 0)) (aNil)))))))
theorem ok__law_pen (Z : Facts K mg) : DFn P w K mg base 1 "_law_pen" 1 D__law_pen false := by
  obtain ⟨f, fd, F, gx⟩ := Z.f__law_pen
  refine DFn.mk' F sc__law_pen gx (F.binds (ps := ["_law_script"]) fun _ _ _ _ _ _ us hl => match us, hl with | [_], _ => rfl) rfl (fun X E hK hM hX hr hg => ?_) (fun z => Bool.noConfusion z)
  obtain ⟨cdv, A, outer, s, H, rfl⟩ := hX
  exact s_one (s_ret (e_pub (f_lst (a_cons (e_pub (f_callTy c_lst vF_lst Z.b_list (a_cons (e_slice (e_var 0) (o_none) (o_some (e_int))) (a_nil)))) (a_cons (e_int) (a_cons (e_int) (a_nil)))))))
abbrev s__law_draw : Stmt := topS 13
theorem sc__law_draw : FnScope ["_law_pen_here", "_law_many", "_law_digit", "_law_at", "_law_cell", "_law_number"] ["_law_pen_here", "_law_many"] (defScope s__law_draw) := ⟨rfl, rfl, rfl, by decide +kernel, rfl, by decide +kernel, by decide +kernel⟩
def D__law_draw : DFun := defD 6 2 (sSeq (sIf (tBl (eOp2 dGt (eOp2S dIxT (eV 0) (eC (.int 2))) (eC (.int 0))))
    (sSeq (sSet 2 (eOp2 dMod (eOp2S dIxT (eV 0) (eC (.int 2))) (eV 1)))
    (sSeq (sPutT (eV 0) (eC (.int 2)) (eOp2 dFdiv (eOp2S dIxT (eV 0) (eC (.int 2))) (eV 1)))
    (sRet (eV 2))))
    (sSkip))
    (sSeq (sSet 3 (eOp2S dIxT (eV 0) (eC (.int 1))))
    (sSeq (sPutT (eV 0) (eC (.int 1)) (eOp2 dAdd (eV 3) (eC (.int 1))))
    (sSeq (sSet 4 (eOp2 dAdd (eOp2 dAdd (eOp2 dMul (eOp2 dMul (eC (.int 60013)) (eV 3)) (eV 3)) (eOp2 dMul (eC (.int 419)) (eV 3))) (eC (.int 31))))
    (sSeq (sIf (tBl (eOp2 dGt (eLenT (aCons (eOp2S dIxT (eV 0) (eC (.int 0))) (aNil))) (eC (.int 0))))
    (sSeq (sSet 4 (eOp2S dIxT (eOp2S dIxT (eV 0) (eC (.int 0))) (eOp2 dMod (eV 3) (eLenT (aCons (eOp2S dIxT (eV 0) (eC (.int 0))) (aNil))))))
    (sIf (tAndD (tBl (eOp2 dLt (eV 3) (eLenT (aCons (eOp2S dIxT (eV 0) (eC (.int 0))) (aNil))))) (tBl (eOp2 dGe (eB dAbs (aCons (eV 4) (aNil))) (eOp2 dPow (eC (.int 10)) (eC (.int 18))))))
    (sSeq (sPutT (eV 0) (eC (.int 2)) (eOp2 dFdiv (eB dAbs (aCons (eV 4) (aNil))) (eV 1)))
    (sRet (eOp2 dMod (eB dAbs (aCons (eV 4) (aNil))) (eV 1))))
    (sSkip)))
    (sSkip))
    (sSeq (sSet 5 (eOp2 dMod (eOp2 dAdd (eOp2 dPow (eOp2 dAdd (eOp2 dAdd (eOp2 dMod (eV 4) (eC (.int 2147483629))) (eOp2 dMul (eC (.int 50021)) (eV 3))) (eC (.int 13))) (eC (.int 3))) (eOp2 dMul (eC (.int 7)) (eV 3))) (eC (.int 2147483587))))
    (sSeq (sSet 5 (eOp2 dMod (eOp2 dPow (eOp2 dAdd (eOp2 dMul (eV 5) (eOp2 dAdd (eOp2 dAdd (eOp2 dMod (eV 5) (eC (.int 65521))) (eOp2 dMul (eC (.int 2)) (eV 3))) (eC (.int 3)))) (eC (.int 104729))) (eC (.int 2))) (eC (.int 2147483563))))
    (sRet (eOp2 dMod (eOp2 dFdiv (eV 5) (eC (.int 32))) (eV 1))))))))))
theorem ok__law_draw (Z : Facts K mg) : DFn P w K mg base 1 "_law_draw" 2 D__law_draw false := by
  obtain ⟨f, fd, F, gx⟩ := Z.f__law_draw
  refine DFn.mk' F sc__law_draw gx (F.binds (ps := ["_law_pen_here", "_law_many"]) fun _ _ _ _ _ _ us hl => match us, hl with | [_, _], _ => rfl) rfl (fun X E hK hM hX hr hg => ?_) (fun z => Bool.noConfusion z)
  obtain ⟨cdv, A, outer, s, H, rfl⟩ := hX
  exact s_cons (s_if (t_cmp op_gt v_gt (e_ixT (e_var 0) (e_int)) (e_int) rfl)
    (s_cons (s_set (i := 2) (e_op2 op_modN v_mod (e_ixT (e_var 0) (e_int)) (e_var 1)) sc__law_draw.nd)
    (s_cons (s_putT (e_op2 op_fdivX v_fdiv (e_ixT (e_var 0) (e_int)) (e_var 1)) (e_var 0) (e_int))
    (s_one (s_ret (e_var 2)))))
    (s_nil))
    (s_cons (s_set (i := 3) (e_ixT (e_var 0) (e_int)) sc__law_draw.nd)
    (s_cons (s_putT (e_op2 op_addA v_add (e_var 3) (e_int)) (e_var 0) (e_int))
    (s_cons (s_set (i := 4) (e_op2 op_addA v_add (e_op2 op_addA v_add (e_op2 op_mulA v_mul (e_op2 op_mulA v_mul (e_int) (e_var 3)) (e_var 3)) (e_op2 op_mulA v_mul (e_int) (e_var 3))) (e_int)) sc__law_draw.nd)
    (s_cons (s_if (t_cmp op_gt v_gt (e_lenT Z.b_len (a_cons (e_ixT (e_var 0) (e_int)) (a_nil))) (e_int) rfl)
    (s_cons (s_set (i := 4) (e_ixT (e_ixT (e_var 0) (e_int)) (e_op2 op_modN v_mod (e_var 3) (e_lenT Z.b_len (a_cons (e_ixT (e_var 0) (e_int)) (a_nil))))) sc__law_draw.nd)
    (s_one (s_if (PW.pt (w_and (t_cmp op_lt v_lt (e_var 3) (e_lenT Z.b_len (a_cons (e_ixT (e_var 0) (e_int)) (a_nil))) rfl) (w_and1 (t_cmp op_ge v_ge (e_callB c_abs v_abs Z.b_abs (a_cons (e_var 4) (a_nil))) (e_op2 op_powX v_pow (e_int) (e_int)) rfl))))
    (s_cons (s_putT (e_op2 op_fdivX v_fdiv (e_callB c_abs v_abs Z.b_abs (a_cons (e_var 4) (a_nil))) (e_var 1)) (e_var 0) (e_int))
    (s_one (s_ret (e_op2 op_modN v_mod (e_callB c_abs v_abs Z.b_abs (a_cons (e_var 4) (a_nil))) (e_var 1)))))
    (s_nil))))
    (s_nil))
    (s_cons (s_set (i := 5) (e_op2 op_modN v_mod (e_op2 op_addA v_add (e_op2 op_powX v_pow (e_op2 op_addA v_add (e_op2 op_addA v_add (e_op2 op_modN v_mod (e_var 4) (e_int)) (e_op2 op_mulA v_mul (e_int) (e_var 3))) (e_int)) (e_int)) (e_op2 op_mulA v_mul (e_int) (e_var 3))) (e_int)) sc__law_draw.nd)
    (s_cons (s_set (i := 5) (e_op2 op_modN v_mod (e_op2 op_powX v_pow (e_op2 op_addA v_add (e_op2 op_mulA v_mul (e_var 5) (e_op2 op_addA v_add (e_op2 op_addA v_add (e_op2 op_modN v_mod (e_var 5) (e_int)) (e_op2 op_mulA v_mul (e_int) (e_var 3))) (e_int))) (e_int)) (e_int)) (e_int)) sc__law_draw.nd)
    (s_one (s_ret (e_op2 op_modN v_mod (e_op2 op_fdivX v_fdiv (e_var 5) (e_int)) (e_var 1))))))))))
abbrev s__law_lowest : Stmt := topS 14
theorem sc__law_lowest : FnScope ["_law_top", "_law_bottom", "_law_one", "_law_other"] ["_law_top", "_law_bottom"] (defScope s__law_lowest) := ⟨rfl, rfl, rfl, by decide +kernel, rfl, by decide +kernel, by decide +kernel⟩
def D__law_lowest : DFun := defD 4 2 (sSeq (sSet 2 (eB dAbs (aCons (eV 0) (aNil))))
    (sSeq (sSet 3 (eV 1))
    (sSeq (sWhile [] (tBl (eOp2 dGt (eV 3) (eC (.int 0))))
    (sPar 2 3 (aCons (eV 3) (aCons (eOp2 dMod (eV 2) (eV 3)) (aNil)))))
    (sRet (eTup (aCons (eOp2 dFdiv (eV 0) (eV 2)) (aCons (eOp2 dFdiv (eV 1) (eV 2)) (aNil))))))))
theorem ok__law_lowest (Z : Facts K mg) : DFn P w K mg base 1 "_law_lowest" 2 D__law_lowest false := by
  obtain ⟨f, fd, F, gx⟩ := Z.f__law_lowest
  refine DFn.mk' F sc__law_lowest gx (F.binds (ps := ["_law_top", "_law_bottom"]) fun _ _ _ _ _ _ us hl => match us, hl with | [_, _], _ => rfl) rfl (fun X E hK hM hX hr hg => ?_) (fun z => Bool.noConfusion z)
  obtain ⟨cdv, A, outer, s, H, rfl⟩ := hX
  exact s_cons (s_set (i := 2) (e_callB c_abs v_abs Z.b_abs (a_cons (e_var 0) (a_nil))) sc__law_lowest.nd)
    (s_cons (s_set (i := 3) (e_var 1) sc__law_lowest.nd)
    (s_cons (s_while [] (passes_of rfl) (t_cmp op_gt v_gt (e_var 3) (e_int) rfl)
    (s_one (s_par (i := 2) (j := 3) rfl sc__law_lowest.nd (a_cons (e_var 3) (a_cons (e_op2 op_modN v_mod (e_var 2) (e_var 3)) (a_nil))))))
    (s_one (s_ret (e_tup (a_cons (e_op2 op_fdivX v_fdiv (e_var 0) (e_var 2)) (a_cons (e_op2 op_fdivX v_fdiv (e_var 1) (e_var 2)) (a_nil))))))))
abbrev s__law_ring : Stmt := topS 15
theorem sc__law_ring : FnScope ["_law_pen_here", "_law_least", "_law_most", "_law_way", "_law_edge", "_law_many", "_law_cells", "_law_quick", "_law_slow", "_law_on_bottom", "_law_on"] ["_law_pen_here", "_law_least", "_law_most"] (defScope s__law_ring) := ⟨rfl, rfl, rfl, by decide +kernel, rfl, by decide +kernel, by decide +kernel⟩
def D__law_ring : DFun := defD 11 3 (sSeq (sSet 3 (eCall D__law_draw (aCons (eV 0) (aCons (eC (.int 4)) (aNil)))))
    (sSeq (sSet 4 (eCall D__law_draw (aCons (eV 0) (aCons (eC (.int 5)) (aNil)))))
    (sSeq (sSet 5 (eOp2 dAdd (eV 1) (eCall D__law_draw (aCons (eV 0) (aCons (eOp2 dSub (eOp2 dAdd (eV 2) (eC (.int 1))) (eV 1)) (aNil))))))
    (sSeq (sSet 6 (eOp2S dIxT (eLst (aCons (eV 1) (aCons (eV 2) (aCons (eV 5) (aCons (eV 5) (aNil)))))) (eV 3)))
    (sSeq (sSet 7 (eCall D__law_draw (aCons (eV 0) (aCons (eOp2 dAdd (eV 6) (eC (.int 1))) (aNil)))))
    (sSeq (sSet 8 (eCall D__law_draw (aCons (eV 0) (aCons (eOp2 dSub (eOp2 dAdd (eV 6) (eC (.int 1))) (eV 7)) (aNil)))))
    (sSeq (sSet 9 (eOp2 dAdd (eC (.int 1)) (eCall D__law_draw (aCons (eV 0) (aCons (eC (.int 60)) (aNil))))))
    (sSeq (sSet 10 (eCall D__law_lowest (aCons (eOp2 dAdd (eC (.int 1)) (eCall D__law_draw (aCons (eV 0) (aCons (eV 9) (aNil))))) (aCons (eV 9) (aNil)))))
    (sSeq (sUnp (gT 2 (gsCons (gN 7) (gsCons (gN 8) (gsNil)))) (eOp2S dIxT (eLst (aCons (eTup (aCons (eV 7) (aCons (eV 8) (aNil)))) (aCons (eTup (aCons (eV 7) (aCons (eOp2 dSub (eV 6) (eV 7)) (aNil)))) (aCons (eTup (aCons (eC (.int 0)) (aCons (eV 8) (aNil)))) (aCons (eTup (aCons (eV 7) (aCons (eC (.int 0)) (aNil)))) (aCons (eTup (aCons (eV 7) (aCons (eV 8) (aNil)))) (aNil))))))) (eV 4)))
    (sRet (eTup (aCons (eV 6) (aCons (eV 7) (aCons (eV 8) (aCons (eV 10) (aNil))))))))))))))))
theorem ok__law_ring (Z : Facts K mg) : DFn P w K mg base 2 "_law_ring" 3 D__law_ring false := by
  obtain ⟨f, fd, F, gx⟩ := Z.f__law_ring
  refine DFn.mk' F sc__law_ring gx (F.binds (ps := ["_law_pen_here", "_law_least", "_law_most"]) fun _ _ _ _ _ _ us hl => match us, hl with | [_, _, _], _ => rfl) rfl (fun X E hK hM hX hr hg => ?_) (fun z => Bool.noConfusion z)
  obtain ⟨cdv, A, outer, s, H, rfl⟩ := hX
  exact s_cons (s_set (i := 3) (e_call (ok__law_draw Z) (hr.mono (by decide)) hg (takes_of rfl rfl rfl rfl) (a_cons (e_var 0) (a_cons (e_int) (a_nil)))) sc__law_ring.nd)
    (s_cons (s_set (i := 4) (e_call (ok__law_draw Z) (hr.mono (by decide)) hg (takes_of rfl rfl rfl rfl) (a_cons (e_var 0) (a_cons (e_int) (a_nil)))) sc__law_ring.nd)
    (s_cons (s_set (i := 5) (e_op2 op_addA v_add (e_var 1) (e_call (ok__law_draw Z) (hr.mono (by decide)) hg (takes_of rfl rfl rfl rfl) (a_cons (e_var 0) (a_cons (e_op2 op_sub v_sub (e_op2 op_addA v_add (e_var 2) (e_int)) (e_var 1)) (a_nil))))) sc__law_ring.nd)
    (s_cons (s_set (i := 6) (e_ixT (e_ofF (f_lst (a_cons (e_var 1) (a_cons (e_var 2) (a_cons (e_var 5) (a_cons (e_var 5) (a_nil))))))) (e_var 3)) sc__law_ring.nd)
    (s_cons (s_set (i := 7) (e_call (ok__law_draw Z) (hr.mono (by decide)) hg (takes_of rfl rfl rfl rfl) (a_cons (e_var 0) (a_cons (e_op2 op_addA v_add (e_var 6) (e_int)) (a_nil)))) sc__law_ring.nd)
    (s_cons (s_set (i := 8) (e_call (ok__law_draw Z) (hr.mono (by decide)) hg (takes_of rfl rfl rfl rfl) (a_cons (e_var 0) (a_cons (e_op2 op_sub v_sub (e_op2 op_addA v_add (e_var 6) (e_int)) (e_var 7)) (a_nil)))) sc__law_ring.nd)
    (s_cons (s_set (i := 9) (e_op2 op_addA v_add (e_int) (e_call (ok__law_draw Z) (hr.mono (by decide)) hg (takes_of rfl rfl rfl rfl) (a_cons (e_var 0) (a_cons (e_int) (a_nil))))) sc__law_ring.nd)
    (s_cons (s_set (i := 10) (e_call (ok__law_lowest Z) (hr.mono (by decide)) hg (takes_of rfl rfl rfl rfl) (a_cons (e_op2 op_addA v_add (e_int) (e_call (ok__law_draw Z) (hr.mono (by decide)) hg (takes_of rfl rfl rfl rfl) (a_cons (e_var 0) (a_cons (e_var 9) (a_nil))))) (a_cons (e_var 9) (a_nil)))) sc__law_ring.nd)
    (s_cons (s_unp [7, 8] (e_ixT (e_ofF (f_lst (a_cons (e_tup (a_cons (e_var 7) (a_cons (e_var 8) (a_nil)))) (a_cons (e_tup (a_cons (e_var 7) (a_cons (e_op2 op_sub v_sub (e_var 6) (e_var 7)) (a_nil)))) (a_cons (e_tup (a_cons (e_int) (a_cons (e_var 8) (a_nil)))) (a_cons (e_tup (a_cons (e_var 7) (a_cons (e_int) (a_nil)))) (a_cons (e_tup (a_cons (e_var 7) (a_cons (e_var 8) (a_nil)))) (a_nil)))))))) (e_var 4)) (g_tup (n := 2) rfl (gs_cons (g_name 7 sc__law_ring.nd) (gs_cons (g_name 8 sc__law_ring.nd) (gs_nil)))))
    (s_one (s_ret (e_tup (a_cons (e_var 6) (a_cons (e_var 7) (a_cons (e_var 8) (a_cons (e_var 10) (a_nil))))))))))))))))
abbrev s__law_all : Stmt := topS 17
theorem sc__law_all : FnScope ["_law_cells", "_law_many", "_law_found", "_law_number", "_law_row", "_law_place"] ["_law_cells", "_law_many"] (defScope s__law_all) := ⟨rfl, rfl, rfl, by decide +kernel, rfl, by decide +kernel, by decide +kernel⟩
def D__law_all : DFun := defD 6 2 (sSeq (sOwn 2 (eLst (aNil)))
    (sSeq (sFor [3, 4, 5] (iRange1 (aCons (eOp2 dShl (eC (.int 1)) (eV 0)) (aNil))) (gN 3)
    (sSeq (sSet 4 (eB dTupOf (aCons (eComp [5] (iRange1 (aCons (eV 0) (aNil))) (gN 5) (tBl (eOp2 dEq (eOp2 dAnd (eOp2 dShr (eV 3) (eV 5)) (eC (.int 1))) (eC (.int 1)))) (eV 5)) (aNil))))
    (sIf (tBl (eOp2 dEq (eLenT (aCons (eV 4) (aNil))) (eV 1)))
    (sApp 2 (eV 4))
    (sSkip))))
    (sFrz 2 (sRet (eB dSorted (aCons (eV 2) (aNil)))))))
theorem ok__law_all (Z : Facts K mg) : DFn P w K mg base 1 "_law_all" 2 D__law_all true := by
  obtain ⟨f, fd, F, gx⟩ := Z.f__law_all
  refine DFn.mk' F sc__law_all gx (F.binds (ps := ["_law_cells", "_law_many"]) fun _ _ _ _ _ _ us hl => match us, hl with | [_, _], _ => rfl) rfl (fun X E hK hM hX hr hg => ?_) (fun _ => nn_seq (nn_seq (by first | exact nn_ret | exact nn_retOwn | exact nn_frz nn_ret)))
  obtain ⟨cdv, A, outer, s, H, rfl⟩ := hX
  exact s_cons (s_own (i := 2) (f_lst (a_nil)) sc__law_all.nd)
    (s_cons (s_for (vs := [3]) [3, 4, 5] (passes_of rfl) rfl (i_range1 Z.b_range (a_cons (e_op2 op_shlW v_shl (e_int) (e_var 0)) (a_nil))) (g_name 3 sc__law_all.nd)
    (s_cons (s_set (i := 4) (e_callTy c_tup v_tup Z.b_tuple (a_cons (e_ofF (f_comp [("_law_place", 5)] rfl sc__law_all.nd (i_range1 Z.b_range (a_cons (e_var 0) (a_nil))) (blkOk_by (by change blkC ["_law_cells", "_law_many", "_law_found", "_law_number", "_law_row", "_law_place"] (defScope s__law_all) _ _ = true; decide +kernel)) (fun _ _ _ _ _ => g_name 5 sc__law_all.nd) (fun _ _ _ _ _ => ts_one (t_cmp (op_eqA (hu64 hr)) v_eq (e_op2 op_and v_and (e_op2 op_shr v_shr (e_var 3) (e_var 5)) (e_int)) (e_int) rfl)) (fun _ _ _ _ _ => e_var 5))) (a_nil))) sc__law_all.nd)
    (s_one (s_if (t_cmp (op_eqA (hu64 hr)) v_eq (e_lenT Z.b_len (a_cons (e_var 4) (a_nil))) (e_var 1) rfl)
    (s_one (s_app 2 (e_var 4)))
    (s_nil)))))
    (s_one (s_frz 2 (s_retF (f_callB (cr_sortedD (hu64 hr)) vF_sorted Z.b_sorted (a_cons (e_var 2) (a_nil)))))))
abbrev s__law_lead : Stmt := topS 18
theorem sc__law_lead : FnScope ["_law_cells", "_law_line", "_law_found", "_law_place", "_law_far"] ["_law_cells", "_law_line"] (defScope s__law_lead) := ⟨rfl, rfl, rfl, by decide +kernel, rfl, by decide +kernel, by decide +kernel⟩
def D__law_lead : DFun := defD 5 2 (sSeq (sOwn 2 (eOp2 dMulL (eLst (aCons (eC (.int 0)) (aNil))) (eV 0)))
    (sSeq (sFor [3] (iVal (eOp2S dIxT (eV 1) (eC (.int 1)))) (gN 3)
    (sPut 2 (eV 3) (eC (.int 2))))
    (sSeq (sFor [3, 4] (iVal (eRevS (eOp2S dIxT (eV 1) (eC (.int 0))))) (gN 3)
    (sSeq (sSet 4 (eC (.int 0)))
    (sSeq (sWhile [] (tBl (eOp2 dNe (bor flat 2 (eOp2S dIxT (eV 2) (eOp2 dMod (eOp2 dSub (eV 3) (eV 4)) (eV 0)))) (eC (.int 2))))
    (sSet 4 (eOp2 dAdd (eV 4) (eC (.int 1)))))
    (sPut 2 (eOp2 dMod (eOp2 dSub (eV 3) (eV 4)) (eV 0)) (eC (.int 1))))))
    (sRet (bor flat 2 (eB dTupOf (aCons (eV 2) (aNil))))))))
theorem ok__law_lead (Z : Facts K mg) : DFn P w K mg base 1 "_law_lead" 2 D__law_lead false := by
  obtain ⟨f, fd, F, gx⟩ := Z.f__law_lead
  refine DFn.mk' F sc__law_lead gx (F.binds (ps := ["_law_cells", "_law_line"]) fun _ _ _ _ _ _ us hl => match us, hl with | [_, _], _ => rfl) rfl (fun X E hK hM hX hr hg => ?_) (fun z => Bool.noConfusion z)
  obtain ⟨cdv, A, outer, s, H, rfl⟩ := hX
  exact s_cons (s_own (i := 2) (f_op2 op_rep vF_mul (e_ofF (f_lst (a_cons (e_int) (a_nil)))) (e_var 0)) sc__law_lead.nd)
    (s_cons (s_for (vs := [3]) [3] (passes_of rfl) rfl (i_val (e_ixT (e_var 1) (e_int))) (g_name 3 sc__law_lead.nd)
    (s_one (s_put 2 (e_int) (e_var 3))))
    (s_cons (s_for (vs := [3]) [3, 4] (passes_of rfl) rfl (i_val (e_revS (e_ixT (e_var 1) (e_int)))) (g_name 3 sc__law_lead.nd)
    (s_cons (s_set (i := 4) (e_int) sc__law_lead.nd)
    (s_cons (s_while [] (passes_of rfl) (t_cmp (op_neA (hu64 hr)) v_ne (e_bor 2 (e_ixT (e_var 2) (e_op2 op_modN v_mod (e_op2 op_sub v_sub (e_var 3) (e_var 4)) (e_var 0)))) (e_int) rfl)
    (s_one (s_set (i := 4) (e_op2 op_addA v_add (e_var 4) (e_int)) sc__law_lead.nd)))
    (s_one (s_put 2 (e_int) (e_op2 op_modN v_mod (e_op2 op_sub v_sub (e_var 3) (e_var 4)) (e_var 0)))))))
    (s_one (s_ret (e_bor 2 (e_callTy c_tup v_tup Z.b_tuple (a_cons (e_var 2) (a_nil))))))))
abbrev s__law_lines : Stmt := topS 19
theorem sc__law_lines : FnScope ["_law_ring_here", "_law_found", "_law_upper", "_law_lower"] ["_law_ring_here"] (defScope s__law_lines) := ⟨rfl, rfl, rfl, by decide +kernel, rfl, by decide +kernel, by decide +kernel⟩
def D__law_lines : DFun := defD 4 1 (sSeq (sSet 1 (eLst (aNil)))
    (sSeq (sFor [2, 3] (iVal (eCall D__law_all (aCons (eOp2S dIxT (eV 0) (eC (.int 0))) (aCons (eOp2S dIxT (eV 0) (eC (.int 1))) (aNil))))) (gN 2)
    (sSet 1 (eOp2 dAddL (eV 1) (eComp [3] (iVal (eCall D__law_all (aCons (eOp2S dIxT (eV 0) (eC (.int 0))) (aCons (eOp2 dAdd (eOp2S dIxT (eV 0) (eC (.int 1))) (eOp2S dIxT (eV 0) (eC (.int 2)))) (aNil))))) (gN 3) (tAll) (eTup (aCons (eV 2) (aCons (eV 3) (aNil))))))))
    (sRet (eV 1))))
theorem ok__law_lines (Z : Facts K mg) : DFn P w K mg base 2 "_law_lines" 1 D__law_lines false := by
  obtain ⟨f, fd, F, gx⟩ := Z.f__law_lines
  refine DFn.mk' F sc__law_lines gx (F.binds (ps := ["_law_ring_here"]) fun _ _ _ _ _ _ us hl => match us, hl with | [_], _ => rfl) rfl (fun X E hK hM hX hr hg => ?_) (fun z => Bool.noConfusion z)
  obtain ⟨cdv, A, outer, s, H, rfl⟩ := hX
  exact s_cons (s_set (i := 1) (e_ofF (f_lst (a_nil))) sc__law_lines.nd)
    (s_cons (s_for (vs := [2]) [2, 3] (passes_of rfl) rfl (i_val (e_ofF (f_call (ok__law_all Z) (hr.mono (by decide)) hg (takes_of rfl rfl rfl rfl) (a_cons (e_ixT (e_var 0) (e_int)) (a_cons (e_ixT (e_var 0) (e_int)) (a_nil)))))) (g_name 2 sc__law_lines.nd)
    (s_one (s_set (i := 1) (e_ofF (f_op2 op_cat vF_add (e_var 1) (e_ofF (f_comp [("_law_lower", 3)] rfl sc__law_lines.nd (i_val (e_ofF (f_call (ok__law_all Z) (hr.mono (by decide)) hg (takes_of rfl rfl rfl rfl) (a_cons (e_ixT (e_var 0) (e_int)) (a_cons (e_op2 op_addA v_add (e_ixT (e_var 0) (e_int)) (e_ixT (e_var 0) (e_int))) (a_nil)))))) (blkOk_by (by change blkC ["_law_ring_here", "_law_found", "_law_upper", "_law_lower"] (defScope s__law_lines) _ _ = true; decide +kernel)) (fun _ _ _ _ _ => g_name 3 sc__law_lines.nd) (fun _ _ _ _ _ => ts_nil) (fun _ _ _ _ _ => e_tup (a_cons (e_var 2) (a_cons (e_var 3) (a_nil)))))))) sc__law_lines.nd)))
    (s_one (s_ret (e_var 1))))
abbrev s__law_right : Stmt := topS 20
theorem sc__law_right : FnScope ["_law_ring_here", "_law_lines_here", "_law_stand", "_law_due", "_law_again", "_law_answer", "_law_line"] ["_law_ring_here", "_law_lines_here", "_law_stand"] (defScope s__law_right) := ⟨rfl, rfl, rfl, by decide +kernel, rfl, by decide +kernel, by decide +kernel⟩
def D__law_right : DFun := defD 7 3 (sSeq (sSet 3 (eComp [6] (iVal (eV 1)) (gN 6) (tBl (eOp2 dEq (eCall D__law_lead (aCons (eOp2S dIxT (eV 0) (eC (.int 0))) (aCons (eV 6) (aNil)))) (eV 2))) (eV 6)))
    (sSeq (sFor [4, 5, 6] (iRange1 (aCons (eC (.int 2)) (aNil))) (gN 4)
    (sSeq (sOwn 5 (eCall D_lines_for (aCons (eV 0) (aCons (eV 2) (aNil)))))
    (sSeq (sIf (tOrD (tNotD (tTru (bor flat 5 (eB dIsi (aCons (eV 5) (aCons (eC (.ty "list")) (aNil))))))) (tBl (eOp2 dNe (bor flat 5 (eB (dRepr 1920) (aCons (eV 5) (aNil)))) (eB (dRepr 1920) (aCons (eV 3) (aNil))))))
    (sRet (eC (.bl false)))
    (sSkip))
    (sSeq (sIf (tNotD (tTru (bor flat 5 (eB dAll (aCons (eComp [6] (iVal (eV 5)) (gN 6) (tAll) (eAnd (eOp2 dIs (eCall D_is_line (aCons (eV 0) (aCons (eV 6) (aNil)))) (eC (.bl true))) (eOp2 dEq (eCall D_line_stand (aCons (eV 0) (aCons (eV 6) (aNil)))) (eV 2)))) (aNil))))))
    (sRet (eC (.bl false)))
    (sSkip))
    (sSeq (sRev 5)
    (sApp 5 (eC .non)))))))
    (sRet (eOp2 dNe (eV 3) (eLst (aNil))))))
theorem ok__law_right (Z : Facts K mg) : DFn P w K mg base 4 "_law_right" 3 D__law_right false := by
  obtain ⟨f, fd, F, gx⟩ := Z.f__law_right
  refine DFn.mk' F sc__law_right gx (F.binds (ps := ["_law_ring_here", "_law_lines_here", "_law_stand"]) fun _ _ _ _ _ _ us hl => match us, hl with | [_, _, _], _ => rfl) rfl (fun X E hK hM hX hr hg => ?_) (fun z => Bool.noConfusion z)
  obtain ⟨cdv, A, outer, s, H, rfl⟩ := hX
  exact s_cons (s_setC (i := 3) [("_law_line", 6)] rfl sc__law_right.nd (i_val (e_var 1)) (blkOk_by (by change blkC ["_law_ring_here", "_law_lines_here", "_law_stand", "_law_due", "_law_again", "_law_answer", "_law_line"] (defScope s__law_right) _ _ = true; decide +kernel)) (fun _ _ _ _ _ => g_name 6 sc__law_right.nd) (fun _ _ _ _ _ => ts_one (t_cmp (op_eqA (hu64 hr)) v_eq (e_call (ok__law_lead Z) (hr.mono (by decide)) hg takes0 (a_cons (e_ixT (e_var 0) (e_int)) (a_cons (e_var 6) (a_nil)))) (e_var 2) rfl)) (fun _ _ _ _ _ => e_var 6))
    (s_cons (s_for (vs := [4]) [4, 5, 6] (passes_of rfl) rfl (i_range1 Z.b_range (a_cons (e_int) (a_nil))) (g_name 4 sc__law_right.nd)
    (s_cons (s_own (i := 5) (f_call (ok_lines_for Z) (hr.mono (by decide)) hg (takes_of rfl rfl rfl rfl) (a_cons (e_var 0) (a_cons (e_var 2) (a_nil)))) sc__law_right.nd)
    (s_cons (s_if (PW.pt (w_or (t_not (t_truth (e_bor 5 (e_callB call_isi v_isi Z.b_isinstance (a_cons (e_var 5) (a_cons (e_ty Z.b_list) (a_nil))))))) (w_or1 (t_cmp (op_neA (hu64 hr)) v_ne (e_bor 5 (e_callB (c_reprL (.inl (Nat.le_refl _)) hg (hu94 hr)) v_repr Z.b_repr (a_cons (e_var 5) (a_nil)))) (e_callB (c_reprL (.inl (Nat.le_refl _)) hg (hu94 hr)) v_repr Z.b_repr (a_cons (e_var 3) (a_nil))) rfl))))
    (s_one (s_ret (e_bl)))
    (s_nil))
    (s_cons (s_if (t_not (t_truth (e_bor 5 (e_callB (cr_all rfl) v_all Z.b_all (a_cons (e_ofF (f_comp [("_law_line", 6)] rfl sc__law_right.nd (i_val (e_var 5)) (blkOk_by (by change blkC ["_law_ring_here", "_law_lines_here", "_law_stand", "_law_due", "_law_again", "_law_answer", "_law_line"] (defScope s__law_right) _ _ = true; decide +kernel)) (fun _ _ _ _ _ => g_name 6 sc__law_right.nd) (fun _ _ _ _ _ => ts_nil) (fun _ _ _ _ _ => e_and (e_cmp op_isA v_is (e_call (ok_is_line Z) (hr.mono (by decide)) hg takes0 (a_cons (e_var 0) (a_cons (e_var 6) (a_nil)))) (e_bl) rfl) (e_one (e_cmp (op_eqA (hu64 hr)) v_eq (e_call (ok_line_stand Z) (hr.mono (by decide)) hg takes0 (a_cons (e_var 0) (a_cons (e_var 6) (a_nil)))) (e_var 2) rfl))))) (a_nil))))))
    (s_one (s_ret (e_bl)))
    (s_nil))
    (s_cons (s_rev 5)
    (s_one (s_app 5 (e_non))))))))
    (s_one (s_ret (e_cmp (op_neA (hu64 hr)) v_ne (e_var 3) (e_ofF (f_lst (a_nil))) rfl))))
abbrev s_law : Stmt := topS 21
theorem sc_law : FnScope ["_law_script", "_law_pen_here", "_law_great", "_law_most", "_law_spot", "_law_ring_here", "_law_lines_here", "_law_stand", "_law_every", "_law_many", "_law_one"] ["_law_script"] (defScope s_law) := ⟨rfl, rfl, rfl, by decide +kernel, rfl, by decide +kernel, by decide +kernel⟩
def D_law : DFun := defD 11 1 (sSeq (sSet 1 (eCall D__law_pen (aCons (eV 0) (aNil))))
    (sSeq (sSet 2 (eOp2S dIxT (eLst (aCons (eC (.int 4)) (aCons (eC (.int 7)) (aCons (eC (.int 5)) (aCons (eC (.int 6)) (aNil)))))) (eCall D__law_draw (aCons (eV 1) (aCons (eC (.int 4)) (aNil))))))
    (sSeq (sFor [3, 4, 5, 6, 7, 8, 9, 10] (iVal (eTup (aCons (eV 2) (aCons (eC (.int 4)) (aNil))))) (gN 3)
    (sSeq (sSet 4 (eCall D__law_draw (aCons (eV 1) (aCons (eC (.int 2000)) (aNil)))))
    (sSeq (sSet 5 (eCall D__law_ring (aCons (eV 1) (aCons (eC (.int 3)) (aCons (eV 3) (aNil))))))
    (sSeq (sSet 6 (eCall D__law_lines (aCons (eV 5) (aNil))))
    (sSeq (sSet 7 (eCall D__law_lead (aCons (eOp2S dIxT (eV 5) (eC (.int 0))) (aCons (eOp2S dIxT (eV 6) (eOp2 dMod (eV 4) (eLenT (aCons (eV 6) (aNil))))) (aNil)))))
    (sSeq (sIf (tNotD (tTru (eCall D__law_right (aCons (eV 5) (aCons (eV 6) (aCons (eV 7) (aNil)))))))
    (sRet (eC (.bl false)))
    (sSkip))
    (sIf (tBl (eOp2 dEq (eV 3) (eC (.int 4))))
    (sSeq (sSet 8 (eCall D_kind_stands (aCons (eV 5) (aNil))))
    (sSeq (sSet 9 (eB dSum (aCons (eComp [10] (iVal (eV 8)) (gN 10) (tAll) (eLenT (aCons (eCall D_lines_for (aCons (eV 5) (aCons (eV 10) (aNil)))) (aNil)))) (aNil))))
    (sIf (tOrD (tBl (eOp2 dNe (eV 9) (eLenT (aCons (eV 6) (aNil))))) (tNotD (tTru (eB dAll (aCons (eComp [10] (iVal (eV 8)) (gN 10) (tAll) (eOp2 dNe (eCall D_lines_for (aCons (eV 5) (aCons (eV 10) (aNil)))) (eLst (aNil)))) (aNil))))))
    (sRet (eC (.bl false)))
    (sSkip))))
    (sSkip))))))))
    (sRet (eOp2 dEq (eCall D_lines_for (aCons (eTup (aCons (eC (.int 3)) (aCons (eC (.int 1)) (aCons (eC (.int 1)) (aCons (eTup (aCons (eC (.int 1)) (aCons (eC (.int 1)) (aNil)))) (aNil)))))) (aCons (eTup (aCons (eC (.int 1)) (aCons (eC (.int 2)) (aCons (eC (.int 0)) (aNil))))) (aNil)))) (eLst (aCons (eTup (aCons (eTup (aCons (eC (.int 0)) (aNil))) (aCons (eTup (aCons (eC (.int 0)) (aCons (eC (.int 1)) (aNil)))) (aNil)))) (aNil))))))))
theorem ok_law (Z : Facts K mg) {f : Addr} {fd : FuncData} (F : Fun K "law" "law" s_law f fd) : FnG P w K mg base 22 f fd ["_law_script"] (spD K mg D_law false 1) := by
  refine fnG_mk F sc_law rfl (fun X E hK hM hX hr hg => ?_) (fun z => Bool.noConfusion z)
  obtain ⟨cdv, A, outer, s, H, rfl⟩ := hX
  exact s_cons (s_set (i := 1) (e_call (ok__law_pen Z) (hr.mono (by decide)) hg (takes_of rfl rfl rfl rfl) (a_cons (e_var 0) (a_nil))) sc_law.nd)
    (s_cons (s_set (i := 2) (e_ixT (e_ofF (f_lst (a_cons (e_int) (a_cons (e_int) (a_cons (e_int) (a_cons (e_int) (a_nil))))))) (e_call (ok__law_draw Z) (hr.mono (by decide)) hg (takes_of rfl rfl rfl rfl) (a_cons (e_var 1) (a_cons (e_int) (a_nil))))) sc_law.nd)
    (s_cons (s_for (vs := [3]) [3, 4, 5, 6, 7, 8, 9, 10] (passes_of rfl) rfl (i_val (e_tup (a_cons (e_var 2) (a_cons (e_int) (a_nil))))) (g_name 3 sc_law.nd)
    (s_cons (s_set (i := 4) (e_call (ok__law_draw Z) (hr.mono (by decide)) hg (takes_of rfl rfl rfl rfl) (a_cons (e_var 1) (a_cons (e_int) (a_nil)))) sc_law.nd)
    (s_cons (s_set (i := 5) (e_call (ok__law_ring Z) (hr.mono (by decide)) hg (takes_of rfl rfl rfl rfl) (a_cons (e_var 1) (a_cons (e_int) (a_cons (e_var 3) (a_nil))))) sc_law.nd)
    (s_cons (s_set (i := 6) (e_call (ok__law_lines Z) (hr.mono (by decide)) hg (takes_of rfl rfl rfl rfl) (a_cons (e_var 5) (a_nil))) sc_law.nd)
    (s_cons (s_set (i := 7) (e_call (ok__law_lead Z) (hr.mono (by decide)) hg (takes_of rfl rfl rfl rfl) (a_cons (e_ixT (e_var 5) (e_int)) (a_cons (e_ixT (e_var 6) (e_op2 op_modN v_mod (e_var 4) (e_lenT Z.b_len (a_cons (e_var 6) (a_nil))))) (a_nil)))) sc_law.nd)
    (s_cons (s_if (t_not (t_truth (e_call (ok__law_right Z) (hr.mono (by decide)) hg (takes_of rfl rfl rfl rfl) (a_cons (e_var 5) (a_cons (e_var 6) (a_cons (e_var 7) (a_nil)))))))
    (s_one (s_ret (e_bl)))
    (s_nil))
    (s_one (s_if (t_cmp (op_eqA (hu64 hr)) v_eq (e_var 3) (e_int) rfl)
    (s_cons (s_set (i := 8) (e_ofF (f_call (ok_kind_stands Z) (hr.mono (by decide)) hg (takes_of rfl rfl rfl rfl) (a_cons (e_var 5) (a_nil)))) sc_law.nd)
    (s_cons (s_set (i := 9) (e_callB (cr_sum rfl) v_sum Z.b_sum (a_cons (e_ofF (f_comp [("_law_one", 10)] rfl sc_law.nd (i_val (e_var 8)) (blkOk_by (by change blkC ["_law_script", "_law_pen_here", "_law_great", "_law_most", "_law_spot", "_law_ring_here", "_law_lines_here", "_law_stand", "_law_every", "_law_many", "_law_one"] (defScope s_law) _ _ = true; decide +kernel)) (fun _ _ _ _ _ => g_name 10 sc_law.nd) (fun _ _ _ _ _ => ts_nil) (fun _ _ _ _ _ => e_lenT Z.b_len (a_cons (e_ofF (f_call (ok_lines_for Z) (hr.mono (by decide)) hg takes0 (a_cons (e_var 5) (a_cons (e_var 10) (a_nil))))) (a_nil))))) (a_nil))) sc_law.nd)
    (s_one (s_if (PW.pt (w_or (t_cmp (op_neA (hu64 hr)) v_ne (e_var 9) (e_lenT Z.b_len (a_cons (e_var 6) (a_nil))) rfl) (w_or1 (t_not (t_truth (e_callB (cr_all rfl) v_all Z.b_all (a_cons (e_ofF (f_comp [("_law_one", 10)] rfl sc_law.nd (i_val (e_var 8)) (blkOk_by (by change blkC ["_law_script", "_law_pen_here", "_law_great", "_law_most", "_law_spot", "_law_ring_here", "_law_lines_here", "_law_stand", "_law_every", "_law_many", "_law_one"] (defScope s_law) _ _ = true; decide +kernel)) (fun _ _ _ _ _ => g_name 10 sc_law.nd) (fun _ _ _ _ _ => ts_nil) (fun _ _ _ _ _ => e_cmp (op_neA (hu64 hr)) v_ne (e_ofF (f_call (ok_lines_for Z) (hr.mono (by decide)) hg takes0 (a_cons (e_var 5) (a_cons (e_var 10) (a_nil))))) (e_ofF (f_lst (a_nil))) rfl))) (a_nil))))))))
    (s_one (s_ret (e_bl)))
    (s_nil)))))
    (s_nil)))))))))
    (s_one (s_ret (e_cmp (op_eqA (hu64 hr)) v_eq (e_ofF (f_call (ok_lines_for Z) (hr.mono (by decide)) hg (takes_of rfl rfl rfl rfl) (a_cons (e_tup (a_cons (e_int) (a_cons (e_int) (a_cons (e_int) (a_cons (e_tup (a_cons (e_int) (a_cons (e_int) (a_nil)))) (a_nil)))))) (a_cons (e_tup (a_cons (e_int) (a_cons (e_int) (a_cons (e_int) (a_nil))))) (a_nil))))) (e_ofF (f_lst (a_cons (e_tup (a_cons (e_tup (a_cons (e_int) (a_nil))) (a_cons (e_tup (a_cons (e_int) (a_cons (e_int) (a_nil)))) (a_nil)))) (a_nil)))) rfl)))))
end

theorem law_mk {l : PySem.W.OpenLaw} {w : World} {K : PySem.W.Frag} {h : Heap} {mg : Str → Option Value} {fa f : Addr} {oc kV dc pm cd ct : Value} {od an : Option Addr} {sl : Array (Option Value)} (X : K.In h) (G : h.Ns mainGlobals mg) (hfa : mg "law" = some (.ref fa)) (Z : Facts K mg)
    (a : PySem.W.nsIn K mainGlobals "law" = some (some (.ref f))) (l1 : K.lookup f = some ⟨oc, od, .func (PySem.W.fnOf "law" "law" (defArgs s_law) (defBody s_law) (defScope s_law) .none kV dc pm an cd ct), sl⟩) (c : PySem.W.codeIn K cd "law" = true) (k : PySem.W.keepIn K (.ref f) = true) :
    ∃ fd : FuncData, (∀ (s : Shared) (u : Value), BindsTo s fd ⟨[u], []⟩ [("_law_script", u)]) ∧ ∀ base : Heap, K.In base → base.Ns mainGlobals mg → FnG l.prog w K mg base 22 fa fd ["_law_script"] (spD K mg D_law false 1) := by
  have e := hfa.symm.trans (PySem.W.mg_of X G a)
  cases e
  exact ⟨_, fun s v => .of_eq rfl, fun base _ _ => ok_law Z (fun_mk l1 c k)⟩

local macro_rules | `(tactic| walk_at "d") => `(tactic| simp only [rowI_len, ↓q_swap, ↓q_tup2, ↓wp_idx, ↓wp_cnt, ↓wp_fin, ↓wp_iZip3, ↓zp_3, ↓wp_lenC, ↓wp_iZip3X, ↓zp_3X, ↓x_rat0, ↓x_rat1, ↓q_move, ↓wps_appT, ↓wpy_pop, ↓wpy_popI, ↓wpy_op2, ↓q_appY, ↓wp_fmt, ↓wp_js, ↓wp_js0, ↓wp_js1, ↓x_dm, ↓wp_chain3, ↓wp_iZipM, ↓zp_m, ↓wp_iRange3, ↓q_r3, ↓wps_putC, ↓wp_get2, ↓wp_newK, ↓wp_newT, ↓wp_dispK, ↓wp_dispT, ↓wp_evp, ↓wp_evp0, ↓x_pcells, ↓x_pat, ↓x_pleft, ↓x_wat, ↓x_wleft, ↓q_popI, ↓wp_lstR1, ↓wp_lstR2, ↓wp_revR1, ↓wp_revR2, ↓q_sput, ↓wp_ixO, ↓wp_tupT, ↓x_tt_tok, ↓x_tt_tup, ↓x_tt_lst, ↓x_nileq, ↓x_nilne, ↓x_mulL, ↓x_addL, ↓wp_iEnum, ↓wp_iZip, ↓wp_iRev, ↓en_lst, ↓en_tup, ↓zp_lst, ↓zp_tup, ↓rv_lst, ↓rv_tup, ↓wps_raise, ↓q_app, ↓q_ext, ↓q_rev, ↓q_clr, ↓q_retOwn, ↓q_frz, ↓q_bor, flatB_true, ↓wp_revS, ↓x_revt, ↓x_revl, ↓q_ins, fs_own, fs_dat, fs_emp, ↓o_0, ↓f_0, ↓o_1, ↓f_1, ↓o_2, ↓f_2, ↓o_3, ↓f_3, ↓o_4, ↓f_4, ↓o_5, ↓f_5, ↓o_6, ↓f_6, ↓o_7, ↓f_7, ↓o_8, ↓f_8, ↓o_9, ↓f_9, ↓o_10, ↓f_10, ↓o_11, ↓f_11, ↓o_12, ↓f_12, ↓o_13, ↓f_13, ↓o_14, ↓f_14, ↓o_15, ↓f_15, ↓o_16, ↓f_16, ↓o_17, ↓f_17, ↓o_18, ↓f_18, ↓o_19, ↓f_19, ↓o_20, ↓f_20, ↓o_21, ↓f_21, ↓o_22, ↓f_22, ↓o_23, ↓f_23, ↓o_24, ↓f_24, ↓o_25, ↓f_25, ↓x_at_ite, ↓x_bls1, ↓x_bls2, ↓x_bls3, ↓x_bls4, decide_true, decide_false, Bool.and_self, Bool.true_and, Bool.and_true, List.all_cons, List.all_nil, id_def, ↓x_nebls, ↓x_nonnon, ↓x_tupnon, ↓x_excnon, ↓x_intnon, ↓x_nnonnon, ↓x_ntupnon, ↓x_eqt2, ↓x_net2, nc_0, nc_1, nc_2, nc_3, nc_4, nc_5, nc_6, nc_7, nc_8, nc_9, nc_10, nc_11, nc_12, nc_13, nc_14, nc_15, nc_16, nc_17, nc_18, nc_19, nc_20, nc_21, nc_22, nc_23, nc_24, nc_25, nc_26, nc_27, nc_28, nc_29, nc_30, nc_31, nc_32, ii_int, ii_bl, ii_non, ii_str, ii_tup, ii_ktp, ii_lst, ii_frz, ii_dct, Bool.not_false, reduceCtorEq, Bool.true_eq_false, ↓q_tryE, ↓q_tryA, ↓x_isX1, ↓x_isXv, ↓x_isXt, ↓wp_ok, ↓wp_bad, ↓wp_bind, ↓wp_ofO, ↓wp_eC, ↓wp_pub, ↓wp_ms1, ↓wp_ms0, ↓q_str, ↓wp_ev0, ↓wp_ev1, ↓wp_disp, ↓x_dki, ↓x_dks, ↓wp_tAll, ↓wp_op2, ↓wp_op2S, ↓wp_op1, ↓wp_aNil, ↓wp_aCons, ↓wp_eB, ↓wp_eTup, ↓wp_eLst, ↓wp_tBl, ↓wp_tTru, ↓wp_and, ↓wp_or, ↓wp_not, ↓wp_eIf, ↓wp_eNot, ↓wp_eAnd, ↓wp_eOr, ↓wp_eChain, ↓wp_lenT, ↓wp_oNone, ↓wp_oSome, ↓wp_eSl, ↓wp_iVal, ↓wp_iRange1, ↓wp_iRange2, ↓wps_seq, ↓wps_ret, ↓wps_expr, ↓wps_if, ↓wps_skip, ↓wps_brk, ↓wps_cont, ↓wps_unp, ↓wps_putT, ↓ex_some, ↓ex_ite, ↓ex_none, ↓wpn_nil, ↓q_call, ↓q_comp, ↓q_for, ↓q_while, ↓q_set, ↓q_own, ↓q_par, ↓q_par2, ↓q_gN, ↓q_gT, ↓q_gTk, ↓q_gsNil, ↓q_gsCons, ↓q_tbl, ↓q_oint, ↓q_lst, ↓q_r1, ↓q_r2, ↓q_put, ↓v_0, ↓n_0, ↓v_1, ↓n_1, ↓v_2, ↓n_2, ↓v_3, ↓n_3, ↓v_4, ↓n_4, ↓v_5, ↓n_5, ↓v_6, ↓n_6, ↓v_7, ↓n_7, ↓v_8, ↓n_8, ↓v_9, ↓n_9, ↓v_10, ↓n_10, ↓v_11, ↓n_11, ↓v_12, ↓n_12, ↓v_13, ↓n_13, ↓v_14, ↓n_14, ↓v_15, ↓n_15, ↓v_16, ↓n_16, ↓v_17, ↓n_17, ↓v_18, ↓n_18, ↓v_19, ↓n_19, ↓v_20, ↓n_20, ↓v_21, ↓n_21, ↓v_22, ↓n_22, ↓v_23, ↓n_23, ↓v_24, ↓n_24, ↓v_25, ↓n_25, ↓v_26, ↓n_26, ↓v_27, ↓n_27, ↓v_28, ↓n_28, ↓v_29, ↓n_29, ↓v_30, ↓n_30, ↓v_31, ↓n_31, ↓v_32, ↓n_32, ↓v_33, ↓n_33, ↓x_is_non_int, ↓x_is_non_bool, ↓x_is_non_tuple, ↓x_is_non_str, ↓x_is_non_list, ↓x_is_non_dict, ↓x_is_bl_int, ↓x_is_bl_bool, ↓x_is_bl_tuple, ↓x_is_bl_str, ↓x_is_bl_list, ↓x_is_bl_dict, ↓x_is_int_int, ↓x_is_int_bool, ↓x_is_int_tuple, ↓x_is_int_str, ↓x_is_int_list, ↓x_is_int_dict, ↓x_is_str_int, ↓x_is_str_bool, ↓x_is_str_tuple, ↓x_is_str_str, ↓x_is_str_list, ↓x_is_str_dict, ↓x_is_tup_int, ↓x_is_tup_bool, ↓x_is_tup_tuple, ↓x_is_tup_str, ↓x_is_tup_list, ↓x_is_tup_dict, ↓x_is_lst_int, ↓x_is_lst_bool, ↓x_is_lst_tuple, ↓x_is_lst_str, ↓x_is_lst_list, ↓x_is_lst_dict, ↓x_is_frz_int, ↓x_is_frz_bool, ↓x_is_frz_tuple, ↓x_is_frz_str, ↓x_is_frz_list, ↓x_is_frz_dict, ↓x_is_dct_int, ↓x_is_dct_bool, ↓x_is_dct_tuple, ↓x_is_dct_str, ↓x_is_dct_list, ↓x_is_dct_dict, ↓x_is_ktp_int, ↓x_is_ktp_bool, ↓x_is_ktp_tuple, ↓x_is_ktp_str, ↓x_is_ktp_list, ↓x_is_ktp_dict, ↓x_eq_int, ↓x_ne_int, ↓x_eq_bl, ↓x_ne_bl, ↓x_eq_str, ↓x_ne_str, ↓x_tr_bl, ↓x_tr_int, ↓x_ad_int, ↓x_sb_int, ↓x_ng_int, ↓x_lt_int, ↓x_le_int, ↓x_gt_int, ↓x_ge_int, ↓x_md_int, ↓x_fd_int, ↓x_pw_int, ↓x_ml_int, ↓x_ml_tup, ↓x_ad_tup, ↓x_ad_lst, ↓x_ad_str, ↓x_ab_int, ↓x_ln_tup, ↓x_ln_lst, ↓x_ln_frz, ↓x_ln_ktp, ↓x_ln_dct, ↓x_dI_tup, ↓x_dI_lst, ↓x_dI_frz, ↓x_dI_ktp, ↓x_dI_str, ↓x_to_lst, ↓x_to_tup, ↓x_to_frz, ↓x_lo_lst, ↓x_lo_tup, ↓x_lo_frz, ↓x_sl_tup, ↓x_sl_lst, ↓x_sl_frz, ↓x_al_add, ↓x_st_int, ↓x_st_str, ↓x_nt_int, ↓x_nt_bl, ↓x_mx_int, ↓x_mn_int, ↓x_is_bl, ↓x_isnt_bl, ↓x_cle, ↓x_clt, ↓x_lntok, ↓x_ixtok, ↓x_ixtup, ↓x_ixlst, ↓x_ixfrz, ↓x_ixktp, ↓x_all, ↓x_any, ↓x_sum, ↓x_neT, ↓x_at0, ↓x_at1, ↓x_at2, ↓x_at3, ↓x_at4, ↓x_tk0, ↓x_tk1, ↓x_ix30, ↓x_ix31, ↓x_ix32, List.map_cons, List.map_nil, List.length_cons, List.length_nil, List.cons_append, List.nil_append, List.replicate, Nat.reduceSub, Nat.reduceAdd, Nat.zero_add, Nat.reduceLeDiff, true_and, and_true, Bool.not_true, Bool.not_false, if_true, if_false, Bool.false_eq_true, eq_self, not_true_eq_false, not_false_eq_true, st_1, List.set_cons_zero, List.set_cons_succ, flat, decide_eq_true_eq, Bool.not_eq_true', decide_eq_false_iff_not])
local macro_rules | `(tactic| walk_at "b") => `(tactic| (rw [wp_defD]; refine ⟨rfl, ?_⟩; simp only [List.map_cons, List.map_nil, Nat.reduceSub, List.replicate, List.cons_append, List.nil_append]))
local macro_rules | `(tactic| walk_at "bd") => `(tactic| repeat (first | assumption | apply bd_sub | apply bd_add | apply bd_mul | apply bd_pow | (apply bd_fmod; (first | assumption | decide)) | exact bd_of (n := 64) (by decide)))
local macro_rules | `(tactic| walk_at "sz") => `(tactic| repeat (first | refine And.intro (c_mul (by walk_at "bd") (by walk_at "bd") (by decide)) ?_ | refine And.intro (c_pow3 (by walk_at "bd") (by decide)) ?_ | refine And.intro (c_pow5 (by walk_at "bd") (by decide)) ?_ | refine And.intro (c_pow2 (by walk_at "bd") (by decide)) ?_ | refine And.intro (cfd_of (by omega) (by omega)) ?_ | refine And.intro (by omega) ?_))
local macro_rules | `(tactic| walk_at "w") => `(tactic| simp only [wipeD, List.set_cons_zero, List.set_cons_succ] at *)
local macro_rules | `(tactic| walk_at "th") => `(tactic| (apply Thing.mono; (repeat (first | assumption | exact th_bl | exact th_non | exact th_dct0 | exact th_lit (by decide) (by decide) | exact th_int (by assumption) (by decide) | exact th_str (by decide) (Nat.le_refl _) | exact ths_nil | apply th_tups | apply th_lsts | apply ths_cons | apply th_mrg | apply th_dct1)); all_goals decide))
local macro_rules | `(tactic| walk_at "ths") => `(tactic| ((try simp only [List.forall_mem_cons, List.not_mem_nil, false_implies, implies_true, and_true]); repeat (first | walk_at "th" | refine And.intro (by walk_at "th") ?_)))
local macro_rules | `(tactic| walk_at "u") => `(tactic| simp only [updL, wipeD, List.set_cons_zero, List.set_cons_succ] at *)

theorem pen_ok {ns : List Int} (h : ns.length ≤ 63) : wp (D__law_pen [.frz (ns.map .int)] []) (fun a s' => a = .tok 1 ∧ Pen 0 [] s') fun _ _ => False := by
  unfold D__law_pen
  walk_at "b"
  (try walk_at "d")
  rw [cutL_map]
  refine ⟨flats_ints _, by simp [flats, flat], cutL ns none (some 63), 0, 0, rfl, by decide, by decide, by decide⟩
theorem pen_mono {k k' : Int} {r s : S} (h : Pen k r s) (hk : k ≤ k') : Pen k' r s := by
  obtain ⟨ns, p, l, e, h1, h2, h3⟩ := h
  exact ⟨ns, p, l, e, h1, by omega, h3⟩

theorem draw_ok {m k : Int} {r s : S} (hm : 0 < m) (hm2 : m < 2 ^ 64) (hk : k < 2 ^ 200) (h : Pen k r s) : wp (D__law_draw [.tok 1, .int m] s) (Drawn m k r) fun _ _ => False := by
  obtain ⟨ns, p, left, rfl, p0, pk, l0⟩ := h
  have bp : Bd p 200 := bd_rng p0 pk hk
  have m0 : m ≠ 0 := by omega
  have fm : ∀ x, CFd x m := fun x => cfd_64 hm hm2
  have fin : ∀ (x q : Int), 0 ≤ q → Drawn m k r (.int (x.fmod m)) (.l (ns.map .int) :: .l [.tok 0, .int (p + 1), .int q] :: r) := fun x q hq =>
    ⟨_, rfl, (fmod_rng hm).1, (fmod_rng hm).2, ns, p + 1, q, rfl, by omega, by omega, hq⟩
  unfold D__law_draw
  walk_at "b"
  (try walk_at "d")
  by_cases hl : 0 < left
  · rw [if_pos hl]
    exact ⟨m0, fm _, _, rfl, (fmod_rng hm).1, (fmod_rng hm).2, ns, p, _, rfl, p0, by omega, fdiv_nn l0 hm⟩
  rw [if_neg hl]
  have hl0 : left = 0 := by omega
  subst hl0
  have p10 : CPw 10 18 := by decide
  have b1 : CMulX 60013 p := c_mul (n := 64) (bd_of (by decide)) bp (by decide)
  have b2 : CMulX (60013 * p) p := c_mul (bd_mul (n := 64) (bd_of (by decide)) bp) bp (by decide)
  have b3 : CMulX 419 p := c_mul (n := 64) (bd_of (by decide)) bp (by decide)
  refine ⟨b1, b2, b3, ?_⟩
  by_cases he : 0 < ((ns.map D.int).length : Int)
  · rw [if_pos he]
    obtain ⟨c, ec⟩ := at_map (fmod_rng (i := p) he).1 (fmod_rng (i := p) he).2
    refine ⟨by omega, _, ec, ?_⟩
    (try walk_at "d")
    refine ite2 (fun _ => ⟨p10, ite2 (fun _ => ⟨fm _, m0, fin _ _ (fdiv_nn (by split <;> omega) hm)⟩) (fun _ => ?_)⟩) (fun _ => ?_)
    · walk_at "sz"
      exact fin _ _ l0
    · walk_at "sz"
      exact fin _ _ l0
  · rw [if_neg he]
    walk_at "sz"
    exact fin _ _ l0

theorem lowest_ok {n d : Int} {s : S} (h0 : 0 ≤ n) (hd : 0 < d) (hb : Bd d 9000) : wp (D__law_lowest [.int n, .int d] s) (fun r s' => r = rat (Rat.divInt n d) ∧ s' = s) fun _ _ => False := by
  unfold D__law_lowest
  walk_at "b"
  (try walk_at "d")
  refine wpw_of (fun ρ s' => s' = s ∧ ∃ x y : Int, 0 ≤ x ∧ 0 ≤ y ∧ Int.gcd x y = Int.gcd n d ∧ ρ = [.dat (.int n), .dat (.int d), .dat (.int x), .dat (.int y)]) (fun ρ => match ρ with
    | [_, _, _, .dat (.int y)] => y.toNat
    | _ => 0) ⟨rfl, _, _, by split <;> omega, by omega, by rw [if_neg (by omega)], rfl⟩ ?_
  rintro _ _ ⟨rfl, x, y, hx, hy, hg, rfl⟩
  (try walk_at "d")
  refine ite2 (fun hc => ?_) (fun hc => ?_)
  · refine ⟨by omega, ?_⟩
    walk_at "w"
    have := fmod_rng (i := x) hc
    refine ⟨⟨_, _, by omega, this.1, by rw [gcd_step hc]; exact hg, rfl⟩, ?_⟩
    show (x.fmod y).toNat < y.toNat
    omega
  · have : y = 0 := by omega
    subst this
    have hx2 : x = (Int.gcd n d : Int) := by
      rw [← hg]
      simp
      omega
    have hg2 := bd_gcd (i := n) hb (by omega)
    have h0 : 0 < (Int.gcd n d : Int) := by
      have := Int.gcd_pos_of_ne_zero_right n (show d ≠ 0 by omega)
      omega
    obtain ⟨e1, e2⟩ := low_num (n := n) (show d ≠ 0 by omega)
    rw [if_neg (by omega)] at e1 e2
    rw [hx2]
    refine ⟨cfd_bd (by omega) hg2, cfd_bd (by omega) hg2, ?_⟩
    rw [e1, e2]
    rfl

theorem okDs_all : ∀ {xs : List D}, (∀ x ∈ xs, okD x = true) → okDs xs = true
  | [], _ => rfl
  | x :: xs, h => by simp [okDs, h x (by simp), okDs_all fun y hy => h y (List.mem_cons_of_mem _ hy)]
theorem dep_all : ∀ {xs : List D} {m : Nat}, (∀ x ∈ xs, (toPy x).depth ≤ m) → PyData.depthAll (toPys xs) ≤ m
  | [], _, _ => by simp [toPys, PyData.depthAll]
  | x :: xs, m, h => by
    have h1 := h x (by simp)
    have h2 := dep_all (m := m) fun y hy => h y (List.mem_cons_of_mem _ hy)
    simp [toPys, PyData.depthAll]
    omega
theorem rd_list {L : List D} (h1 : ∀ x ∈ L, okD x = true) (h2 : ∀ x ∈ L, (toPy x).depth ≤ 62) : ready (.lst L) = true := by
  have := dep_all h2
  simp [ready, okD, okDs_all h1, toPy, PyData.depth]
  omega
theorem ok_lets (r : List Nat) : okD (.tup (lets r)) = true := by
  show okDs (lets r) = true
  refine okDs_all fun x hx => ?_
  obtain ⟨z, _, rfl⟩ := List.mem_map.mp hx
  rfl
theorem dep_lets (r : List Nat) : (toPy (.tup (lets r))).depth ≤ 62 := by
  have := dep_all (xs := lets r) (m := 0) fun x hx => by
    obtain ⟨z, _, rfl⟩ := List.mem_map.mp hx
    simp [toPy, PyData.depth]
  simp [toPy, PyData.depth]
  omega
theorem rd_tup {L : List D} (h1 : ∀ x ∈ L, okD x = true) (h2 : ∀ x ∈ L, (toPy x).depth ≤ 62) : ready (.tup L) = true := by
  have := dep_all h2
  simp [ready, okD, okDs_all h1, toPy, PyData.depth]
  omega
theorem eqB_self {d : D} (h : ready d = true) : eqB d d = true := SeqAt.eqv_refl _ (canLay_of d (ready_ok h))
theorem ne_selfL {xs : List D} (h : ready (.lst xs) = true) : dNe (.lst xs) (.lst xs) = some (.bl false) := by
  have e : (if (ready (.lst xs) && ready (.lst xs)) = true then some (D.bl (!eqB (.lst xs) (.lst xs))) else none) = dNe (.lst xs) (.lst xs) := rfl
  rw [← e, h, eqB_self h]
  rfl
theorem eq_selfL {xs : List D} (h : ready (.lst xs) = true) : dEq (.lst xs) (.lst xs) = some (.bl true) := by
  have e : (if (ready (.lst xs) && ready (.lst xs)) = true then some (D.bl (eqB (.lst xs) (.lst xs))) else none) = dEq (.lst xs) (.lst xs) := rfl
  rw [← e, h, eqB_self h]
  rfl

/-! ### rows of places -/
def tp (l : List Nat) : D := .tup (lets l)
def chosenN (n : Nat) : Nat → List (List Nat)
  | 0 => [[]]
  | k + 1 => (chosenN n k).flatMap fun a => ((List.range n).filter fun p => decide (∀ x ∈ a, x < p)).map fun p => a ++ [p]
theorem chosen_3 (s : S) (k : Nat) (h : k ≤ 3) : D_chosen [.int 3, .int (k : Int)] s = .ok (.lst ((chosenN 3 k).map tp)) s :=
  match k, h with
  | 0, _ => rfl
  | 1, _ => rfl
  | 2, _ => rfl
  | 3, _ => rfl
theorem chosen_4 (s : S) (k : Nat) (h : k ≤ 4) : D_chosen [.int 4, .int (k : Int)] s = .ok (.lst ((chosenN 4 k).map tp)) s :=
  match k, h with
  | 0, _ => rfl
  | 1, _ => rfl
  | 2, _ => rfl
  | 3, _ => rfl
  | 4, _ => rfl
theorem chosen_5 (s : S) (k : Nat) (h : k ≤ 5) : D_chosen [.int 5, .int (k : Int)] s = .ok (.lst ((chosenN 5 k).map tp)) s :=
  match k, h with
  | 0, _ => rfl
  | 1, _ => rfl
  | 2, _ => rfl
  | 3, _ => rfl
  | 4, _ => rfl
  | 5, _ => rfl
theorem chosen_6 (s : S) (k : Nat) (h : k ≤ 6) : D_chosen [.int 6, .int (k : Int)] s = .ok (.lst ((chosenN 6 k).map tp)) s :=
  match k, h with
  | 0, _ => rfl
  | 1, _ => rfl
  | 2, _ => rfl
  | 3, _ => rfl
  | 4, _ => rfl
  | 5, _ => rfl
  | 6, _ => rfl
theorem chosen_7 (s : S) (k : Nat) (h : k ≤ 7) : D_chosen [.int 7, .int (k : Int)] s = .ok (.lst ((chosenN 7 k).map tp)) s :=
  match k, h with
  | 0, _ => rfl
  | 1, _ => rfl
  | 2, _ => rfl
  | 3, _ => rfl
  | 4, _ => rfl
  | 5, _ => rfl
  | 6, _ => rfl
  | 7, _ => rfl
theorem chosen_eq {n k : Nat} (s : S) (h3 : 3 ≤ n) (h7 : n ≤ 7) (hk : k ≤ n) : D_chosen [.int (n : Int), .int (k : Int)] s = .ok (.lst ((chosenN n k).map tp)) s := by
  have : n = 3 ∨ n = 4 ∨ n = 5 ∨ n = 6 ∨ n = 7 := by omega
  rcases this with rfl | rfl | rfl | rfl | rfl
  · exact chosen_3 s k hk
  · exact chosen_4 s k hk
  · exact chosen_5 s k hk
  · exact chosen_6 s k hk
  · exact chosen_7 s k hk
theorem chosen_ok {n k : Nat} {s : S} (h3 : 3 ≤ n) (h7 : n ≤ 7) (hk : k ≤ n) : wp (D_chosen [.int (n : Int), .int (k : Int)] s) (fun a s' => a = .lst ((chosenN n k).map tp) ∧ s' = s) fun _ _ => False := by
  rw [chosen_eq s h3 h7 hk, wp_ok]
  exact ⟨rfl, rfl⟩
/-! the numbers' marks -/
def bitsN (n m : Nat) : List Nat := (List.range n).filter fun p => m.testBit p
def allN (n k : Nat) : List (List Nat) := ((List.range (2 ^ n)).map (bitsN n)).filter fun r => decide (r.length = k)
def ltL : List Nat → List Nat → Bool
  | [], [] => false
  | [], _ :: _ => true
  | _ :: _, [] => false
  | a :: as, b :: bs => decide (a < b) || (decide (a = b) && ltL as bs)
def ups : List Nat → Bool
  | a :: b :: r => decide (a < b) && ups (b :: r)
  | _ => true
def pwB : List (List Nat) → Bool
  | a :: b :: r => ltL a b && pwB (b :: r)
  | _ => true
theorem chosen_all : ∀ n, n < 8 → ∀ k, k < n + 1 → ((allN n k).isPerm (chosenN n k) && pwB (chosenN n k) && (chosenN n k).all (fun r => decide (r.length = k) && r.all (fun p => decide (p < n)) && ups r)) = true := by
  decide +kernel
/-! ### taking places, by marks -/
def nearM (n F p : Nat) : Option Nat := (List.range n).find? fun f => F.testBit ((p + n - f) % n)
def takeM (n F p : Nat) : Nat := match nearM n F p with
  | some f => F ^^^ 2 ^ ((p + n - f) % n)
  | none => F
def cntM (n F : Nat) : Nat := ((List.range n).filter fun p => F.testBit p).length
theorem take_swap : ∀ n, n < 8 → ∀ F, F < 2 ^ n → ∀ a, a < n → ∀ b, b < n → takeM n (takeM n F a) b = takeM n (takeM n F b) a := by
  decide +kernel
theorem take_lt : ∀ n, n < 8 → ∀ F, F < 2 ^ n → ∀ a, a < n → takeM n F a < 2 ^ n ∧ (0 < cntM n F → (nearM n F a).isSome = true ∧ cntM n (takeM n F a) + 1 = cntM n F) := by
  decide +kernel
def maskN (r : List Nat) : Nat := r.foldl (fun m p => m + 2 ^ p) 0
theorem mask_ok : ∀ n, n < 8 → ∀ k, k < n + 1 → ((chosenN n k).all fun r => decide (maskN r < 2 ^ n) && decide (cntM n (maskN r) = k) && (List.range n).all fun p => decide ((maskN r).testBit p = decide (p ∈ r))) = true := by
  decide +kernel
theorem in_letsT {i : Nat} {es : List Nat} {P : D → Prop} (h : P (.bl (decide (i ∈ es)))) : ∃ z, dIn (.int (i : Int)) (.tup (lets es)) = some z ∧ P z := by
  refine ⟨_, ?_, h⟩
  have e : lets es = (es.map fun n : Nat => (n : Int)).map D.int := by rw [List.map_map]; rfl
  have r := ready_tupI (es.map fun n : Nat => (n : Int))
  unfold tupI at r
  rw [← e] at r
  have r2 : ready (.int (i : Int)) = true := by simp [ready, okD, toPy, PyData.depth]
  show (if (ready (.int (i : Int)) && ready (.tup (lets es))) = true then some (D.bl (inB (.int (i : Int)) (lets es))) else none) = _
  rw [r, r2]
  simp only [Bool.and_self, if_true, Option.some.injEq, D.bl.injEq]
  unfold inB lets
  rw [List.any_map]
  refine (Bool.eq_iff_iff).mpr ?_
  rw [List.any_eq_true, decide_eq_true_eq]
  constructor
  · rintro ⟨x, hx, e⟩
    have : (x : Int) = i := by simpa [eqB, toPy, PyData.eqv] using e
    have : x = i := by omega
    exact this ▸ hx
  · intro h
    exact ⟨i, h, by simp [eqB, toPy, PyData.eqv]⟩

/-! ### the walks -/
def stN (n : Nat) (v : List Nat) (F : Nat) : List D := (List.range n).map fun i => .int (if F.testBit i = true then 2 else if i ∈ v then 1 else 0)
theorem stN_len {n : Nat} {v : List Nat} {F : Nat} : (stN n v F).length = n := by simp [stN]
theorem stN_at {n i : Nat} {v : List Nat} {F : Nat} (h : i < n) : atI (stN n v F) (i : Int) = some (.int (if F.testBit i = true then 2 else if i ∈ v then 1 else 0)) := by
  refine atI_nat (j := i) ?_
  unfold stN
  rw [List.getElem?_map, List.getElem?_range h]
  rfl
theorem stN_flat {n : Nat} {v : List Nat} {F : Nat} : flats (stN n v F) = true := by
  unfold stN
  rw [show ((List.range n).map fun i => D.int (if F.testBit i = true then 2 else if i ∈ v then 1 else 0)) = ((List.range n).map fun i : Nat => (if F.testBit i = true then 2 else if i ∈ v then 1 else 0 : Int)).map D.int by rw [List.map_map]; rfl]
  exact flats_ints _
theorem stN_set {n i : Nat} {v : List Nat} {F : Nat} (h : i < n) (hv : i ∈ v) (hF : F.testBit i = true) : (stN n v F).set i (.int 1) = stN n v (F ^^^ 2 ^ i) := by
  refine List.ext_getElem (by simp [stN]) fun j h1 h2 => ?_
  have hj : j < n := by simpa [stN] using h2
  rw [List.getElem_set]
  simp only [stN, List.getElem_map, List.getElem_range]
  rw [Nat.testBit_xor, Nat.testBit_two_pow]
  by_cases e : i = j
  · subst e
    simp [hF, hv]
  · simp [e]
theorem step_one : ∀ n, n < 8 → ∀ p, p < n → ∀ g, g < n → ((((p + n - g) % n : Nat) : Int) - 1).fmod n = (((p + n - (g + 1)) % n : Nat) : Int) ∧ ((p : Int) - (g : Int)).fmod n = (((p + n - g) % n : Nat) : Int) := by decide +kernel
structure Near (n F p f : Nat) : Prop where
  lt : f < n
  yes : F.testBit ((p + n - f) % n) = true
  no : ∀ g, g < f → F.testBit ((p + n - g) % n) = false
theorem near_of {n F p f : Nat} (h : nearM n F p = some f) : Near n F p f := by
  unfold nearM at h
  rw [List.find?_range_eq_some] at h
  obtain ⟨a, b, c⟩ := h
  exact ⟨List.mem_range.mp b, a, fun g hg => by simpa using c g hg⟩
theorem take_of {n F p f : Nat} (h : nearM n F p = some f) : takeM n F p = F ^^^ 2 ^ ((p + n - f) % n) := by
  unfold takeM
  rw [h]
def nearF (n F a : Nat) : Nat := (nearM n F a).getD 0
def targM (n F a : Nat) : Option Nat := (nearM n F a).map fun f => (a + n - f) % n
theorem targ_step1 : ∀ n, n < 8 → ∀ F, F < 2 ^ n → ∀ a, a < n → (F.testBit a || decide (targM n F ((a + n - 1) % n) = targM n F a)) = true := by decide +kernel
theorem targ_step2 : ∀ n, n < 8 → ∀ F, F < 2 ^ n → ∀ a, a < n → (F.testBit a || !(nearM n F a).isSome || decide (nearF n F ((a + n - 1) % n) < nearF n F a)) = true := by decide +kernel
theorem targ_end : ∀ n, n < 8 → ∀ F, F < 2 ^ n → ∀ a, a < n → F.testBit a = true → targM n F a = some a := by decide +kernel
def runM (n : Nat) (u : List Nat) (F : Nat) : Nat := u.foldl (takeM n) F
/-- what a line leads to -/
structure Ln (n : Nat) (u v : List Nat) : Prop where
  n3 : 3 ≤ n
  n7 : n ≤ 7
  ul : ∀ p ∈ u, p < n
  vl : ∀ p ∈ v, p < n
  len : u.length ≤ v.length
  vlen : v.length ≤ n
  bit : ∀ p, p < n → (maskN v).testBit p = decide (p ∈ v)
  cnt : cntM n (maskN v) = v.length
  lt : maskN v < 2 ^ n
/-- the marks are at lower places, and there are enough of them -/
structure Okm (n : Nat) (v : List Nat) (F k : Nat) : Prop where
  sub : ∀ p, p < n → F.testBit p = true → p ∈ v
  cnt : k ≤ cntM n F
  lt : F < 2 ^ n
theorem okm_step {n p F k : Nat} {v : List Nat} (h7 : n ≤ 7) (hp : p < n) (h : Okm n v F (k + 1)) : (∃ f, nearM n F p = some f) ∧ Okm n v (takeM n F p) k := by
  have t := take_lt n (by omega) F h.lt p hp
  have c := t.2 (by have := h.cnt; omega)
  obtain ⟨f, hf⟩ := Option.isSome_iff_exists.mp c.1
  refine ⟨⟨f, hf⟩, fun q hq hb => ?_, by have := h.cnt; have := c.2; omega, t.1⟩
  refine h.sub q hq ?_
  rw [take_of hf, Nat.testBit_xor, Nat.testBit_two_pow] at hb
  have y := (near_of hf).yes
  by_cases e : (p + n - f) % n = q
  · rw [e] at y; exact y
  · simpa [e] using hb
theorem okm_run {n : Nat} {v : List Nat} (h7 : n ≤ 7) : ∀ {u : List Nat} {F k : Nat}, (∀ p ∈ u, p < n) → Okm n v F (u.length + k) → Okm n v (runM n u F) k
  | [], F, k, _, h => by simpa [runM] using h
  | p :: u, F, k, hu, h => okm_run h7 (u := u) (fun q hq => hu q (List.mem_cons_of_mem _ hq)) (okm_step h7 (hu p List.mem_cons_self) (by
      have e : (p :: u).length + k = (u.length + k) + 1 := by simp only [List.length_cons]; omega
      rw [← e]; exact h)).2
theorem runM_snoc {n : Nat} {u : List Nat} {p F : Nat} : runM n (u ++ [p]) F = takeM n (runM n u F) p := by simp [runM]
def ringD (n q l : Nat) (on : D) : D := .tup [.int (n : Int), .int (q : Int), .int (l : Int), on]
theorem line_stand_ok {n q l : Nat} {on : D} {u v : List Nat} {s : S} (L : Ln n u v) : wp (D_line_stand [ringD n q l on, .tup [tp u, tp v]] s) (fun a s' => a = .tup (stN n v (runM n u (maskN v))) ∧ s' = s) fun _ _ => False := by
  have n3 := L.n3
  have n7 := L.n7
  unfold D_line_stand
  walk_at "b"
  unfold ringD tp
  (try walk_at "d")
  refine ⟨by omega, ?_⟩
  rw [Int.toNat_natCast]
  refine wpk_of (by rw [rngD_len]; omega) (comp_map (fun d => match d with
    | .int i => .int (if i.toNat ∈ v then 2 else 0)
    | d => d) fun d hd => ?_) ?_
  · obtain ⟨i, hi⟩ := List.getElem?_of_mem hd
    obtain ⟨hi, rfl⟩ := rng0 hi
    refine ⟨_, rfl, by walk_at "d", ?_⟩
    walk_at "u"
    (try walk_at "d")
    refine in_letsT ?_
    rw [Int.toNat_natCast]
    refine ⟨.int (if i ∈ v then 1 else 0), ?_, ?_⟩
    · by_cases m : i ∈ v <;> simp [m] <;> rfl
    · by_cases m : i ∈ v
      · simp only [m, if_true]; exact ⟨_, rfl, rfl⟩
      · simp only [m, if_false]; exact ⟨_, rfl, rfl⟩
  rintro _ _ ⟨rfl, rfl⟩
  rename_i s
  have e0 : (rngD 0 1 n).map (fun d => match d with
    | .int i => .int (if i.toNat ∈ v then 2 else 0)
    | d => d) = stN n v (maskN v) := by
    unfold rngD stN
    rw [List.map_map]
    refine List.map_congr_left fun i hi => ?_
    have hi := List.mem_range.mp hi
    show D.int (if ((0 : Int) + (i : Int) * 1).toNat ∈ v then 2 else 0) = _
    rw [show ((0 : Int) + (i : Int) * 1).toNat = i by omega, L.bit i hi]
    by_cases m : i ∈ v <;> simp [m]
  rw [e0]
  (try walk_at "d")
  refine wpl_n (fun i => [(5, .own (stN n v (runM n (u.take i) (maskN v))))]) rfl (fun i d hd => ?_) ?_
  · obtain ⟨il, ed⟩ := lets_get hd
    obtain ⟨p, hp⟩ : ∃ p, u[i]? = some p := ⟨_, List.getElem?_eq_getElem il⟩
    rw [hp] at ed
    obtain rfl : d = .int (p : Int) := ed
    have pl : p < n := L.ul p (List.mem_of_getElem? hp)
    have ok : Okm n v (runM n (u.take i) (maskN v)) (u.length - i) := by
      refine okm_run n7 (fun q hq => L.ul q (List.mem_of_mem_take hq)) ⟨fun q hq hb => ?_, ?_, L.lt⟩
      · rw [L.bit q hq] at hb; exact of_decide_eq_true hb
      · have := L.cnt; have := L.len; rw [List.length_take]; omega
    have es : runM n (u.take (i + 1)) (maskN v) = takeM n (runM n (u.take i) (maskN v)) p := by
      rw [List.take_succ, hp, Option.toList_some, runM_snoc]
    generalize runM n (u.take i) (maskN v) = F at *
    obtain ⟨⟨f, hf⟩, -⟩ := okm_step (k := u.length - i - 1) n7 pl (by rw [show u.length - i - 1 + 1 = u.length - i by omega]; exact ok)
    have tg : targM n F p = some ((p + n - f) % n) := by unfold targM; rw [hf]; rfl
    have tk := take_of hf
    have nr := near_of hf
    have tl : (p + n - f) % n < n := Nat.mod_lt _ (by omega)
    generalize (p + n - f) % n = t at *
    refine ⟨_, rfl, ?_⟩
    walk_at "u"
    (try walk_at "d")
    refine wpw_of (fun ρ s' => s' = s ∧ ∃ a : Nat, a < n ∧ targM n F a = some t ∧ ρ = [.dat (.tup [.int (n : Int), .int (q : Int), .int (l : Int), on]), .dat (.tup [.tup (lets u), .tup (lets v)]),
      .dat (.int (n : Int)), .dat (.tup (lets u)), .dat (.tup (lets v)), .own (stN n v F), .dat (.int (p : Int)), .dat (.int (a : Int))]) (fun ρ => match ρ with
      | [_, _, _, _, _, _, _, .dat (.int a)] => nearF n F a.toNat
      | _ => 0) ⟨rfl, p, pl, tg, rfl⟩ ?_
    rintro _ _ ⟨rfl, a, al, ta, rfl⟩
    (try walk_at "d")
    refine ⟨_, stN_at al, ?_⟩
    cases hb : F.testBit a with
    | false =>
      have c1 := targ_step1 n (by omega) F ok.lt a al
      have c2 := targ_step2 n (by omega) F ok.lt a al
      have is : (nearM n F a).isSome = true := by
        unfold targM at ta
        cases e : nearM n F a with
        | none => rw [e] at ta; simp at ta
        | some _ => rfl
      rw [hb, Bool.false_or, decide_eq_true_eq] at c1
      rw [hb, is] at c2
      have c2 : nearF n F ((a + n - 1) % n) < nearF n F a := by simpa using c2
      have st := (step_one n (by omega) a al 0 (by omega)).1
      rw [show a + n - 0 = a + n by omega, Nat.add_mod_right, Nat.mod_eq_of_lt al, show a + n - (0 + 1) = a + n - 1 by omega] at st
      have ev : dNe (.int (if false = true then 2 else if a ∈ v then 1 else 0)) (.int 2) = some (.bl true) := by
        by_cases m : a ∈ v <;> simp [m] <;> rfl
      refine ⟨by split <;> (try split) <;> rfl, _, ev, true, rfl, ?_⟩
      rw [if_pos rfl, st]
      refine ⟨by omega, ⟨_, Nat.mod_lt _ (by omega), c1.trans ta, rfl⟩, ?_⟩
      show nearF n F (((a + n - 1) % n : Nat) : Int).toNat < nearF n F (a : Int).toNat
      rw [Int.toNat_natCast, Int.toNat_natCast]
      exact c2
    | true =>
      have te := targ_end n (by omega) F ok.lt a al hb
      obtain rfl : a = t := Option.some.inj (te.symm.trans ta)
      refine ⟨by rw [if_pos rfl]; rfl, .bl false, by rw [if_pos rfl]; rfl, false, rfl, ?_⟩
      rw [if_neg (by decide)]
      refine ⟨a, ixN_lit (by rw [stN_len]; exact al), ?_⟩
      rw [stN_set al (ok.sub a al hb) hb, es, tk]
  · walk_at "u"
    (try walk_at "d")
    rw [lets_len, List.take_length]

/-! the last upper place first -/
theorem rep_int {x : D} : ∀ n : Nat, (List.replicate n [x]).flatten = List.replicate n x
  | 0 => rfl
  | n + 1 => by rw [List.replicate_succ, List.flatten_cons, rep_int n]; rfl
def lowL (n : Nat) (v : List Nat) : List D := (List.range n).map fun i => .int (if i ∈ v then 2 else 0)
theorem lowL_len {n : Nat} {v : List Nat} : (lowL n v).length = n := by simp [lowL]
theorem lowL_nil {n : Nat} : List.replicate n (D.int 0) = lowL n [] := by
  refine List.ext_getElem (by simp [lowL]) fun i h1 h2 => ?_
  simp [lowL]
theorem lowL_snoc {n p : Nat} {v : List Nat} (h : p < n) : (lowL n v).set p (.int 2) = lowL n (v ++ [p]) := by
  refine List.ext_getElem (by simp [lowL]) fun i h1 h2 => ?_
  rw [List.getElem_set]
  simp only [lowL, List.getElem_map, List.getElem_range, List.mem_append, List.mem_singleton]
  by_cases e : p = i
  · subst e; simp
  · have : ¬ i = p := fun z => e z.symm
    simp [e, this]
theorem lowL_all {n : Nat} {u v : List Nat} (L : Ln n u v) : lowL n v = stN n v (maskN v) := by
  unfold lowL stN
  refine List.map_congr_left fun i hi => ?_
  have hi := List.mem_range.mp hi
  rw [L.bit i hi]
  by_cases m : i ∈ v <;> simp [m]
theorem lets_rev (r : List Nat) : (lets r).reverse = lets r.reverse := by simp [lets, List.map_reverse]
theorem law_lead_ok {n : Nat} {u v : List Nat} {s : S} (L : Ln n u v) : wp (D__law_lead [.int (n : Int), .tup [tp u, tp v]] s) (fun a s' => a = .tup (stN n v (runM n u.reverse (maskN v))) ∧ s' = s) fun _ _ => False := by
  have n3 := L.n3
  have n7 := L.n7
  unfold D__law_lead
  walk_at "b"
  unfold tp
  (try walk_at "d")
  rw [Int.toNat_natCast, rep_int, lowL_nil]
  refine ⟨by omega, ?_⟩
  refine wpl_n (fun i => [(2, .own (lowL n (v.take i)))]) rfl (fun i d hd => ?_) ?_
  · obtain ⟨il, ed⟩ := lets_get hd
    obtain ⟨p, hp⟩ : ∃ p, v[i]? = some p := ⟨_, List.getElem?_eq_getElem il⟩
    rw [hp] at ed
    obtain rfl : d = .int (p : Int) := ed
    have pl : p < n := L.vl p (List.mem_of_getElem? hp)
    refine ⟨_, rfl, ?_⟩
    walk_at "u"
    (try walk_at "d")
    refine ⟨p, ixN_lit (by rw [lowL_len]; exact pl), ?_⟩
    rw [lowL_snoc pl, List.take_succ, hp, Option.toList_some]
  · walk_at "u"
    (try walk_at "d")
    rw [lets_len, List.take_length, lowL_all L, lets_rev]
    refine wpl_n (fun i => [(2, .own (stN n v (runM n (u.reverse.take i) (maskN v))))]) rfl (fun i d hd => ?_) ?_
    · obtain ⟨il, ed⟩ := lets_get hd
      obtain ⟨p, hp⟩ : ∃ p, u.reverse[i]? = some p := ⟨_, List.getElem?_eq_getElem il⟩
      rw [hp] at ed
      obtain rfl : d = .int (p : Int) := ed
      have il : i < u.length := by simpa using il
      have pl : p < n := L.ul p (List.mem_reverse.mp (List.mem_of_getElem? hp))
      have ok : Okm n v (runM n (u.reverse.take i) (maskN v)) (u.length - i) := by
        refine okm_run n7 (fun q hq => L.ul q (List.mem_reverse.mp (List.mem_of_mem_take hq))) ⟨fun q hq hb => ?_, ?_, L.lt⟩
        · rw [L.bit q hq] at hb; exact of_decide_eq_true hb
        · have := L.cnt; have := L.len; rw [List.length_take, List.length_reverse]; omega
      have es : runM n (u.reverse.take (i + 1)) (maskN v) = takeM n (runM n (u.reverse.take i) (maskN v)) p := by
        rw [List.take_succ, hp, Option.toList_some, runM_snoc]
      generalize runM n (u.reverse.take i) (maskN v) = F at *
      obtain ⟨⟨f, hf⟩, -⟩ := okm_step (k := u.length - i - 1) n7 pl (by rw [show u.length - i - 1 + 1 = u.length - i by omega]; exact ok)
      have tk := take_of hf
      have nr := near_of hf
      have tl : (p + n - f) % n < n := Nat.mod_lt _ (by omega)
      have fl := nr.lt
      refine ⟨_, rfl, ?_⟩
      walk_at "u"
      (try walk_at "d")
      refine wpw_of (fun ρ s' => s' = s ∧ ∃ g : Nat, g ≤ f ∧ ρ = [.dat (.int (n : Int)), .dat (.tup [.tup (lets u), .tup (lets v)]), .own (stN n v F), .dat (.int (p : Int)), .dat (.int (g : Int))]) (fun ρ => match ρ with
        | [_, _, _, _, .dat (.int g)] => f - g.toNat
        | _ => 0) ⟨rfl, 0, by omega, rfl⟩ ?_
      rintro _ _ ⟨rfl, g, gl, rfl⟩
      (try walk_at "d")
      have ei := (step_one n (by omega) p pl g (by omega)).2
      have ail : (p + n - g) % n < n := Nat.mod_lt _ (by omega)
      rw [ei]
      refine ⟨by omega, _, stN_at ail, ?_⟩
      rcases Nat.lt_or_ge g f with lt | ge
      · have nb := nr.no g lt
        rw [nb]
        have ev : dNe (.int (if false = true then 2 else if (p + n - g) % n ∈ v then 1 else 0)) (.int 2) = some (.bl true) := by
          by_cases m : (p + n - g) % n ∈ v <;> simp [m] <;> rfl
        refine ⟨by split <;> (try split) <;> rfl, _, ev, true, rfl, ?_⟩
        rw [if_pos rfl]
        exact ⟨⟨g + 1, by omega, rfl⟩, by show f - ((g : Int) + 1).toNat < f - (g : Int).toNat; omega⟩
      · obtain rfl : g = f := by omega
        rw [nr.yes]
        refine ⟨by rw [if_pos rfl]; rfl, .bl false, by rw [if_pos rfl]; rfl, false, rfl, ?_⟩
        rw [if_neg (by decide)]
        refine ⟨by omega, (p + n - g) % n, ixN_lit (by rw [stN_len]; exact ail), ?_⟩
        rw [stN_set ail (ok.sub _ ail nr.yes) nr.yes, es, tk]
    · walk_at "u"
      (try walk_at "d")
      rw [lets_len, List.take_length]
      exact ⟨stN_flat, rfl⟩
theorem runM_lt {n : Nat} (h7 : n < 8) : ∀ {u : List Nat} {F : Nat}, (∀ p ∈ u, p < n) → F < 2 ^ n → runM n u F < 2 ^ n
  | [], _, _, h => h
  | p :: u, F, hu, h => runM_lt h7 (u := u) (fun q hq => hu q (List.mem_cons_of_mem _ hq)) (take_lt n h7 F h p (hu p List.mem_cons_self)).1
theorem runM_perm {n : Nat} (h7 : n < 8) {u u' : List Nat} (hp : u.Perm u') : ∀ {F : Nat}, (∀ p ∈ u, p < n) → F < 2 ^ n → runM n u F = runM n u' F := by
  induction hp with
  | nil => intro _ _ _; rfl
  | cons a _ ih => intro F hu hF; exact ih (fun q hq => hu q (List.mem_cons_of_mem _ hq)) (take_lt n h7 F hF a (hu a List.mem_cons_self)).1
  | swap a b l =>
    intro F hu hF
    show runM n l (takeM n (takeM n F b) a) = runM n l (takeM n (takeM n F a) b)
    rw [take_swap n h7 F hF b (hu b (by simp)) a (hu a (by simp))]
  | trans p1 _ ih1 ih2 => intro F hu hF; exact (ih1 hu hF).trans (ih2 (fun q hq => hu q (p1.mem_iff.mpr hq)) hF)
/-- the stand of a line -/
def stand (n : Nat) (u v : List Nat) : D := .tup (stN n v (runM n u (maskN v)))
theorem lead_ok {n : Nat} {u v : List Nat} {s : S} (L : Ln n u v) : wp (D__law_lead [.int (n : Int), .tup [tp u, tp v]] s) (fun a s' => a = stand n u v ∧ s' = s) fun _ _ => False := by
  have e : runM n u.reverse (maskN v) = runM n u (maskN v) := runM_perm (by have := L.n7; omega) (List.reverse_perm u) (fun p hp => L.ul p (List.mem_reverse.mp hp)) L.lt
  have := law_lead_ok (s := s) L
  rw [e] at this
  exact this
/-! ### all lines -/
theorem ch_all {n k : Nat} (h7 : n ≤ 7) (hk : k ≤ n) : (allN n k).Perm (chosenN n k) ∧ pwB (chosenN n k) = true ∧ ∀ r ∈ chosenN n k, r.length = k ∧ (∀ p ∈ r, p < n) ∧ ups r = true := by
  have c := chosen_all n (by omega) k (by omega)
  simp only [Bool.and_eq_true] at c
  refine ⟨List.isPerm_iff.mp c.1.1, c.1.2, fun r hr => ?_⟩
  have := List.all_eq_true.mp c.2 r hr
  simp only [Bool.and_eq_true, decide_eq_true_eq] at this
  exact ⟨this.1.1, fun p hp => of_decide_eq_true (List.all_eq_true.mp this.1.2 p hp), this.2⟩
theorem ch_mask {n k : Nat} {r : List Nat} (h7 : n ≤ 7) (hk : k ≤ n) (h : r ∈ chosenN n k) : maskN r < 2 ^ n ∧ cntM n (maskN r) = k ∧ ∀ p, p < n → (maskN r).testBit p = decide (p ∈ r) := by
  have c := List.all_eq_true.mp (mask_ok n (by omega) k (by omega)) r h
  simp only [Bool.and_eq_true, decide_eq_true_eq] at c
  exact ⟨c.1.1, c.1.2, fun p hp => of_decide_eq_true (List.all_eq_true.mp c.2 p (List.mem_range.mpr hp))⟩
theorem ln_of {n q m : Nat} {u v : List Nat} (h3 : 3 ≤ n) (h7 : n ≤ 7) (hq : q ≤ m) (hm : m ≤ n) (hu : u ∈ chosenN n q) (hv : v ∈ chosenN n m) : Ln n u v := by
  obtain ⟨-, -, cu⟩ := ch_all h7 (show q ≤ n by omega)
  obtain ⟨-, -, cv⟩ := ch_all h7 hm
  obtain ⟨m1, m2, m3⟩ := ch_mask h7 hm hv
  exact ⟨h3, h7, (cu u hu).2.1, (cv v hv).2.1, by rw [(cu u hu).1, (cv v hv).1]; exact hq, by rw [(cv v hv).1]; exact hm, m3, by rw [m2, (cv v hv).1], m1⟩
def intsN (r : List Nat) : List Int := r.map fun n : Nat => (n : Int)
theorem tp_tupI (r : List Nat) : tp r = tupI (intsN r) := by simp [tp, lets, tupI, intsN]
theorem ltL_lt : ∀ {a b : List Nat}, ltL a b = true → intsN a < intsN b
  | [], [], h => by simp [ltL] at h
  | [], _ :: _, _ => by simp [intsN]
  | _ :: _, [], h => by simp [ltL] at h
  | a :: as, b :: bs, h => by
    simp only [ltL, Bool.or_eq_true, Bool.and_eq_true, decide_eq_true_eq] at h
    show (a : Int) :: intsN as < (b : Int) :: intsN bs
    rw [List.cons_lt_cons_iff]
    rcases h with h | ⟨h, h2⟩
    · left; omega
    · right; exact ⟨by omega, ltL_lt h2⟩
theorem pw_of : ∀ {l : List (List Nat)}, pwB l = true → l.Pairwise fun a b => intsN a < intsN b
  | [], _ => List.Pairwise.nil
  | [a], _ => by simp
  | a :: b :: r, h => by
    simp only [pwB, Bool.and_eq_true] at h
    have ih := pw_of h.2
    refine List.pairwise_cons.mpr ⟨fun c hc => ?_, ih⟩
    rcases List.mem_cons.mp hc with rfl | hc
    · exact ltL_lt h.1
    · exact List.lt_trans (ltL_lt h.1) ((List.pairwise_cons.mp ih).1 c hc)
theorem sort_ch {n k : Nat} (h7 : n ≤ 7) (hk : k ≤ n) : ((allN n k).map tp).mergeSort leD = (chosenN n k).map tp := by
  obtain ⟨p, w, -⟩ := ch_all h7 hk
  refine sort_is (p.symm.map tp) ?_
  rw [List.pairwise_map]
  refine (pw_of w).imp fun h => ?_
  rw [tp_tupI, tp_tupI]
  exact ltD_tupI h
theorem sortOk_tp {es : List (List Nat)} (hn : ∀ e ∈ es, e ≠ []) (h : es.length ≤ 200) : SortOk (es.map tp) := by
  rw [show es.map tp = (es.map intsN).map tupI by rw [List.map_map]; exact List.map_congr_left fun r _ => tp_tupI r]
  refine sortOk_tups (fun e he => ?_) (by simpa using (by omega : es.length ≤ 16777216))
  obtain ⟨r, hr, rfl⟩ := List.mem_map.mp he
  intro z
  exact hn r hr (List.map_eq_nil_iff.mp z)
theorem all_0 : ∀ n, n < 8 → allN n 0 = [[]] := by decide +kernel
theorem all_len : ∀ n, n < 8 → ∀ k, k < n + 1 → (allN n k).length < 36 := by decide +kernel
theorem sortOk_one : SortOk [tp []] := by
  refine ⟨rfl, ?_, .inr rfl, fun d hd => ?_, by decide⟩
  · exact PySem.W.AllAlike.of (bs := [()]) (enc := fun _ => toPy (tp [])) fun _ _ => by rw [tp_tupI, toPy_tupI]; simp [PySem.W.alike, PySem.W.alike_ints]
  · rw [List.mem_singleton.mp hd]; decide
theorem sortOk_all {n k : Nat} (h7 : n ≤ 7) (hk : k ≤ n) : SortOk ((allN n k).map tp) := by
  by_cases k0 : k = 0
  · subst k0
    rw [all_0 n (by omega)]
    exact sortOk_one
  · have l := all_len n (by omega) k (by omega)
    refine sortOk_tp (fun e he z => ?_) (by omega)
    unfold allN at he
    have := (List.mem_filter.mp he).2
    rw [decide_eq_true_eq, z] at this
    exact k0 this.symm
theorem shl_ok : ∀ n : Nat, n ≤ 7 → dShl (.int 1) (.int (n : Int)) = some (.int ((2 ^ n : Nat) : Int)) := by
  intro n hn
  have : n = 0 ∨ n = 1 ∨ n = 2 ∨ n = 3 ∨ n = 4 ∨ n = 5 ∨ n = 6 ∨ n = 7 := by omega
  rcases this with rfl | rfl | rfl | rfl | rfl | rfl | rfl | rfl <;> rfl
theorem bit_ok : ∀ x : Nat, x < 128 → ∀ c : Nat, c < 7 → decide (Builtin.bitAnd ((x : Int) / 2 ^ ((c : Int)).toNat) 1 = 1) = x.testBit c := by decide +kernel
def bitP (x : Nat) : D → Bool
  | .int c => x.testBit c.toNat
  | _ => false
theorem filter_mapL {α β : Type} (f : α → β) (p : β → Bool) : ∀ l : List α, (l.map f).filter p = (l.filter fun a => p (f a)).map f
  | [] => rfl
  | a :: l => by
    simp only [List.map_cons, List.filter_cons, filter_mapL f p l]
    split <;> simp
theorem bits_comp (n x : Nat) : ((rngD 0 1 n).filter (bitP x)).map (fun d => d) = lets (bitsN n x) := by
  have e : rngD 0 1 n = (List.range n).map fun k : Nat => D.int (k : Int) := by
    unfold rngD
    refine List.map_congr_left fun k _ => ?_
    congr 1
    omega
  rw [List.map_id', e, filter_mapL]
  unfold lets bitsN
  congr 1
theorem all_take (n k i : Nat) : ((List.range (i + 1)).map (bitsN n)).filter (fun r => decide (r.length = k)) = ((List.range i).map (bitsN n)).filter (fun r => decide (r.length = k)) ++ if (bitsN n i).length = k then [bitsN n i] else [] := by
  rw [List.range_succ, List.map_append, List.filter_append]
  congr 1
  simp only [List.map_cons, List.map_nil, List.filter_cons, List.filter_nil, decide_eq_true_eq]
theorem law_all_ok {n k : Nat} {s : S} (h3 : 3 ≤ n) (h7 : n ≤ 7) (hk : k ≤ n) : wp (D__law_all [.int (n : Int), .int (k : Int)] s) (fun a s' => a = .lst ((chosenN n k).map tp) ∧ s' = s) fun _ _ => False := by
  unfold D__law_all
  walk_at "b"
  (try walk_at "d")
  have p7 : 2 ^ n ≤ 128 := Nat.le_trans (Nat.pow_le_pow_right (by decide) h7) (show 2 ^ 7 ≤ 128 by decide)
  obtain ⟨N, hN⟩ : ∃ N, N = 2 ^ n := ⟨_, rfl⟩
  have sh := shl_ok n h7
  rw [← hN] at sh p7
  refine ⟨_, sh, _, rfl, by omega, ?_⟩
  rw [Int.toNat_natCast]
  refine wpl_n (fun i => [(2, .own ((((List.range i).map (bitsN n)).filter fun r => decide (r.length = k)).map tp))]) rfl (fun i d hd => ?_) ?_
  · obtain ⟨hi, rfl⟩ := rng0 hd
    refine ⟨_, rfl, ?_⟩
    walk_at "u"
    (try walk_at "d")
    refine ⟨by omega, ?_⟩
    rw [Int.toNat_natCast]
    refine wpk_of (by rw [rngD_len]; omega) (comp_filter (bitP i) (fun d => d) fun d hd => ?_) ?_
    · obtain ⟨c, hc⟩ := List.getElem?_of_mem hd
      obtain ⟨hc, rfl⟩ := rng0 hc
      refine ⟨_, rfl, ?_, fun _ => ?_⟩
      · walk_at "u"
        (try walk_at "d")
        refine ⟨.int ((i : Int) / 2 ^ ((c : Int)).toNat), ?_, ?_⟩
        · show (if (0 : Int) ≤ (c : Int) then some (D.int ((i : Int) / 2 ^ ((c : Int)).toNat)) else none) = _
          exact if_pos (by omega)
        · refine ⟨_, rfl, .bl (bitP i (.int (c : Int))), ?_, _, rfl, rfl⟩
          have := bit_ok i (by omega) c (by omega)
          show some (D.bl (eqB (.int (Builtin.bitAnd ((i : Int) / 2 ^ ((c : Int)).toNat) 1)) (.int 1))) = _
          rw [show bitP i (.int (c : Int)) = i.testBit c by simp [bitP], ← this]
          congr 2
      · walk_at "u"
        (try walk_at "d")
    rintro _ _ ⟨rfl, rfl⟩
    rename_i s'
    (try walk_at "d")
    rw [bits_comp]
    rw [lets_len, all_take]
    have bl : (((List.range i).map (bitsN n)).filter fun r => decide (r.length = k)).length ≤ i := Nat.le_trans (List.length_filter_le _ _) (by simp)
    by_cases e : (bitsN n i).length = k
    · rw [if_pos (by omega), if_pos e, List.map_append]
      exact ⟨by rw [List.length_map]; omega, rfl⟩
    · rw [if_neg (by omega), if_neg e, List.append_nil]
  · walk_at "u"
    (try walk_at "d")
    rw [rngD_len, hN]
    have e : ((List.range (2 ^ n)).map (bitsN n)).filter (fun r => decide (r.length = k)) = allN n k := rfl
    rw [e]
    refine ⟨_, ?_, rfl⟩
    rw [← sort_ch h7 hk]
    exact if_pos (sortOk_all h7 hk)
/-! ### lines -/
def linesN (n q m : Nat) : List (List Nat × List Nat) := (chosenN n q).flatMap fun u => (chosenN n m).map fun v => (u, v)
def lnD (x : List Nat × List Nat) : D := .tup [tp x.1, tp x.2]
theorem lines_ln {n q m : Nat} (h3 : 3 ≤ n) (h7 : n ≤ 7) (hq : q ≤ m) (hm : m ≤ n) : ∀ x ∈ linesN n q m, Ln n x.1 x.2 := fun x hx => by
  obtain ⟨u, hu, h⟩ := List.mem_flatMap.mp hx
  obtain ⟨v, hv, rfl⟩ := List.mem_map.mp h
  exact ln_of h3 h7 hq hm hu hv
theorem ch_len : ∀ n, n < 8 → ∀ k, k < n + 1 → 0 < (chosenN n k).length ∧ (chosenN n k).length < 36 := by decide +kernel
theorem flat_len {α : Type} {a : List α} {b : Nat} {f : α → List D} (h : ∀ x, (f x).length = b) : (a.flatMap f).length = a.length * b := by
  induction a with
  | nil => simp
  | cons x a ih => rw [List.flatMap_cons, List.length_append, ih, h, List.length_cons, Nat.succ_mul, Nat.add_comm]
theorem flat_take {α : Type} {f : α → List D} {as : List α} {i : Nat} {a : α} (h : as[i]? = some a) : (as.take (i + 1)).flatMap f = (as.take i).flatMap f ++ f a := by
  rw [List.take_succ, h, Option.toList_some, List.flatMap_append]; simp
theorem lines_map {n q m : Nat} : (linesN n q m).map lnD = (chosenN n q).flatMap fun u => (chosenN n m).map fun v => lnD (u, v) := by
  unfold linesN
  rw [List.map_flatMap]
  congr 1
  funext u
  rw [List.map_map]; rfl
theorem tp_get {rs : List (List Nat)} {i : Nat} {d : D} (h : (rs.map tp)[i]? = some d) : ∃ r, rs[i]? = some r ∧ d = tp r := by
  rw [List.getElem?_map] at h
  obtain ⟨r, hr, rfl⟩ := Option.map_eq_some_iff.mp h
  exact ⟨r, hr, rfl⟩
theorem all_lines_ok {n q l : Nat} {on : D} {s : S} (h3 : 3 ≤ n) (h7 : n ≤ 7) (hl : q + l ≤ n) : wp (D_all_lines [ringD n q l on] s) (fun a s' => a = .lst ((linesN n q (q + l)).map lnD) ∧ s' = s) fun _ _ => False := by
  have c1 := ch_len n (by omega) q (by omega)
  have c2 := ch_len n (by omega) (q + l) (by omega)
  unfold D_all_lines ringD
  walk_at "b"
  (try walk_at "d")
  rw [show (q : Int) + (l : Int) = ((q + l : Nat) : Int) by omega]
  refine wpc_of (chosen_ok h3 h7 hl) ?_
  rintro _ _ ⟨rfl, rfl⟩
  rename_i s
  (try walk_at "d")
  refine wpc_of (chosen_ok h3 h7 (by omega)) ?_
  rintro _ _ ⟨rfl, rfl⟩
  rename_i s
  (try walk_at "d")
  refine wpl_n (fun i => [(6, .own (((chosenN n q).take i).flatMap fun u => (chosenN n (q + l)).map fun v => lnD (u, v)))]) rfl (fun i d hd => ?_) ?_
  · obtain ⟨u, hu, rfl⟩ := tp_get hd
    have il := (List.getElem?_eq_some_iff.mp hu).1
    refine ⟨_, rfl, ?_⟩
    walk_at "u"
    (try walk_at "d")
    have bl : (((chosenN n q).take i).flatMap fun u => (chosenN n (q + l)).map fun v => lnD (u, v)).length ≤ 36 * 36 := by
      rw [flat_len (b := (chosenN n (q + l)).length) fun u => by rw [List.length_map]]
      exact Nat.mul_le_mul (by rw [List.length_take]; omega) (by omega)
    refine wpk_of (by rw [List.length_map]; omega) (comp_map (fun d => .tup [tp u, d]) fun d hd => ?_) ?_
    · exact ⟨_, rfl, by walk_at "d", by
        walk_at "u"
        walk_at "d"⟩
    rintro _ _ ⟨rfl, rfl⟩
    rw [List.map_map]
    refine ⟨_, rfl, by rw [List.length_map]; omega, ?_⟩
    walk_at "u"
    (try walk_at "d")
    rw [flat_take hu]
    rfl
  · walk_at "u"
    (try walk_at "d")
    rw [List.length_map, List.take_length, lines_map]
theorem law_lines_ok {n q l : Nat} {on : D} {s : S} (h3 : 3 ≤ n) (h7 : n ≤ 7) (hl : q + l ≤ n) : wp (D__law_lines [ringD n q l on] s) (fun a s' => a = .lst ((linesN n q (q + l)).map lnD) ∧ s' = s) fun _ _ => False := by
  have c1 := ch_len n (by omega) q (by omega)
  have c2 := ch_len n (by omega) (q + l) (by omega)
  unfold D__law_lines ringD
  walk_at "b"
  (try walk_at "d")
  refine wpc_of (law_all_ok h3 h7 (by omega)) ?_
  rintro _ _ ⟨rfl, rfl⟩
  rename_i s
  (try walk_at "d")
  refine wpl_n (fun i => [(1, .dat (.lst (((chosenN n q).take i).flatMap fun u => (chosenN n (q + l)).map fun v => lnD (u, v))))]) rfl (fun i d hd => ?_) ?_
  · obtain ⟨u, hu, rfl⟩ := tp_get hd
    have il := (List.getElem?_eq_some_iff.mp hu).1
    refine ⟨_, rfl, ?_⟩
    walk_at "u"
    (try walk_at "d")
    have bl : (((chosenN n q).take i).flatMap fun u => (chosenN n (q + l)).map fun v => lnD (u, v)).length ≤ 36 * 36 := by
      rw [flat_len (b := (chosenN n (q + l)).length) fun u => by rw [List.length_map]]
      exact Nat.mul_le_mul (by rw [List.length_take]; omega) (by omega)
    rw [show (q : Int) + (l : Int) = ((q + l : Nat) : Int) by omega]
    refine wpc_of (law_all_ok h3 h7 hl) ?_
    rintro _ _ ⟨rfl, rfl⟩
    (try walk_at "d")
    refine wpk_of (by rw [List.length_map]; omega) (comp_map (fun d => .tup [tp u, d]) fun d hd => ?_) ?_
    · exact ⟨_, rfl, by walk_at "d", by
        walk_at "u"
        walk_at "d"⟩
    rintro _ _ ⟨rfl, rfl⟩
    rw [List.map_map]
    (try walk_at "d")
    rw [flat_take hu]
    rw [List.length_map]
    exact ⟨by omega, rfl⟩
  · walk_at "u"
    (try walk_at "d")
    rw [List.length_map, List.take_length, lines_map]
/-! ### lines for a stand -/
def stB (n : Nat) (x : List Nat × List Nat) : List Int := (List.range n).map fun i => if (runM n x.1 (maskN x.2)).testBit i = true then 2 else if i ∈ x.2 then 1 else 0
theorem stand_tup {n : Nat} {x : List Nat × List Nat} : stand n x.1 x.2 = tupI (stB n x) := by
  unfold stand stN tupI stB
  rw [List.map_map]
  rfl
def forN (n q m : Nat) (t : List Int) : List (List Nat × List Nat) := (linesN n q m).filter fun x => decide (stB n x = t)
def lineP (n : Nat) (t : List Int) : D → Bool
  | .tup [.tup u, .tup v] => decide (stB n (u.map fun d => match d with
    | .int i => i.toNat
    | _ => 0, v.map fun d => match d with
    | .int i => i.toNat
    | _ => 0) = t)
  | _ => false
theorem back_lets (r : List Nat) : (lets r).map (fun d => match d with
    | .int i => i.toNat
    | _ => 0) = r := by
  unfold lets
  rw [List.map_map]
  exact (List.map_congr_left fun z _ => by simp).trans (List.map_id r)
theorem lineP_ln {n : Nat} {t : List Int} (x : List Nat × List Nat) : lineP n t (lnD x) = decide (stB n x = t) := by
  show decide (stB n ((lets x.1).map _, (lets x.2).map _) = t) = _
  rw [back_lets, back_lets]
theorem filter_ln {n : Nat} {t : List Int} (ls : List (List Nat × List Nat)) : ((ls.map lnD).filter (lineP n t)).map (fun d => d) = (ls.filter fun x => decide (stB n x = t)).map lnD := by
  rw [List.map_id', filter_mapL]
  congr 1
  exact List.filter_congr fun x _ => lineP_ln x
theorem linesN_len {n q m : Nat} (h7 : n ≤ 7) (hq : q ≤ n) (hm : m ≤ n) : (linesN n q m).length ≤ 36 * 36 := by
  have c1 := ch_len n (by omega) q (by omega)
  have c2 := ch_len n (by omega) m (by omega)
  have e : ((linesN n q m).map lnD).length = (chosenN n q).length * (chosenN n m).length := by
    rw [lines_map]
    exact flat_len fun u => by rw [List.length_map]
  rw [List.length_map] at e
  rw [e]
  exact Nat.mul_le_mul (by omega) (by omega)
theorem lines_for_ok {n q l : Nat} {on : D} {t : List Int} {s : S} (h3 : 3 ≤ n) (h7 : n ≤ 7) (hl : q + l ≤ n) : wp (D_lines_for [ringD n q l on, tupI t] s) (fun a s' => a = .lst ((forN n q (q + l) t).map lnD) ∧ s' = s) fun _ _ => False := by
  have ll := linesN_len h7 (show q ≤ n by omega) hl
  unfold D_lines_for
  walk_at "b"
  (try walk_at "d")
  refine wpc_of (all_lines_ok h3 h7 hl) ?_
  rintro _ _ ⟨rfl, rfl⟩
  rename_i s
  (try walk_at "d")
  refine wpk_of (by rw [List.length_map]; omega) (comp_filter (lineP n t) (fun d => d) fun d hd => ?_) ?_
  · obtain ⟨x, hx, rfl⟩ := List.mem_map.mp hd
    refine ⟨_, rfl, ?_, fun _ => ?_⟩
    · walk_at "u"
      (try walk_at "d")
      refine wpc_of (line_stand_ok (lines_ln h3 h7 (by omega) hl x hx)) ?_
      rintro _ _ ⟨rfl, rfl⟩
      rw [show D.tup (stN n x.2 (runM n x.1 (maskN x.2))) = tupI (stB n x) from stand_tup]
      (try walk_at "d")
      refine ⟨_, eq_tupI _ _, _, rfl, (lineP_ln x).symm⟩
    · walk_at "u"
      (try walk_at "d")
  rintro _ _ ⟨rfl, rfl⟩
  rw [filter_ln]
  exact ⟨rfl, rfl⟩
/-- whole numbers, rising, above the last, below the cells -/
def plB (c : Int) : Int → List D → Bool
  | _, [] => true
  | last, .int i :: r => decide (last < i) && decide (i < c) && plB c i r
  | _, _ :: _ => false
def placesB (c m : Int) : D → Bool
  | .tup xs => decide ((xs.length : Int) = m) && plB c (-1) xs
  | _ => false
def okP (c : Int) (d : D) : Prop := ∃ i, d = .int i ∧ 0 ≤ i ∧ i < c
def inP : D → Bool
  | .tup [.int a, .int b] => decide (a < b)
  | _ => false
theorem plB_mem {c : Int} : ∀ {xs : List D} {l : Int}, -1 ≤ l → plB c l xs = true → ∀ d ∈ xs, okP c d
  | [], _, _, _, d, hd => by cases hd
  | .int i :: r, l, hl, h, d, hd => by
    simp only [plB, Bool.and_eq_true, decide_eq_true_eq] at h
    rcases List.mem_cons.mp hd with rfl | hd
    · exact ⟨i, rfl, by omega, h.1.2⟩
    · exact plB_mem (by omega) h.2 d hd
  | .non :: r, l, hl, h, d, hd => by simp [plB] at h
  | .bl _ :: r, l, hl, h, d, hd => by simp [plB] at h
  | .str _ :: r, l, hl, h, d, hd => by simp [plB] at h
  | .tup _ :: r, l, hl, h, d, hd => by simp [plB] at h
  | .lst _ :: r, l, hl, h, d, hd => by simp [plB] at h
  | .frz _ :: r, l, hl, h, d, hd => by simp [plB] at h
  | .dct _ :: r, l, hl, h, d, hd => by simp [plB] at h
  | .tok _ :: r, l, hl, h, d, hd => by simp [plB] at h
  | .ty _ :: r, l, hl, h, d, hd => by simp [plB] at h
  | .glb _ :: r, l, hl, h, d, hd => by simp [plB] at h
  | .ktp _ :: r, l, hl, h, d, hd => by simp [plB] at h
  | .exc _ :: r, l, hl, h, d, hd => by simp [plB] at h
theorem plB_chain {c : Int} : ∀ {xs : List D} {l : Int}, (∀ d ∈ xs, okP c d) → (∀ i, xs.head? = some (.int i) → l < i) → ((zipD xs (xs.drop 1)).all inP) = plB c l xs
  | [], _, _, _ => rfl
  | [d], l, h, hh => by
    obtain ⟨i, rfl, h0, h1⟩ := h d (by simp)
    have := hh i rfl
    simp [zipD, plB, h1, this]
  | d :: e :: r, l, h, hh => by
    obtain ⟨i, rfl, h0, h1⟩ := h d (by simp)
    obtain ⟨j, rfl, h2, h3⟩ := h e (by simp)
    have hi := hh i rfl
    by_cases hij : i < j
    · have ih := plB_chain (c := c) (xs := D.int j :: r) (l := i) (fun d hd => h d (List.mem_cons_of_mem _ hd)) (fun k hk => by simp at hk; omega)
      have ez : zipD (D.int i :: D.int j :: r) ((D.int i :: D.int j :: r).drop 1) = .tup [.int i, .int j] :: zipD (D.int j :: r) ((D.int j :: r).drop 1) := rfl
      rw [ez, List.all_cons, ih]
      simp [inP, hij, plB, hi, h1, h3]
    · have ez : zipD (D.int i :: D.int j :: r) ((D.int i :: D.int j :: r).drop 1) = .tup [.int i, .int j] :: zipD (D.int j :: r) ((D.int j :: r).drop 1) := rfl
      rw [ez, List.all_cons]
      simp [inP, hij, plB]
theorem is_places_ok {d : D} {c m : Int} {s : S} (h : pd d = true) (hl : ∀ xs, d = .tup xs → xs.length ≤ 16777216) : wp (D_is_places [d, .int c, .int m] s) (fun a s' => a = .bl (placesB c m d) ∧ s' = s) fun _ _ => False := by
  unfold D_is_places
  walk_at "b"
  cases d with
  | tup xs =>
    have hl' := hl xs rfl
    walk_at "d"
    refine ite2 (fun e => ?_) (fun e => ?_)
    · simp [placesB, e]
    · have e' : (xs.length : Int) = m := by omega
      have bad : ∀ d ∈ xs, ¬ okP c d → placesB c m (.tup xs) = false := fun d hd hn => by
        unfold placesB
        cases hp : plB c (-1) xs with
        | false =>
          show (decide ((xs.length : Int) = m) && plB c (-1) xs) = false
          rw [hp, Bool.and_false]
        | true => exact absurd (plB_mem (by omega) hp d hd) hn
      refine wpl_s (fun _ => []) (fun i s' => s' = s ∧ ∀ d ∈ xs.take i, okP c d) rfl ⟨rfl, by simp⟩ (fun i d s' hd ⟨es, hp⟩ => ?_) (fun s' ⟨es, hp⟩ => ?_)
      · subst es
        have hm := List.mem_of_getElem? hd
        have hpd := pd_tup' h d hm
        refine ⟨_, rfl, ?_⟩
        walk_at "u"
        have step : okP c d → ∀ e ∈ xs.take (i + 1), okP c e := fun ok e he => by
          rw [List.take_succ, hd] at he
          rcases List.mem_append.mp he with he | he
          · exact hp e he
          · simp at he
            rw [he]
            exact ok
        cases d with
        | int j =>
          walk_at "d"
          refine ite2 (fun e1 => ?_) (fun e1 => ?_)
          · refine ite2 (fun e2 => ?_) (fun e2 => ?_)
            · exact congrArg D.bl (bad _ hm (by rintro ⟨j', ej, h0, h1⟩; cases ej; omega)).symm
            · exact step ⟨j, rfl, e1, by omega⟩
          · exact congrArg D.bl (bad _ hm (by rintro ⟨j', ej, h0, h1⟩; cases ej; omega)).symm
        | tok n => simp [pd] at hpd
        | ty n => simp [pd] at hpd
        | glb n => simp [pd] at hpd
        | ktp n => simp [pd] at hpd
        | exc n => simp [pd] at hpd
        | _ =>
          walk_at "d"
          exact congrArg D.bl (bad _ hm (by rintro ⟨j', ej, h0, h1⟩; cases ej)).symm
      · subst es
        rw [List.take_length] at hp
        walk_at "u"
        walk_at "d"
        rw [cut_drop (by decide), show Int.toNat 1 = 1 from rfl]
        refine wpk_of (by rw [zipD_len]; omega) (comp_map (fun d => .bl (inP d)) fun d hd => ?_) ?_
        · obtain ⟨i, hi⟩ := List.getElem?_of_mem hd
          have hi' : i < (zipD xs (xs.drop 1)).length := (List.getElem?_eq_some_iff.mp hi).1
          rw [zipD_len, List.length_drop] at hi'
          obtain ⟨x1, g1⟩ : ∃ x, xs[i]? = some x := ⟨_, List.getElem?_eq_getElem (by omega)⟩
          obtain ⟨x2, g2⟩ : ∃ x, (xs.drop 1)[i]? = some x := ⟨_, List.getElem?_eq_getElem (by simp; omega)⟩
          rw [zipD_get g1 g2] at hi
          obtain ⟨a, ea, _⟩ := hp x1 (List.mem_of_getElem? g1)
          obtain ⟨b, eb, _⟩ := hp x2 (List.mem_of_mem_drop (List.mem_of_getElem? g2))
          rw [ea, eb] at hi
          cases hi
          refine ⟨_, rfl, by walk_at "d", ?_⟩
          walk_at "u"
          walk_at "d"
          rfl
        rintro _ _ ⟨rfl, rfl⟩
        walk_at "d"
        rw [blsOf_map]
        walk_at "d"
        rw [all_map_id, plB_chain (c := c) (l := -1) hp (fun i hi => by
          obtain ⟨j, ej, h0, _⟩ := hp _ (List.mem_of_mem_head? hi)
          cases ej
          omega)]
        simp [placesB, e']
  | tok n => simp [pd] at h
  | ty n => simp [pd] at h
  | glb n => simp [pd] at h
  | ktp n => simp [pd] at h
  | exc n => simp [pd] at h
  | _ => walk_at "d"; rfl
def lineB (c q l : Int) : D → Bool
  | .tup [a, b] => placesB c q a && placesB c (q + l) b
  | _ => false
theorem lineB_len {c q l : Int} {xs : List D} (h : (xs.length : Int) ≠ 2) : lineB c q l (.tup xs) = false := by
  match xs, h with
  | [], _ => rfl
  | [_], _ => rfl
  | [_, _], h => exact absurd rfl h
  | _ :: _ :: _ :: _, _ => rfl
theorem th_tlen {n w : Nat} {d : D} (h : Thing 1920 n w d) (hw : w ≤ 16777216) : ∀ xs, d = .tup xs → xs.length ≤ 16777216 := fun xs e => by
  subst e
  have := th_len h
  omega
theorem is_line_ok {d on : D} {c q l : Int} {n w : Nat} {s : S} (h : Thing 1920 n w d) (hw : w ≤ 16777216) : wp (D_is_line [.tup [.int c, .int q, .int l, on], d] s) (fun a s' => a = .bl (lineB c q l d) ∧ s' = s) fun _ _ => False := by
  have hp := h.pl
  unfold D_is_line
  walk_at "b"
  cases d with
  | tup xs =>
    walk_at "d"
    refine ite2 (fun e => ?_) (fun e => ?_)
    · simp [lineB_len e]
    · obtain ⟨a, b, rfl⟩ := two_of (xs := xs) (by omega)
      have ha := th_part h a (by simp)
      have hb := th_part h b (by simp)
      walk_at "d"
      refine wpc_of (is_places_ok ha.pl (th_tlen ha hw)) ?_
      rintro _ _ ⟨rfl, rfl⟩
      walk_at "d"
      cases hq : placesB c q a with
      | false => simp [lineB, hq]
      | true =>
        simp only [if_true]
        refine wpc_of (is_places_ok hb.pl (th_tlen hb hw)) ?_
        rintro _ _ ⟨rfl, rfl⟩
        simp [lineB, hq]
  | tok n => simp [pd] at hp
  | ty n => simp [pd] at hp
  | glb n => simp [pd] at hp
  | ktp n => simp [pd] at hp
  | exc n => simp [pd] at hp
  | _ => walk_at "d"; rfl
/-- so many places, rising -/
structure PL (c m : Int) (ns : List Int) : Prop where
  len : (ns.length : Int) = m
  pw : ns.Pairwise (· < ·)
  rg : ∀ x ∈ ns, 0 ≤ x ∧ x < c
theorem plB_pw {c : Int} : ∀ {ns : List Int} {l : Int}, ns.Pairwise (· < ·) → (∀ x ∈ ns, l < x ∧ x < c) → plB c l (ns.map .int) = true
  | [], _, _, _ => rfl
  | n :: ns, l, h, hr => by
    obtain ⟨h1, h2⟩ := List.pairwise_cons.mp h
    obtain ⟨r1, r2⟩ := hr n (by simp)
    have ih := plB_pw (c := c) (l := n) h2 fun x hx => ⟨h1 x hx, (hr x (List.mem_cons_of_mem _ hx)).2⟩
    show (decide (l < n) && decide (n < c) && plB c n (ns.map .int)) = true
    rw [ih]
    simp [r1, r2]
theorem PL.is {c m : Int} {ns : List Int} (h : PL c m ns) : placesB c m (.tup (ns.map .int)) = true := by
  have e : (((ns.map D.int).length : Nat) : Int) = m := by rw [List.length_map]; exact h.len
  show (decide ((((ns.map D.int).length : Nat) : Int) = m) && plB c (-1) (ns.map .int)) = true
  rw [plB_pw h.pw fun x hx => ⟨by have := (h.rg x hx).1; omega, (h.rg x hx).2⟩]
  simpa using e
theorem p99 : (2 : Int) ^ 99 = 633825300114114700748351602688 := by decide
/-- a ring of two kinds -/
def IsRing (m : Int) (a : D) : Prop := ∃ (c q l : Int) (on : D), a = .tup [.int c, .int q, .int l, on] ∧ 3 ≤ c ∧ c ≤ m ∧ 0 ≤ q ∧ 0 ≤ l ∧ q + l ≤ c
theorem ring_ok {m k : Int} {r s : S} (h3 : 3 ≤ m) (hm : m ≤ 7) (hk : k < 2 ^ 99) (h : Pen k r s) : wp (D__law_ring [.tok 1, .int 3, .int m] s) (PenD (IsRing m) (k + 20) r) fun _ _ => False := by
  rw [p99] at hk
  unfold D__law_ring
  walk_at "b"
  walk_at "d"
  refine wpc_of (draw_ok (by decide) (by decide) (by rw [p200]; omega) h) ?_
  rintro _ s1 ⟨w, rfl, w0, w1, h1⟩
  walk_at "d"
  refine wpc_of (draw_ok (by decide) (by decide) (by rw [p200]; omega) h1) ?_
  rintro _ s2 ⟨e, rfl, e0, e1, h2⟩
  walk_at "d"
  refine wpc_of (draw_ok (by omega) (by omega) (by rw [p200]; omega) h2) ?_
  rintro _ s3 ⟨n, rfl, n0, n1, h3'⟩
  walk_at "d"
  refine at_allD (P := fun x => ∃ c : Int, x = .int c ∧ 3 ≤ c ∧ c ≤ m) ?_ w0 (by simpa using w1) ?_
  · simp only [List.forall_mem_cons, List.not_mem_nil, false_implies, implies_true, and_true]
    exact ⟨⟨_, rfl, by omega, by omega⟩, ⟨_, rfl, by omega, by omega⟩, ⟨_, rfl, by omega, by omega⟩, ⟨_, rfl, by omega, by omega⟩⟩
  rintro _ ⟨c, rfl, c0, c1⟩
  walk_at "d"
  refine wpc_of (draw_ok (by omega) (by omega) (by rw [p200]; omega) h3') ?_
  rintro _ s4 ⟨q, rfl, q0, q1, h4⟩
  walk_at "d"
  refine wpc_of (draw_ok (by omega) (by omega) (by rw [p200]; omega) h4) ?_
  rintro _ s5 ⟨l, rfl, l0, l1, h5⟩
  walk_at "d"
  refine wpc_of (draw_ok (by decide) (by decide) (by rw [p200]; omega) h5) ?_
  rintro _ s6 ⟨b, rfl, b0, b1, h6⟩
  walk_at "d"
  refine wpc_of (draw_ok (by omega) (by omega) (by rw [p200]; omega) h6) ?_
  rintro _ s7 ⟨t, rfl, t0, t1, h7⟩
  walk_at "d"
  refine wpc_of (lowest_ok (by omega) (by omega) (bd_mono (bd_int 8 (by omega) (by omega)) (by decide))) ?_
  rintro _ _ ⟨rfl, rfl⟩
  walk_at "d"
  refine at_allD (P := fun x => ∃ q l : Int, x = .tup [.int q, .int l] ∧ 0 ≤ q ∧ 0 ≤ l ∧ q + l ≤ c) ?_ e0 (by simpa using e1) ?_
  · simp only [List.forall_mem_cons, List.not_mem_nil, false_implies, implies_true, and_true]
    exact ⟨⟨_, _, rfl, by omega, by omega, by omega⟩, ⟨_, _, rfl, by omega, by omega, by omega⟩, ⟨_, _, rfl, by omega, by omega, by omega⟩, ⟨_, _, rfl, by omega, by omega, by omega⟩, ⟨_, _, rfl, by omega, by omega, by omega⟩⟩
  rintro _ ⟨q', l', rfl, x0, x1, x2⟩
  walk_at "d"
  exact ⟨⟨c, q', l', _, rfl, c0, c1, x0, x1, x2⟩, pen_mono h7 (by omega)⟩
theorem line_is {c q l : Int} {us ls : List Int} (hu : PL c q us) (hl : PL c (q + l) ls) : lineB c q l (.tup [.tup (us.map .int), .tup (ls.map .int)]) = true := by
  show (placesB c q _ && placesB c (q + l) _) = true
  rw [hu.is, hl.is]; rfl
theorem row_th {c : Int} {ns : List Int} (hr : ∀ x ∈ ns, 0 ≤ x ∧ x < c) (hc : c ≤ 20) (hl : ns.length ≤ 8) : Thing 1920 1 1000 (.tup (ns.map D.int)) := (th_tup (m := 8) (n := 0) (w := 66) (fun x hx => by
      obtain ⟨i, hi, rfl⟩ := List.mem_map.mp hx
      have := hr i hi
      exact th_lit (by omega) (by decide)) (by simpa using hl)).mono (by decide) (by decide)

/-! ### the look -/
theorem ups_pw : ∀ {r : List Nat}, ups r = true → (intsN r).Pairwise (· < ·)
  | [], _ => List.Pairwise.nil
  | [a], _ => by simp [intsN]
  | a :: b :: r, h => by
    simp only [ups, Bool.and_eq_true, decide_eq_true_eq] at h
    have ih := ups_pw h.2
    refine List.pairwise_cons.mpr ⟨fun c hc => ?_, ih⟩
    have hab : (a : Int) < (b : Int) := by omega
    rcases List.mem_cons.mp hc with rfl | hc
    · exact hab
    · exact Int.lt_trans hab ((List.pairwise_cons.mp ih).1 c hc)
theorem pl_of {n k : Nat} {r : List Nat} (h7 : n ≤ 7) (hk : k ≤ n) (h : r ∈ chosenN n k) : PL (n : Int) (k : Int) (intsN r) := by
  obtain ⟨-, -, c⟩ := ch_all h7 hk
  obtain ⟨c1, c2, c3⟩ := c r h
  refine ⟨by simp [intsN, c1], ups_pw c3, fun x hx => ?_⟩
  obtain ⟨p, hp, rfl⟩ := List.mem_map.mp hx
  have := c2 p hp
  omega
theorem ln_th {n q m : Nat} (h7 : n ≤ 7) (hq : q ≤ n) (hm : m ≤ n) {x : List Nat × List Nat} (h : x ∈ linesN n q m) : Thing 1920 2 3000 (lnD x) := by
  obtain ⟨u, hu, hx⟩ := List.mem_flatMap.mp h
  obtain ⟨v, hv, rfl⟩ := List.mem_map.mp hx
  have a := pl_of h7 hq hu
  have b := pl_of h7 hm hv
  have ta : Thing 1920 1 1000 (tp u) := by
    rw [tp_tupI]
    exact row_th (c := n) a.rg (by omega) (by have := a.len; omega)
  have tb : Thing 1920 1 1000 (tp v) := by
    rw [tp_tupI]
    exact row_th (c := n) b.rg (by omega) (by have := b.len; omega)
  exact (th_tup (m := 2) (n := 1) (w := 1000) (fun y hy => by
    rcases List.mem_cons.mp hy with rfl | hy
    · exact ta
    · rw [List.mem_singleton.mp hy]; exact tb) (by simp)).mono (by decide) (by decide)
theorem is_line_yes {n q l : Nat} {on : D} {x : List Nat × List Nat} {s : S} (h7 : n ≤ 7) (hl : q + l ≤ n) (h : x ∈ linesN n q (q + l)) : wp (D_is_line [ringD n q l on, lnD x] s) (fun a s' => a = .bl true ∧ s' = s) fun _ _ => False := by
  have th := ln_th h7 (show q ≤ n by omega) hl h
  have w := is_line_ok (on := on) (c := n) (q := q) (l := l) (s := s) th (by decide)
  obtain ⟨u, hu, hx⟩ := List.mem_flatMap.mp h
  obtain ⟨v, hv, rfl⟩ := List.mem_map.mp hx
  have e : lineB (n : Int) (q : Int) (l : Int) (lnD (u, v)) = true := by
    unfold lnD
    rw [tp_tupI, tp_tupI]
    have b := pl_of h7 hl hv
    rw [show (((q + l : Nat)) : Int) = (q : Int) + (l : Int) by omega] at b
    exact line_is (pl_of h7 (by omega) hu) b
  rw [e] at w
  exact w
theorem okD_ln (x : List Nat × List Nat) : okD (lnD x) = true := by
  have a := ok_lets x.1
  have b := ok_lets x.2
  show (okD (tp x.1) && (okD (tp x.2) && true)) = true
  unfold tp
  rw [a, b]; rfl
theorem dep_ln (x : List Nat × List Nat) : (toPy (lnD x)).depth ≤ 62 := by
  have a : ∀ r : List Nat, (toPy (tp r)).depth ≤ 2 := fun r => by
    have := dep_all (xs := lets r) (m := 0) fun x hx => by
      obtain ⟨z, _, rfl⟩ := List.mem_map.mp hx
      simp [toPy, PyData.depth]
    simp [tp, toPy, PyData.depth]
    omega
  have := dep_all (xs := [tp x.1, tp x.2]) (m := 2) fun y hy => by
    rcases List.mem_cons.mp hy with rfl | hy
    · exact a _
    · rw [List.mem_singleton.mp hy]; exact a _
  simp [lnD, toPy, PyData.depth]
  omega
theorem right_ok {n q l : Nat} {on : D} {t : List Int} {s : S} (h3 : 3 ≤ n) (h7 : n ≤ 7) (hl : q + l ≤ n) (hne : ∃ x ∈ linesN n q (q + l), stB n x = t) : wp (D__law_right [ringD n q l on, .lst ((linesN n q (q + l)).map lnD), tupI t] s) (fun a s' => a = .bl true ∧ s' = s) fun _ _ => False := by
  have ll := linesN_len h7 (show q ≤ n by omega) hl
  unfold D__law_right
  walk_at "b"
  (try walk_at "d")
  have e0 : ∀ s : S, dIxT s (ringD n q l on) (.int 0) = some (.int (n : Int)) := fun _ => rfl
  refine wpk_of (by rw [List.length_map]; omega) (comp_filter (lineP n t) (fun d => d) fun d hd => ?_) ?_
  · obtain ⟨x, hx, rfl⟩ := List.mem_map.mp hd
    refine ⟨_, rfl, ?_, fun _ => ?_⟩
    · walk_at "u"
      (try walk_at "d")
      refine ⟨_, e0 _, ?_⟩
      refine wpc_of (lead_ok (lines_ln h3 h7 (by omega) hl x hx)) ?_
      rintro _ _ ⟨rfl, rfl⟩
      rw [stand_tup]
      (try walk_at "d")
      refine ⟨_, eq_tupI _ _, _, rfl, (lineP_ln x).symm⟩
    · walk_at "u"
      (try walk_at "d")
  rintro _ _ ⟨rfl, rfl⟩
  rename_i s
  rw [filter_ln, show (linesN n q (q + l)).filter (fun x => decide (stB n x = t)) = forN n q (q + l) t from rfl]
  (try walk_at "d")
  have fl : (forN n q (q + l) t).length ≤ 36 * 36 := Nat.le_trans (List.length_filter_le _ _) ll
  have fm : ∀ x ∈ forN n q (q + l) t, x ∈ linesN n q (q + l) ∧ stB n x = t := fun x hx => by
    unfold forN at hx
    obtain ⟨a, b⟩ := List.mem_filter.mp hx
    exact ⟨a, of_decide_eq_true b⟩
  have fth : Thing 1920 3 4000000 (.lst ((forN n q (q + l) t).map lnD)) := (th_lst (m := 1296) (n := 2) (w := 3000) (fun x hx => by
    obtain ⟨y, hy, rfl⟩ := List.mem_map.mp hx
    exact ln_th h7 (by omega) hl (fm y hy).1) (by rw [List.length_map]; exact fl)).mono (by decide) (by decide)
  refine ⟨by decide, ?_⟩
  refine wpl_n (fun _ => []) rfl (fun i d hd => ?_) ?_
  · obtain ⟨hi, rfl⟩ := rng0 hd
    refine ⟨_, rfl, ?_⟩
    walk_at "u"
    (try walk_at "d")
    refine wpc_of (lines_for_ok h3 h7 hl) ?_
    rintro _ _ ⟨rfl, rfl⟩
    (try walk_at "d")
    have rr : repD 1920 (.lst ((forN n q (q + l) t).map lnD)) = some (.str (toPy (.lst ((forN n q (q + l) t).map lnD))).shown) := th_rep fth (by decide) (by decide)
    rw [rp_any, rr]
    generalize (toPy (.lst ((forN n q (q + l) t).map lnD))).shown = st
    (try walk_at "d")
    refine wpk_of (by rw [List.length_map]; omega) (comp_map (fun _ => .bl true) fun d hd => ?_) ?_
    · obtain ⟨x, hx, rfl⟩ := List.mem_map.mp hd
      obtain ⟨hx1, hx2⟩ := fm x hx
      refine ⟨_, rfl, by walk_at "d", ?_⟩
      walk_at "u"
      (try walk_at "d")
      refine wpc_of (is_line_yes h7 hl hx1) ?_
      rintro _ _ ⟨rfl, rfl⟩
      (try walk_at "d")
      refine wpc_of (line_stand_ok (lines_ln h3 h7 (by omega) hl x hx1)) ?_
      rintro _ _ ⟨rfl, rfl⟩
      rw [show D.tup (stN n x.2 (runM n x.1 (maskN x.2))) = tupI (stB n x) from stand_tup]
      (try walk_at "d")
      rw [eq_tupI, hx2]
      simp
    rintro _ _ ⟨rfl, rfl⟩
    (try walk_at "d")
    refine ⟨_, blsOf_map (fun _ => true) _, ?_⟩
    rw [show (List.map (fun _ => true) ((forN n q (q + l) t).map lnD)).all id = true by simp, if_neg (by decide)]
    rw [List.length_reverse, List.length_map]
    omega
  · walk_at "u"
    (try walk_at "d")
    rw [ne_nil (rd_list (fun x hx => by
      obtain ⟨y, _, rfl⟩ := List.mem_map.mp hx
      exact okD_ln y) fun x hx => by
      obtain ⟨y, _, rfl⟩ := List.mem_map.mp hx
      exact dep_ln y)]
    refine ⟨_, rfl, ?_⟩
    obtain ⟨x, hx, e⟩ := hne
    have hm : x ∈ forN n q (q + l) t := List.mem_filter.mpr ⟨hx, decide_eq_true e⟩
    cases h : forN n q (q + l) t with
    | nil => rw [h] at hm; simp at hm
    | cons a r => rfl
/-! ### all stands of few cells -/
def countB (t : List Nat) (k : Nat) : Nat := (t.filter fun x => decide (x = k)).length
def rowsT : Nat → List (List Nat)
  | 0 => [[]]
  | n + 1 => (rowsT n).map (0 :: ·) ++ ((rowsT n).map (1 :: ·) ++ (rowsT n).map (2 :: ·))
def kindsN (n q l : Nat) : List (List Nat) := (rowsT n).filter fun t => decide (countB t 1 = q) && decide (countB t 2 = l)
theorem kinds_3 (s : S) (on : D) (q l : Nat) (h : q + l ≤ 3) : D_kind_stands [ringD 3 q l on] s = .ok (.lst ((kindsN 3 q l).map fun t => tupI (intsN t))) s :=
  match q, l, h with
  | 0, 0, _ => rfl
  | 0, 1, _ => rfl
  | 0, 2, _ => rfl
  | 0, 3, _ => rfl
  | 1, 0, _ => rfl
  | 1, 1, _ => rfl
  | 1, 2, _ => rfl
  | 2, 0, _ => rfl
  | 2, 1, _ => rfl
  | 3, 0, _ => rfl
  | 0, l + 4, h => absurd h (by omega)
  | 1, l + 3, h => absurd h (by omega)
  | 2, l + 2, h => absurd h (by omega)
  | 3, l + 1, h => absurd h (by omega)
  | q + 4, l, h => absurd h (by omega)
theorem kinds_4 (s : S) (on : D) (q l : Nat) (h : q + l ≤ 4) : D_kind_stands [ringD 4 q l on] s = .ok (.lst ((kindsN 4 q l).map fun t => tupI (intsN t))) s :=
  match q, l, h with
  | 0, 0, _ => rfl
  | 0, 1, _ => rfl
  | 0, 2, _ => rfl
  | 0, 3, _ => rfl
  | 0, 4, _ => rfl
  | 1, 0, _ => rfl
  | 1, 1, _ => rfl
  | 1, 2, _ => rfl
  | 1, 3, _ => rfl
  | 2, 0, _ => rfl
  | 2, 1, _ => rfl
  | 2, 2, _ => rfl
  | 3, 0, _ => rfl
  | 3, 1, _ => rfl
  | 4, 0, _ => rfl
  | 0, l + 5, h => absurd h (by omega)
  | 1, l + 4, h => absurd h (by omega)
  | 2, l + 3, h => absurd h (by omega)
  | 3, l + 2, h => absurd h (by omega)
  | 4, l + 1, h => absurd h (by omega)
  | q + 5, l, h => absurd h (by omega)
def checkN (n q l : Nat) : Bool := ((kindsN n q l).all fun t => (linesN n q (q + l)).any fun x => decide (stB n x = intsN t)) && decide (((kindsN n q l).map fun t => ((linesN n q (q + l)).filter fun x => decide (stB n x = intsN t)).length).sum = (linesN n q (q + l)).length) && decide ((kindsN n q l).length < 100)
theorem check_all : ∀ n, n < 5 → ∀ q, q < n + 1 → ∀ l, l < n + 1 → (decide (n < 3) || decide (n < q + l) || checkN n q l) = true := by decide +kernel
theorem kinds_ok {n q l : Nat} {on : D} {s : S} (h3 : 3 ≤ n) (h4 : n ≤ 4) (hl : q + l ≤ n) : wp (D_kind_stands [ringD n q l on] s) (fun a s' => a = .lst ((kindsN n q l).map fun t => tupI (intsN t)) ∧ s' = s) fun _ _ => False := by
  have e : D_kind_stands [ringD n q l on] s = .ok (.lst ((kindsN n q l).map fun t => tupI (intsN t))) s := by
    have : n = 3 ∨ n = 4 := by omega
    rcases this with rfl | rfl
    · exact kinds_3 s on q l hl
    · exact kinds_4 s on q l hl
  rw [e, wp_ok]
  exact ⟨rfl, rfl⟩
def cntF (n q l : Nat) : D → D
  | .tup xs => .int (((forN n q (q + l) (xs.map fun d => match d with
    | .int i => i
    | _ => 0)).length : Nat) : Int)
  | d => d
theorem cntF_t {n q l : Nat} (t : List Int) : cntF n q l (tupI t) = .int (((forN n q (q + l) t).length : Nat) : Int) := by
  show D.int (((forN n q (q + l) ((t.map D.int).map _)).length : Nat) : Int) = _
  rw [List.map_map]
  congr 3
  exact congrArg _ ((List.map_congr_left fun z _ => rfl).trans (List.map_id t))
theorem intsOf_nat {α : Type} (f : α → Nat) : ∀ ts : List α, intsOf (ts.map fun t => .int ((f t : Nat) : Int)) = some (ts.map fun t => ((f t : Nat) : Int))
  | [] => rfl
  | t :: ts => by simp [intsOf, intsOf_nat f ts]
theorem sum_nat {α : Type} (f : α → Nat) : ∀ ts : List α, (ts.map fun t => ((f t : Nat) : Int)).sum = (((ts.map f).sum : Nat) : Int)
  | [] => rfl
  | t :: ts => by simp [sum_nat f ts]
theorem law_ok : LawOk D_law := fun ns hn => ok_of_wp <| by
  unfold D_law
  walk_at "b"
  (try walk_at "d")
  refine wpc_of (pen_ok hn) ?_
  rintro _ s0 ⟨rfl, h0⟩
  (try walk_at "d")
  refine wpc_of (draw_ok (by decide) (by decide) (by rw [p200]; omega) h0) ?_
  rintro _ s1 ⟨a, rfl, a0, a1, h1⟩
  (try walk_at "d")
  refine at_allD (P := fun x => ∃ c : Int, x = .int c ∧ 4 ≤ c ∧ c ≤ 7) (by simp) a0 (by simpa using a1) ?_
  rintro _ ⟨great, rfl, g0, g1⟩
  (try walk_at "d")
  have hm : ∀ d ∈ [D.int great, D.int 4], ∃ c : Int, d = .int c ∧ 4 ≤ c ∧ c ≤ 7 := by
    intro d hd
    rcases List.mem_cons.mp hd with rfl | hd
    · exact ⟨_, rfl, g0, g1⟩
    · rw [List.mem_singleton.mp hd]; exact ⟨4, rfl, by decide, by decide⟩
  refine wpl_s (fun _ => []) (fun i s => Pen (10 + i * 50) [] s) rfl (pen_mono h1 (by omega)) (fun i d s hd hp => ?_) (fun s hp => ?_)
  · obtain ⟨most, rfl, m0, m1⟩ := hm d (List.mem_of_getElem? hd)
    have hi : i < 2 := (List.getElem?_eq_some_iff.mp hd).1
    refine ⟨_, rfl, ?_⟩
    walk_at "u"
    (try walk_at "d")
    refine wpc_of (draw_ok (by decide) (by decide) (by rw [p200]; omega) hp) ?_
    rintro _ s2 ⟨spot, rfl, p0, p1, h2⟩
    (try walk_at "d")
    refine wpc_of (ring_ok (by omega) m1 (by rw [p99]; omega) h2) ?_
    rintro _ s3 ⟨⟨c, q, l, on, rfl, c0, c1, q0, l0, ql⟩, h3⟩
    obtain ⟨n, rfl⟩ : ∃ n : Nat, c = (n : Int) := ⟨c.toNat, by omega⟩
    obtain ⟨q, rfl⟩ : ∃ n : Nat, q = (n : Int) := ⟨q.toNat, by omega⟩
    obtain ⟨l, rfl⟩ : ∃ n : Nat, l = (n : Int) := ⟨l.toNat, by omega⟩
    have n3 : 3 ≤ n := by omega
    have n7 : n ≤ 7 := by omega
    have qln : q + l ≤ n := by omega
    rw [show D.tup [.int (n : Int), .int (q : Int), .int (l : Int), on] = ringD n q l on from rfl]
    have e0 : ∀ s : S, dIxT s (ringD n q l on) (.int 0) = some (.int (n : Int)) := fun _ => rfl
    (try walk_at "d")
    refine wpc_of (law_lines_ok n3 n7 qln) ?_
    rintro _ _ ⟨rfl, rfl⟩
    rename_i s3
    (try walk_at "d")
    refine ⟨_, e0 _, ?_⟩
    have ll := linesN_len n7 (show q ≤ n by omega) qln
    have lp : 0 < (linesN n q (q + l)).length := by
      have c1 := ch_len n (by omega) q (by omega)
      have c2 := ch_len n (by omega) (q + l) (by omega)
      have e : ((linesN n q (q + l)).map lnD).length = (chosenN n q).length * (chosenN n (q + l)).length := by
        rw [lines_map]
        exact flat_len fun u => by rw [List.length_map]
      rw [List.length_map] at e
      rw [e]
      exact Nat.mul_pos c1.1 c2.1
    rw [List.length_map]
    (try walk_at "d")
    have fr := fmod_rng (i := spot) (show (0 : Int) < ((linesN n q (q + l)).length : Int) by omega)
    refine ⟨by omega, ?_⟩
    obtain ⟨x, ex, hx⟩ : ∃ x, atI ((linesN n q (q + l)).map lnD) (spot.fmod ((linesN n q (q + l)).length : Int)) = some (lnD x) ∧ x ∈ linesN n q (q + l) := by
      obtain ⟨d, e1, e2⟩ := atI_of (xs := (linesN n q (q + l)).map lnD) fr.1 (by rw [List.length_map]; exact fr.2)
      rw [List.getElem?_map] at e2
      obtain ⟨x, hx, rfl⟩ := Option.map_eq_some_iff.mp e2
      exact ⟨x, e1, List.mem_of_getElem? hx⟩
    refine ⟨_, ex, ?_⟩
    refine wpc_of (lead_ok (lines_ln n3 n7 (by omega) qln x hx)) ?_
    rintro _ _ ⟨rfl, rfl⟩
    rename_i s3
    rw [stand_tup]
    (try walk_at "d")
    refine wpc_of (right_ok n3 n7 qln ⟨x, hx, rfl⟩) ?_
    rintro _ _ ⟨rfl, rfl⟩
    rename_i s3
    (try walk_at "d")
    refine ite2 (fun e4 => ?_) (fun _ => ?_)
    · have n4 : n ≤ 4 := by omega
      have ck := check_all n (by omega) q (by omega) l (by omega)
      rw [show decide (n < 3) = false from decide_eq_false (by omega), show decide (n < q + l) = false from decide_eq_false (by omega), Bool.false_or, Bool.false_or] at ck
      unfold checkN at ck
      simp only [Bool.and_eq_true, decide_eq_true_eq] at ck
      obtain ⟨⟨ck1, ck2⟩, ck3⟩ := ck
      refine wpc_of (kinds_ok n3 n4 qln) ?_
      rintro _ _ ⟨rfl, rfl⟩
      rename_i s3
      (try walk_at "d")
      refine wpk_of (by rw [List.length_map]; omega) (comp_map (cntF n q l) fun d hd => ?_) ?_
      · obtain ⟨t, ht, rfl⟩ := List.mem_map.mp hd
        refine ⟨_, rfl, by walk_at "d", ?_⟩
        walk_at "u"
        (try walk_at "d")
        refine wpc_of (lines_for_ok n3 n7 qln) ?_
        rintro _ _ ⟨rfl, rfl⟩
        (try walk_at "d")
        rw [cntF_t, List.length_map]
      rintro _ _ ⟨rfl, rfl⟩
      rename_i s4
      have em : ((kindsN n q l).map fun t => tupI (intsN t)).map (cntF n q l) = (kindsN n q l).map fun t => .int (((forN n q (q + l) (intsN t)).length : Nat) : Int) := by
        rw [List.map_map]
        exact List.map_congr_left fun t _ => cntF_t _
      rw [em]
      (try walk_at "d")
      refine ⟨_, intsOf_nat _ _, ?_⟩
      rw [sum_nat]
      have ck2 : ((kindsN n q l).map fun t => (forN n q (q + l) (intsN t)).length).sum = (linesN n q (q + l)).length := ck2
      rw [ck2]
      (try walk_at "d")
      rw [List.length_map]
      (try walk_at "d")
      refine wpk_of (by rw [List.length_map]; omega) (comp_map (fun _ => .bl true) fun d hd => ?_) ?_
      · obtain ⟨t, ht, rfl⟩ := List.mem_map.mp hd
        refine ⟨_, rfl, by walk_at "d", ?_⟩
        walk_at "u"
        (try walk_at "d")
        refine wpc_of (lines_for_ok n3 n7 qln) ?_
        rintro _ _ ⟨rfl, rfl⟩
        (try walk_at "d")
        have an := List.any_eq_true.mp (List.all_eq_true.mp ck1 t ht)
        obtain ⟨y, hy, ey⟩ := an
        have hm : y ∈ forN n q (q + l) (intsN t) := List.mem_filter.mpr ⟨hy, ey⟩
        rw [ne_nil (rd_list (fun x hx => by
          obtain ⟨y, _, rfl⟩ := List.mem_map.mp hx
          exact okD_ln y) fun x hx => by
          obtain ⟨y, _, rfl⟩ := List.mem_map.mp hx
          exact dep_ln y)]
        cases h : forN n q (q + l) (intsN t) with
        | nil => rw [h] at hm; simp at hm
        | cons a r => exact ⟨_, rfl, rfl⟩
      rintro _ _ ⟨rfl, rfl⟩
      (try walk_at "d")
      refine ⟨_, blsOf_map (fun _ => true) _, ?_⟩
      rw [show (List.map (fun _ => true) ((kindsN n q l).map fun t => tupI (intsN t))).all id = true by simp]
      (try walk_at "d")
      exact pen_mono h3 (by omega)
    · exact pen_mono h3 (by omega)
  · walk_at "u"
    (try walk_at "d")
    rw [show D.tup [.int 3, .int 1, .int 1, .tup [.int 1, .int 1]] = ringD 3 1 1 (.tup [.int 1, .int 1]) from rfl, show D.tup [.int 1, .int 2, .int 0] = tupI [1, 2, 0] from rfl]
    refine wpc_of (lines_for_ok (by decide) (by decide) (by decide)) ?_
    rintro _ _ ⟨rfl, rfl⟩
    rw [show forN 3 1 (1 + 1) [1, 2, 0] = [([0], [0, 1])] by decide +kernel]
    (try walk_at "d")
    exact ⟨_, rfl, rfl⟩
end DL
end
open PySem PySem.W PyProof.Rows
set_option maxRecDepth 100000 in
set_option maxHeartbeats 0 in
theorem PySem.Challenge.cw_nopassing_k68_all_lines_for_a_stand_holds : PySem.Challenge.rw_nopassing_k68_all_lines_for_a_stand.Holds := by
  w_on; o_law; k_head; (case hw => w_witness2)
  k_fill
  refine DL.walk_ofG (l := PySem.Challenge.rw_nopassing_k68_all_lines_for_a_stand) (k := 22) (x := "_law_script") rfl rfl ⟨rfl, by decide, by decide⟩ (fun w h Y => PySem.W.kIn_of Y) DL.law_ok ?F
  case F =>
    intro w mg fa h KX G hmg
    refine' DL.law_mk KX G hmg ⟨DL.mkF KX G ?a0 ?l0 ?c0 ?k0, DL.mkF KX G ?a1 ?l1 ?c1 ?k1, DL.mkF KX G ?a2 ?l2 ?c2 ?k2, DL.mkF KX G ?a3 ?l3 ?c3 ?k3, DL.mkF KX G ?a4 ?l4 ?c4 ?k4, DL.mkF KX G ?a5 ?l5 ?c5 ?k5, DL.mkF KX G ?a6 ?l6 ?c6 ?k6, DL.mkF KX G ?a7 ?l7 ?c7 ?k7, DL.mkF KX G ?a8 ?l8 ?c8 ?k8, DL.mkF KX G ?a9 ?l9 ?c9 ?k9, DL.mkF KX G ?a10 ?l10 ?c10 ?k10, DL.mkF KX G ?a11 ?l11 ?c11 ?k11, DL.mkF KX G ?a12 ?l12 ?c12 ?k12, DL.mkF KX G ?a13 ?l13 ?c13 ?k13, DL.mkF KX G ?a14 ?l14 ?c14 ?k14, DL.mkF KX G ?a15 ?l15 ?c15 ?k15, DL.mkN KX G ?z0, DL.mkN KX G ?z1, DL.mkN KX G ?z2, DL.mkN KX G ?z3, DL.mkN KX G ?z4, DL.mkN KX G ?z5, DL.mkN KX G ?z6, DL.mkN KX G ?z7, DL.mkN KX G ?z8, DL.mkN KX G ?z9, DL.mkN KX G ?z10, DL.mkN KX G ?z11, DL.mkN KX G ?z12, DL.mkN KX G ?z13, DL.mkN KX G ?z14⟩ ?aL ?lL ?cL ?kL
    (case a0 => k_is); (case l0 => k_is); (case c0 => k_is); (case k0 => k_is); (case a1 => k_is); (case l1 => k_is); (case c1 => k_is); (case k1 => k_is); (case a2 => k_is); (case l2 => k_is); (case c2 => k_is); (case k2 => k_is); (case a3 => k_is); (case l3 => k_is); (case c3 => k_is); (case k3 => k_is); (case a4 => k_is); (case l4 => k_is); (case c4 => k_is); (case k4 => k_is); (case a5 => k_is); (case l5 => k_is); (case c5 => k_is); (case k5 => k_is); (case a6 => k_is); (case l6 => k_is); (case c6 => k_is); (case k6 => k_is); (case a7 => k_is); (case l7 => k_is); (case c7 => k_is); (case k7 => k_is); (case a8 => k_is); (case l8 => k_is); (case c8 => k_is); (case k8 => k_is); (case a9 => k_is); (case l9 => k_is); (case c9 => k_is); (case k9 => k_is); (case a10 => k_is); (case l10 => k_is); (case c10 => k_is); (case k10 => k_is); (case a11 => k_is); (case l11 => k_is); (case c11 => k_is); (case k11 => k_is); (case a12 => k_is); (case l12 => k_is); (case c12 => k_is); (case k12 => k_is); (case a13 => k_is); (case l13 => k_is); (case c13 => k_is); (case k13 => k_is); (case a14 => k_is); (case l14 => k_is); (case c14 => k_is); (case k14 => k_is); (case a15 => k_is); (case l15 => k_is); (case c15 => k_is); (case k15 => k_is); (case z0 => k_is); (case z1 => k_is); (case z2 => k_is); (case z3 => k_is); (case z4 => k_is); (case z5 => k_is); (case z6 => k_is); (case z7 => k_is); (case z8 => k_is); (case z9 => k_is); (case z10 => k_is); (case z11 => k_is); (case z12 => k_is); (case z13 => k_is); (case z14 => k_is); (case aL => k_is); (case lL => k_is); (case cL => k_is); (case kL => k_is)

