import PyProof.Rows.All
import Wide.All
import OpenK.AllK
import Wide.FinOn
import HandS.ForMost
import HandS.WordsExc
import HandS.TryOnly
import HandS.ExcOwn
import HandS.Wide
import HandS.Deep
import HandS.Style
import HandS.IsInst
import KE.KEqDict
import HandS.DictTup
import HandS.StrMore
import HandS.More
import KE.SortData
import HandS.ListItems
import HandS.Small
import HandS.NoneIn
import HandS.Conv
import PyProof.DictUpdate
import HandS.Flow
import HandS.ExcIs
import HandS.Set
import HandS.SetFor
import PyProof.Rows.SetFrom
import HandS.Zip
import KE.DataCmp
import PySem.Challenge.RW_bookcuts_k47_texts_that_part_books
set_option Elab.async false
set_option linter.all false
set_option maxRecDepth 100000
set_option maxHeartbeats 4000000
/-! PD, first part: pure data over the hand layer. -/
namespace PD
open PySem L2

/-! ### data -/
abbrev Tx := List Nat
abbrev Kd := Sum Int Tx
def st (l : Tx) : Str := ⟨l.toArray⟩
theorem st_tl (l : Tx) : (st l).cps.toList = l := by simp [st]
theorem st_of (x : Str) : st x.cps.toList = x := TL.mk_tl x
theorem st_inj {a b : Tx} (h : st a = st b) : a = b := by
  have := congrArg (fun x : Str => x.cps.toList) h
  simpa [st] using this
theorem st_len (l : Tx) : (st l).length = l.length := by
  show (st l).cps.size = l.length
  simp [st]
theorem st_app (a b : Tx) : st a ++ st b = st (a ++ b) := TL.ext_tl (by rw [TL.tl_append]; simp [TL.tl, st])
def kd : Kd → Key
  | .inl i => .inl i
  | .inr l => .inr (st l)
theorem kd_inj : ∀ {a b : Kd}, kd a = kd b → a = b
  | .inl a, .inl b, h => by
    have : a = b := Sum.inl.inj h
    rw [this]
  | .inr a, .inr b, h => by rw [st_inj (Sum.inr.inj h)]
  | .inl _, .inr _, h => nomatch h
  | .inr _, .inl _, h => nomatch h
theorem kds_inj : ∀ {a b : List Kd}, a.map kd = b.map kd → a = b
  | [], [], _ => rfl
  | x :: a, y :: b, h => by
    simp only [List.map_cons, List.cons.injEq] at h
    rw [kd_inj h.1, kds_inj h.2]
  | [], _ :: _, h => by simp at h
  | _ :: _, [], h => by simp at h

/-- the program's own classes of what is refused -/
inductive EN where
  | place | cut | text | word | writing | row
  deriving DecidableEq
def en : EN → Str
  | .place => "NoPlace"
  | .cut => "NoCut"
  | .text => "NoText"
  | .word => "NoWord"
  | .writing => "NoWriting"
  | .row => "NoRow"
def ev (K : PySem.W.Frag) (e : EN) : Value := match PySem.W.nsIn K mainGlobals (en e) with
  | some (some v) => v
  | _ => .none
/-- a refusal that was caught -/
def excHO (C : Value) (d : Option Addr) (a : Addr) : HO := .ext fun h => ∃ oe vs, h.get? a = some oe ∧ Zc C d oe ∧ oe.data = .fields vs
def clsA (K : PySem.W.Frag) (c : Str) : Addr := match PySem.W.nsIn K mainGlobals c with
  | some (some (.ref C)) => C
  | _ => 0
/-- the defs that stand as values -/
def fnName : Nat → Str
  | 0 => "some_words"
  | _ => "all_words"
inductive D where
  | exc (e : EN) | fn (k : Nat) | non | bl (b : Bool) | int (i : Int) | str (s : Tx) | lst (xs : List D) | tup (xs : List D) | dic (kvs : List (Kd × D)) | dit (kvs : List (List Kd × D)) | scr (ns : List Int)

def isD : HO → Bool
  | .dK _ => true
  | .dT _ => true
  | _ => false
/-- what is known stays known; a dict may be locked -/
def Le (H H' : Hp) : Prop := ∀ a u, H a = some u → H' a = some u ∨ (isD u = true ∧ ∃ o, H' a = some (.frz o u))
theorem Le.refl (H : Hp) : Le H H := fun _ _ h => .inl h
theorem Le.trans {H H1 H2 : Hp} (a : Le H H1) (b : Le H1 H2) : Le H H2 := fun c u h => by
  rcases a c u h with q | ⟨hd, o, q⟩
  · exact b c u q
  · rcases b c _ q with z | ⟨z, _⟩
    · exact .inr ⟨hd, o, z⟩
    · cases z
theorem Le.rd {H H' : Hp} (e : Le H H') {a : Addr} {u : HO} (h : Rd H a u) : Rd H' a u := by
  rcases h with h | ⟨o, h⟩
  · rcases e a u h with q | ⟨_, o, q⟩
    · exact .inl q
    · exact .inr ⟨o, q⟩
  · rcases e a _ h with q | ⟨z, _⟩
    · exact .inr ⟨o, q⟩
    · cases z
theorem Le.sql {K : PySem.W.Frag} {H H' : Hp} (e : Le H H') {a : Addr} {vs : List V} (h : SqL K H a vs) : SqL K H' a vs := by
  rcases h with h | h
  · exact .inl (e.rd h)
  · exact .inr h
theorem Le.tup {H H' : Hp} (e : Le H H') {a : Addr} {vs : List V} (h : H a = some (.tup vs)) : H' a = some (.tup vs) := by
  rcases e a _ h with q | ⟨z, _⟩
  · exact q
  · cases z
theorem Le.exc {H H' : Hp} (e : Le H H') {a : Addr} {φ : Heap → Prop} (h : H a = some (.ext φ)) : H' a = some (.ext φ) := by
  rcases e a _ h with q | ⟨z, _⟩
  · exact q
  · cases z
theorem Le.lst {H H' : Hp} (e : Le H H') {a : Addr} {vs : List V} (h : H a = some (.lst vs)) : H' a = some (.lst vs) := by
  rcases e a _ h with q | ⟨z, _⟩
  · exact q
  · cases z

mutual
/-- a value bears a datum -/
inductive DR (K : PySem.W.Frag) (H : Hp) : V → D → Prop
  | non : DR K H .non .non
  | bl (b : Bool) : DR K H (.bl b) (.bl b)
  | int (i : Int) : DR K H (.int i) (.int i)
  | str (l : Tx) : DR K H (.str (st l)) (.str l)
  | lst {a : Addr} {vs : List V} {ds : List D} : H a = some (.lst vs) → DRs K H vs ds → DR K H (.ref a) (.lst ds)
  | scr {a : Addr} {ns : List Int} : SqL K H a (ns.map V.int) → DR K H (.ref a) (.scr ns)
  | exc {a : Addr} {e : EN} : H a = some (excHO (ev K e) none a) → DR K H (.ref a) (.exc e)
  | fn (k : Nat) : DR K H (.ref (clsA K (fnName k))) (.fn k)
  | tup {a : Addr} {vs : List V} {ds : List D} : H a = some (.tup vs) → DRs K H vs ds → DR K H (.ref a) (.tup ds)
  | dic {a : Addr} {kvs : List (Key × V)} {kds : List (Kd × D)} : Rd H a (.dK kvs) → DRk K H kvs kds → DR K H (.ref a) (.dic kds)
  | dit {a : Addr} {kvs : List (List Key × V)} {kds : List (List Kd × D)} : Rd H a (.dT kvs) → DRt K H kvs kds → DR K H (.ref a) (.dit kds)
inductive DRs (K : PySem.W.Frag) (H : Hp) : List V → List D → Prop
  | nil : DRs K H [] []
  | cons {v : V} {vs : List V} {d : D} {ds : List D} : DR K H v d → DRs K H vs ds → DRs K H (v :: vs) (d :: ds)
inductive DRk (K : PySem.W.Frag) (H : Hp) : List (Key × V) → List (Kd × D) → Prop
  | nil : DRk K H [] []
  | cons {k : Kd} {v : V} {vs : List (Key × V)} {d : D} {ds : List (Kd × D)} : DR K H v d → DRk K H vs ds → DRk K H ((kd k, v) :: vs) ((k, d) :: ds)
inductive DRt (K : PySem.W.Frag) (H : Hp) : List (List Key × V) → List (List Kd × D) → Prop
  | nil : DRt K H [] []
  | cons {k : List Kd} {v : V} {vs : List (List Key × V)} {d : D} {ds : List (List Kd × D)} : DR K H v d → DRt K H vs ds → DRt K H ((k.map kd, v) :: vs) ((k, d) :: ds)
end
section
variable {K : PySem.W.Frag} {H H' : Hp}
mutual
theorem DR.mono (e : Le H H') : ∀ {v : V} {d : D}, DR K H v d → DR K H' v d
  | _, _, .non => .non
  | _, _, .bl b => .bl b
  | _, _, .int i => .int i
  | _, _, .str l => .str l
  | _, _, .lst h hs => .lst (e.lst h) (DRs.mono e hs)
  | _, _, .scr h => .scr (e.sql h)
  | _, _, .exc h => .exc (e.exc h)
  | _, _, .fn a => .fn a
  | _, _, .tup h hs => .tup (e.tup h) (DRs.mono e hs)
  | _, _, .dic h hs => .dic (e.rd h) (DRk.mono e hs)
  | _, _, .dit h hs => .dit (e.rd h) (DRt.mono e hs)
theorem DRs.mono (e : Le H H') : ∀ {vs : List V} {ds : List D}, DRs K H vs ds → DRs K H' vs ds
  | _, _, .nil => .nil
  | _, _, .cons h hs => .cons (DR.mono e h) (DRs.mono e hs)
theorem DRk.mono (e : Le H H') : ∀ {vs : List (Key × V)} {ds : List (Kd × D)}, DRk K H vs ds → DRk K H' vs ds
  | _, _, .nil => .nil
  | _, _, .cons h hs => .cons (DR.mono e h) (DRk.mono e hs)
theorem DRt.mono (e : Le H H') : ∀ {vs : List (List Key × V)} {ds : List (List Kd × D)}, DRt K H vs ds → DRt K H' vs ds
  | _, _, .nil => .nil
  | _, _, .cons h hs => .cons (DR.mono e h) (DRt.mono e hs)
end
theorem DRs.length : ∀ {vs : List V} {ds : List D}, DRs K H vs ds → vs.length = ds.length
  | _, _, .nil => rfl
  | _, _, .cons _ t => by simp [DRs.length t]
theorem DRs.get : ∀ {vs : List V} {ds : List D} {i : Nat} {v : V}, DRs K H vs ds → vs[i]? = some v → ∃ d, ds[i]? = some d ∧ DR K H v d
  | _, _, _, _, .nil, e => by simp at e
  | _, _, 0, _, .cons r _, e => by simp at e; subst e; exact ⟨_, rfl, r⟩
  | _, _, i + 1, x, .cons _ t, e => by
    obtain ⟨u, h1, h2⟩ := DRs.get (i := i) (v := x) t (by simpa using e)
    exact ⟨u, by simpa using h1, h2⟩
theorem DRs.get' : ∀ {vs : List V} {ds : List D} {i : Nat} {d : D}, DRs K H vs ds → ds[i]? = some d → ∃ v, vs[i]? = some v ∧ DR K H v d
  | _, _, _, _, .nil, e => by simp at e
  | _, _, 0, _, .cons r _, e => by simp at e; subst e; exact ⟨_, rfl, r⟩
  | _, _, i + 1, x, .cons _ t, e => by
    obtain ⟨u, h1, h2⟩ := DRs.get' (i := i) (d := x) t (by simpa using e)
    exact ⟨u, by simpa using h1, h2⟩
theorem DRs.append : ∀ {xs ys : List V} {ds es : List D}, DRs K H xs ds → DRs K H ys es → DRs K H (xs ++ ys) (ds ++ es)
  | _, _, _, _, .nil, h => h
  | _, _, _, _, .cons r t, h => .cons r (DRs.append t h)
theorem DRs.snoc {xs : List V} {ds : List D} {v : V} {d : D} (h : DRs K H xs ds) (r : DR K H v d) : DRs K H (xs ++ [v]) (ds ++ [d]) := h.append (.cons r .nil)
theorem DRs.set {v : V} {d : D} (r : DR K H v d) : ∀ {xs : List V} {ds : List D} (i : Nat), DRs K H xs ds → DRs K H (xs.set i v) (ds.set i d)
  | _, _, _, .nil => .nil
  | _, _, 0, .cons _ t => .cons r t
  | _, _, i + 1, .cons q t => .cons q (DRs.set r i t)
theorem DRs.take : ∀ {xs : List V} {ds : List D} (n : Nat), DRs K H xs ds → DRs K H (xs.take n) (ds.take n)
  | _, _, 0, _ => .nil
  | _, _, _ + 1, .nil => .nil
  | _, _, n + 1, .cons r t => .cons r (DRs.take n t)
theorem DRs.drop : ∀ {xs : List V} {ds : List D} (n : Nat), DRs K H xs ds → DRs K H (xs.drop n) (ds.drop n)
  | _, _, 0, r => r
  | _, _, _ + 1, .nil => .nil
  | _, _, n + 1, .cons _ t => DRs.drop n t
theorem DRs.reverse : ∀ {xs : List V} {ds : List D}, DRs K H xs ds → DRs K H xs.reverse ds.reverse
  | _, _, .nil => .nil
  | _, _, .cons r t => by
    rw [List.reverse_cons, List.reverse_cons]
    exact (DRs.reverse t).append (.cons r .nil)
theorem DRs.eraseIdx : ∀ {xs : List V} {ds : List D} (i : Nat), DRs K H xs ds → DRs K H (xs.eraseIdx i) (ds.eraseIdx i)
  | _, _, _, .nil => .nil
  | _, _, 0, .cons _ t => t
  | _, _, i + 1, .cons q t => .cons q (DRs.eraseIdx i t)
theorem DRs.dropLast {xs : List V} {ds : List D} (h : DRs K H xs ds) : DRs K H xs.dropLast ds.dropLast := by
  rw [List.dropLast_eq_take, List.dropLast_eq_take, h.length]
  exact h.take _
theorem DRs.ints : ∀ {ns : List Int}, DRs K H (ns.map V.int) (ns.map D.int)
  | [] => .nil
  | n :: ns => .cons (.int n) DRs.ints
theorem DRs.strs : ∀ {ns : List Tx}, DRs K H (ns.map fun l => V.str (st l)) (ns.map D.str)
  | [] => .nil
  | n :: ns => .cons (.str n) DRs.strs
theorem DR.int_of {v : V} {i : Int} (h : DR K H v (.int i)) : v = .int i := by cases h; rfl
theorem DR.str_of {v : V} {l : Tx} (h : DR K H v (.str l)) : v = .str (st l) := by cases h; rfl
theorem DR.bl_of {v : V} {b : Bool} (h : DR K H v (.bl b)) : v = .bl b := by cases h; rfl
theorem DR.non_of {v : V} (h : DR K H v .non) : v = .non := by cases h; rfl
theorem DR.scr_of {v : V} {ns : List Int} (h : DR K H v (.scr ns)) : ∃ a, v = .ref a ∧ SqL K H a (ns.map V.int) := by cases h with | scr a => exact ⟨_, rfl, a⟩
theorem DR.lst_of {v : V} {ds : List D} (h : DR K H v (.lst ds)) : ∃ a vs, v = .ref a ∧ H a = some (.lst vs) ∧ DRs K H vs ds := by cases h with | lst a b => exact ⟨_, _, rfl, a, b⟩
theorem DR.tup_of {v : V} {ds : List D} (h : DR K H v (.tup ds)) : ∃ a vs, v = .ref a ∧ H a = some (.tup vs) ∧ DRs K H vs ds := by cases h with | tup a b => exact ⟨_, _, rfl, a, b⟩
theorem DR.dic_of {v : V} {ds : List (Kd × D)} (h : DR K H v (.dic ds)) : ∃ a vs, v = .ref a ∧ Rd H a (.dK vs) ∧ DRk K H vs ds := by cases h with | dic a b => exact ⟨_, _, rfl, a, b⟩
theorem DR.dit_of {v : V} {ds : List (List Kd × D)} (h : DR K H v (.dit ds)) : ∃ a vs, v = .ref a ∧ Rd H a (.dT vs) ∧ DRt K H vs ds := by cases h with | dit a b => exact ⟨_, _, rfl, a, b⟩
theorem DRs.ints_of : ∀ {vs : List V} {ns : List Int}, DRs K H vs (ns.map D.int) → vs = ns.map V.int
  | _, [], h => by cases h; rfl
  | _, n :: ns, h => by
    cases h with
    | cons a b => rw [a.int_of, DRs.ints_of b]; rfl
theorem DRs.strs_of : ∀ {vs : List V} {ns : List Tx}, DRs K H vs (ns.map D.str) → vs = (ns.map st).map V.str
  | _, [], h => by cases h; rfl
  | _, n :: ns, h => by
    cases h with
    | cons a b => rw [a.str_of, DRs.strs_of b]; rfl
theorem DRk.length : ∀ {vs : List (Key × V)} {ds : List (Kd × D)}, DRk K H vs ds → vs.length = ds.length
  | _, _, .nil => rfl
  | _, _, .cons _ t => by simp [DRk.length t]
theorem DRt.length : ∀ {vs : List (List Key × V)} {ds : List (List Kd × D)}, DRt K H vs ds → vs.length = ds.length
  | _, _, .nil => rfl
  | _, _, .cons _ t => by simp [DRt.length t]
end

/-! ### owned objects -/
/-- a resource of its own kind: what it asks of the places it owns -/
structure RP where
  ok : PySem.W.Frag → (Addr → Prop) → Hp → Addr → Prop
  loc : ∀ K f H H' a, (∀ b, f b → H' b = H b) → ok K f H a → ok K f H' a
/-- lists and tuples that own what they hold -/
inductive N where
  | d (x : D) | lst (xs : List N) | tup (xs : List N)
mutual
def N.toD : N → D
  | .d x => x
  | .lst xs => .lst (nds xs)
  | .tup xs => .tup (nds xs)
def nds : List N → List D
  | [] => []
  | x :: r => N.toD x :: nds r
end
mutual
/-- a value bears it; the places that it owns -/
inductive NR (K : PySem.W.Frag) (S H : Hp) : V → N → List Addr → Prop
  | d {v : V} {x : D} : DR K S v x → NR K S H v (.d x) []
  | lst {a : Addr} {vs : List V} {xs : List N} {fp : List Addr} : H a = some (.lst vs) → NRs K S H vs xs fp → NR K S H (.ref a) (.lst xs) (a :: fp)
  | tup {a : Addr} {vs : List V} {xs : List N} {fp : List Addr} : H a = some (.tup vs) → NRs K S H vs xs fp → NR K S H (.ref a) (.tup xs) (a :: fp)
inductive NRs (K : PySem.W.Frag) (S H : Hp) : List V → List N → List Addr → Prop
  | nil : NRs K S H [] [] []
  | cons {v : V} {vs : List V} {x : N} {xs : List N} {f1 f2 : List Addr} : NR K S H v x f1 → NRs K S H vs xs f2 → NRs K S H (v :: vs) (x :: xs) (f1 ++ f2)
end
section
variable {K : PySem.W.Frag} {S S' H H' : Hp}
mutual
theorem NR.move (e : Le S S') : ∀ {v : V} {x : N} {fp : List Addr}, NR K S H v x fp → (∀ b ∈ fp, H' b = H b) → NR K S' H' v x fp
  | _, _, _, .d h, _ => .d (h.mono e)
  | _, _, _, .lst h hs, k => .lst ((k _ (by simp)).trans h) (NRs.move e hs fun b hb => k b (by simp [hb]))
  | _, _, _, .tup h hs, k => .tup ((k _ (by simp)).trans h) (NRs.move e hs fun b hb => k b (by simp [hb]))
theorem NRs.move (e : Le S S') : ∀ {vs : List V} {xs : List N} {fp : List Addr}, NRs K S H vs xs fp → (∀ b ∈ fp, H' b = H b) → NRs K S' H' vs xs fp
  | _, _, _, .nil, _ => .nil
  | _, _, _, .cons h hs, k => .cons (NR.move e h fun b hb => k b (by simp [hb])) (NRs.move e hs fun b hb => k b (by simp [hb]))
end
mutual
/-- .. as data, where what it owns stands still -/
theorem NR.dr (e : Le S S') : ∀ {v : V} {x : N} {fp : List Addr}, NR K S H v x fp → (∀ b ∈ fp, S' b = H b) → DR K S' v x.toD
  | _, _, _, .d h, _ => h.mono e
  | _, _, _, .lst h hs, k => .lst ((k _ (by simp)).trans h) (NRs.dr e hs fun b hb => k b (by simp [hb]))
  | _, _, _, .tup h hs, k => .tup ((k _ (by simp)).trans h) (NRs.dr e hs fun b hb => k b (by simp [hb]))
theorem NRs.dr (e : Le S S') : ∀ {vs : List V} {xs : List N} {fp : List Addr}, NRs K S H vs xs fp → (∀ b ∈ fp, S' b = H b) → DRs K S' vs (nds xs)
  | _, _, _, .nil, _ => .nil
  | _, _, _, .cons h hs, k => .cons (NR.dr e h fun b hb => k b (by simp [hb])) (NRs.dr e hs fun b hb => k b (by simp [hb]))
end
mutual
theorem NR.there : ∀ {v : V} {x : N} {fp : List Addr}, NR K S H v x fp → ∀ b ∈ fp, ∃ u, H b = some u ∧ isD u = false
  | _, _, _, .d h, b, hb => by simp at hb
  | _, _, _, .lst h hs, b, hb => by
    rcases List.mem_cons.mp hb with rfl | hb
    · exact ⟨_, h, rfl⟩
    · exact NRs.there hs b hb
  | _, _, _, .tup h hs, b, hb => by
    rcases List.mem_cons.mp hb with rfl | hb
    · exact ⟨_, h, rfl⟩
    · exact NRs.there hs b hb
theorem NRs.there : ∀ {vs : List V} {xs : List N} {fp : List Addr}, NRs K S H vs xs fp → ∀ b ∈ fp, ∃ u, H b = some u ∧ isD u = false
  | _, _, _, .nil, b, hb => by simp at hb
  | _, _, _, .cons h hs, b, hb => by
    rcases List.mem_append.mp hb with hb | hb
    · exact NR.there h b hb
    · exact NRs.there hs b hb
end
end
/-- an object with what it owns: an instance by its class's name and its attributes -/
inductive J where
  | leaf (x : D) | dic (kvs : List (Kd × D)) | ins (c : Str) (ns : List Str) (xs : List J) | lst (xs : List J)
mutual
inductive JR (K : PySem.W.Frag) (S H : Hp) : V → J → List Addr → Prop
  | leaf {v : V} {x : D} : DR K S v x → JR K S H v (.leaf x) []
  | dic {a : Addr} {vs : List (Key × V)} {kvs : List (Kd × D)} : H a = some (.dK vs) → DRk K S vs kvs → JR K S H (.ref a) (.dic kvs) [a]
  | ins {a dx : Addr} {c : Str} {ns : List Str} {vs : List V} {xs : List J} {fp : List Addr} : H a = some (.ins (clsA K c) dx (ns.zip vs)) → H dx = some (.own a) → ns.length = xs.length → JRs K S H vs xs fp → JR K S H (.ref a) (.ins c ns xs) (a :: dx :: fp)
  | lst {a : Addr} {vs : List V} {xs : List J} {fp : List Addr} : H a = some (.lst vs) → JRs K S H vs xs fp → JR K S H (.ref a) (.lst xs) (a :: fp)
inductive JRs (K : PySem.W.Frag) (S H : Hp) : List V → List J → List Addr → Prop
  | nil : JRs K S H [] [] []
  | cons {v : V} {vs : List V} {x : J} {xs : List J} {f1 f2 : List Addr} : JR K S H v x f1 → JRs K S H vs xs f2 → JRs K S H (v :: vs) (x :: xs) (f1 ++ f2)
end
section
variable {K : PySem.W.Frag} {S S' H H' : Hp}
mutual
theorem JR.move (e : Le S S') : ∀ {v : V} {x : J} {fp : List Addr}, JR K S H v x fp → (∀ b ∈ fp, H' b = H b) → JR K S' H' v x fp
  | _, _, _, .leaf h, _ => .leaf (h.mono e)
  | _, _, _, .dic h hs, k => .dic ((k _ (by simp)).trans h) (hs.mono e)
  | _, _, _, .ins h1 h2 h3 hs, k => .ins ((k _ (by simp)).trans h1) ((k _ (by simp)).trans h2) h3 (JRs.move e hs fun b hb => k b (by simp [hb]))
  | _, _, _, .lst h hs, k => .lst ((k _ (by simp)).trans h) (JRs.move e hs fun b hb => k b (by simp [hb]))
theorem JRs.move (e : Le S S') : ∀ {vs : List V} {xs : List J} {fp : List Addr}, JRs K S H vs xs fp → (∀ b ∈ fp, H' b = H b) → JRs K S' H' vs xs fp
  | _, _, _, .nil, _ => .nil
  | _, _, _, .cons h hs, k => .cons (JR.move e h fun b hb => k b (by simp [hb])) (JRs.move e hs fun b hb => k b (by simp [hb]))
end
mutual
theorem JR.there : ∀ {v : V} {x : J} {fp : List Addr}, JR K S H v x fp → ∀ b ∈ fp, H b ≠ none
  | _, _, _, .leaf h, b, hb => by simp at hb
  | _, _, _, .dic h hs, b, hb => by rw [List.mem_singleton.mp hb, h]; simp
  | _, _, _, .ins h1 h2 h3 hs, b, hb => by
    rcases List.mem_cons.mp hb with rfl | hb
    · rw [h1]; simp
    · rcases List.mem_cons.mp hb with rfl | hb
      · rw [h2]; simp
      · exact JRs.there hs b hb
  | _, _, _, .lst h hs, b, hb => by
    rcases List.mem_cons.mp hb with rfl | hb
    · rw [h]; simp
    · exact JRs.there hs b hb
theorem JRs.there : ∀ {vs : List V} {xs : List J} {fp : List Addr}, JRs K S H vs xs fp → ∀ b ∈ fp, H b ≠ none
  | _, _, _, .nil, b, hb => by simp at hb
  | _, _, _, .cons h hs, b, hb => by
    rcases List.mem_append.mp hb with hb | hb
    · exact JR.there h b hb
    · exact JRs.there hs b hb
end
theorem JRs.length : ∀ {vs : List V} {xs : List J} {fp : List Addr}, JRs K S H vs xs fp → vs.length = xs.length
  | _, _, _, .nil => rfl
  | _, _, _, .cons _ t => by simp [JRs.length t]
end
inductive O where
  | lst (xs : List D) | dic (kvs : List (Kd × D)) | dit (kvs : List (List Kd × D)) | res (r : RP) | nst (x : N) | obj (x : J)
def O.toD : O → Option D
  | .lst xs => some (.lst xs)
  | .dic kvs => some (.dic kvs)
  | .dit kvs => some (.dit kvs)
  | .res _ => none
  | .nst _ => none
  | .obj _ => none
def OOk (K : PySem.W.Frag) (Hs : Hp) (f : Addr → Prop) (H : Hp) (a : Addr) : O → Prop
  | .lst xs => f a ∧ ∃ vs, H a = some (.lst vs) ∧ DRs K Hs vs xs
  | .dic kvs => f a ∧ ∃ vs, H a = some (.dK vs) ∧ DRk K Hs vs kvs
  | .dit kvs => f a ∧ ∃ vs, H a = some (.dT vs) ∧ DRt K Hs vs kvs
  | .res r => r.ok K f H a
  | .nst x => ∃ fp, a ∈ fp ∧ fp.Nodup ∧ (∀ b ∈ fp, f b) ∧ NR K Hs H (.ref a) x fp
  | .obj x => ∃ fp, a ∈ fp ∧ fp.Nodup ∧ (∀ b ∈ fp, f b) ∧ JR K Hs H (.ref a) x fp
theorem OOk.move {K : PySem.W.Frag} {Hs Hs' : Hp} {f : Addr → Prop} {H H' : Hp} {a : Addr} {o : O} (h : OOk K Hs f H a o) (e : Le Hs Hs') (k : ∀ b, f b → H' b = H b) : OOk K Hs' f H' a o := by
  cases o with
  | lst xs =>
    obtain ⟨h1, vs, h2, h3⟩ := h
    exact ⟨h1, vs, (k a h1).trans h2, h3.mono e⟩
  | dic xs =>
    obtain ⟨h1, vs, h2, h3⟩ := h
    exact ⟨h1, vs, (k a h1).trans h2, h3.mono e⟩
  | dit xs =>
    obtain ⟨h1, vs, h2, h3⟩ := h
    exact ⟨h1, vs, (k a h1).trans h2, h3.mono e⟩
  | res r => exact r.loc K f H H' a k h
  | nst x =>
    obtain ⟨fp, h1, h2, h3, h4⟩ := h
    exact ⟨fp, h1, h2, h3, h4.move e fun b hb => k b (h3 b hb)⟩
  | obj x =>
    obtain ⟨fp, h1, h2, h3, h4⟩ := h
    exact ⟨fp, h1, h2, h3, h4.move e fun b hb => k b (h3 b hb)⟩
theorem OOk.iff {K : PySem.W.Frag} {Hs : Hp} {f f' : Addr → Prop} {H : Hp} {a : Addr} {o : O} (h : OOk K Hs f H a o) (k : ∀ b, f b ↔ f' b) : OOk K Hs f' H a o := by
  have e : f = f' := funext fun b => propext (k b)
  rw [← e]
  exact h
end PD

/-! PD, second part: the abstract state and the heap. -/
namespace PD
open PySem L2

structure Bas where
  H : Hp
  D : Addr → Prop
  S : Hp
  t : Nat → Addr
  n : Nat
abbrev Lb := Option (Option Nat)
/-- the heap: S is stable data, r tells who owns a place (some none: the one result at hand), t where a named object stands -/
structure HR (K : PySem.W.Frag) (B : Bas) (t : Nat → Addr) (S : Hp) (r : Addr → Lb) (M : List (Option O)) (H : Hp) : Prop where
  le : Le S H
  sep : ∀ a l, r a = some l → S a = none ∧ H a ≠ none
  lab : ∀ a n, r a = some (some n) → n < M.length
  obj : ∀ n o, M[n]? = some (some o) → OOk K S (fun a => r a = some (some n)) H (t n) o
  keep : ∀ a o, B.H a = some o → ¬ B.D a → H a = some o ∨ (isD o = true ∧ B.S a = some o ∧ ∃ od, H a = some (.frz od o))
  own : ∀ a l, r a = some l → B.D a ∨ B.H a = none
  stb : ∀ a, S a ≠ none → B.S a ≠ none ∨ B.H a = none ∨ B.D a
  bas : ∀ a o, B.S a = some o → S a = some o
  th : ∀ n, n < B.n → t n = B.t n
  nl : B.n ≤ M.length

inductive AV where
  | un | d (x : D) | p (n : Nat)
inductive R where
  | d (x : D) | o (x : O) | p (n : Nat)
structure Abs where
  env : List AV
  M : List (Option O)
def AVok (K : PySem.W.Frag) (S : Hp) (t : Nat → Addr) (m : Nat) : AV → Option (Option V) → Prop
  | .un, _ => True
  | .d x, w => ∃ v, w = some (some v) ∧ DR K S v x
  | .p n, w => w = some (some (.ref (t n))) ∧ n < m
structure SR (K : PySem.W.Frag) (S : Hp) (t : Nat → Addr) (m : Nat) (env : List AV) (σ : St) : Prop where
  len : env.length = σ.length
  ok : ∀ (i : Nat) (av : AV), env[i]? = some av → AVok K S t m av (σ[i]?)
def Rok (K : PySem.W.Frag) (S : Hp) (r : Addr → Lb) (t : Nat → Addr) (m : Nat) (H : Hp) : R → V → Prop
  | .d x, v => DR K S v x
  | .p n, v => v = .ref (t n) ∧ n < m
  | .o x, v => ∃ a, v = .ref a ∧ OOk K S (fun b => r b = some none) H a x

section
variable {K : PySem.W.Frag} {B : Bas} {t : Nat → Addr} {S : Hp} {r : Addr → Lb} {M : List (Option O)} {H : Hp}
theorem HR.of_none (h : HR K B t S r M H) {a : Addr} (e : H a = none) : S a = none := by
  cases q : S a with
  | none => rfl
  | some u =>
    rcases h.le a u q with z | ⟨_, _, z⟩
    · rw [e] at z; cases z
    · rw [e] at z; cases z
theorem HR.fresh (h : HR K B t S r M H) {a : Addr} (e : H a = none) : B.D a ∨ B.H a = none := by
  by_cases hd : B.D a
  · exact .inl hd
  · refine .inr ?_
    cases q : B.H a with
    | none => rfl
    | some o =>
      rcases h.keep a o q hd with z | ⟨_, _, _, z⟩
      · rw [e] at z; cases z
      · rw [e] at z; cases z
def dropT (r : Addr → Lb) : Addr → Lb := fun a => if r a = some none then none else r a
theorem dropT_nm {r : Addr → Lb} {a : Addr} {n : Nat} : dropT r a = some (some n) ↔ r a = some (some n) := by
  unfold dropT
  split
  · rename_i h; rw [h]; simp
  · exact Iff.rfl
theorem dropT_some {r : Addr → Lb} {a : Addr} {l : Option Nat} (h : dropT r a = some l) : r a = some l := by
  unfold dropT at h
  split at h
  · cases h
  · exact h
theorem HR.drop (h : HR K B t S r M H) : HR K B t S (dropT r) M H where
  le := h.le
  sep := fun a l e => h.sep a l (dropT_some e)
  lab := fun a n e => h.lab a n (dropT_some e)
  obj := fun n o e => (h.obj n o e).iff fun b => dropT_nm.symm
  keep := h.keep
  own := fun a l e => h.own a l (dropT_some e)
  stb := h.stb
  bas := h.bas
  th := h.th
  nl := h.nl
/-- a new object at hand -/
def tmpT (r : Addr → Lb) (p : Addr) : Addr → Lb := fun a => if a = p then some none else dropT r a
theorem HR.tmp (h : HR K B t S r M H) {p : Addr} (hp : H p = none) (u : HO) : HR K B t S (tmpT r p) M (upd H p u) where
  le := fun a w e => by
    have ne : a ≠ p := fun q => by rw [q, h.of_none hp] at e; cases e
    rw [upd_ne ne]
    exact h.le a w e
  sep := fun a l e => by
    unfold tmpT at e
    split at e
    · rename_i q
      rw [q]
      exact ⟨h.of_none hp, by rw [upd_same]; simp⟩
    · rename_i ne
      have := h.sep a l (dropT_some e)
      rw [upd_ne ne]
      exact this
  lab := fun a n e => by
    unfold tmpT at e
    split at e
    · cases e
    · exact h.lab a n (dropT_some e)
  obj := fun n o e => by
    have np : ∀ b, r b = some (some n) → b ≠ p := fun b hb q => (h.sep b _ hb).2 (by rw [q]; exact hp)
    refine ((h.obj n o e).move (Le.refl S) fun b hb => upd_ne (np b hb)).iff fun b => ?_
    unfold tmpT
    split
    · rename_i q
      constructor
      · intro hb; exact absurd q (np b hb)
      · intro z; cases z
    · exact dropT_nm.symm
  keep := fun a o e nd => by
    have ne : a ≠ p := fun q => by
      subst q
      rcases h.keep a o e nd with z | ⟨_, _, _, z⟩
      · rw [hp] at z; cases z
      · rw [hp] at z; cases z
    rw [upd_ne ne]
    exact h.keep a o e nd
  own := fun a l e => by
    unfold tmpT at e
    split at e
    · rename_i q
      rw [q]
      exact h.fresh hp
    · exact h.own a l (dropT_some e)
  stb := h.stb
  bas := h.bas
  th := h.th
  nl := h.nl
theorem tmpT_self {r : Addr → Lb} {p : Addr} : tmpT r p p = some none := by unfold tmpT; rw [if_pos rfl]
/-- a new object that never changes -/
theorem HR.stable (h : HR K B t S r M H) {p : Addr} (hp : H p = none) (u : HO) : HR K B t (upd S p u) r M (upd H p u) where
  le := fun a w e => by
    by_cases q : a = p
    · subst q
      rw [upd_same] at e ⊢
      exact .inl e
    · rw [upd_ne q] at e ⊢
      exact h.le a w e
  sep := fun a l e => by
    have ne : a ≠ p := fun q => (h.sep a l e).2 (by rw [q]; exact hp)
    rw [upd_ne ne, upd_ne ne]
    exact h.sep a l e
  lab := h.lab
  obj := fun n o e => by
    have np : ∀ b, r b = some (some n) → b ≠ p := fun b hb q => (h.sep b _ hb).2 (by rw [q]; exact hp)
    refine (h.obj n o e).move (fun a w z => .inl ?_) fun b hb => upd_ne (np b hb)
    have ne : a ≠ p := fun q => by rw [q, h.of_none hp] at z; cases z
    rw [upd_ne ne]
    exact z
  keep := fun a o e nd => by
    have ne : a ≠ p := fun q => by
      subst q
      rcases h.keep a o e nd with z | ⟨_, _, _, z⟩
      · rw [hp] at z; cases z
      · rw [hp] at z; cases z
    rw [upd_ne ne]
    exact h.keep a o e nd
  own := h.own
  stb := fun a e => by
    by_cases q : a = p
    · subst q
      rcases h.fresh hp with z | z
      · exact .inr (.inr z)
      · exact .inr (.inl z)
    · rw [upd_ne q] at e
      exact h.stb a e
  bas := fun a o e => by
    have z := h.bas a o e
    have ne : a ≠ p := fun q => by rw [q, h.of_none hp] at z; cases z
    rw [upd_ne ne]
    exact z
  th := h.th
  nl := h.nl
theorem Le.new {S H : Hp} {p : Addr} {u : HO} (e : Le S H) (hp : H p = none) : Le S (upd S p u) := fun a w z => by
  have ne : a ≠ p := fun q => by
    rw [q] at z
    rcases e p w z with y | ⟨_, _, y⟩
    · rw [hp] at y; cases y
    · rw [hp] at y; cases y
  rw [upd_ne ne]
  exact .inl z
/-- the result at hand gets the next name -/
def nameT (r : Addr → Lb) (m : Nat) : Addr → Lb := fun a => if r a = some none then some (some m) else r a
def nameA (t : Nat → Addr) (m : Nat) (a : Addr) : Nat → Addr := fun n => if n = m then a else t n
theorem HR.name (h : HR K B t S r M H) {a : Addr} {o : O} (ok : OOk K S (fun b => r b = some none) H a o) : HR K B (nameA t M.length a) S (nameT r M.length) (M ++ [some o]) H where
  le := h.le
  sep := fun b l e => by
    unfold nameT at e
    split at e
    · rename_i q; exact h.sep b _ q
    · exact h.sep b l e
  lab := fun b n e => by
    rw [List.length_append, List.length_singleton]
    unfold nameT at e
    split at e
    · cases e; omega
    · have := h.lab b n e; omega
  obj := fun n o' e => by
    by_cases q : n = M.length
    · subst q
      rw [List.getElem?_append_right (Nat.le_refl _), Nat.sub_self] at e
      have e : some o = some o' := by simpa using e
      cases e
      unfold nameA
      rw [if_pos rfl]
      refine ok.iff fun b => ?_
      unfold nameT
      split
      · rename_i z; simp [z]
      · rename_i z
        constructor
        · intro y; exact absurd y z
        · intro y; exact absurd (h.lab b _ y) (Nat.lt_irrefl _)
    · have hn : n < M.length := by
        have := (List.getElem?_eq_some_iff.mp e).1
        rw [List.length_append, List.length_singleton] at this
        omega
      rw [List.getElem?_append_left hn] at e
      unfold nameA
      rw [if_neg q]
      refine (h.obj n o' e).iff fun b => ?_
      unfold nameT
      split
      · rename_i z
        rw [z]
        constructor
        · intro y; cases y
        · intro y
          have := Option.some.inj (Option.some.inj y)
          exact absurd this.symm q
      · exact Iff.rfl
  keep := h.keep
  own := fun b l e => by
    unfold nameT at e
    split at e
    · rename_i q; exact h.own b _ q
    · exact h.own b l e
  stb := h.stb
  bas := h.bas
  th := fun n hn => by
    unfold nameA
    rw [if_neg (by have := h.nl; omega)]
    exact h.th n hn
  nl := by
    rw [List.length_append]
    have := h.nl
    omega
/-- what an owned list or dict holds may be taken as data from now on -/
def hoOf (a : Addr) (H : Hp) : HO := (H a).getD (.lst [])
theorem OOk.data {f : Addr → Prop} {a : Addr} {o : O} {x : D} (ok : OOk K S f H a o) (e : o.toD = some x) (S' : Hp) (hl : Le S S') (hs : S' a = H a) : f a ∧ DR K S' (.ref a) x ∧ H a ≠ none := by
  cases o with
  | lst xs =>
    obtain ⟨h1, vs, h2, h3⟩ := ok
    cases e
    exact ⟨h1, .lst (hs.trans h2) (h3.mono hl), by rw [h2]; simp⟩
  | dic xs =>
    obtain ⟨h1, vs, h2, h3⟩ := ok
    cases e
    exact ⟨h1, .dic (Rd.of (hs.trans h2)) (h3.mono hl), by rw [h2]; simp⟩
  | dit xs =>
    obtain ⟨h1, vs, h2, h3⟩ := ok
    cases e
    exact ⟨h1, .dit (Rd.of (hs.trans h2)) (h3.mono hl), by rw [h2]; simp⟩
  | res _ => cases e
  | nst _ => cases e
  | obj _ => cases e
/-- a piece labelled l becomes stable at a -/
theorem HR.freeze (h : HR K B t S r M H) {l : Option Nat} {a : Addr} {u : HO} (ra : r a = some l) (hu : H a = some u) (M' : List (Option O)) (hM : M'.length = M.length)
    (hm : ∀ n o, M'[n]? = some (some o) → M[n]? = some (some o) ∧ l ≠ some n) : HR K B t (upd S a u) (fun b => if r b = some l then none else r b) M' H where
  le := fun b w e => by
    by_cases q : b = a
    · subst q
      rw [upd_same] at e
      exact .inl (hu.trans e)
    · rw [upd_ne q] at e
      exact h.le b w e
  sep := fun b k e => by
    split at e
    · cases e
    · rename_i ne
      have q : b ≠ a := fun q => by rw [q] at ne; exact ne ra
      rw [upd_ne q]
      exact h.sep b k e
  lab := fun b n e => by
    split at e
    · cases e
    · rw [hM]; exact h.lab b n e
  obj := fun n o e => by
    obtain ⟨e1, e2⟩ := hm n o e
    refine ((h.obj n o e1).move (fun b w z => .inl ?_) (fun _ _ => rfl)).iff fun b => ?_
    · have q : b ≠ a := fun q => by rw [q, (h.sep a _ ra).1] at z; cases z
      rw [upd_ne q]
      exact z
    · constructor
      · intro y
        rw [if_neg (by rw [y]; intro z; exact e2 (Option.some.inj z).symm)]
        exact y
      · intro y
        split at y
        · cases y
        · exact y
  keep := h.keep
  own := fun b k e => by
    split at e
    · cases e
    · exact h.own b k e
  stb := fun b e => by
    by_cases q : b = a
    · subst q
      rcases h.own b _ ra with z | z
      · exact .inr (.inr z)
      · exact .inr (.inl z)
    · rw [upd_ne q] at e
      exact h.stb b e
  bas := fun b o e => by
    have z := h.bas b o e
    have q : b ≠ a := fun q => by rw [q, (h.sep a _ ra).1] at z; cases z
    rw [upd_ne q]
    exact z
  th := h.th
  nl := by rw [hM]; exact h.nl
/-- .. pieces labelled l become stable at fp -/
theorem HR.freezeN (h : HR K B t S r M H) {l : Option Nat} {fp : List Addr} (ra : ∀ a ∈ fp, r a = some l) (M' : List (Option O)) (hM : M'.length = M.length)
    (hm : ∀ n o, M'[n]? = some (some o) → M[n]? = some (some o) ∧ l ≠ some n) : HR K B t (fun b => if b ∈ fp then H b else S b) (fun b => if r b = some l then none else r b) M' H where
  le := fun b w e => by
    dsimp only at e
    split at e
    · exact .inl e
    · exact h.le b w e
  sep := fun b k e => by
    split at e
    · cases e
    · rename_i ne
      have q : b ∉ fp := fun q => ne (ra b q)
      rw [if_neg q]
      exact h.sep b k e
  lab := fun b n e => by
    split at e
    · cases e
    · rw [hM]; exact h.lab b n e
  obj := fun n o e => by
    obtain ⟨e1, e2⟩ := hm n o e
    refine ((h.obj n o e1).move (fun b w z => .inl ?_) (fun _ _ => rfl)).iff fun b => ?_
    · have q : b ∉ fp := fun q => by rw [(h.sep b _ (ra b q)).1] at z; cases z
      rw [if_neg q]
      exact z
    · constructor
      · intro y
        rw [if_neg (by rw [y]; intro z; exact e2 (Option.some.inj z).symm)]
        exact y
      · intro y
        split at y
        · cases y
        · exact y
  keep := h.keep
  own := fun b k e => by
    split at e
    · cases e
    · exact h.own b k e
  stb := fun b e => by
    by_cases q : b ∈ fp
    · rcases h.own b _ (ra b q) with z | z
      · exact .inr (.inr z)
      · exact .inr (.inl z)
    · rw [if_neg q] at e
      exact h.stb b e
  bas := fun b o e => by
    have z := h.bas b o e
    have q : b ∉ fp := fun q => by rw [(h.sep b _ (ra b q)).1] at z; cases z
    rw [if_neg q]
    exact z
  th := h.th
  nl := by rw [hM]; exact h.nl
theorem HR.ext_fp (h : HR K B t S r M H) {l : Option Nat} {fp : List Addr} (ra : ∀ a ∈ fp, r a = some l) : ∀ b o, S b = some o → (if b ∈ fp then H b else S b) = some o := fun b o z => by
  have q : b ∉ fp := fun q => by rw [(h.sep b _ (ra b q)).1] at z; cases z
  rw [if_neg q]
  exact z
theorem HR.le_up (h : HR K B t S r M H) {l : Option Nat} {a : Addr} {u : HO} (ra : r a = some l) : Le S (upd S a u) := fun b w z => .inl (by
  have q : b ≠ a := fun q => by rw [q, (h.sep a _ ra).1] at z; cases z
  rw [upd_ne q]
  exact z)
/-- a named object is changed -/
theorem HR.mut (h : HR K B t S r M H) {n : Nat} {o' : O} {H' : Hp} (hn : n < M.length) (same : ∀ b, r b ≠ some (some n) → H' b = H b) (there : ∀ b, r b = some (some n) → H' b ≠ none)
    (ok : OOk K S (fun b => r b = some (some n)) H' (t n) o') : HR K B t S r (M.set n (some o')) H' where
  le := fun b w e => by
    rw [same b fun q => by rw [(h.sep b _ q).1] at e; cases e]
    exact h.le b w e
  sep := fun b l e => by
    refine ⟨(h.sep b l e).1, ?_⟩
    by_cases q : r b = some (some n)
    · exact there b q
    · rw [same b q]; exact (h.sep b l e).2
  lab := fun b k e => by rw [List.length_set]; exact h.lab b k e
  obj := fun k o e => by
    by_cases q : k = n
    · subst q
      rw [List.getElem?_set_self hn] at e
      cases e
      exact ok
    · rw [List.getElem?_set_ne (Ne.symm q)] at e
      refine (h.obj k o e).move (Le.refl S) fun b hb => same b ?_
      rw [hb]
      intro z
      exact q (Option.some.inj (Option.some.inj z))
  keep := fun b o e nd => by
    rw [same b fun q => by
      rcases h.own b _ q with z | z
      · exact nd z
      · rw [z] at e; cases e]
    exact h.keep b o e nd
  own := h.own
  stb := h.stb
  bas := h.bas
  th := h.th
  nl := by rw [List.length_set]; exact h.nl

/-! ### a new base, and back -/
def baseOf (t : Nat → Addr) (S : Hp) (r : Addr → Lb) (m : Nat) (H : Hp) : Bas := ⟨H, fun a => ∃ n, r a = some (some n), S, t, m⟩
theorem HR.rebase (h : HR K B t S r M H) : HR K (baseOf t S r M.length H) t S (dropT r) M H where
  le := h.le
  sep := h.drop.sep
  lab := h.drop.lab
  obj := h.drop.obj
  keep := fun a o e _ => .inl e
  own := fun a l e => by
    cases l with
    | none =>
      unfold dropT at e
      split at e
      · cases e
      · rename_i z; exact absurd e z
    | some n => exact .inl ⟨n, dropT_some e⟩
  stb := fun a e => .inl e
  bas := fun a o e => e
  th := fun _ _ => rfl
  nl := Nat.le_refl _
theorem HR.back {t' : Nat → Addr} {S' : Hp} {r' : Addr → Lb} {M' : List (Option O)} {H' : Hp} (h : HR K B t S r M H) (h' : HR K (baseOf t S r M.length H) t' S' r' M' H') : HR K B t' S' r' M' H' where
  le := h'.le
  sep := h'.sep
  lab := h'.lab
  obj := h'.obj
  keep := fun a o e nd => by
    have no : ¬ ∃ n, r a = some (some n) := fun ⟨n, q⟩ => by
      rcases h.own a _ q with z | z
      · exact nd z
      · rw [z] at e; cases e
    rcases h.keep a o e nd with z | ⟨z1, z2, od, z3⟩
    · rcases h'.keep a o z no with y | ⟨y1, y2, y3⟩
      · exact .inl y
      · refine .inr ⟨y1, ?_, y3⟩
        have y2 : S a = some o := y2
        rcases h.stb a (by rw [y2]; simp) with w | w | w
        · cases q : B.S a with
          | none => exact absurd q w
          | some o' =>
            have := h.bas a o' q
            rw [y2] at this
            exact this.symm
        · rw [w] at e; cases e
        · exact absurd w nd
    · rcases h'.keep a _ z3 no with y | ⟨y1, _⟩
      · exact .inr ⟨z1, z2, od, y⟩
      · cases y1
  own := fun a l e => by
    rcases h'.own a l e with ⟨n, z⟩ | z
    · exact h.own a _ z
    · exact h.fresh z
  stb := fun a e => by
    rcases h'.stb a e with z | z | ⟨n, z⟩
    · exact h.stb a z
    · rcases h.fresh z with y | y
      · exact .inr (.inr y)
      · exact .inr (.inl y)
    · rcases h.own a _ z with y | y
      · exact .inr (.inr y)
      · exact .inr (.inl y)
  bas := fun a o e => h'.bas a o (h.bas a o e)
  th := fun n hn => (h'.th n (Nat.lt_of_lt_of_le hn h.nl)).trans (h.th n hn)
  nl := Nat.le_trans h.nl h'.nl
/-- how a later state stands to an earlier one -/
structure Ext (t : Nat → Addr) (S : Hp) (m : Nat) (t' : Nat → Addr) (S' : Hp) (m' : Nat) : Prop where
  st : ∀ a o, S a = some o → S' a = some o
  th : ∀ n, n < m → t' n = t n
  nl : m ≤ m'
theorem Ext.refl {m : Nat} : Ext t S m t S m := ⟨fun _ _ h => h, fun _ _ => rfl, Nat.le_refl _⟩
theorem Ext.trans {t' t'' : Nat → Addr} {S' S'' : Hp} {m m' m'' : Nat} (a : Ext t S m t' S' m') (b : Ext t' S' m' t'' S'' m'') : Ext t S m t'' S'' m'' :=
  ⟨fun c o h => b.st c o (a.st c o h), fun n hn => (b.th n (Nat.lt_of_lt_of_le hn a.nl)).trans (a.th n hn), Nat.le_trans a.nl b.nl⟩
theorem Ext.le {t' : Nat → Addr} {S' : Hp} {m m' : Nat} (a : Ext t S m t' S' m') : Le S S' := fun c u h => .inl (a.st c u h)
theorem HR.ext {t' : Nat → Addr} {S' : Hp} {r' : Addr → Lb} {m : Nat} {M' : List (Option O)} {H' : Hp} (h' : HR K (baseOf t S r m H) t' S' r' M' H') : Ext t S m t' S' M'.length := ⟨h'.bas, h'.th, h'.nl⟩
theorem SR.ext {t' : Nat → Addr} {S' : Hp} {m m' : Nat} {env : List AV} {σ : St} (s : SR K S t m env σ) (e : Ext t S m t' S' m') : SR K S' t' m' env σ where
  len := s.len
  ok := fun i av h => by
    have q := s.ok i av h
    cases av with
    | un => trivial
    | d x =>
      obtain ⟨v, h1, h2⟩ := q
      exact ⟨v, h1, h2.mono e.le⟩
    | p n =>
      obtain ⟨h1, h2⟩ := q
      exact ⟨by rw [e.th n h2]; exact h1, Nat.lt_of_lt_of_le h2 e.nl⟩
theorem SR.set {m : Nat} {env : List AV} {σ : St} {av : AV} {v : V} (s : SR K S t m env σ) (i : Nat) (h : AVok K S t m av (some (some v))) : SR K S t m (env.set i av) (σ.set i (some v)) where
  len := by rw [List.length_set, List.length_set]; exact s.len
  ok := fun j w e => by
    by_cases q : i = j
    · subst q
      have hi : i < env.length := by
        have := (List.getElem?_eq_some_iff.mp e).1
        rwa [List.length_set] at this
      rw [List.getElem?_set_self hi] at e
      cases e
      rw [List.getElem?_set_self (by rw [← s.len]; exact hi)]
      exact h
    · rw [List.getElem?_set_ne q] at e ⊢
      exact s.ok j w e
theorem SR.get {m : Nat} {env : List AV} {σ : St} {i : Nat} {x : D} (s : SR K S t m env σ) (h : env[i]? = some (.d x)) : ∃ v, σ[i]? = some (some v) ∧ DR K S v x := s.ok i _ h
theorem SR.getP {m : Nat} {env : List AV} {σ : St} {i n : Nat} (s : SR K S t m env σ) (h : env[i]? = some (.p n)) : σ[i]? = some (some (.ref (t n))) ∧ n < m := s.ok i _ h
end

/-! ### states and results -/
def Rel (K : PySem.W.Frag) (B : Bas) (A : Abs) (σ : St) (H : Hp) : Prop := ∃ t S r, HR K B t S r A.M H ∧ SR K S t A.M.length A.env σ
def Res (K : PySem.W.Frag) (B : Bas) (A : Abs) (x : R) (v : V) (σ : St) (H : Hp) : Prop := ∃ t S r, HR K B t S r A.M H ∧ SR K S t A.M.length A.env σ ∧ Rok K S r t A.M.length H x v
theorem Res.rel {K : PySem.W.Frag} {B : Bas} {A : Abs} {x : R} {v : V} {σ : St} {H : Hp} (h : Res K B A x v σ H) : Rel K B A σ H := let ⟨t, S, r, a, b, _⟩ := h; ⟨t, S, r, a, b⟩
theorem Rel.res {K : PySem.W.Frag} {B : Bas} {A : Abs} {v : V} {x : D} {σ : St} {H : Hp} (h : Rel K B A σ H) (d : ∀ S, DR K S v x) : Res K B A (.d x) v σ H := let ⟨t, S, r, a, b⟩ := h; ⟨t, S, r, a, b, d S⟩
end PD

/-! PD, third part: judgements and the first rules. -/
namespace PD
open PySem L2

abbrev PX := EN → Abs → Prop
abbrev PTE := Abs → (R → Abs → Prop) → PX → Prop
abbrev PTT := Abs → (Bool → Abs → Prop) → PX → Prop
abbrev PTA := Abs → (List R → Abs → Prop) → PX → Prop
structure PEnds where
  nx : Abs → Prop
  rt : R → Abs → Prop
  bk : Abs → Prop := fun _ => False
  ct : Abs → Prop := fun _ => False
  ex : PX := fun _ _ => False
abbrev PTS := PEnds → Abs → Prop

/-! ### results: frozen, seen -/
def R.fz : R → Option R
  | .d x => some (.d x)
  | .p n => some (.p n)
  | .o (.lst xs) => some (.d (.lst xs))
  | .o (.dic xs) => some (.d (.dic xs))
  | .o (.dit xs) => some (.d (.dit xs))
  | .o (.res _) => none
  | .o (.nst x) => some (.d x.toD)
  | .o (.obj _) => none
def view (M : List (Option O)) : R → Option D
  | .d x => some x
  | .p n => match M[n]? with
    | some (some o) => o.toD
    | _ => none
  | .o o => o.toD
/-- the top seen in the heap, what is in it stable -/
def DV (K : PySem.W.Frag) (S H : Hp) (v : V) : D → Prop
  | .non => v = .non
  | .bl b => v = .bl b
  | .int i => v = .int i
  | .str l => v = .str (st l)
  | .lst ds => ∃ a vs, v = .ref a ∧ H a = some (.lst vs) ∧ DRs K S vs ds
  | .scr ns => ∃ a, v = .ref a ∧ SqL K H a (ns.map V.int)
  | .exc e => ∃ a, v = .ref a ∧ H a = some (excHO (ev K e) none a)
  | .fn k => v = .ref (clsA K (fnName k))
  | .tup ds => ∃ a vs, v = .ref a ∧ H a = some (.tup vs) ∧ DRs K S vs ds
  | .dic ds => ∃ a vs, v = .ref a ∧ Rd H a (.dK vs) ∧ DRk K S vs ds
  | .dit ds => ∃ a vs, v = .ref a ∧ Rd H a (.dT vs) ∧ DRt K S vs ds
section
variable {K : PySem.W.Frag} {S H : Hp} {v : V} {x : D}
theorem DR.dv (h : DR K S v x) (e : Le S H) : DV K S H v x := by
  cases h with
  | non => rfl
  | bl b => rfl
  | int i => rfl
  | str l => rfl
  | lst a b => exact ⟨_, _, rfl, e.lst a, b⟩
  | scr a => exact ⟨_, rfl, e.sql a⟩
  | exc a => exact ⟨_, rfl, e.exc a⟩
  | fn a => rfl
  | tup a b => exact ⟨_, _, rfl, e.tup a, b⟩
  | dic a b => exact ⟨_, _, rfl, e.rd a, b⟩
  | dit a b => exact ⟨_, _, rfl, e.rd a, b⟩
theorem DV.dr (h : DV K S H v x) (e : Le S H) : DR K H v x := by
  cases x with
  | non => cases h; exact .non
  | bl b => cases h; exact .bl b
  | int i => cases h; exact .int i
  | str l => cases h; exact .str l
  | lst ds => obtain ⟨a, vs, rfl, h1, h2⟩ := h; exact .lst h1 (h2.mono e)
  | scr ds => obtain ⟨a, rfl, h1⟩ := h; exact .scr h1
  | exc ds => obtain ⟨a, rfl, h1⟩ := h; exact .exc h1
  | fn a => cases h; exact .fn a
  | tup ds => obtain ⟨a, vs, rfl, h1, h2⟩ := h; exact .tup h1 (h2.mono e)
  | dic ds => obtain ⟨a, vs, rfl, h1, h2⟩ := h; exact .dic h1 (h2.mono e)
  | dit ds => obtain ⟨a, vs, rfl, h1, h2⟩ := h; exact .dit h1 (h2.mono e)
theorem OOk.dv {f : Addr → Prop} {a : Addr} {o : O} {x : D} (ok : OOk K S f H a o) (e : o.toD = some x) : DV K S H (.ref a) x := by
  cases o with
  | lst xs =>
    obtain ⟨h1, vs, h2, h3⟩ := ok
    cases e
    exact ⟨a, vs, rfl, h2, h3⟩
  | dic xs =>
    obtain ⟨h1, vs, h2, h3⟩ := ok
    cases e
    exact ⟨a, vs, rfl, Rd.of h2, h3⟩
  | dit xs =>
    obtain ⟨h1, vs, h2, h3⟩ := ok
    cases e
    exact ⟨a, vs, rfl, Rd.of h2, h3⟩
  | res _ => cases e
  | nst _ => cases e
  | obj _ => cases e
end
/-- the state with what is at hand -/
structure Now (K : PySem.W.Frag) (B : Bas) (t : Nat → Addr) (S : Hp) (r : Addr → Lb) (A : Abs) (σ : St) (H : Hp) : Prop where
  h : HR K B t S r A.M H
  s : SR K S t A.M.length A.env σ
section
variable {K : PySem.W.Frag} {B : Bas} {t : Nat → Addr} {S : Hp} {r : Addr → Lb} {A : Abs} {σ : St} {H : Hp} {v : V} {x : D}
theorem Now.rel (n : Now K B t S r A σ H) : Rel K B A σ H := ⟨t, S, r, n.h, n.s⟩
theorem Now.res {y : R} (n : Now K B t S r A σ H) (k : Rok K S r t A.M.length H y v) : Res K B A y v σ H := ⟨t, S, r, n.h, n.s, k⟩
theorem Now.view {y : R} (n : Now K B t S r A σ H) (k : Rok K S r t A.M.length H y v) (e : view A.M y = some x) : DV K S H v x := by
  cases y with
  | d z => cases e; exact DR.dv k n.h.le
  | p m =>
    obtain ⟨rfl, hm⟩ := k
    have e : (match A.M[m]? with
      | some (some o) => o.toD
      | _ => none) = some x := e
    split at e
    · rename_i o q
      exact (n.h.obj m o q).dv e
    · cases e
  | o z =>
    obtain ⟨a, rfl, k⟩ := k
    exact k.dv e
theorem Now.drop (n : Now K B t S r A σ H) : Now K B t S (dropT r) A σ H := ⟨n.h.drop, n.s⟩
/-- what is at hand becomes data, or was data or a name -/
theorem Now.fz {y y' : R} (n : Now K B t S r A σ H) (k : Rok K S r t A.M.length H y v) (e : y.fz = some y') : ∃ S' r', Now K B t S' r' A σ H ∧ Rok K S' r' t A.M.length H y' v ∧ Ext t S A.M.length t S' A.M.length ∧ (y' = .d x → True) := by
  have go : ∀ (o : O) (z : D) (w : V), Rok K S r t A.M.length H (.o o) w → o.toD = some z → ∃ S' r', Now K B t S' r' A σ H ∧ Rok K S' r' t A.M.length H (.d z) w ∧ Ext t S A.M.length t S' A.M.length := fun o z w k e => by
    obtain ⟨a, rfl, ok⟩ := k
    obtain ⟨u, hu⟩ : ∃ u, H a = some u := by
      cases o with
      | lst xs => obtain ⟨_, vs, h2, _⟩ := ok; exact ⟨_, h2⟩
      | dic xs => obtain ⟨_, vs, h2, _⟩ := ok; exact ⟨_, h2⟩
      | dit xs => obtain ⟨_, vs, h2, _⟩ := ok; exact ⟨_, h2⟩
      | res _ => cases e
      | nst _ => cases e
      | obj _ => cases e
    have ra : r a = some none := (ok.data e H n.h.le rfl).1
    have le := n.h.le_up (u := u) ra
    have ex : Ext t S A.M.length t (upd S a u) A.M.length := ⟨fun b o q => by
      rcases le b o q with z | ⟨_, _, z⟩
      · exact z
      · have ne : b ≠ a := fun y => by rw [y, (n.h.sep a _ ra).1] at q; cases q
        rw [upd_ne ne, q] at z
        rw [upd_ne ne]
        exact q, fun _ _ => rfl, Nat.le_refl _⟩
    refine ⟨upd S a u, _, ⟨n.h.freeze ra hu A.M rfl fun n o q => ⟨q, fun z => nomatch z⟩, n.s.ext ex⟩, ?_, ex⟩
    exact (ok.data e (upd S a u) le (by rw [upd_same, hu])).2.1
  cases y with
  | d z => cases e; exact ⟨S, r, n, k, Ext.refl, fun _ => trivial⟩
  | p m => cases e; exact ⟨S, r, n, k, Ext.refl, fun _ => trivial⟩
  | o z =>
    cases z with
    | lst xs => cases e; obtain ⟨a, b, c, d, e⟩ := go _ _ v k rfl; exact ⟨a, b, c, d, e, fun _ => trivial⟩
    | dic xs => cases e; obtain ⟨a, b, c, d, e⟩ := go _ _ v k rfl; exact ⟨a, b, c, d, e, fun _ => trivial⟩
    | dit xs => cases e; obtain ⟨a, b, c, d, e⟩ := go _ _ v k rfl; exact ⟨a, b, c, d, e, fun _ => trivial⟩
    | res _ => cases e
    | obj _ => cases e
    | nst x =>
      cases e
      obtain ⟨a, rfl, fp, h1, h2, h3, h4⟩ := k
      have ex : Ext t S A.M.length t (fun b => if b ∈ fp then H b else S b) A.M.length := ⟨fun b o q => n.h.ext_fp (l := none) h3 b o q, fun _ _ => rfl, Nat.le_refl _⟩
      exact ⟨_, _, ⟨n.h.freezeN (l := none) h3 A.M rfl fun n o q => ⟨q, fun z => nomatch z⟩, n.s.ext ex⟩, h4.dr ex.le (fun b hb => if_pos hb), ex, fun _ => trivial⟩
/-- a result that is data or a name stays what it is -/
theorem Rok.ext {t' : Nat → Addr} {S' H' : Hp} {r' : Addr → Lb} {m m' : Nat} {y : R} (k : Rok K S r t m H y v) (hy : ∀ o, y ≠ .o o) (e : Ext t S m t' S' m') : Rok K S' r' t' m' H' y v := by
  cases y with
  | d z => exact DR.mono e.le k
  | p n => exact ⟨by rw [e.th n k.2]; exact k.1, Nat.lt_of_lt_of_le k.2 e.nl⟩
  | o z => exact absurd rfl (hy z)
theorem fz_no {y y' : R} (e : y.fz = some y') : ∀ o, y' ≠ .o o := by
  intro o q
  subst q
  cases y with
  | d z => cases e
  | p m => cases e
  | o z => cases z <;> cases e
end

/-! ### what may follow an operation -/
structure Kont (K : PySem.W.Frag) (S H : Hp) (P : R → Prop) (Q : V → Hp → Prop) : Prop where
  dat : ∀ v d, P (.d d) → DR K S v d → Q v H
  lst : ∀ p vs ds, H p = none → P (.o (.lst ds)) → DRs K S vs ds → Q (.ref p) (upd H p (.lst vs))
  tup : ∀ p vs ds, H p = none → P (.d (.tup ds)) → DRs K S vs ds → Q (.ref p) (upd H p (.tup vs))
  dic : ∀ p vs ds, H p = none → P (.o (.dic ds)) → DRk K S vs ds → Q (.ref p) (upd H p (.dK vs))
  dit : ∀ p vs ds, H p = none → P (.o (.dit ds)) → DRt K S vs ds → Q (.ref p) (upd H p (.dT vs))
theorem Now.kont {K : PySem.W.Frag} {B : Bas} {t : Nat → Addr} {S : Hp} {r : Addr → Lb} {A : Abs} {σ : St} {H : Hp} {P : R → Prop} {Q : V → Hp → Prop} (n : Now K B t S r A σ H)
    (q : ∀ y v H', P y → Res K B A y v σ H' → Q v H') : Kont K S H P Q where
  dat := fun v d h k => q _ v H h (n.res k)
  lst := fun p vs ds hp h k => q _ _ _ h ⟨t, S, tmpT r p, n.h.tmp hp _, n.s, p, rfl, tmpT_self, vs, upd_same, k⟩
  tup := fun p vs ds hp h k => by
    have ex : Ext t S A.M.length t (upd S p (.tup vs)) A.M.length := ⟨fun b o e => by
      have ne : b ≠ p := fun y => by rw [y, n.h.of_none hp] at e; cases e
      rw [upd_ne ne]
      exact e, fun _ _ => rfl, Nat.le_refl _⟩
    exact q _ _ _ h ⟨t, upd S p (.tup vs), r, n.h.stable hp _, n.s.ext ex, .tup upd_same (k.mono ex.le)⟩
  dic := fun p vs ds hp h k => q _ _ _ h ⟨t, S, tmpT r p, n.h.tmp hp _, n.s, p, rfl, tmpT_self, vs, upd_same, k⟩
  dit := fun p vs ds hp h k => q _ _ _ h ⟨t, S, tmpT r p, n.h.tmp hp _, n.s, p, rfl, tmpT_self, vs, upd_same, k⟩

/-! ### judgements -/
/-- what an expression may not let out -/
def noX : PX := fun _ _ => False
def XQ (K : PySem.W.Frag) (B : Bas) (E : WX) (σ : St) (X : PX) : Prop := ∀ C A H, X C A → Rel K B A σ H → E (ev K C) none σ H
def SimE (K : PySem.W.Frag) (E : WX) (t : TE) (p : PTE) : Prop := ∀ (B : Bas) (σ : St) (H : Hp) (A : Abs) (P : R → Abs → Prop) (X : PX) (Q : VK),
  Rel K B A σ H → p A P X → (∀ y A' v H', P y A' → Res K B A' y v σ H' → Q v H') → XQ K B E σ X → t σ H Q
def SimT (K : PySem.W.Frag) (E : WX) (t : TT) (p : PTT) : Prop := ∀ (B : Bas) (σ : St) (H : Hp) (A : Abs) (P : Bool → Abs → Prop) (X : PX) (Q : Bool → Hp → Prop),
  Rel K B A σ H → p A P X → (∀ b A' H', P b A' → Rel K B A' σ H' → Q b H') → XQ K B E σ X → t σ H Q
inductive RL (K : PySem.W.Frag) (S : Hp) (t : Nat → Addr) (m : Nat) : List R → List V → Prop
  | nil : RL K S t m [] []
  | cons {y : R} {v : V} {ys : List R} {vs : List V} : (∀ o, y ≠ .o o) → (∀ r H, Rok K S r t m H y v) → RL K S t m ys vs → RL K S t m (y :: ys) (v :: vs)
def SimA (K : PySem.W.Frag) (E : WX) (t : TA) (p : PTA) : Prop := ∀ (B : Bas) (σ : St) (H : Hp) (A : Abs) (P : List R → Abs → Prop) (X : PX) (Q : List V → Hp → Prop),
  Rel K B A σ H → p A P X → (∀ ys A' vs H', P ys A' → (∃ t S r, Now K B t S r A' σ H' ∧ RL K S t A'.M.length ys vs) → Q vs H') → XQ K B E σ X → t σ H Q
structure SKont (K : PySem.W.Frag) (B : Bas) (E : WX) (P : PEnds) (D : Ends) : Prop where
  nx : ∀ A σ H, P.nx A → Rel K B A σ H → D.nx σ H
  rt : ∀ y A v σ H, P.rt y A → Res K B A y v σ H → D.rt v H
  bk : ∀ A σ H, P.bk A → Rel K B A σ H → D.bk σ H
  ct : ∀ A σ H, P.ct A → Rel K B A σ H → D.ct σ H
  ex : ∀ σ, XQ K B E σ P.ex
def SimS (K : PySem.W.Frag) (E : WX) (t : TS) (p : PTS) : Prop := ∀ (B : Bas) (σ : St) (H : Hp) (A : Abs) (P : PEnds) (D : Ends), Rel K B A σ H → p P A → SKont K B E P D → t D σ H
structure DE (X : Cx) (E : WX) (e : Expr) (t : TE) (p : PTE) : Prop where
  pe : PE X e t
  sim : SimE X.K E t p
structure DT (X : Cx) (E : WX) (e : Expr) (t : TT) (p : PTT) : Prop where
  pe : PT X e t
  sim : SimT X.K E t p
structure DW (X : Cx) (E : WX) (e : Expr) (t : TT) (p : PTT) : Prop where
  pe : PW X e t
  sim : SimT X.K E t p
structure DA (X : Cx) (E : WX) (e : List Expr) (t : TA) (p : PTA) : Prop where
  pe : PA X e t
  sim : SimA X.K E t p
structure DS (X : Cx) (E : WX) (e : Stmt) (t : TS) (p : PTS) : Prop where
  pe : PS X e t
  sim : SimS X.K E t p
structure DSs (X : Cx) (E : WX) (e : List Stmt) (t : TS) (p : PTS) : Prop where
  pe : PSs X e t
  sim : SimS X.K E t p

theorem XQ.back {K : PySem.W.Frag} {B : Bas} {E : WX} {X : PX} {t : Nat → Addr} {S : Hp} {r : Addr → Lb} {M : List (Option O)} {H : Hp} {σ : St} (x : XQ K B E σ X) (h : HR K B t S r M H) : XQ K (baseOf t S r M.length H) E σ X :=
  fun C A H' q ⟨t', S', r', h', s'⟩ => x C A H' q ⟨t', S', r', h.back h', s'⟩

/-! ### names, constants -/
def pVar (i : Nat) : PTE := fun A P _ => match A.env[i]? with
  | some (.d x) => P (.d x) A
  | some (.p n) => P (.p n) A
  | _ => False
def pC (x : D) : PTE := fun A P _ => P (.d x) A
section
variable {X : Cx} {E : WX}
theorem sim_var {K : PySem.W.Frag} {i : Nat} : SimE K E (tVar i) (pVar i) := fun B σ H A P X Q ⟨t, S, r, h, s⟩ p q _ => by
  unfold pVar at p
  split at p
  · rename_i x e
    obtain ⟨v, h1, h2⟩ := s.get e
    exact ⟨v, h1, q _ A v H p ⟨t, S, r, h, s, h2⟩⟩
  · rename_i n e
    obtain ⟨h1, h2⟩ := s.getP e
    exact ⟨_, h1, q _ A _ H p ⟨t, S, r, h, s, rfl, h2⟩⟩
  · exact p.elim
theorem de_var (i : Nat) {x : Str} {pos : Pos} (hN : X.N[i]? = some x := by rfl) (hv : Vis X.env.scope x := by first | exact Or.inl rfl | exact Or.inr (Or.inl rfl) | exact Or.inr (Or.inr rfl)) (hd : (x == ("__debug__" : Str)) = false := by decide)
    (hcd : (x == ("__classdict__" : Str)) = false := by decide) : DE X E (.Name x pos) (tVar i) (pVar i) := ⟨pe_var hN hv hd hcd, sim_var⟩
theorem sim_c {K : PySem.W.Frag} {v : V} {x : D} (h : ∀ S, DR K S v x) : SimE K E (tC v) (pC x) := fun B σ H A P X Q r p q _ => q _ A v H p (r.res h)
theorem de_int {i : Int} {j pos} : DE X E (.Constant (.int i) j pos) (tC (.int i)) (pC (.int i)) := ⟨pe_int, sim_c fun _ => .int i⟩
theorem de_bl {i : Bool} {j pos} : DE X E (.Constant (.bool i) j pos) (tC (.bl i)) (pC (.bl i)) := ⟨pe_bl, sim_c fun _ => .bl i⟩
theorem de_non {j pos} : DE X E (.Constant .none j pos) (tC .non) (pC .non) := ⟨pe_non, sim_c fun _ => .non⟩
theorem DR.str' {K : PySem.W.Frag} {S : Hp} {x : Str} {l : Tx} (h : x.cps.toList = l) : DR K S (.str x) (.str l) := by
  subst h
  have := DR.str (K := K) (H := S) x.cps.toList
  rw [st_of] at this
  exact this
theorem de_str {x : Str} {l : Tx} {j pos} (h : x.cps.toList = l) : DE X E (.Constant (.str x) j pos) (tC (.str x)) (pC (.str l)) := ⟨pe_str, sim_c fun _ => DR.str' h⟩
/-- a text constant of the module -/
theorem de_gstr {x : Str} {y : Str} {u : Tok} {l : Tx} {pos} (hg : Gl X x) (hm : X.mg x = some (.str y u)) (h : y.cps.toList = l) (hd : (x == ("__debug__" : Str)) = false := by decide) : DE X E (.Name x pos) (tC (.str y)) (pC (.str l)) :=
  ⟨pe_glob (v := .str y) hg hm ⟨u, rfl⟩ hd, sim_c fun _ => DR.str' h⟩
theorem de_gint {x : Str} {y : Int} {u : Tok} {pos} (hg : Gl X x) (hm : X.mg x = some (.int y u)) (hd : (x == ("__debug__" : Str)) = false := by decide) : DE X E (.Name x pos) (tC (.int y)) (pC (.int y)) :=
  ⟨pe_glob (v := .int y) hg hm ⟨u, rfl⟩ hd, sim_c fun _ => .int y⟩
end

/-! ### operations on two values -/
abbrev B2 := D → D → (R → Prop) → Prop
def Snd2 (K : PySem.W.Frag) (r : R2) (b : B2) : Prop := ∀ (S H : Hp) (x y : D) (v w : V) (P : R → Prop) (Q : VK), Le S H → DV K S H v x → DV K S H w y → b x y P → Kont K S H P Q → r v w H Q
def pOp2 (b : B2) (pa pb : PTE) : PTE := fun A P X => pa A (fun y1 A1 => match y1.fz with
  | some z1 => pb A1 (fun y2 A2 => match view A2.M z1, view A2.M y2 with
    | some x, some y => b x y fun z => P z A2
    | _, _ => False) X
  | none => False) X
theorem sim_op2 {K : PySem.W.Frag} {E : WX} {r : R2} {b : B2} {ta tb : TE} {pa pb : PTE} (hr : Snd2 K r b) (ha : SimE K E ta pa) (hb : SimE K E tb pb) : SimE K E (tOp r ta tb) (pOp2 b pa pb) := fun B σ H A P X Q rel p q xq => by
  refine ha B σ H A _ X _ rel p (fun y1 A1 v1 H1 p1 res => ?_) xq
  cases e1 : y1.fz with
  | none => rw [e1] at p1; exact p1.elim
  | some z1 =>
    rw [e1] at p1
    obtain ⟨t, S, ρ, h, s, k⟩ := res
    obtain ⟨S1, ρ1, n1, k1, _, _⟩ := Now.fz (x := .non) ⟨h, s⟩ k e1
    refine hb _ σ H1 A1 _ X _ ⟨t, S1, _, n1.h.rebase, n1.s⟩ p1 (fun y2 A2 v2 H2 p2 res2 => ?_) (xq.back n1.h)
    obtain ⟨t2, S2, ρ2, h2, s2, k2⟩ := res2
    have n2 : Now K B t2 S2 ρ2 A2 σ H2 := ⟨n1.h.back h2, s2⟩
    have k1' : Rok K S2 ρ2 t2 A2.M.length H2 z1 v1 := k1.ext (fz_no e1) h2.ext
    split at p2
    · rename_i x y ex ey
      exact hr S2 H2 x y v1 v2 _ Q n2.h.le (n2.view k1' ex) (n2.view k2 ey) p2 (n2.kont fun z v H' pz rz => q z A2 v H' pz rz)
    · exact p2.elim
theorem de_op {X : Cx} {E : WX} {op : Operator} {r : R2} {b : B2} {a c : Expr} {pa pc : PTE} {pos : Pos} (ho : OpR X (binaryOp op) r) (hs : Snd2 X.K r b) (ha : DE X E a ta pa) (hc : DE X E c tc pc) : DE X E (.BinOp a op c pos) (tOp r ta tc) (pOp2 b pa pc) := ⟨pe_op ho ha.pe hc.pe, sim_op2 hs ha.sim hc.sim⟩
theorem de_cmp {X : Cx} {E : WX} {op : CmpOp} {r : R2} {b : B2} {a c : Expr} {pa pc : PTE} {pos : Pos} (ho : OpR X (compareOp op) r) (hs : Snd2 X.K r b) (hm : behindInMarks op c = false) (ha : DE X E a ta pa) (hc : DE X E c tc pc) : DE X E (.Compare a [op] [c] pos) (tOp r ta tc) (pOp2 b pa pc) := ⟨pe_cmpR ho ha.pe hc.pe hm, sim_op2 hs ha.sim hc.sim⟩
/-- an expression as a test -/
def pTest (p : PTE) : PTT := fun A P X => p A (fun y A' => match y with
  | .d (.bl b) => P b A'
  | _ => False) X
theorem sim_test {K : PySem.W.Frag} {E : WX} {t : TE} {p : PTE} (h : SimE K E t p) : SimT K E (tTest t) (pTest p) := fun B σ H A P X Q rel k q xq => by
  refine h B σ H A _ X _ rel k (fun y A' v H' p1 res => ?_) xq
  split at p1
  · rename_i b
    obtain ⟨t, S, r, h1, s1, k1⟩ := id res
    cases DR.bl_of k1
    exact ⟨b, rfl, q b A' H' p1 res.rel⟩
  · exact p1.elim
theorem dt_cmp {X : Cx} {E : WX} {op : CmpOp} {r : R2} {b : B2} {a c : Expr} {pa pc : PTE} {pos : Pos} (ho : OpR X (compareOp op) r) (hs : Snd2 X.K r b) (hm : behindInMarks op c = false) (ha : DE X E a ta pa) (hc : DE X E c tc pc) : DT X E (.Compare a [op] [c] pos) (tTest (tOp r ta tc)) (pTest (pOp2 b pa pc)) := ⟨pt_cmpR ho ha.pe hc.pe hm, sim_test (sim_op2 hs ha.sim hc.sim)⟩
theorem dt_val {X : Cx} {E : WX} {e : Expr} {p : PTE} (h : DE X E e t p) (he : ∀ whole, isTrue e X.env whole = (do let v ← whole; standAt e.pos; holding [v] (truthy v)) := by intro _; rfl) : DT X E e (tB t) (pTest p) := ⟨pt_val h.pe he, sim_test h.sim⟩
end PD

/-! PD, fourth part: operations on data. -/
namespace PD
open PySem L2

/-! ### data that may be compared -/
mutual
def dep : D → Nat
  | .lst xs => deps xs + 1
  | .tup xs => deps xs + 1
  | _ => 0
def deps : List D → Nat
  | [] => 0
  | x :: r => max (dep x) (deps r)
end
mutual
def chk : D → Bool
  | .str l => l.all (· < 0x110000)
  | .lst xs => chks xs
  | .tup xs => chks xs
  | .dic _ => false
  | .dit _ => false
  | .scr _ => false
  | .exc _ => false
  | .fn _ => false
  | _ => true
def chks : List D → Bool
  | [] => true
  | x :: r => chk x && chks r
end
mutual
def py : D → PyData
  | .non => .none
  | .bl b => .bool b
  | .int i => .int i
  | .str l => .str (st l)
  | .lst xs => .list (pys xs)
  | .tup xs => .tuple (pys xs)
  | _ => .none
def pys : List D → List PyData
  | [] => []
  | x :: r => py x :: pys r
end
def okD (x : D) : Prop := chk x = true ∧ dep x ≤ 60
mutual
theorem py_lay : ∀ x : D, chk x = true → (py x).canLay0 = true
  | .non, _ => rfl
  | .bl b, _ => rfl
  | .int i, _ => rfl
  | .str l, h => by
    show (st l).cps.all (· < 0x110000) = true
    simp only [chk] at h
    simp only [st]
    rw [List.all_toArray]
    exact h
  | .lst xs, h => by
    simp only [chk] at h
    simp only [py, PyData.canLay0]
    exact pys_lay xs h
  | .tup xs, h => by
    simp only [chk] at h
    simp only [py, PyData.canLay0]
    exact pys_lay xs h
  | .dic _, h => by simp [chk] at h
  | .dit _, h => by simp [chk] at h
  | .scr _, h => by simp [chk] at h
  | .exc _, h => by simp [chk] at h
  | .fn _, h => by simp [chk] at h
theorem pys_lay : ∀ xs : List D, chks xs = true → PyData.canLayAll0 (pys xs) = true
  | [], _ => rfl
  | x :: r, h => by
    simp only [chks, Bool.and_eq_true] at h
    simp only [pys, PyData.canLayAll0, py_lay x h.1, pys_lay r h.2, Bool.and_self]
end
mutual
theorem py_dep : ∀ x : D, (py x).depth ≤ dep x
  | .non => by simp [py, PyData.depth, dep]
  | .bl b => by simp [py, PyData.depth, dep]
  | .int i => by simp [py, PyData.depth, dep]
  | .str l => by simp [py, PyData.depth, dep]
  | .lst xs => by
    have := pys_dep xs
    simp only [py, PyData.depth, dep]
    omega
  | .tup xs => by
    have := pys_dep xs
    simp only [py, PyData.depth, dep]
    omega
  | .dic _ => by simp [py, PyData.depth, dep]
  | .dit _ => by simp [py, PyData.depth, dep]
  | .scr _ => by simp [py, PyData.depth, dep]
  | .exc _ => by simp [py, PyData.depth, dep]
  | .fn _ => by simp [py, PyData.depth, dep]
theorem pys_dep : ∀ xs : List D, PyData.depthAll (pys xs) ≤ deps xs
  | [] => by simp [pys, PyData.depthAll, deps]
  | x :: r => by
    have h1 := py_dep x
    have h2 := pys_dep r
    simp only [pys, PyData.depthAll, deps]
    omega
end
theorem okD.shaped {x : D} (h : okD x) : SeqAt.shaped (py x) = true := by
  unfold SeqAt.shaped
  rw [py_lay x h.1, Bool.true_and]
  exact decide_eq_true (Nat.le_trans (py_dep x) (Nat.le_trans h.2 (by decide)))
mutual
theorem DR.dp {K : PySem.W.Frag} {H : Hp} : ∀ {x : D} {v : V}, DR K H v x → chk x = true → Dp K H v (py x)
  | .non, _, .non, _ => .non
  | .bl b, _, .bl _, _ => .bl b
  | .int i, _, .int _, _ => .int i
  | .str l, _, .str _, _ => .str _
  | .lst xs, _, .lst h hs, c => by
    simp only [chk] at c
    simp only [py]
    exact .lst (SqL.of h) (DRs.dp hs c)
  | .tup xs, _, .tup h hs, c => by
    simp only [chk] at c
    simp only [py]
    exact .tup (SqT.of h) (DRs.dp hs c)
  | .dic _, _, _, h => by simp [chk] at h
  | .dit _, _, _, h => by simp [chk] at h
  | .scr _, _, _, h => by simp [chk] at h
  | .exc _, _, _, h => by simp [chk] at h
  | .fn _, _, _, h => by simp [chk] at h
theorem DRs.dp {K : PySem.W.Frag} {H : Hp} : ∀ {xs : List D} {vs : List V}, DRs K H vs xs → chks xs = true → DpAll K H vs (pys xs)
  | [], _, .nil, _ => .nil
  | x :: r, _, .cons h t, c => by
    simp only [chks, Bool.and_eq_true] at c
    simp only [pys]
    exact .cons (DR.dp h c.1) (DRs.dp t c.2)
end
def deq (x y : D) : Bool := PyData.eqv (py x) (py y)
theorem deq_refl {x : D} (h : chk x = true) : deq x x = true := SeqAt.eqv_refl _ (py_lay x h)
theorem st_beq (a b : Tx) : (st a == st b) = decide (a = b) := by
  by_cases h : a = b
  · subst h; simp
  · rw [decide_eq_false h]
    exact beq_eq_false_iff_ne.mpr fun q => h (st_inj q)
theorem deq_str (a b : Tx) : deq (.str a) (.str b) = decide (a = b) := by
  simp only [deq, py, PyData.eqv]
  exact st_beq a b
def deqs : List D → List D → Bool
  | [], [] => true
  | x :: xs, y :: ys => deq x y && deqs xs ys
  | _, _ => false
theorem deqs_eq : ∀ xs ys : List D, PyData.eqvAll (pys xs) (pys ys) = deqs xs ys
  | [], [] => by simp [pys, PyData.eqvAll, deqs]
  | [], _ :: _ => by simp [pys, PyData.eqvAll, deqs]
  | _ :: _, [] => by simp [pys, PyData.eqvAll, deqs]
  | x :: xs, y :: ys => by simp only [pys, PyData.eqvAll, deqs, deqs_eq xs ys, deq]
theorem deq_lst (xs ys : List D) : deq (.lst xs) (.lst ys) = deqs xs ys := by
  simp only [deq, py, PyData.eqv]
  exact deqs_eq xs ys
theorem deq_tup (xs ys : List D) : deq (.tup xs) (.tup ys) = deqs xs ys := by
  simp only [deq, py, PyData.eqv]
  exact deqs_eq xs ys
theorem deqs_nil (xs : List D) : deqs xs [] = xs.isEmpty := by cases xs <;> rfl
theorem deq_int (a b : Int) : deq (.int a) (.int b) = decide (a = b) := by
  simp only [deq, py, PyData.eqv]
  by_cases h : a = b
  · subst h; simp
  · rw [decide_eq_false h]; exact beq_eq_false_iff_ne.mpr h
theorem deqs_strs : ∀ xs ys : List Tx, deqs (xs.map D.str) (ys.map D.str) = decide (xs = ys)
  | [], [] => rfl
  | [], _ :: _ => by simp [deqs]
  | _ :: _, [] => by simp [deqs]
  | x :: xs, y :: ys => by
    simp only [List.map_cons, deqs, deq_str, deqs_strs xs ys, List.cons.injEq]
    by_cases h1 : x = y <;> by_cases h2 : xs = ys <;> simp [h1, h2]
theorem deqs_ints : ∀ xs ys : List Int, deqs (xs.map D.int) (ys.map D.int) = decide (xs = ys)
  | [], [] => rfl
  | [], _ :: _ => by simp [deqs]
  | _ :: _, [] => by simp [deqs]
  | x :: xs, y :: ys => by
    simp only [List.map_cons, deqs, deq_int, deqs_ints xs ys, List.cons.injEq]
    by_cases h1 : x = y <;> by_cases h2 : xs = ys <;> simp [h1, h2]
/-- texts that are ascii -/
def asc (l : Tx) : Prop := ∀ c ∈ l, c < 128
theorem chk_str {l : Tx} (h : asc l) : chk (.str l) = true := by
  simp only [chk]
  rw [List.all_eq_true]
  intro c hc
  exact decide_eq_true (Nat.lt_of_lt_of_le (h c hc) (by decide))
theorem chks_of : ∀ {xs : List D}, (∀ x ∈ xs, chk x = true) → chks xs = true
  | [], _ => rfl
  | x :: r, h => by
    simp only [chks, Bool.and_eq_true]
    exact ⟨h x (by simp), chks_of fun y hy => h y (by simp [hy])⟩
theorem deps_of {n : Nat} : ∀ {xs : List D}, (∀ x ∈ xs, dep x ≤ n) → deps xs ≤ n
  | [], _ => Nat.zero_le _
  | x :: r, h => by
    have h1 := h x (by simp)
    have h2 := deps_of (xs := r) fun y hy => h y (by simp [hy])
    simp only [deps]
    omega
theorem okD_strs {ws : List Tx} (h : ∀ w ∈ ws, asc w) : okD (.lst (ws.map D.str)) := by
  refine ⟨?_, ?_⟩
  · simp only [chk]
    refine chks_of fun x hx => ?_
    obtain ⟨w, hw, rfl⟩ := List.mem_map.mp hx
    exact chk_str (h w hw)
  · simp only [dep]
    have := deps_of (n := 0) (xs := ws.map D.str) fun x hx => by
      obtain ⟨w, hw, rfl⟩ := List.mem_map.mp hx
      exact Nat.le_refl _
    omega
theorem okD_str {l : Tx} (h : asc l) : okD (.str l) := ⟨chk_str h, by simp [dep]⟩

/-! ### the operations -/
section
variable {X : Cx}
def bAdd : B2
  | .int i, .int j, P => P (.d (.int (i + j)))
  | .str a, .str b, P => a.length + b.length ≤ 16777216 ∧ P (.d (.str (a ++ b)))
  | .lst a, .lst b, P => a.length + b.length ≤ 16777216 ∧ P (.o (.lst (a ++ b)))
  | _, _, _ => False
def rAddA : R2 := fun x y H Q => (∃ i j, x = .int i ∧ y = .int j ∧ Q (.int (i + j)) H) ∨ ((∃ i j, x = .str i ∧ y = .str j ∧ i.length + j.length ≤ sizeLine ∧ Q (.str (i ++ j)) H) ∨ rCat x y H Q)
theorem op_addA : OpR X (binaryOp .Add) rAddA := OpR.or op_add (OpR.or op_add_str op_cat)
theorem snd_add {K : PySem.W.Frag} : Snd2 K rAddA bAdd := fun S H x y v w P Q le dv dw b k => by
  unfold bAdd at b
  split at b
  · cases dv; cases dw
    exact .inl ⟨_, _, rfl, rfl, k.dat _ _ b (.int _)⟩
  · cases dv; cases dw
    refine .inr (.inl ⟨_, _, rfl, rfl, by rw [st_len, st_len]; exact b.1, ?_⟩)
    rw [st_app]
    exact k.dat _ _ b.2 (.str _)
  · obtain ⟨a1, vs, rfl, h1, h2⟩ := dv
    obtain ⟨a2, ws, rfl, h3, h4⟩ := dw
    exact .inr (.inr ⟨a1, a2, vs, ws, rfl, rfl, h1, h3, by rw [h2.length, h4.length]; exact b.1, fun p hp => k.lst p _ _ hp b.2 (h2.append h4)⟩)
  · exact b.elim
def bSub : B2
  | .int i, .int j, P => P (.d (.int (i - j)))
  | _, _, _ => False
theorem snd_sub {K : PySem.W.Frag} : Snd2 K (rI0 fun i j => .int (i - j)) bSub := fun S H x y v w P Q le dv dw b k => by
  unfold bSub at b
  split at b
  · cases dv; cases dw
    exact ⟨_, _, rfl, rfl, k.dat _ _ b (.int _)⟩
  · exact b.elim
def bDiv : B2
  | .int i, .int j, P => CDivW i j ∧ P (.d (.int (i / j)))
  | _, _, _ => False
theorem snd_div {K : PySem.W.Frag} : Snd2 K (rI CDivW fun i j => .int (i / j)) bDiv := fun S H x y v w P Q le dv dw b k => by
  unfold bDiv at b
  split at b
  · cases dv; cases dw
    exact ⟨_, _, rfl, rfl, b.1, k.dat _ _ b.2 (.int _)⟩
  · exact b.elim
def bMod : B2
  | .int i, .int j, P => 0 < j ∧ P (.d (.int (i % j)))
  | _, _, _ => False
theorem snd_mod {K : PySem.W.Frag} : Snd2 K (rI (fun _ j => 0 < j) fun i j => .int (i % j)) bMod := fun S H x y v w P Q le dv dw b k => by
  unfold bMod at b
  split at b
  · cases dv; cases dw
    exact ⟨_, _, rfl, rfl, b.1, k.dat _ _ b.2 (.int _)⟩
  · exact b.elim
def bPow : B2
  | .int i, .int j, P => CPow i j ∧ P (.d (.int (i ^ j.toNat)))
  | _, _, _ => False
theorem snd_pow {K : PySem.W.Frag} : Snd2 K (rI CPow fun i j => .int (i ^ j.toNat)) bPow := fun S H x y v w P Q le dv dw b k => by
  unfold bPow at b
  split at b
  · cases dv; cases dw
    exact ⟨_, _, rfl, rfl, b.1, k.dat _ _ b.2 (.int _)⟩
  · exact b.elim
/-! text * int -/
def MulSOk (n : Nat) (k : Int) : Prop := -(2 ^ 62) < k ∧ k < 2 ^ 62 ∧ n * k.toNat ≤ 16777216
theorem MulSOk.ok {l : Tx} {k : Int} (h : MulSOk l.length k) : PySem.MulOk (st l) k := by
  obtain ⟨h1, h2, h3⟩ := h
  refine ⟨?_, fun h4 h5 => ?_, fun h4 h5 => ?_⟩
  · rw [decide_eq_false (by omega), decide_eq_false (by omega)]; rfl
  · rw [st_len]
    have hk : 0 < k := by omega
    have hz : (l.length : Int) * k ≤ 16777216 := by
      have : ((l.length * k.toNat : Nat) : Int) ≤ 16777216 := by omega
      rw [Int.natCast_mul, Int.toNat_of_nonneg (by omega)] at this
      exact this
    have : (l.length : Int) ≤ (2 ^ 63 - 1) / k := (Int.le_ediv_iff_mul_le hk).mpr (by omega)
    omega
  · rw [st_len]
    unfold Builtin.Str.tooLong
    exact decide_eq_false (by
      have e : sizeLine = 16777216 := by decide
      rw [e]; omega)
theorem foldl_app : ∀ (n : Nat) (l acc : List Nat), ((List.replicate n l.toArray).foldl (· ++ ·) acc.toArray) = (acc ++ (List.replicate n l).flatten).toArray
  | 0, l, acc => by simp
  | n + 1, l, acc => by
    rw [List.replicate_succ, List.foldl_cons, List.replicate_succ, List.flatten_cons]
    have e : acc.toArray ++ l.toArray = (acc ++ l).toArray := by simp
    rw [e, foldl_app n l (acc ++ l), List.append_assoc]
theorem txt_mul (l : Tx) (k : Int) : Txt.mul (st l) k = st (List.replicate k.toNat l).flatten := by
  unfold Txt.mul
  by_cases h1 : k < 1
  · rw [if_pos h1]
    have : k.toNat = 0 := by omega
    rw [this]
    rfl
  · rw [if_neg h1]
    by_cases h2 : (k == 1 || (st l).length == 0) = true
    · rw [if_pos h2]
      rw [Bool.or_eq_true] at h2
      rcases h2 with h2 | h2
      · have : k = 1 := by simpa using h2
        subst this
        simp [st]
      · have : l = [] := by
          have := (beq_iff_eq.mp h2)
          rw [st_len] at this
          exact List.length_eq_zero_iff.mp this
        subst this
        simp [st]
    · rw [if_neg h2]
      have e := foldl_app k.toNat l []
      simp only [List.nil_append] at e
      show (⟨(List.replicate k.toNat l.toArray).foldl (· ++ ·) #[]⟩ : Str) = _
      rw [e]
      rfl
def rMulS : R2 := fun x y H Q => ∃ l k, x = .str (st l) ∧ y = .int k ∧ MulSOk l.length k ∧ Q (.str (st (List.replicate k.toNat l).flatten)) H
theorem op_mulS : OpR X (binaryOp .Mult) rMulS := fun pins s σ H x y v u Q I rx ry h => by
  obtain ⟨l, k, rfl, rfl, hk, q⟩ := h
  obtain ⟨t, rfl⟩ := rx
  obtain ⟨t', rfl⟩ := ry
  refine SB.mul hk.ok fun t2 n => ?_
  rw [txt_mul]
  exact ⟨.str _, H, I.tok _, ⟨t2, rfl⟩, q⟩
def bMul : B2
  | .int i, .int j, P => (CMul i j ∨ CMulW i j) ∧ P (.d (.int (i * j)))
  | .str a, .int k, P => MulSOk a.length k ∧ P (.d (.str (List.replicate k.toNat a).flatten))
  | .lst a, .int k, P => MulSOk a.length k ∧ P (.o (.lst (List.replicate k.toNat a).flatten))
  | _, _, _ => False
def rMulA : R2 := fun x y H Q => rI CMul (fun i j => .int (i * j)) x y H Q ∨ (rI CMulW (fun i j => .int (i * j)) x y H Q ∨ (rMulS x y H Q ∨ rRep x y H Q))
theorem op_mulA : OpR X (binaryOp .Mult) rMulA := OpR.or op_mul (OpR.or op_mulW (OpR.or op_mulS op_rep))
theorem DRs.rep {K : PySem.W.Frag} {H : Hp} {vs : List V} {ds : List D} (h : DRs K H vs ds) : ∀ k : Nat, DRs K H (List.replicate k vs).flatten (List.replicate k ds).flatten
  | 0 => .nil
  | k + 1 => by
    rw [List.replicate_succ, List.replicate_succ, List.flatten_cons, List.flatten_cons]
    exact h.append (DRs.rep h k)
theorem snd_mul {K : PySem.W.Frag} : Snd2 K rMulA bMul := fun S H x y v w P Q le dv dw b k => by
  unfold bMul at b
  split at b
  · cases dv; cases dw
    rcases b.1 with c | c
    · exact .inl ⟨_, _, rfl, rfl, c, k.dat _ _ b.2 (.int _)⟩
    · exact .inr (.inl ⟨_, _, rfl, rfl, c, k.dat _ _ b.2 (.int _)⟩)
  · cases dv; cases dw
    exact .inr (.inr (.inl ⟨_, _, rfl, rfl, b.1, k.dat _ _ b.2 (.str _)⟩))
  · obtain ⟨a1, vs, rfl, h1, h2⟩ := dv
    cases dw
    obtain ⟨⟨b1, b2, b3⟩, b4⟩ := b
    exact .inr (.inr (.inr ⟨a1, _, vs, rfl, rfl, h1, by omega, by omega, by rw [h2.length]; exact b3, fun p hp => k.lst p _ _ hp b4 (h2.rep _)⟩))
  · exact b.elim

/-! ### comparing -/
def bEq (f : Bool → Bool) : B2
  | .int i, .int j, P => P (.d (.bl (f (decide (i = j)))))
  | .str i, .str j, P => P (.d (.bl (f (decide (i = j)))))
  | .bl i, .bl j, P => P (.d (.bl (f (decide (i = j)))))
  | .non, .non, P => P (.d (.bl (f true)))
  | .non, .int _, P => P (.d (.bl (f false)))
  | .int _, .non, P => P (.d (.bl (f false)))
  | .non, .str _, P => P (.d (.bl (f false)))
  | .str _, .non, P => P (.d (.bl (f false)))
  | .dic a, .dic b, P => b = [] ∧ P (.d (.bl (f a.isEmpty)))
  | .dic _, _, _ => False
  | _, .dic _, _ => False
  | x, y, P => okD x ∧ okD y ∧ P (.d (.bl (f (deq x y))))
def rEqK (f : Bool → Bool) : R2 := fun x y H Q => ∃ a b kvs, x = .ref a ∧ y = .ref b ∧ Rd H a (.dK kvs) ∧ Rd H b (.dK []) ∧ Q (.bl (f kvs.isEmpty)) H
theorem len0 {α : Type} (l : List α) : (l.length == ([] : List α).length && true) = l.isEmpty := by cases l <;> rfl
theorem kv_empty {vs : List (Key × Value)} {kvs : List (Key × V)} (r : KV kvs vs) : vs.isEmpty = kvs.isEmpty := by
  have := r.length
  cases vs <;> cases kvs <;> simp_all
theorem op_eqK (hu : X.A.units < cLine) : OpR X (compareOp .Eq) (rEqK id) := fun pins s σ H x y v u Q I rx ry h => by
  obtain ⟨a, b, kvs, rfl, rfl, h1, h2, q⟩ := h
  cases rx; cases ry
  obtain ⟨_, na, va, ra, da⟩ := dk_rd I.hok h1
  obtain ⟨_, nb, vb, rb, db⟩ := dk_rd I.hok h2
  have eb : vb = [] := by
    have := rb.length
    exact List.length_eq_zero_iff.mp this.symm
  subst eb
  refine PySem.W.keq_eq na nb da db hu (r := true) (fun e => ?_) ?_
  · have : va = [] := List.length_eq_zero_iff.mp e
    subst this
    exact .nil
  · rw [len0, kv_empty ra]
    exact ⟨.bl _, H, I, rfl, q⟩
theorem op_neK (hu : X.A.units < cLine) : OpR X (compareOp .NotEq) (rEqK not) := fun pins s σ H x y v u Q I rx ry h => by
  obtain ⟨a, b, kvs, rfl, rfl, h1, h2, q⟩ := h
  cases rx; cases ry
  obtain ⟨_, na, va, ra, da⟩ := dk_rd I.hok h1
  obtain ⟨_, nb, vb, rb, db⟩ := dk_rd I.hok h2
  have eb : vb = [] := by
    have := rb.length
    exact List.length_eq_zero_iff.mp this.symm
  subst eb
  refine PySem.W.keq_ne na nb da db hu (r := true) (fun e => ?_) ?_
  · have : va = [] := List.length_eq_zero_iff.mp e
    subst this
    exact .nil
  · rw [len0, kv_empty ra]
    exact ⟨.bl _, H, I, rfl, q⟩
def rEqA (K : PySem.W.Frag) (f : Bool → Bool) : R2 := fun x y H Q => (scal x y = true ∧ Q (.bl (f (decide (x = y)))) H) ∨ ((∃ d e, Dp K H x d ∧ Dp K H y e ∧ SeqAt.shaped d = true ∧ SeqAt.shaped e = true ∧ Q (.bl (f (PyData.eqv d e))) H) ∨ rEqK f x y H Q)
theorem op_eqA (hu : X.A.units + 64 < cLine) : OpR X (compareOp .Eq) (rEqA X.K id) := OpR.or op_eq (OpR.or (op_eqD hu) (op_eqK (by omega)))
theorem op_neA (hu : X.A.units + 64 < cLine) : OpR X (compareOp .NotEq) (rEqA X.K not) := OpR.or op_ne (OpR.or (op_neD hu) (op_neK (by omega)))
theorem DRk.nil_iff {K : PySem.W.Frag} {H : Hp} {vs : List (Key × V)} {ds : List (Kd × D)} (h : DRk K H vs ds) : vs.isEmpty = ds.isEmpty := by
  have := h.length
  cases vs <;> cases ds <;> simp_all
theorem snd_eq {K : PySem.W.Frag} (f : Bool → Bool) : Snd2 K (rEqA K f) (bEq f) := fun S H x y v w P Q le dv dw b k => by
  unfold bEq at b
  split at b
  · cases dv; cases dw
    refine .inl ⟨rfl, ?_⟩
    have e : decide (V.int ‹Int› = V.int ‹Int›) = decide (‹Int› = ‹Int›) := by simp
    refine k.dat _ _ ?_ (.bl _)
    simpa using b
  · rename_i i j
    cases dv; cases dw
    refine .inl ⟨rfl, ?_⟩
    refine k.dat _ _ ?_ (.bl _)
    have e : decide (V.str (st i) = V.str (st j)) = decide (i = j) := by
      by_cases h : i = j
      · subst h; simp
      · rw [decide_eq_false h]
        exact decide_eq_false fun q => h (st_inj (V.str.inj q))
    rw [e]
    exact b
  · cases dv; cases dw
    refine .inl ⟨rfl, k.dat _ _ ?_ (.bl _)⟩
    simpa using b
  · cases dv; cases dw
    exact .inl ⟨rfl, k.dat _ _ (by simpa using b) (.bl _)⟩
  · cases dv; cases dw
    exact .inl ⟨rfl, k.dat _ _ (by simpa using b) (.bl _)⟩
  · cases dv; cases dw
    exact .inl ⟨rfl, k.dat _ _ (by simpa using b) (.bl _)⟩
  · cases dv; cases dw
    exact .inl ⟨rfl, k.dat _ _ (by simpa using b) (.bl _)⟩
  · cases dv; cases dw
    exact .inl ⟨rfl, k.dat _ _ (by simpa using b) (.bl _)⟩
  · obtain ⟨a1, vs, rfl, h1, h2⟩ := dv
    obtain ⟨a2, ws, rfl, h3, h4⟩ := dw
    obtain ⟨rfl, b⟩ := b
    cases h4
    refine .inr (.inr ⟨a1, a2, vs, rfl, rfl, h1, h3, ?_⟩)
    rw [h2.nil_iff]
    exact k.dat _ _ b (.bl _)
  · exact b.elim
  · exact b.elim
  · obtain ⟨b1, b2, b3⟩ := b
    exact .inr (.inl ⟨_, _, (dv.dr le).dp b1.1, (dw.dr le).dp b2.1, b1.shaped, b2.shaped, k.dat _ _ b3 (.bl _)⟩)
def bCmp (f : Int → Int → Bool) (g : Tx → Tx → Bool) : B2
  | .int i, .int j, P => P (.d (.bl (f i j)))
  | .str i, .str j, P => P (.d (.bl (g i j)))
  | _, _, _ => False
abbrev rCmpA (f : Int → Int → Bool) (g : Tx → Tx → Bool) : R2 := fun x y H Q => (∃ i j, x = .int i ∧ y = .int j ∧ Q (.bl (f i j)) H) ∨ (∃ i j : Str, x = .str i ∧ y = .str j ∧ Q (.bl (g i.cps.toList j.cps.toList)) H)
theorem snd_cmp {K : PySem.W.Frag} (f : Int → Int → Bool) (g : Tx → Tx → Bool) : Snd2 K (rCmpA f g) (bCmp f g) := fun S H x y v w P Q le dv dw b k => by
  unfold bCmp at b
  split at b
  · cases dv; cases dw
    exact .inl ⟨_, _, rfl, rfl, k.dat _ _ b (.bl _)⟩
  · cases dv; cases dw
    refine .inr ⟨_, _, rfl, rfl, ?_⟩
    rw [st_tl, st_tl]
    exact k.dat _ _ b (.bl _)
  · exact b.elim
abbrev bLt : B2 := bCmp (fun i j => decide (i < j)) (fun i j => decide (i < j))
abbrev bLe : B2 := bCmp (fun i j => decide (i ≤ j)) (fun i j => !decide (j < i))
abbrev bGt : B2 := bCmp (fun i j => decide (j < i)) (fun i j => decide (j < i))
abbrev bGe : B2 := bCmp (fun i j => decide (j ≤ i)) (fun i j => !decide (i < j))
theorem op_ltA : OpR X (compareOp .Lt) (rCmpA (fun i j => decide (i < j)) (fun i j => decide (i < j))) := OpR.or op_lt op_lt_str
theorem op_leA : OpR X (compareOp .LtE) (rCmpA (fun i j => decide (i ≤ j)) (fun i j => !decide (j < i))) := OpR.or op_le op_le_str
theorem op_gtA : OpR X (compareOp .Gt) (rCmpA (fun i j => decide (j < i)) (fun i j => decide (j < i))) := OpR.or op_gt op_gt_str
theorem op_geA : OpR X (compareOp .GtE) (rCmpA (fun i j => decide (j ≤ i)) (fun i j => !decide (i < j))) := OpR.or op_ge op_ge_str

/-! ### in -/
def kdOf : D → Option Kd
  | .int i => some (.inl i)
  | .str l => some (.inr l)
  | _ => none
def hasK (kvs : List (Kd × D)) (k : Kd) : Bool := kvs.any fun p => decide (p.1 = k)
def getK (kvs : List (Kd × D)) (k : Kd) : Option D := (kvs.find? fun p => decide (p.1 = k)).map (·.2)
theorem DRk.val {K : PySem.W.Frag} {S : Hp} {k : Kd} : ∀ {vs : List (Key × V)} {ds : List (Kd × D)}, DRk K S vs ds → (valV vs (kd k) = none ∧ getK ds k = none) ∨ ∃ v d, valV vs (kd k) = some v ∧ getK ds k = some d ∧ DR K S v d
  | _, _, .nil => .inl ⟨rfl, rfl⟩
  | _, _, .cons (k := j) (v := v) (vs := vs) (d := d) (ds := ds) r t => by
    by_cases e : j = k
    · subst e
      exact .inr ⟨v, d, valV_pos rfl, by simp [getK], r⟩
    · have e' : ¬ (kd j, v).1 = kd k := fun q => e (kd_inj q)
      rcases DRk.val (k := k) t with ⟨h1, h2⟩ | ⟨v', d', h1, h2, h3⟩
      · refine .inl ⟨(valV_neg e').trans h1, ?_⟩
        simp only [getK, List.find?_cons, decide_eq_false e] at h2 ⊢
        exact h2
      · refine .inr ⟨v', d', (valV_neg e').trans h1, ?_, h3⟩
        simp only [getK, List.find?_cons, decide_eq_false e] at h2 ⊢
        exact h2
theorem hasK_get (kvs : List (Kd × D)) (k : Kd) : hasK kvs k = (getK kvs k).isSome := by
  induction kvs with
  | nil => rfl
  | cons p r ih =>
    simp only [hasK, getK, List.any_cons, List.find?_cons] at ih ⊢
    by_cases e : p.1 = k
    · simp [e]
    · simp only [decide_eq_false e, Bool.false_or]
      exact ih
theorem DRk.has {K : PySem.W.Frag} {S : Hp} {k : Kd} {vs : List (Key × V)} {ds : List (Kd × D)} (h : DRk K S vs ds) : (valV vs (kd k)).isSome = hasK ds k := by
  rw [hasK_get]
  rcases h.val (k := k) with ⟨h1, h2⟩ | ⟨v, d, h1, h2, _⟩
  · rw [h1, h2]; rfl
  · rw [h1, h2]; rfl
def bIn (f : Bool → Bool) : B2
  | .str [c], .str z, P => P (.d (.bl (f (decide (c ∈ z)))))
  | .int i, .dic kvs, P => P (.d (.bl (f (hasK kvs (.inl i)))))
  | .str i, .dic kvs, P => P (.d (.bl (f (hasK kvs (.inr i)))))
  | x, .lst xs, P => okD x ∧ okD (.lst xs) ∧ P (.d (.bl (f (xs.any fun z => deq z x))))
  | _, _, _ => False
def rInA (K : PySem.W.Frag) (f : Bool → Bool) : R2 := fun x y H Q => (∃ (c : Nat) (z : Str), x = .str ⟨#[c]⟩ ∧ y = .str z ∧ Q (.bl (f (decide (c ∈ z.cps.toList)))) H) ∨
  ((∃ a o, y = .ref a ∧ DGet H a x o ∧ Q (.bl (f o.isSome)) H) ∨ (∃ d ds, Dp K H x d ∧ Dp K H y (.list ds) ∧ SeqAt.shaped d = true ∧ SeqAt.shaped (.list ds) = true ∧ Q (.bl (f (ds.any fun z => PyData.eqv z d))) H))
theorem op_dIn (hu : X.A.units + 1 < cLine) : OpR X (compareOp .In) (fun x y H Q => ∃ a o, y = .ref a ∧ DGet H a x o ∧ Q (.bl o.isSome) H) := fun pins s σ H x y v u Q I rx ry h => by
  obtain ⟨a, o, rfl, g, q⟩ := h
  cases ry
  exact d_in hu I g rx fun s' I' => ⟨.bl _, H, I', rfl, q⟩
theorem op_dNotIn (hu : X.A.units + 1 < cLine) : OpR X (compareOp .NotIn) (fun x y H Q => ∃ a o, y = .ref a ∧ DGet H a x o ∧ Q (.bl (!o.isSome)) H) := fun pins s σ H x y v u Q I rx ry h => by
  obtain ⟨a, o, rfl, g, q⟩ := h
  cases ry
  exact d_notIn hu I g rx fun s' I' => ⟨.bl _, H, I', rfl, q⟩
theorem op_inA (hu : X.A.units + 65 < cLine) : OpR X (compareOp .In) (rInA X.K id) := OpR.or op_in_sign (OpR.or (op_dIn (by omega)) (op_inD hu))
theorem op_notInA (hu : X.A.units + 65 < cLine) : OpR X (compareOp .NotIn) (rInA X.K not) := OpR.or op_notIn_sign (OpR.or (op_dNotIn (by omega)) (op_notInD hu))
theorem pys_any (g : PyData → Bool) : ∀ xs : List D, (pys xs).any g = xs.any fun z => g (py z)
  | [] => rfl
  | x :: r => by simp only [pys, List.any_cons, pys_any g r]
theorem snd_in {K : PySem.W.Frag} (f : Bool → Bool) : Snd2 K (rInA K f) (bIn f) := fun S H x y v w P Q le dv dw b k => by
  unfold bIn at b
  split at b
  · cases dv; cases dw
    refine .inl ⟨_, _, rfl, rfl, ?_⟩
    rw [st_tl]
    exact k.dat _ _ b (.bl _)
  · cases dv
    obtain ⟨a, vs, rfl, h1, h2⟩ := dw
    refine .inr (.inl ⟨a, _, rfl, .inl ⟨vs, kd (.inl _), h1, rfl, rfl⟩, ?_⟩)
    rw [h2.has]
    exact k.dat _ _ b (.bl _)
  · cases dv
    obtain ⟨a, vs, rfl, h1, h2⟩ := dw
    refine .inr (.inl ⟨a, _, rfl, .inl ⟨vs, kd (.inr _), h1, rfl, rfl⟩, ?_⟩)
    rw [h2.has]
    exact k.dat _ _ b (.bl _)
  · obtain ⟨b1, b2, b3⟩ := b
    have e := (DV.dr dw le).dp b2.1
    have s2 := b2.shaped
    simp only [py] at e s2
    refine .inr (.inr ⟨_, _, (dv.dr le).dp b1.1, e, b1.shaped, s2, ?_⟩)
    rw [pys_any]
    exact k.dat _ _ b3 (.bl _)
  · exact b.elim
/-! ### is -/
def bIs (f : Bool → Bool) : B2
  | .bl a, .bl b, P => P (.d (.bl (f (decide (a = b)))))
  | .non, .non, P => P (.d (.bl (f true)))
  | _, .non, P => P (.d (.bl (f false)))
  | _, _, _ => False
def rIsA (f : Bool → Bool) : R2 := fun x y H Q => (y = .non ∧ Q (.bl (f (decide (x = .non)))) H) ∨ (∃ a b : Bool, x = .bl a ∧ y = .bl b ∧ Q (.bl (f (decide (a = b)))) H)
theorem op_isA : OpR X (compareOp .Is) (rIsA id) := OpR.or op_isN op_isBl
theorem op_isNotA : OpR X (compareOp .IsNot) (rIsA not) := OpR.or op_notN op_notBl
theorem DV.non_iff {K : PySem.W.Frag} {S H : Hp} {v : V} {x : D} (h : DV K S H v x) : v = .non ↔ x = .non := by
  cases x with
  | non => cases h; simp
  | bl b => cases h; simp
  | int i => cases h; simp
  | str l => cases h; simp
  | lst ds => obtain ⟨a, vs, rfl, _⟩ := h; simp
  | tup ds => obtain ⟨a, vs, rfl, _⟩ := h; simp
  | dic ds => obtain ⟨a, vs, rfl, _⟩ := h; simp
  | dit ds => obtain ⟨a, vs, rfl, _⟩ := h; simp
  | scr ns => obtain ⟨a, rfl, _⟩ := h; simp
  | exc ns => obtain ⟨a, rfl, _⟩ := h; simp
  | fn ns => cases h; simp
theorem snd_is {K : PySem.W.Frag} (f : Bool → Bool) : Snd2 K (rIsA f) (bIs f) := fun S H x y v w P Q le dv dw b k => by
  unfold bIs at b
  split at b
  · cases dv; cases dw
    exact .inr ⟨_, _, rfl, rfl, k.dat _ _ b (.bl _)⟩
  · cases dv; cases dw
    exact .inl ⟨rfl, k.dat _ _ (by simpa using b) (.bl _)⟩
  · rename_i y hn
    cases dw
    have : decide (v = V.non) = false := decide_eq_false fun q => hn (dv.non_iff.mp q)
    refine .inl ⟨rfl, ?_⟩
    rw [this]
    exact k.dat _ _ b (.bl _)
  · exact b.elim
end
end PD

/-! PD, fifth part: tests, displays, calls of what is built in, items, slices. -/
namespace PD
open PySem L2

section
variable {X : Cx} {E : WX}
/-! ### tests and truth values -/
def pAnd (t u : PTT) : PTT := fun A P Y => t A (fun b A1 => if b = true then u A1 P Y else P false A1) Y
def pOr (t u : PTT) : PTT := fun A P Y => t A (fun b A1 => if b = true then P true A1 else u A1 P Y) Y
def pNot (t : PTT) : PTT := fun A P Y => t A (fun b A1 => P (!b) A1) Y
theorem sim_and {K : PySem.W.Frag} {t u : TT} {p q : PTT} (h1 : SimT K E t p) (h2 : SimT K E u q) : SimT K E (tAnd t u) (pAnd p q) := fun B σ H A P Y Q rel k c xq => by
  refine h1 B σ H A _ Y _ rel k (fun b A1 H1 p1 r1 => ?_) xq
  cases b with
  | true => exact h2 B σ H1 A1 P Y Q r1 (by simpa using p1) c xq
  | false => exact c false A1 H1 (by simpa using p1) r1
theorem sim_or {K : PySem.W.Frag} {t u : TT} {p q : PTT} (h1 : SimT K E t p) (h2 : SimT K E u q) : SimT K E (tOr t u) (pOr p q) := fun B σ H A P Y Q rel k c xq => by
  refine h1 B σ H A _ Y _ rel k (fun b A1 H1 p1 r1 => ?_) xq
  cases b with
  | true => exact c true A1 H1 (by simpa using p1) r1
  | false => exact h2 B σ H1 A1 P Y Q r1 (by simpa using p1) c xq
theorem sim_not {K : PySem.W.Frag} {t : TT} {p : PTT} (h1 : SimT K E t p) : SimT K E (tNot t) (pNot p) := fun B σ H A P Y Q rel k c xq => h1 B σ H A _ Y _ rel k (fun b A1 H1 p1 r1 => c (!b) A1 H1 p1 r1) xq
variable {a b c : Expr} {rest : List Expr} {pos : Pos}
theorem dw_and1 {t : TT} {p : PTT} (h : DT X E a t p) : DW X E (.BoolOp .And [a] pos) t p := ⟨pw_and1 h.pe, h.sim⟩
theorem dw_or1 {t : TT} {p : PTT} (h : DT X E a t p) : DW X E (.BoolOp .Or [a] pos) t p := ⟨pw_or1 h.pe, h.sim⟩
theorem dw_and {t u : TT} {p q : PTT} (h : DT X E a t p) (k : DW X E (.BoolOp .And (b :: rest) pos) u q) : DW X E (.BoolOp .And (a :: b :: rest) pos) (tAnd t u) (pAnd p q) := ⟨pw_and h.pe k.pe, sim_and h.sim k.sim⟩
theorem dw_or {t u : TT} {p q : PTT} (h : DT X E a t p) (k : DW X E (.BoolOp .Or (b :: rest) pos) u q) : DW X E (.BoolOp .Or (a :: b :: rest) pos) (tOr t u) (pOr p q) := ⟨pw_or h.pe k.pe, sim_or h.sim k.sim⟩
theorem dt_w {t : TT} {p : PTT} (h : DW X E a t p) : DT X E a t p := ⟨h.pe.pt, h.sim⟩
theorem dt_not {t : TT} {p : PTT} (h : DT X E a t p) : DT X E (.UnaryOp .Not a pos) (tNot t) (pNot p) := ⟨pt_not h.pe, sim_not h.sim⟩
def pAndV (pa pb : PTE) : PTE := fun A P Y => pa A (fun y A1 => match y with
  | .d (.bl b) => if b = true then pb A1 P Y else P (.d (.bl false)) A1
  | _ => False) Y
def pOrV (pa pb : PTE) : PTE := fun A P Y => pa A (fun y A1 => match y with
  | .d (.bl b) => if b = true then P (.d (.bl true)) A1 else pb A1 P Y
  | _ => False) Y
def pNotV (pa : PTE) : PTE := fun A P Y => pa A (fun y A1 => match y with
  | .d (.bl b) => P (.d (.bl (!b))) A1
  | _ => False) Y
theorem res_bl {K : PySem.W.Frag} {B : Bas} {A : Abs} {b : Bool} {v : V} {σ : St} {H : Hp} (h : Res K B A (.d (.bl b)) v σ H) : v = .bl b := let ⟨_, _, _, _, _, k⟩ := h; DR.bl_of k
theorem sim_andV {K : PySem.W.Frag} {t u : TE} {p q : PTE} (h1 : SimE K E t p) (h2 : SimE K E u q) : SimE K E (tAndV t u) (pAndV p q) := fun B σ H A P Y Q rel k c xq => by
  refine h1 B σ H A _ Y _ rel k (fun y A1 v H1 p1 r1 => ?_) xq
  split at p1
  · rename_i b
    cases res_bl r1
    refine ⟨b, rfl, ?_⟩
    cases b with
    | true => exact h2 B σ H1 A1 P Y Q r1.rel (by simpa using p1) c xq
    | false => exact c _ A1 _ H1 (by simpa using p1) (r1.rel.res fun _ => .bl _)
  · exact p1.elim
theorem sim_orV {K : PySem.W.Frag} {t u : TE} {p q : PTE} (h1 : SimE K E t p) (h2 : SimE K E u q) : SimE K E (tOrV t u) (pOrV p q) := fun B σ H A P Y Q rel k c xq => by
  refine h1 B σ H A _ Y _ rel k (fun y A1 v H1 p1 r1 => ?_) xq
  split at p1
  · rename_i b
    cases res_bl r1
    refine ⟨b, rfl, ?_⟩
    cases b with
    | true => exact c _ A1 _ H1 (by simpa using p1) (r1.rel.res fun _ => .bl _)
    | false => exact h2 B σ H1 A1 P Y Q r1.rel (by simpa using p1) c xq
  · exact p1.elim
theorem sim_notV {K : PySem.W.Frag} {t : TE} {p : PTE} (h1 : SimE K E t p) : SimE K E (tNotV t) (pNotV p) := fun B σ H A P Y Q rel k c xq => by
  refine h1 B σ H A _ Y _ rel k (fun y A1 v H1 p1 r1 => ?_) xq
  split at p1
  · rename_i b
    cases res_bl r1
    exact ⟨b, rfl, c _ A1 _ H1 p1 (r1.rel.res fun _ => .bl _)⟩
  · exact p1.elim
theorem de_one {op} {t : TE} {p : PTE} (h : DE X E a t p) : DE X E (.BoolOp op [a] pos) t p := ⟨pe_one h.pe, h.sim⟩
theorem de_and {t u : TE} {p q : PTE} (h : DE X E a t p) (k : DE X E (.BoolOp .And (b :: rest) pos) u q) : DE X E (.BoolOp .And (a :: b :: rest) pos) (tAndV t u) (pAndV p q) := ⟨pe_and h.pe k.pe, sim_andV h.sim k.sim⟩
theorem de_or {t u : TE} {p q : PTE} (h : DE X E a t p) (k : DE X E (.BoolOp .Or (b :: rest) pos) u q) : DE X E (.BoolOp .Or (a :: b :: rest) pos) (tOrV t u) (pOrV p q) := ⟨pe_or h.pe k.pe, sim_orV h.sim k.sim⟩
theorem de_not {t : TE} {p : PTE} (h : DE X E a t p) : DE X E (.UnaryOp .Not a pos) (tNotV t) (pNotV p) := ⟨pe_not h.pe, sim_notV h.sim⟩
def pIfE (t : PTT) (p q : PTE) : PTE := fun A P Y => t A (fun b A1 => if b = true then p A1 P Y else q A1 P Y) Y
theorem de_if {tc : TT} {ta tb : TE} {t : PTT} {p q : PTE} (hc : DT X E c tc t) (ha : DE X E a ta p) (hb : DE X E b tb q) : DE X E (.IfExp c a b pos) (tIf tc ta tb) (pIfE t p q) := by
  obtain ⟨h1, h2⟩ := hc
  obtain ⟨h3, h4⟩ := ha
  obtain ⟨h5, h6⟩ := hb
  refine ⟨pe_ifExp h1 h3 h5, fun B σ H A P Y Q rel k q xq => ?_⟩
  refine h2 B σ H A _ Y _ rel k (fun b A1 H1 p1 r1 => ?_) xq
  cases b with
  | true => exact h4 B σ H1 A1 P Y Q r1 (by simpa using p1) q xq
  | false => exact h6 B σ H1 A1 P Y Q r1 (by simpa using p1) q xq
/-- a chain a < b < c of ints or of texts -/
def cmpD (f : Int → Int → Bool) (g : Tx → Tx → Bool) : D → D → Option Bool
  | .int i, .int j => some (f i j)
  | .str i, .str j => some (g i j)
  | _, _ => none
theorem cmpD_ok {f : Int → Int → Bool} {g : Tx → Tx → Bool} {K : PySem.W.Frag} {S H : Hp} {x y : D} {v w : V} {b : Bool} {Q : VK} (e : cmpD f g x y = some b) (dv : DV K S H v x) (dw : DV K S H w y) (q : Q (.bl b) H) : rCmpA f g v w H Q := by
  unfold cmpD at e
  split at e
  · cases dv; cases dw; cases e
    exact .inl ⟨_, _, rfl, rfl, q⟩
  · cases dv; cases dw; cases e
    refine .inr ⟨_, _, rfl, rfl, ?_⟩
    rw [st_tl, st_tl]
    exact q
  · cases e
def pChain (f : Int → Int → Bool) (g : Tx → Tx → Bool) (f' : Int → Int → Bool) (g' : Tx → Tx → Bool) (pa pb pc : PTE) : PTE := fun A P Y => pa A (fun y1 A1 => match y1 with
  | .d x => pb A1 (fun y2 A2 => match y2 with
    | .d y => (match cmpD f g x y with
      | some k => if k = true then pc A2 (fun y3 A3 => match y3 with
          | .d w => (match cmpD f' g' y w with
            | some k' => P (.d (.bl k')) A3
            | none => False)
          | _ => False) Y else P (.d (.bl false)) A2
      | none => False)
    | _ => False) Y
  | _ => False) Y
theorem sim_chain {K : PySem.W.Frag} {f f' : Int → Int → Bool} {g g' : Tx → Tx → Bool} {ta tb tc : TE} {pa pb pc : PTE} (ha : SimE K E ta pa) (hb : SimE K E tb pb) (hc : SimE K E tc pc) : SimE K E (tChain (rCmpA f g) (rCmpA f' g') ta tb tc) (pChain f g f' g' pa pb pc) := fun B σ H A P Y Q rel p q xq => by
  refine ha B σ H A _ Y _ rel p (fun y1 A1 v1 H1 p1 res => ?_) xq
  split at p1
  · rename_i x
    obtain ⟨t, S, ρ, h, s, k⟩ := res
    refine hb _ σ H1 A1 _ Y _ ⟨t, S, _, h.rebase, s⟩ p1 (fun y2 A2 v2 H2 p2 res2 => ?_) (xq.back h)
    split at p2
    · rename_i y
      obtain ⟨t2, S2, ρ2, h2, s2, k2⟩ := res2
      have h3 := h.back h2
      have k1 : DR K S2 v1 x := DR.mono h2.ext.le k
      cases e : cmpD f g x y with
      | none => rw [e] at p2; exact p2.elim
      | some kk =>
        rw [e] at p2
        refine cmpD_ok e (k1.dv h2.le) (DR.dv k2 h2.le) ⟨kk, rfl, ?_⟩
        cases kk with
        | false => exact q (.d (.bl false)) A2 (.bl false) H2 (by simpa using p2) ⟨t2, S2, ρ2, h3, s2, DR.bl false⟩
        | true =>
          refine hc _ σ H2 A2 _ Y _ ⟨t2, S2, _, h3.rebase, s2⟩ (by simpa using p2) (fun y3 A3 v3 H3 p3 res3 => ?_) (xq.back h3)
          split at p3
          · rename_i w
            obtain ⟨t4, S4, ρ4, h4, s4, k4⟩ := res3
            have k2' : DR K S4 v2 y := DR.mono h4.ext.le k2
            cases e' : cmpD f' g' y w with
            | none => rw [e'] at p3; exact p3.elim
            | some k' =>
              rw [e'] at p3
              exact cmpD_ok e' (k2'.dv h4.le) (DR.dv k4 h4.le) (q (.d (.bl k')) A3 (.bl k') H3 p3 ⟨t4, S4, ρ4, h3.back h4, s4, DR.bl _⟩)
          · exact p3.elim
    · exact p2.elim
  · exact p1.elim
theorem de_chain {op op' : CmpOp} {ta tb tc : TE} {f f' : Int → Int → Bool} {g g' : Tx → Tx → Bool} {pa pb pc : PTE} (ho : OpR X (compareOp op) (rCmpA f g)) (ho' : OpR X (compareOp op') (rCmpA f' g')) (ha : DE X E a ta pa) (hb : DE X E b tb pb) (hc : DE X E c tc pc)
    (hm : lastMarks [op, op'] [b, c] = false := by with_unfolding_all rfl) : DE X E (.Compare a [op, op'] [b, c] pos) (tChain (rCmpA f g) (rCmpA f' g') ta tb tc) (pChain f g f' g' pa pb pc) := ⟨pe_chain ho ho' ha.pe hb.pe hc.pe hm, sim_chain ha.sim hb.sim hc.sim⟩
theorem dt_chain {op op' : CmpOp} {ta tb tc : TE} {f f' : Int → Int → Bool} {g g' : Tx → Tx → Bool} {pa pb pc : PTE} (ho : OpR X (compareOp op) (rCmpA f g)) (ho' : OpR X (compareOp op') (rCmpA f' g')) (ha : DE X E a ta pa) (hb : DE X E b tb pb) (hc : DE X E c tc pc)
    (hm : lastMarks [op, op'] [b, c] = false := by with_unfolding_all rfl) : DT X E (.Compare a [op, op'] [b, c] pos) (tTest (tChain (rCmpA f g) (rCmpA f' g') ta tb tc)) (pTest (pChain f g f' g' pa pb pc)) := ⟨pt_chain ho ho' ha.pe hb.pe hc.pe hm, sim_test (sim_chain ha.sim hb.sim hc.sim)⟩

/-! ### truth of a value that is no bool -/
def truD : D → Option Bool
  | .non => some false
  | .bl b => some b
  | .int i => some (i != 0)
  | .lst xs => some (!xs.isEmpty)
  | .tup xs => some (!xs.isEmpty)
  | _ => none
def pTru (p : PTE) : PTT := fun A P Y => p A (fun y A1 => match view A1.M y with
  | some x => (match truD x with
    | some b => P b A1
    | none => False)
  | none => False) Y
theorem DRs.nil_iff {K : PySem.W.Frag} {H : Hp} {vs : List V} {ds : List D} (h : DRs K H vs ds) : vs.isEmpty = ds.isEmpty := by
  have := h.length
  cases vs <;> cases ds <;> simp_all
def tTru (K : PySem.W.Frag) (t : TE) : TT := fun σ H Q => t σ H fun x H' => ∃ k, TruV K x H' k ∧ Q k H'
theorem dt_tru {t : TE} {p : PTE} (h : DE X E a t p) (he : ∀ whole, isTrue a X.env whole = (do let v ← whole; standAt a.pos; holding [v] (truthy v)) := by intro _; rfl) : DT X E a (tTru X.K t) (pTru p) := by
  obtain ⟨h1, h2⟩ := h
  refine ⟨pt_truth h1 he, fun B σ H A P Y Q rel k q xq => ?_⟩
  refine h2 B σ H A _ Y _ rel k (fun y A1 v H1 p1 r1 => ?_) xq
  split at p1
  · rename_i x ex
    obtain ⟨t, S, ρ, h, s, kk⟩ := id r1
    have dv := (Now.mk h s).view kk ex
    cases eb : truD x with
    | none => rw [eb] at p1; exact p1.elim
    | some b =>
      rw [eb] at p1
      refine ⟨b, ?_, q b A1 H1 p1 r1.rel⟩
      cases x with
      | non => cases dv; cases eb; rfl
      | bl b => cases dv; cases eb; rfl
      | int i => cases dv; cases eb; rfl
      | lst xs =>
        obtain ⟨a, vs, rfl, e1, e2⟩ := dv
        cases eb
        exact .inl ⟨vs, SqL.of e1, by rw [e2.nil_iff]⟩
      | tup xs =>
        obtain ⟨a, vs, rfl, e1, e2⟩ := dv
        cases eb
        exact .inr (.inl ⟨vs, SqT.of e1, by rw [e2.nil_iff]⟩)
      | dic xs => cases eb
      | str l => cases eb
      | dit l => cases eb
      | scr l => cases eb
      | exc l => cases eb
      | fn l => cases eb
  · exact p1.elim

/-! ### displays -/
def pNil : PTA := fun A P _ => P [] A
def pCons (p : PTE) (q : PTA) : PTA := fun A P Y => p A (fun y A1 => match y.fz with
  | some z => q A1 (fun zs A2 => P (z :: zs) A2) Y
  | none => False) Y
theorem da_nil : DA X E [] tNil pNil := ⟨pa_nil, fun B σ H A P Y Q ⟨t, S, r, h, s⟩ k q _ => q [] A [] H k ⟨t, S, r, ⟨h, s⟩, .nil⟩⟩
theorem RL.ext {K : PySem.W.Frag} {S S' : Hp} {t t' : Nat → Addr} {m m' : Nat} (e : Ext t S m t' S' m') : ∀ {ys : List R} {vs : List V}, RL K S t m ys vs → RL K S' t' m' ys vs
  | _, _, .nil => .nil
  | _, _, .cons h1 h2 h3 => .cons h1 (fun r H => (h2 r H).ext h1 e) (RL.ext e h3)
theorem Rok.free {K : PySem.W.Frag} {S : Hp} {t : Nat → Addr} {m : Nat} {H : Hp} {r : Addr → Lb} {y : R} {v : V} (k : Rok K S r t m H y v) (hy : ∀ o, y ≠ .o o) : ∀ r H, Rok K S r t m H y v := fun r' H' => by
  cases y with
  | d x => exact k
  | p n => exact k
  | o x => exact absurd rfl (hy x)
theorem sim_cons {K : PySem.W.Frag} {te : TE} {ta : TA} {p : PTE} {q : PTA} (h1 : SimE K E te p) (h2 : SimA K E ta q) : SimA K E (tCons te ta) (pCons p q) := fun B σ H A P Y Q rel k c xq => by
  refine h1 B σ H A _ Y _ rel k (fun y A1 v H1 p1 res => ?_) xq
  cases e : y.fz with
  | none => rw [e] at p1; exact p1.elim
  | some z =>
    rw [e] at p1
    obtain ⟨t, S, ρ, h, s, k⟩ := res
    obtain ⟨S1, ρ1, n1, k1, _, _⟩ := Now.fz (x := .non) ⟨h, s⟩ k e
    refine h2 _ σ H1 A1 _ Y _ ⟨t, S1, _, n1.h.rebase, n1.s⟩ p1 (fun zs A2 vs H2 p2 ⟨t2, S2, ρ2, n2, rl⟩ => ?_) (xq.back n1.h)
    exact c (z :: zs) A2 (v :: vs) H2 p2 ⟨t2, S2, ρ2, ⟨n1.h.back n2.h, n2.s⟩, .cons (fz_no e) ((k1.ext (r' := ρ2) (H' := H2) (fz_no e) n2.h.ext).free (fz_no e)) rl⟩
theorem da_cons {e : Expr} {es : List Expr} {t : TE} {u : TA} {p : PTE} {q : PTA} (h : DE X E e t p) (k : DA X E es u q) (hs : starEach (e :: es) X.env = (false, eval e X.env) :: starEach es X.env := by rfl) : DA X E (e :: es) (tCons t u) (pCons p q) := ⟨pa_cons h.pe k.pe hs, sim_cons h.sim k.sim⟩
def dats : List R → Option (List D)
  | [] => some []
  | .d x :: r => (match dats r with
    | some xs => some (x :: xs)
    | none => none)
  | _ :: _ => none
theorem RL.dats {K : PySem.W.Frag} {S : Hp} {t : Nat → Addr} {m : Nat} : ∀ {ys : List R} {vs : List V} {ds : List D}, RL K S t m ys vs → PD.dats ys = some ds → DRs K S vs ds
  | _, _, _, .nil, e => by cases e; exact .nil
  | _, _, _, .cons (y := y) (ys := ys) h1 h2 h3, e => by
    cases y with
    | d x =>
      have e : (match PD.dats ys with
        | some xs => some (x :: xs)
        | none => none) = some _ := e
      cases e' : PD.dats ys with
      | none => rw [e'] at e; cases e
      | some xs =>
        rw [e'] at e
        cases e
        exact .cons (h2 (fun _ => none) (fun _ => none)) (RL.dats h3 e')
    | p n => cases e
    | o x => cases e
def pLst (q : PTA) : PTE := fun A P Y => q A (fun zs A1 => match dats zs with
  | some ds => ds.length ≤ 16777216 ∧ P (.o (.lst ds)) A1
  | none => False) Y
def pTup (q : PTA) : PTE := fun A P Y => q A (fun zs A1 => match dats zs with
  | some ds => ds.length ≤ 16777216 ∧ P (.d (.tup ds)) A1
  | none => False) Y
theorem de_lst {es : List Expr} {t : TA} {q : PTA} (h : DA X E es t q) : DE X E (.List es pos) (tLst t) (pLst q) := by
  obtain ⟨h1, h2⟩ := h
  refine ⟨pe_lst h1, fun B σ H A P Y Q rel k c xq => ?_⟩
  refine h2 B σ H A _ Y _ rel k (fun zs A1 vs H1 p1 ⟨t, S, ρ, n, rl⟩ => ?_) xq
  split at p1
  · rename_i ds ed
    have d := rl.dats ed
    exact ⟨by rw [d.length]; exact p1.1, fun p hp => (n.kont (P := fun y => P y A1) fun y v H' py ry => c y A1 v H' py ry).lst p vs ds hp p1.2 d⟩
  · exact p1.elim
theorem de_tup {es : List Expr} {t : TA} {q : PTA} {k} (h : DA X E es t q) : DE X E (.Tuple es k pos) (tTup t) (pTup q) := by
  obtain ⟨h1, h2⟩ := h
  refine ⟨pe_tup h1, fun B σ H A P Y Q rel k c xq => ?_⟩
  refine h2 B σ H A _ Y _ rel k (fun zs A1 vs H1 p1 ⟨t, S, ρ, n, rl⟩ => ?_) xq
  split at p1
  · rename_i ds ed
    have d := rl.dats ed
    exact ⟨by rw [d.length]; exact p1.1, fun p hp => (n.kont (P := fun y => P y A1) fun y v H' py ry => c y A1 v H' py ry).tup p vs ds hp p1.2 d⟩
  · exact p1.elim
def pDict0 : PTE := fun A P _ => P (.o (.dic [])) A
def pDict0T : PTE := fun A P _ => P (.o (.dit [])) A
theorem de_dict0 : DE X E (.Dict [] [] pos) tDNewK pDict0 := ⟨pe_dnewK, fun B σ H A P Y Q ⟨t, S, r, h, s⟩ k c _ => fun p hp => (Now.kont (P := fun y => P y A) ⟨h, s⟩ fun y v H' py ry => c y A v H' py ry).dic p [] [] hp k .nil⟩
theorem de_dict0T : DE X E (.Dict [] [] pos) tDNewT pDict0T := ⟨pe_dnewT, fun B σ H A P Y Q ⟨t, S, r, h, s⟩ k c _ => fun p hp => (Now.kont (P := fun y => P y A) ⟨h, s⟩ fun y v H' py ry => c y A v H' py ry).dit p [] [] hp k .nil⟩

/-! ### calls of what is built in -/
def views (M : List (Option O)) : List R → Option (List D)
  | [] => some []
  | y :: r => (match view M y, views M r with
    | some x, some xs => some (x :: xs)
    | _, _ => none)
inductive DVs (K : PySem.W.Frag) (S H : Hp) : List V → List D → Prop
  | nil : DVs K S H [] []
  | cons {v : V} {vs : List V} {d : D} {ds : List D} : DV K S H v d → DVs K S H vs ds → DVs K S H (v :: vs) (d :: ds)
abbrev BN := List D → (R → Prop) → Prop
def SndN (K : PySem.W.Frag) (r : List V → Hp → VK → Prop) (b : BN) : Prop := ∀ (S H : Hp) (xs : List D) (vs : List V) (P : R → Prop) (Q : VK), Le S H → DVs K S H vs xs → b xs P → Kont K S H P Q → r vs H Q
theorem Now.views {K : PySem.W.Frag} {B : Bas} {t : Nat → Addr} {S : Hp} {r : Addr → Lb} {A : Abs} {σ : St} {H : Hp} (n : Now K B t S r A σ H) : ∀ {ys : List R} {vs : List V} {ds : List D}, RL K S t A.M.length ys vs → PD.views A.M ys = some ds → DVs K S H vs ds
  | _, _, _, .nil, e => by cases e; exact .nil
  | _, _, _, .cons (y := y) (ys := ys) h1 h2 h3, e => by
    have e : (match PD.view A.M y, PD.views A.M ys with
      | some x, some xs => some (x :: xs)
      | _, _ => none) = some _ := e
    split at e
    · rename_i x xs e1 e2
      cases e
      exact .cons (n.view (h2 r H) e1) (Now.views n h3 e2)
    · cases e
def pCall (b : BN) (q : PTA) : PTE := fun A P Y => q A (fun zs A1 => match views A1.M zs with
  | some xs => b xs fun z => P z A1
  | none => False) Y
theorem sim_cb {K : PySem.W.Frag} {r : List V → Hp → VK → Prop} {b : BN} {t : TA} {q : PTA} (hs : SndN K r b) (h : SimA K E t q) : SimE K E (tCB r t) (pCall b q) := fun B σ H A P Y Q rel k c xq => by
  refine h B σ H A _ Y _ rel k (fun zs A1 vs H1 p1 ⟨t, S, ρ, n, rl⟩ => ?_) xq
  split at p1
  · rename_i xs e
    exact hs S H1 xs vs _ Q n.h.le (n.views rl e) p1 (n.kont fun y v H' py ry => c y A1 v H' py ry)
  · exact p1.elim
theorem de_cb {t : TA} {x : Str} {p : Pos} {e : Expr} {es : List Expr} {q : PTA} {id : String} {r : List V → Hp → VK → Prop} {b : BN} (hc : CallR X (.builtin id) r) (hs : SndN X.K r b) (hg : Gl X x) (hm : X.mg x = none) (hv : bootBuiltins x = some (.builtin id)) (ha : DA X E (e :: es) t q)
    (hn : x ≠ "__name__" := by decide) (hdb : (x == ("__debug__" : Str)) = false := by decide) (he : starEach (e :: es) X.env = (false, eval e X.env) :: starEach es X.env := by rfl) (hpl : (backTo pos (starEach es X.env)).any (·.1) = false := by rfl) : DE X E (.Call (.Name x p) (e :: es) [] pos) (tCB r t) (pCall b q) := ⟨pe_callB hc hg hm hv ha.pe hn hdb he hpl, sim_cb hs ha.sim⟩
theorem de_cty {t : TA} {x : Str} {p : Pos} {e : Expr} {es : List Expr} {q : PTA} {T : String} {r : List V → Hp → VK → Prop} {b : BN} (hc : CallR X (.type T) r) (hs : SndN X.K r b) (hg : Gl X x) (hm : X.mg x = none) (hv : bootBuiltins x = some (.type T)) (ha : DA X E (e :: es) t q)
    (hn : x ≠ "__name__" := by decide) (hdb : (x == ("__debug__" : Str)) = false := by decide) (he : starEach (e :: es) X.env = (false, eval e X.env) :: starEach es X.env := by rfl) (hpl : (backTo pos (starEach es X.env)).any (·.1) = false := by rfl) : DE X E (.Call (.Name x p) (e :: es) [] pos) (tCB r t) (pCall b q) := ⟨pe_callTy hc hg hm hv ha.pe hn hdb he hpl, sim_cb hs ha.sim⟩
end
end PD

/-! PD, sixth part: what is built in. -/
namespace PD
open PySem L2

section
variable {X : Cx} {E : WX}
/-! ### len -/
def cLen : BN
  | [.str l], P => l.length ≤ 16777216 ∧ P (.d (.int l.length))
  | [.lst xs], P => P (.d (.int xs.length))
  | [.tup xs], P => P (.d (.int xs.length))
  | [.dic xs], P => P (.d (.int xs.length))
  | [.scr xs], P => P (.d (.int xs.length))
  | _, _ => False
def rLenA (K : PySem.W.Frag) : List V → Hp → VK → Prop := fun xs H Q => (∃ x n, xs = [x] ∧ LenV K x H n ∧ Q (.int n) H) ∨ (∃ a kvs, xs = [V.ref a] ∧ Rd H a (.dK kvs) ∧ Q (.int kvs.length) H)
theorem call_lenA : CallR X (.builtin "len") (rLenA X.K) := CallR.or call_len fun pins s σ H xs us Q I r h => by
  obtain ⟨a, kvs, rfl, ha, q⟩ := h
  obtain ⟨u, rfl, ru⟩ := vals1 r
  cases ru
  exact d_len I ha fun t s' I' => ⟨.int kvs.length, H, I', ⟨t, rfl⟩, q⟩
theorem DVs.one {K : PySem.W.Frag} {S H : Hp} {vs : List V} {x : D} (h : DVs K S H vs [x]) : ∃ v, vs = [v] ∧ DV K S H v x := by
  cases h with
  | cons a b => cases b; exact ⟨_, rfl, a⟩
theorem DVs.two {K : PySem.W.Frag} {S H : Hp} {vs : List V} {x y : D} (h : DVs K S H vs [x, y]) : ∃ v w, vs = [v, w] ∧ DV K S H v x ∧ DV K S H w y := by
  cases h with
  | cons a b => cases b with
    | cons b c => cases c; exact ⟨_, _, rfl, a, b⟩
theorem snd_len {K : PySem.W.Frag} : SndN K (rLenA K) cLen := fun S H xs vs P Q le dv b k => by
  unfold cLen at b
  split at b
  · obtain ⟨v, rfl, h⟩ := dv.one
    cases h
    exact .inl ⟨_, _, rfl, ⟨by rw [st_len]; exact b.1, rfl⟩, by rw [st_len]; exact k.dat _ _ b.2 (.int _)⟩
  · obtain ⟨v, rfl, a, ws, rfl, h1, h2⟩ := dv.one
    exact .inl ⟨_, _, rfl, .inl ⟨ws, SqL.of h1, rfl⟩, by rw [h2.length]; exact k.dat _ _ b (.int _)⟩
  · obtain ⟨v, rfl, a, ws, rfl, h1, h2⟩ := dv.one
    exact .inl ⟨_, _, rfl, .inr ⟨ws, SqT.of h1, rfl⟩, by rw [h2.length]; exact k.dat _ _ b (.int _)⟩
  · obtain ⟨v, rfl, a, ws, rfl, h1, h2⟩ := dv.one
    exact .inr ⟨_, _, rfl, h1, by rw [h2.length]; exact k.dat _ _ b (.int _)⟩
  · obtain ⟨v, rfl, a, rfl, h1⟩ := dv.one
    exact .inl ⟨_, _, rfl, .inl ⟨_, h1, rfl⟩, by rw [List.length_map]; exact k.dat _ _ b (.int _)⟩
  · exact b.elim
def cMin2 : BN
  | [.int i, .int j], P => P (.d (.int (if j < i then j else i)))
  | _, _ => False
def cMax2 : BN
  | [.int i, .int j], P => P (.d (.int (if j > i then j else i)))
  | _, _ => False
theorem snd_min2 {K : PySem.W.Frag} : SndN K (fun xs H Q => ∃ i j, xs = [.int i, .int j] ∧ Q (.int (if j < i then j else i)) H) cMin2 := fun S H xs vs P Q le dv b k => by
  unfold cMin2 at b
  split at b
  · obtain ⟨v, w, rfl, h1, h2⟩ := dv.two
    cases h1; cases h2
    exact ⟨_, _, rfl, k.dat _ _ b (.int _)⟩
  · exact b.elim
theorem snd_max2 {K : PySem.W.Frag} : SndN K (fun xs H Q => ∃ i j, xs = [.int i, .int j] ∧ Q (.int (if j > i then j else i)) H) cMax2 := fun S H xs vs P Q le dv b k => by
  unfold cMax2 at b
  split at b
  · obtain ⟨v, w, rfl, h1, h2⟩ := dv.two
    cases h1; cases h2
    exact ⟨_, _, rfl, k.dat _ _ b (.int _)⟩
  · exact b.elim
def cInt : BN
  | [.int i], P => P (.d (.int i))
  | [.bl b], P => P (.d (.int (if b then 1 else 0)))
  | _, _ => False
theorem snd_int {K : PySem.W.Frag} : SndN K (fun xs H Q => (∃ i, xs = [.int i] ∧ Q (.int i) H) ∨ ∃ k, xs = [.bl k] ∧ Q (.int (if k then 1 else 0)) H) cInt := fun S H xs vs P Q le dv b k => by
  unfold cInt at b
  split at b
  · obtain ⟨v, rfl, h1⟩ := dv.one
    cases h1
    exact .inl ⟨_, rfl, k.dat _ _ b (.int _)⟩
  · obtain ⟨v, rfl, h1⟩ := dv.one
    cases h1
    exact .inr ⟨_, rfl, k.dat _ _ b (.int _)⟩
  · exact b.elim
/-! ### list(..) -/
def cList : BN
  | [.lst xs], P => P (.o (.lst xs))
  | [.tup xs], P => P (.o (.lst xs))
  | _, _ => False
theorem snd_list {K : PySem.W.Frag} : SndN K (fun xs H Q => ∃ p ys, xs = [.ref p] ∧ (SqL K H p ys ∨ SqT K H p ys) ∧ ∀ l, H l = none → Q (.ref l) (upd H l (.lst ys))) cList := fun S H xs vs P Q le dv b k => by
  unfold cList at b
  split at b
  · obtain ⟨v, rfl, a, ws, rfl, h1, h2⟩ := dv.one
    exact ⟨a, ws, rfl, .inl (SqL.of h1), fun l hl => k.lst l ws _ hl b h2⟩
  · obtain ⟨v, rfl, a, ws, rfl, h1, h2⟩ := dv.one
    exact ⟨a, ws, rfl, .inr (SqT.of h1), fun l hl => k.lst l ws _ hl b h2⟩
  · exact b.elim
/-! ### dict(..) -/
def kD : Kd → D
  | .inl i => .int i
  | .inr l => .str l
def pairD (p : Kd × D) : D := .tup [kD p.1, p.2]
def putD (kvs : List (Kd × D)) (k : Kd) (x : D) : List (Kd × D) := if hasK kvs k = true then kvs.map (fun p => if p.1 = k then (p.1, x) else p) else kvs ++ [(k, x)]
def mergeD (kvs more : List (Kd × D)) : List (Kd × D) := more.foldl (fun acc p => putD acc p.1 p.2) kvs
theorem DRk.any {K : PySem.W.Frag} {S : Hp} {k : Kd} : ∀ {vs : List (Key × V)} {ds : List (Kd × D)}, DRk K S vs ds → (vs.any fun kv => decide (kv.1 = kd k)) = hasK ds k
  | _, _, .nil => rfl
  | _, _, .cons (k := j) r t => by
    simp only [hasK, List.any_cons]
    have ih := DRk.any (k := k) t
    simp only [hasK] at ih
    rw [ih]
    by_cases e : j = k
    · subst e; simp
    · have : ¬ kd j = kd k := fun q => e (kd_inj q)
      simp [e, this]
theorem DRk.append {K : PySem.W.Frag} {S : Hp} : ∀ {vs ws : List (Key × V)} {ds es : List (Kd × D)}, DRk K S vs ds → DRk K S ws es → DRk K S (vs ++ ws) (ds ++ es)
  | _, _, _, _, .nil, h => h
  | _, _, _, _, .cons r t, h => .cons r (DRk.append t h)
theorem DRk.repl {K : PySem.W.Frag} {S : Hp} {k : Kd} {v : V} {x : D} (r : DR K S v x) : ∀ {vs : List (Key × V)} {ds : List (Kd × D)}, DRk K S vs ds →
    DRk K S (vs.map fun kv => if kv.1 = kd k then (kv.1, v) else kv) (ds.map fun p => if p.1 = k then (p.1, x) else p)
  | _, _, .nil => .nil
  | _, _, .cons (k := j) q t => by
    rw [List.map_cons, List.map_cons]
    by_cases e : j = k
    · subst e
      simp only [if_true]
      exact .cons r (DRk.repl r t)
    · have e' : ¬ kd j = kd k := fun q => e (kd_inj q)
      simp only [if_neg e, if_neg e']
      exact .cons q (DRk.repl r t)
theorem DRk.put {K : PySem.W.Frag} {S : Hp} {k : Kd} {v : V} {x : D} {vs : List (Key × V)} {ds : List (Kd × D)} (h : DRk K S vs ds) (r : DR K S v x) : DRk K S (putK vs (kd k) v) (putD ds k x) := by
  unfold putK putD
  rw [h.any (k := k)]
  by_cases e : hasK ds k = true
  · rw [if_pos e, if_pos e]
    exact h.repl r
  · rw [if_neg e, if_neg e]
    exact h.append (.cons r .nil)
theorem DRk.merge {K : PySem.W.Frag} {S : Hp} : ∀ {ws : List (Key × V)} {es : List (Kd × D)} {vs : List (Key × V)} {ds : List (Kd × D)}, DRk K S ws es → DRk K S vs ds → DRk K S (mergeK vs ws) (mergeD ds es)
  | _, _, vs, ds, .nil, h => h
  | _, _, vs, ds, .cons (k := k) r t, h => by
    have := DRk.merge t (h.put (k := k) r)
    exact this
theorem kV_kd : ∀ {k : Kd} {v : V} {K : PySem.W.Frag} {S : Hp}, DR K S v (kD k) → v = kV (kd k)
  | .inl i, _, _, _, h => h.int_of
  | .inr l, _, _, _, h => h.str_of
theorem prs_of {K : PySem.W.Frag} {S H : Hp} (le : Le S H) : ∀ {prs : List (Kd × D)} {vs : List V}, DRs K S vs (prs.map pairD) → ∃ (ps : List Addr) (kvs : List (Key × V)), vs = ps.map V.ref ∧ Paired (fun p kv => SqT K H p [kV kv.1, kv.2]) ps kvs ∧ DRk K S kvs prs
  | [], _, h => by
    cases h
    exact ⟨[], [], rfl, .nil, .nil⟩
  | (k, d) :: prs, _, h => by
    cases h with
    | cons a b =>
      obtain ⟨p, vs, rfl, h1, h2⟩ := a.tup_of
      cases h2 with
      | cons c e =>
        cases e with
        | cons e f =>
          cases f
          obtain ⟨ps, kvs, rfl, g1, g2⟩ := prs_of le b
          refine ⟨p :: ps, (kd k, _) :: kvs, rfl, .cons ?_ g1, .cons e g2⟩
          have := kV_kd c
          subst this
          exact SqT.of (le.tup h1)
def cDict : BN
  | [.dic kvs], P => P (.o (.dic kvs))
  | [.lst xs], P => ∃ prs : List (Kd × D), xs = prs.map pairD ∧ P (.o (.dic (mergeD [] prs)))
  | _, _ => False
def rDictA (K : PySem.W.Frag) : List V → Hp → VK → Prop := fun xs H Q => (∃ (a : Addr) (kvs : List (Key × V)), xs = [.ref a] ∧ Rd H a (.dK kvs) ∧ ∀ p, H p = none → Q (.ref p) (upd H p (.dK kvs))) ∨
  (∃ (a : Addr) (ps : List Addr) (kvs : List (Key × V)), xs = [.ref a] ∧ SqL K H a (ps.map V.ref) ∧ Paired (fun p kv => SqT K H p [kV kv.1, kv.2]) ps kvs ∧ ∀ p, H p = none → Q (.ref p) (upd H p (.dK (mergeK [] kvs))))
theorem call_dictA (hc : X.calm = true) : CallR X (.type "dict") (rDictA X.K) := CallR.or call_dictD (call_dictP hc)
theorem snd_dict {K : PySem.W.Frag} : SndN K (rDictA K) cDict := fun S H xs vs P Q le dv b k => by
  unfold cDict at b
  split at b
  · obtain ⟨v, rfl, a, ws, rfl, h1, h2⟩ := dv.one
    exact .inl ⟨a, ws, rfl, h1, fun p hp => k.dic p _ _ hp b h2⟩
  · obtain ⟨v, rfl, a, ws, rfl, h1, h2⟩ := dv.one
    obtain ⟨prs, rfl, b⟩ := b
    obtain ⟨ps, kvs, rfl, g1, g2⟩ := prs_of le h2
    exact .inr ⟨a, ps, kvs, rfl, SqL.of h1, g1, fun p hp => k.dic p _ _ hp b (g2.merge .nil)⟩
  · exact b.elim
/-! ### isinstance(.., T) -/
def tyn : D → String
  | .non => "NoneType"
  | .bl _ => "bool"
  | .int _ => "int"
  | .str _ => "str"
  | .lst _ => "list"
  | .tup _ => "tuple"
  | .dic _ => "dict"
  | .dit _ => "dict"
  | .scr _ => "list"
  | .exc _ => "ValueError"
  | .fn _ => "function"
def isiB (a T : String) : Bool := a == T || (a == "bool" && T == "int")
def okT : List String := ["int", "bool", "str", "list", "tuple", "dict"]
theorem kit_all : ∀ a ∈ ["NoneType", "bool", "int", "str", "list", "tuple", "dict"], ∀ T ∈ okT, kitB a T = some (isiB a T) := by decide +kernel
def plainD : D → Bool
  | .scr _ => false
  | .exc _ => false
  | .fn _ => false
  | .dit _ => false
  | _ => true
theorem tyn_mem {x : D} (h : plainD x = true) : tyn x ∈ ["NoneType", "bool", "int", "str", "list", "tuple", "dict"] := by cases x <;> simp_all [tyn, plainD]
def pIsi (T : String) (p : PTE) : PTE := fun A P Y => p A (fun y A1 => match view A1.M y with
  | some x => P (.d (.bl (isiB (tyn x) T))) A1
  | none => False) Y
theorem ty_frzT {K : PySem.W.Frag} {H : Hp} {a : Addr} {kvs : List (List Key × V)} (h : Rd H a (.dT kvs)) (hn : ∀ o, H a ≠ some (.frz o (.dT kvs))) : TyX K H (.ref a) (.type "dict") := by
  rcases h with h | ⟨o, h⟩
  · exact .base (.dT h)
  · exact absurd h (hn o)
theorem DV.ty {K : PySem.W.Frag} {S H : Hp} {v : V} {x : D} (h : DV K S H v x) (hs : plainD x = true) : TyX K H v (.type (tyn x)) := by
  cases x with
  | non => cases h; exact .base .non
  | bl b => cases h; exact .base (.bl b)
  | int i => cases h; exact .base (.int i)
  | str l => cases h; exact .base (.str _)
  | lst ds => obtain ⟨a, vs, rfl, h1, h2⟩ := h; exact .base (.lst h1)
  | tup ds => obtain ⟨a, vs, rfl, h1, h2⟩ := h; exact .base (.tup h1)
  | dic ds =>
    obtain ⟨a, vs, rfl, h1, h2⟩ := h
    rcases h1 with h1 | ⟨o, h1⟩
    · exact .base (.dK h1)
    · exact .fDict h1
  | dit ds => cases hs
  | scr ns => cases hs
  | exc ns => cases hs
  | fn ns => cases hs
def pIsiP (T : String) (p : PTE) : PTE := fun A P Y => p A (fun y A1 => match view A1.M y with
  | some x => plainD x = true ∧ P (.d (.bl (isiB (tyn x) T))) A1
  | none => False) Y
theorem de_isi {t : TE} {T : String} {e : Expr} {p : PTE} {x y : Str} {p1 p2 pos : Pos} (h : DE X E e t p) (hT : T ∈ okT) (hg : Gl X x) (hm : X.mg x = none) (hv : bootBuiltins x = some (.builtin "isinstance")) (hg2 : Gl X y) (hm2 : X.mg y = none) (hv2 : bootBuiltins y = some (.type T))
    (hn2 : y ≠ "__name__" := by decide) (hd2 : (y == ("__debug__" : Str)) = false := by decide)
    (hn : x ≠ "__name__" := by decide) (hdb : (x == ("__debug__" : Str)) = false := by decide) (he : starEach [e, .Name y p2] X.env = (false, eval e X.env) :: starEach [.Name y p2] X.env := by rfl) (hpl : (backTo pos (starEach [.Name y p2] X.env)).any (·.1) = false := by rfl)
    (he2 : starEach [.Name y p2] X.env = (false, eval (.Name y p2) X.env) :: starEach [] X.env := by rfl) : DE X E (.Call (.Name x p1) [e, .Name y p2] [] pos) (tCB (rIsi X.K) (tCons t (tCons (tC (.ty T)) tNil))) (pIsiP T p) := by
  obtain ⟨h1, h2⟩ := h
  refine ⟨pe_callB call_isi hg hm hv (pa_cons h1 (pa_cons (pe_bltn (v := .ty T) hg2 hm2 hv2 rfl hn2 hd2) pa_nil he2) he) hn hdb he hpl, fun B σ H A P Y Q rel k c xq => ?_⟩
  refine h2 B σ H A _ Y _ rel k (fun y A1 v H1 p1 r1 => ?_) xq
  split at p1
  · rename_i z ez
    obtain ⟨t, S, ρ, hh, ss, kk⟩ := id r1
    have dv := (Now.mk hh ss).view kk ez
    have ty := dv.ty p1.1
    exact ⟨v, .ty T, _, _, _, rfl, .ty T, ty, kit_ty (kit_all _ (tyn_mem p1.1) _ hT), c _ A1 _ H1 p1.2 (r1.rel.res fun _ => .bl _)⟩
  · exact p1.elim
/-! ### ''.join -/
def strsD : List D → Option (List Tx)
  | [] => some []
  | .str l :: r => (match strsD r with
    | some ls => some (l :: ls)
    | none => none)
  | _ :: _ => none
theorem strsD_map : ∀ ws : List Tx, strsD (ws.map D.str) = some ws
  | [] => rfl
  | w :: r => by simp only [List.map_cons, strsD, strsD_map r]
theorem strsD_of : ∀ {ds : List D} {ls : List Tx}, strsD ds = some ls → ds = ls.map D.str
  | [], ls, h => by cases h; rfl
  | .str l :: r, ls, h => by
    have h : (match strsD r with
      | some ls => some (l :: ls)
      | none => none) = some ls := h
    cases e : strsD r with
    | none => rw [e] at h; cases h
    | some ls' =>
      rw [e] at h
      cases h
      rw [strsD_of e]
      rfl
  | .non :: r, ls, h => by cases h
  | .bl _ :: r, ls, h => by cases h
  | .int _ :: r, ls, h => by cases h
  | .lst _ :: r, ls, h => by cases h
  | .tup _ :: r, ls, h => by cases h
  | .dic _ :: r, ls, h => by cases h
  | .dit _ :: r, ls, h => by cases h
  | .scr _ :: r, ls, h => by cases h
  | .exc _ :: r, ls, h => by cases h
  | .fn _ :: r, ls, h => by cases h
theorem len_map_st (ws : List Tx) : ((ws.map st).map (·.length)).sum = (ws.map List.length).sum := by
  rw [List.map_map]
  have e : ((fun x : Str => x.length) ∘ st) = List.length := funext fun l => st_len l
  rw [e]
theorem map_tl_st (ws : List Tx) : (ws.map st).map TL.tl = ws := by
  rw [List.map_map]
  have : (TL.tl ∘ st) = id := funext fun l => st_tl l
  rw [this, List.map_id]
theorem join_st (a : Tx) (ws : List Tx) : Txt.join (st a) (ws.map st) = st (TL.joinL a ws) := by
  rw [TL.join_eq]
  apply TL.ext_tl
  rw [TL.tl_join, map_tl_st]
  show TL.joinL (st a).cps.toList ws = (st _).cps.toList
  rw [st_tl, st_tl]
/-- a method of a text with one argument: the receiver's text first -/
def pM1 (b : Tx → D → (R → Prop) → Prop) (pa pb : PTE) : PTE := fun A P Y => pa A (fun y1 A1 => match y1 with
  | .d (.str a) => pb A1 (fun y2 A2 => match view A2.M y2 with
    | some x => b a x fun z => P z A2
    | none => False) Y
  | _ => False) Y
def Snd1 (K : PySem.W.Frag) (r : V → List V → Hp → VK → Prop) (b : Tx → D → (R → Prop) → Prop) : Prop := ∀ (S H : Hp) (a : Tx) (x : D) (v : V) (P : R → Prop) (Q : VK), Le S H → DV K S H v x → b a x P → Kont K S H P Q → r (.str (st a)) [v] H Q
theorem sim_m1 {K : PySem.W.Frag} {r : V → List V → Hp → VK → Prop} {b : Tx → D → (R → Prop) → Prop} {ta tb : TE} {pa pb : PTE} (hr : Snd1 K r b) (ha : SimE K E ta pa) (hb : SimE K E tb pb) : SimE K E (tM1 r ta tb) (pM1 b pa pb) := fun B σ H A P Y Q rel p q xq => by
  refine ha B σ H A _ Y _ rel p (fun y1 A1 v1 H1 p1 res => ?_) xq
  split at p1
  · rename_i a
    obtain ⟨t, S, ρ, h, s, k⟩ := res
    cases DR.str_of k
    refine ⟨⟨_, rfl⟩, hb _ σ H1 A1 _ Y _ ⟨t, S, _, h.rebase, s⟩ p1 (fun y2 A2 v2 H2 p2 res2 => ?_) (xq.back h)⟩
    obtain ⟨t2, S2, ρ2, h2, s2, k2⟩ := res2
    have n2 : Now K B t2 S2 ρ2 A2 σ H2 := ⟨h.back h2, s2⟩
    split at p2
    · rename_i x ex
      exact hr S2 H2 a x v2 _ Q n2.h.le (n2.view k2 ex) p2 (n2.kont fun z v H' pz rz => q z A2 v H' pz rz)
    · exact p2.elim
  · exact p1.elim
theorem de_m1 {ta tb : TE} {id : String} {name : Str} {o e : Expr} {pa pb : PTE} {apos pos : Pos} {r : V → List V → Hp → VK → Prop} {b : Tx → D → (R → Prop) → Prop} (slot : Slot "str" name id) (ty : typeOf (.builtin id) = pure (.type "method_descriptor")) (rule : MtR X id r) (hr : Snd1 X.K r b)
    (ha : DE X E o ta pa) (hb : DE X E e tb pb) (hs : starEach [e] X.env = [(false, eval e X.env)] := by rfl) (hbase : attributeBase o name X.env (eval o X.env) = eval o X.env := by rfl) (hline : (apos.endLine == pos.line) = true := by rfl) :
    DE X E (.Call (.Attribute o name apos) [e] [] pos) (tM1 r ta tb) (pM1 b pa pb) := ⟨pe_m1 slot ty rule ha.pe hb.pe hs hbase hline, sim_m1 hr ha.sim hb.sim⟩
def bJoin (a : Tx) : D → (R → Prop) → Prop
  | .lst xs, P => ∃ ws : List Tx, xs = ws.map D.str ∧ (ws.map List.length).sum + ws.length * a.length ≤ 16777216 ∧ P (.d (.str (TL.joinL a ws)))
  | _, _ => False
def rJoin (K : PySem.W.Frag) : V → List V → Hp → VK → Prop := fun x xs H Q => ∃ a p, ∃ ys : List Str, x = .str a ∧ xs = [.ref p] ∧ (SqL K H p (ys.map V.str) ∨ SqT K H p (ys.map V.str)) ∧
    (ys.map (·.length)).sum + ys.length * a.length ≤ 16777216 ∧ Q (.str (Txt.join a ys)) H
theorem snd_join {K : PySem.W.Frag} : Snd1 K (rJoin K) bJoin := fun S H a x v P Q le dv b k => by
  unfold bJoin at b
  split at b
  · obtain ⟨p, vs, rfl, h1, h2⟩ := dv
    obtain ⟨ws, rfl, hl, b⟩ := b
    have e := h2.strs_of
    subst e
    refine ⟨_, p, ws.map st, rfl, rfl, .inl (SqL.of h1), by rw [len_map_st, st_len, List.length_map]; exact hl, ?_⟩
    rw [join_st]
    exact k.dat _ _ b (.str _)
  · exact b.elim
theorem de_join {ta tb : TE} {o e : Expr} {pa pb : PTE} {apos pos : Pos} (ha : DE X E o ta pa) (hb : DE X E e tb pb) (hs : starEach [e] X.env = [(false, eval e X.env)] := by rfl) (hbase : attributeBase o "join" X.env (eval o X.env) = eval o X.env := by rfl) (hline : (apos.endLine == pos.line) = true := by rfl) :
    DE X E (.Call (.Attribute o "join" apos) [e] [] pos) (tM1 (rJoin X.K) ta tb) (pM1 bJoin pa pb) := ⟨pe_join ha.pe hb.pe hs hbase hline, sim_m1 snd_join ha.sim hb.sim⟩

/-! ### items and slices -/
def bIx : B2
  | .lst xs, .int i, P => ∃ d, atI xs i = some d ∧ P (.d d)
  | .tup xs, .int i, P => ∃ d, atI xs i = some d ∧ P (.d d)
  | .str l, .int i, P => l.length ≤ 16777216 ∧ ∃ c, atI l i = some c ∧ P (.d (.str [c]))
  | .scr ns, .int i, P => ∃ n, atI ns i = some n ∧ P (.d (.int n))
  | .dic kvs, .int i, P => ∃ d, getK kvs (.inl i) = some d ∧ P (.d d)
  | .dic kvs, .str l, P => ∃ d, getK kvs (.inr l) = some d ∧ P (.d d)
  | _, _, _ => False
def rIxDk : R2 := fun x y H Q => ∃ p kvs k v, x = .ref p ∧ y = kV k ∧ Rd H p (.dK kvs) ∧ valV kvs k = some v ∧ Q v H
theorem ix_dk (hu : X.A.units + 1 < cLine) : IxR X rIxDk := by
  intro value slice pins s σ H x y v u Q I rx ry h hs
  obtain ⟨p, kvs, k, r, rfl, rfl, hd, e, q⟩ := h
  obtain rfl : v = Value.ref p := rx
  obtain ⟨z, lo, vs, rel, dd⟩ := dk_rd I.hok hd
  exact PyProof.Rows.tail_any dd.typeIs PySem.F.slot_dict_getitem.lookup (d_getItem hu I (.inl ⟨kvs, k, hd, rfl, e.symm⟩) ry fun w' s' I' r' => ⟨r, H, I', r', q⟩) hs
def rIxA (K : PySem.W.Frag) : R2 := fun x y H Q => rIx K x y H Q ∨ rIxDk x y H Q
theorem ix_A (hu : X.A.units + 1 < cLine) : IxR X (rIxA X.K) := IxR.or ix_seq (ix_dk hu)
theorem atI_map {α β : Type} (f : α → β) {xs : List α} {i : Int} {x : α} (h : atI xs i = some x) : atI (xs.map f) i = some (f x) := by
  unfold atI at h ⊢
  rw [List.length_map]
  cases e : ixN xs.length i with
  | none => rw [e] at h; cases h
  | some j =>
    rw [e] at h
    have h : xs[j]? = some x := h
    show (xs.map f)[j]? = some (f x)
    rw [List.getElem?_map, h]
    rfl
theorem atI_drs {K : PySem.W.Frag} {S : Hp} {vs : List V} {ds : List D} {i : Int} {d : D} (h : DRs K S vs ds) (e : atI ds i = some d) : ∃ v, atI vs i = some v ∧ DR K S v d := by
  unfold atI at e ⊢
  rw [h.length]
  cases q : ixN ds.length i with
  | none => rw [q] at e; cases e
  | some j =>
    rw [q] at e
    exact h.get' (i := j) e
theorem snd_ix {K : PySem.W.Frag} : Snd2 K (rIxA K) bIx := fun S H x y v w P Q le dv dw b k => by
  unfold bIx at b
  split at b
  · obtain ⟨a, vs, rfl, h1, h2⟩ := dv
    cases dw
    obtain ⟨d, e, b⟩ := b
    obtain ⟨u, e1, e2⟩ := atI_drs h2 e
    exact .inl (.inl ⟨a, vs, _, u, rfl, rfl, SqL.of h1, e1, k.dat _ _ b e2⟩)
  · obtain ⟨a, vs, rfl, h1, h2⟩ := dv
    cases dw
    obtain ⟨d, e, b⟩ := b
    obtain ⟨u, e1, e2⟩ := atI_drs h2 e
    exact .inl (.inr (.inl ⟨a, vs, _, u, rfl, rfl, SqT.of h1, e1, k.dat _ _ b e2⟩))
  · cases dv; cases dw
    obtain ⟨hl, c, e, b⟩ := b
    refine .inl (.inr (.inr ⟨_, _, c, rfl, rfl, by rw [st_len]; exact hl, by rw [st_tl]; exact e, ?_⟩))
    exact k.dat _ _ b (.str [c])
  · obtain ⟨a, rfl, h1⟩ := dv
    cases dw
    obtain ⟨n, e, b⟩ := b
    exact .inl (.inl ⟨a, _, _, _, rfl, rfl, h1, atI_map V.int e, k.dat _ _ b (.int n)⟩)
  · obtain ⟨a, vs, rfl, h1, h2⟩ := dv
    cases dw
    obtain ⟨d, e, b⟩ := b
    rcases h2.val (k := .inl _) with ⟨g1, g2⟩ | ⟨u, d', g1, g2, g3⟩
    · rw [e] at g2; cases g2
    · rw [e] at g2
      cases g2
      exact .inr ⟨a, vs, kd (.inl _), u, rfl, rfl, h1, g1, k.dat _ _ b g3⟩
  · obtain ⟨a, vs, rfl, h1, h2⟩ := dv
    cases dw
    obtain ⟨d, e, b⟩ := b
    rcases h2.val (k := .inr _) with ⟨g1, g2⟩ | ⟨u, d', g1, g2, g3⟩
    · rw [e] at g2; cases g2
    · rw [e] at g2
      cases g2
      exact .inr ⟨a, vs, kd (.inr _), u, rfl, rfl, h1, g1, k.dat _ _ b g3⟩
  · exact b.elim
theorem de_ix {ta tb : TE} {a b : Expr} {pa pb : PTE} {pos : Pos} (hu : X.A.units + 1 < cLine) (ha : DE X E a ta pa) (hb : DE X E b tb pb) (hs : PlainIx b) : DE X E (.Subscript a b pos) (tOp (rIxA X.K) ta tb) (pOp2 bIx pa pb) := ⟨pe_ix (ix_A hu) ha.pe hb.pe hs, sim_op2 snd_ix ha.sim hb.sim⟩
def cutL {α : Type} (xs : List α) (lo hi : Option Int) : List α := (xs.drop (HT.sIx xs.length 0 lo)).take (HT.sIx xs.length xs.length hi - HT.sIx xs.length 0 lo)
def bSl (lo hi : Option Int) : D → (R → Prop) → Prop
  | .str l, P => l.length ≤ 16777216 ∧ P (.d (.str (cutL l lo hi)))
  | .lst xs, P => P (.o (.lst (cutL xs lo hi)))
  | .scr ns, P => P (.o (.lst ((cutL ns lo hi).map D.int)))
  | _, _ => False
abbrev PTO := Abs → (Option Int → Abs → Prop) → PX → Prop
def SimO (K : PySem.W.Frag) (E : WX) (t : TO) (p : PTO) : Prop := ∀ (B : Bas) (σ : St) (H : Hp) (A : Abs) (P : Option Int → Abs → Prop) (Y : PX) (Q : Option Int → Hp → Prop),
  Rel K B A σ H → p A P Y → (∀ o A' H', P o A' → Rel K B A' σ H' → Q o H') → XQ K B E σ Y → t σ H Q
structure DO (X : Cx) (E : WX) (e : Option Expr) (t : TO) (p : PTO) : Prop where
  pe : PO X e t
  sim : SimO X.K E t p
def pNo : PTO := fun A P _ => P none A
def pPart (p : PTE) : PTO := fun A P Y => p A (fun y A1 => match y with
  | .d (.int i) => P (some i) A1
  | _ => False) Y
theorem do_no : DO X E none tNoPart pNo := ⟨po_none, fun B σ H A P Y Q rel k q _ => q none A H k rel⟩
theorem do_some {t : TE} {e : Expr} {p : PTE} (h : DE X E e t p) : DO X E (some e) (tPart t) (pPart p) := by
  obtain ⟨h1, h2⟩ := h
  refine ⟨po_some h1, fun B σ H A P Y Q rel k q xq => ?_⟩
  refine h2 B σ H A _ Y _ rel k (fun y A1 v H1 p1 r1 => ?_) xq
  split at p1
  · rename_i i
    obtain ⟨t, S, r, h, s, kk⟩ := id r1
    cases DR.int_of kk
    exact ⟨i, rfl, q _ A1 H1 p1 r1.rel⟩
  · exact p1.elim
def pSl (pa : PTE) (pl ph : PTO) : PTE := fun A P Y => pa A (fun y1 A1 => match y1.fz with
  | some z1 => pl A1 (fun l A2 => ph A2 (fun h A3 => match view A3.M z1 with
    | some x => bSl l h x fun z => P z A3
    | none => False) Y) Y
  | none => False) Y
def rSlA (K : PySem.W.Frag) : V → Option Int → Option Int → Hp → VK → Prop := fun x lo hi H Q => rSlS x lo hi H Q ∨ rSlL K x lo hi H Q
theorem sl_A : SlR X (rSlA X.K) := SlR.or sl_str sl_list
theorem DRs.cut {K : PySem.W.Frag} {S : Hp} {vs : List V} {ds : List D} (h : DRs K S vs ds) (lo hi : Option Int) : DRs K S (cutV vs lo hi) (cutL ds lo hi) := by
  unfold cutV cutL
  rw [h.length]
  exact (h.drop _).take _
theorem cut_map {α β : Type} (f : α → β) (xs : List α) (lo hi : Option Int) : cutL (xs.map f) lo hi = (cutL xs lo hi).map f := by
  unfold cutL
  rw [List.length_map, ← List.map_drop, ← List.map_take]
theorem cutS_st (l : Tx) (lo hi : Option Int) : cutS (st l) lo hi = st (cutL l lo hi) := by
  unfold cutS cutL
  rw [st_len, st_tl]
  rfl
theorem snd_sl {K : PySem.W.Frag} {S H : Hp} {lo hi : Option Int} {x : D} {v : V} {P : R → Prop} {Q : VK} (le : Le S H) (dv : DV K S H v x) (b : bSl lo hi x P) (k : Kont K S H P Q) : rSlA K v lo hi H Q := by
  unfold bSl at b
  split at b
  · cases dv
    refine .inl ⟨_, rfl, by rw [st_len]; exact b.1, ?_⟩
    rw [cutS_st]
    exact k.dat _ _ b.2 (.str _)
  · obtain ⟨a, vs, rfl, h1, h2⟩ := dv
    exact .inr ⟨a, vs, rfl, SqL.of h1, fun p hp => k.lst p _ _ hp b (h2.cut lo hi)⟩
  · rename_i ns
    obtain ⟨a, rfl, h1⟩ := dv
    refine .inr ⟨a, _, rfl, h1, fun p hp => k.lst p _ _ hp b ?_⟩
    have e : cutV (ns.map V.int) lo hi = (cutL ns lo hi).map V.int := by
      show cutL (ns.map V.int) lo hi = _
      exact cut_map V.int ns lo hi
    rw [e]
    exact DRs.ints
  · exact b.elim
theorem de_sl {ta : TE} {tl th : TO} {e : Expr} {lo hi : Option Expr} {pa : PTE} {pl ph : PTO} {pos p2 : Pos} (ha : DE X E e ta pa) (hl : DO X E lo tl pl) (hh : DO X E hi th ph) : DE X E (.Subscript e (.Slice lo hi none p2) pos) (tSl (rSlA X.K) ta tl th) (pSl pa pl ph) := by
  obtain ⟨h1, h2⟩ := ha
  obtain ⟨h3, h4⟩ := hl
  obtain ⟨h5, h6⟩ := hh
  refine ⟨pe_slice sl_A h1 h3 h5, fun B σ H A P Y Q rel p q xq => ?_⟩
  refine h2 B σ H A _ Y _ rel p (fun y1 A1 v1 H1 p1 res => ?_) xq
  cases e1 : y1.fz with
  | none => rw [e1] at p1; exact p1.elim
  | some z1 =>
    rw [e1] at p1
    obtain ⟨t, S, ρ, h, s, k⟩ := res
    obtain ⟨S1, ρ1, n1, k1, _, _⟩ := Now.fz (x := .non) ⟨h, s⟩ k e1
    refine h4 _ σ H1 A1 _ Y _ ⟨t, S1, _, n1.h.rebase, n1.s⟩ p1 (fun l A2 H2 p2 ⟨t2, S2, ρ2, g2, s2⟩ => ?_) (xq.back n1.h)
    have g2' := n1.h.back g2
    refine h6 _ σ H2 A2 _ Y _ ⟨t2, S2, _, g2'.rebase, s2⟩ p2 (fun u A3 H3 p3 ⟨t3, S3, ρ3, g3, s3⟩ => ?_) (xq.back g2')
    have n3 : Now X.K B t3 S3 ρ3 A3 σ H3 := ⟨g2'.back g3, s3⟩
    have k3 : Rok X.K S3 ρ3 t3 A3.M.length H3 z1 v1 := (k1.ext (r' := ρ2) (H' := H2) (fz_no e1) g2.ext).ext (fz_no e1) g3.ext
    split at p3
    · rename_i x ex
      exact snd_sl n3.h.le (n3.view k3 ex) p3 (n3.kont fun z v H' pz rz => q z A3 v H' pz rz)
    · exact p3.elim
end
end PD

/-! PD, seventh part: sorted. -/
namespace PD
open PySem L2

def leD (x y : D) : Bool := PySem.W.dataLe false py x y
def srt (xs : List D) : List D := xs.mergeSort leD
def srtOk (xs : List D) : Prop := PySem.W.AllAlike (xs.map py) ∧ PySem.W.Sortable (xs.map py) ∧ ∀ x ∈ xs, okD x
/-- values with what they bear -/
inductive DZ (K : PySem.W.Frag) (H : Hp) : List (V × D) → List V → List D → Prop
  | nil : DZ K H [] [] []
  | cons {v : V} {vs : List V} {d : D} {ds : List D} {zs : List (V × D)} : DR K H v d → DZ K H zs vs ds → DZ K H ((v, d) :: zs) (v :: vs) (d :: ds)
theorem DRs.zip {K : PySem.W.Frag} {H : Hp} : ∀ {vs : List V} {ds : List D}, DRs K H vs ds → ∀ p ∈ vs.zip ds, DR K H p.1 p.2
  | _, _, .nil, p, h => by simp at h
  | _, _, .cons a b, p, h => by
    rw [List.zip_cons_cons] at h
    rcases List.mem_cons.mp h with rfl | h
    · exact a
    · exact DRs.zip b p h
theorem DRs.of_zip {K : PySem.W.Frag} {H : Hp} : ∀ {zs : List (V × D)}, (∀ p ∈ zs, DR K H p.1 p.2) → DRs K H (zs.map (·.1)) (zs.map (·.2))
  | [], _ => .nil
  | z :: zs, h => .cons (h z (by simp)) (DRs.of_zip fun p hp => h p (by simp [hp]))
theorem Vals.each {vs : List V} {us : List Value} : ∀ {vs : List V} {us : List Value} {ds : List D}, Vals vs us → vs.length = ds.length → PySem.W.EachIs (fun (u : Value) (b : V × D) => RelV b.1 u) us (vs.zip ds)
  | _, _, [], .nil, _ => .nil
  | _, _, d :: ds, .cons r t, h => by
    rw [List.zip_cons_cons]
    exact .cons r (Vals.each (vs := []) (us := []) t (by simpa using h))
  | _, _, _ :: _, .nil, h => by simp at h
  | _, _, [], .cons _ _, h => by simp at h
theorem each_vals : ∀ {us : List Value} {zs : List (V × D)}, PySem.W.EachIs (fun (u : Value) (b : V × D) => RelV b.1 u) us zs → Vals (zs.map (·.1)) us
  | _, _, .nil => .nil
  | _, _, .cons r t => .cons r (each_vals t)
theorem zip_snd {vs : List V} {ds : List D} (h : vs.length = ds.length) : (vs.zip ds).map (fun p => py p.2) = ds.map py := by
  have : (fun p : V × D => py p.2) = py ∘ Prod.snd := rfl
  rw [this, ← List.map_map, List.map_snd_zip (by omega)]
section
variable {X : Cx} {E : WX}
theorem each_reads {pins : List (Addr × Obj)} {σ : St} {H : Hp} {s : Shared} (I : Inv X pins σ H s) : ∀ {vs : List V} {us : List Value} {ds : List D}, Vals vs us → DRs X.K H vs ds → (∀ x ∈ ds, chk x = true) →
    PySem.W.EachIs (fun (u : Value) (b : V × D) => ∃ as, Reads s.heap u (py b.2) as) us (vs.zip ds)
  | _, _, _, .nil, .nil, _ => .nil
  | _, _, _, .cons r t, .cons a b, h => by
    rw [List.zip_cons_cons]
    exact .cons (Dp.reads I _ _ _ (a.dp (h _ (by simp))) r) (each_reads I t b fun x hx => h x (by simp [hx]))
/-- what a sort leaves -/
theorem sort_end {K : PySem.W.Frag} {H : Hp} {vs : List V} {ds : List D} (h : DRs K H vs ds) {out : List Value} (e : PySem.W.EachIs (fun (u : Value) (b : V × D) => RelV b.1 u) out ((vs.zip ds).mergeSort (PySem.W.dataLe false fun b => py b.2))) :
    ∃ ws, Vals ws out ∧ DRs K H ws (srt ds) ∧ ws.length = vs.length := by
  refine ⟨_, each_vals e, ?_, ?_⟩
  · have e2 : ((vs.zip ds).mergeSort (PySem.W.dataLe false fun b => py b.2)).map (·.2) = srt ds := by
      unfold srt
      have := PySem.W.sort_maps (r := PySem.W.dataLe false fun b : V × D => py b.2) (s := leD) (fun p : V × D => p.2) (l := vs.zip ds) (fun a _ b _ => rfl)
      refine this.trans ?_
      rw [List.map_snd_zip (by rw [h.length]; exact Nat.le_refl _)]
    rw [← e2]
    exact DRs.of_zip fun p hp => h.zip p (List.mem_mergeSort.mp hp)
  · rw [List.length_map, List.length_mergeSort, List.length_zip, h.length, Nat.min_self]
def cSorted : BN
  | [.lst xs], P => srtOk xs ∧ P (.o (.lst (srt xs)))
  | [.dic kvs], P => srtOk (kvs.map fun p => kD p.1) ∧ P (.o (.lst (srt (kvs.map fun p => kD p.1))))
  | _, _ => False
def rSortA (K : PySem.W.Frag) : List V → Hp → VK → Prop := fun xs H Q => ∃ a S ds, xs = [V.ref a] ∧ Le S H ∧ srtOk ds ∧ ((∃ vs, H a = some (.lst vs) ∧ DRs K S vs ds) ∨ (∃ kvs, Rd H a (.dK kvs) ∧ DRs K S (kvs.map fun p => kV p.1) ds)) ∧
  ∀ ws p, H p = none → DRs K S ws (srt ds) → Q (.ref p) (upd H p (.lst ws))
theorem units2 {A : Around} (h : A.units + 64 < cLine) (n : Nat) (hn : n ≤ 60) : A.units + 2 + n < cLine := by omega
mutual
theorem reads_lt {h : Heap} : ∀ {v : Value} {d : PyData} {as : List Addr}, Reads h v d as → ∀ a ∈ as, a < h.objs.size
  | _, _, _, .none, a, m => by simp at m
  | _, _, _, .bool _, a, m => by simp at m
  | _, _, _, .int _ _, a, m => by simp at m
  | _, _, _, .str _ _, a, m => by simp at m
  | _, _, _, .list e _ _ r, a, m => by
    rcases List.mem_cons.mp m with rfl | m
    · exact Heap.lt_size e
    · exact readsAll_lt r a m
  | _, _, _, .tuple e _ _ r, a, m => readsAll_lt r a m
  | _, _, _, .dict e _ _ r1 r2, a, m => by
    rcases List.mem_append.mp m with m | m
    · rcases List.mem_cons.mp m with rfl | m
      · exact Heap.lt_size e
      · exact readsAll_lt r1 a m
    · exact readsAll_lt r2 a m
theorem readsAll_lt {h : Heap} : ∀ {v : List Value} {d : List PyData} {as : List Addr}, ReadsAll h v d as → ∀ a ∈ as, a < h.objs.size
  | _, _, _, .nil, a, m => by simp at m
  | _, _, _, .cons r t, a, m => by
    rcases List.mem_append.mp m with m | m
    · exact reads_lt r a m
    · exact readsAll_lt t a m
end
theorem each_and {α β : Type} {F G : α → β → Prop} : ∀ {xs : List α} {ys : List β}, PySem.W.EachIs F xs ys → (∀ a b, F a b → G a b) → PySem.W.EachIs G xs ys
  | _, _, .nil, _ => .nil
  | _, _, .cons r t, h => .cons (h _ _ r) (each_and t h)
/-- a list just laid is sorted -/
theorem sort_pushed {pins : List (Addr × Obj)} {σ : St} {H : Hp} {s : Shared} {h' : Heap} {tk : Nat} {its : List Value} {vs : List V} {ds : List D} {Q : VK} (hu : X.A.units + 64 < cLine) (I1 : Inv X pins σ H { s with heap := h', toks := tk })
    {S : Hp} (le : Le S H) (hV : Vals vs its) (hd : DRs X.K S vs ds) (ok : srtOk ds) (hz : vs.length ≤ sizeLine) (q : ∀ ws p, H p = none → DRs X.K S ws (srt ds) → Q (.ref p) (upd H p (.lst ws))) :
    wpAny (model X.prog X.w) X.A.in1 (call (.builtin "list.sort") [.ref h'.objs.size]) (fun _ s' => EP X pins σ Q (.ref h'.objs.size) s') X.xe { s with heap := h'.push (PyProof.Rows.seqObj "list" its.toArray 0), toks := tk } := by
  obtain ⟨ok1, ok2, ok3⟩ := ok
  have c3 : ∀ x ∈ ds, chk x = true := fun x hx => (ok3 x hx).1
  have hln := hd.length
  have hoL : (h'.push (PyProof.Rows.seqObj "list" its.toArray 0)).get? h'.objs.size = some (PyProof.Rows.seqObj "list" its.toArray 0) := Heap.get?_push_size _ rfl
  refine PySem.W.list_sort_data (s := { s with heap := h'.push (PyProof.Rows.seqObj "list" its.toArray 0), toks := tk }) (A := X.A.in1) (enc := fun b : V × D => py b.2) (R := fun u b => RelV b.1 u) (bs := vs.zip ds) (vs := its) hoL (Vals.each (vs := []) (us := []) hV hln) ?_ ?_ ?_ ?_ (fun b hb => ?_) fun out ho he => ?_
  · refine each_and (each_reads I1 hV (hd.mono le) c3) fun u b ⟨as, r⟩ => ⟨as, PyProof.Rows.Reads.keeps (fun b o e => Heap.get?_push_of_some _ e) r, fun m => ?_⟩
    exact absurd (reads_lt r _ m) (Nat.lt_irrefl _)
  · rw [zip_snd hln]; exact ok1
  · rw [zip_snd hln]; exact ok2
  · rw [List.length_zip]; omega
  · have := units2 hu _ (Nat.le_trans (py_dep b.2) (ok3 _ (List.of_mem_zip hb).2).2)
    show X.A.units + 1 + 1 + _ < cLine
    exact this
  · obtain ⟨ws, w1, w2, w3⟩ := sort_end hd he
    obtain ⟨e', he'⟩ := PyProof.Rows.sortedHeap_at (vs := its) (out := out.toArray) hoL
    refine ⟨.ref h'.objs.size, upd H h'.objs.size (.lst ws), I1.laid (t' := tk) (fun b u e => ?_) (Nat.le_refl _) (show ObjOk X.prog X.w _ _ _ (.lst ws) from ⟨by rw [w3]; exact hz, out, e', w1, ?_⟩), rfl, q ws _ (I1.hok.fresh (Nat.le_refl _)) w2⟩
    · have hb : b < h'.objs.size := Heap.lt_size e
      rw [PyProof.Rows.sortedHeap_old (Nat.ne_of_lt hb) (by show b < (h'.push _).objs.size; rw [PyProof.Rows.size_push']; exact Nat.lt_succ_of_lt hb)]
      exact Heap.get?_push_of_some _ e
    · simpa using he'
theorem call_sortA (hc : X.calm = true) (hu : X.A.units + 64 < cLine) : CallR X (.builtin "sorted") (rSortA X.K) := fun pins s σ H xs us Q I r h => by
  obtain ⟨a, S, ds, rfl, le, ok, src, q⟩ := h
  rw [Vals.ref1 r]
  rcases src with ⟨vs, ha, hd⟩ | ⟨kvs, ha, hd⟩
  · obtain ⟨ok1, ok2, ok3⟩ := ok
    have c3 : ∀ x ∈ ds, chk x = true := fun x hx => (ok3 x hx).1
    obtain ⟨its, rv, hl, hz⟩ := I.list (SqL.of ha)
    have hln := hd.length
    refine PySem.W.sorted_data (enc := fun b : V × D => py b.2) (R := fun u b => RelV b.1 u) (bs := vs.zip ds) hl.isList (Vals.each (vs := []) (us := []) rv hln) (each_reads I rv (hd.mono le) c3) ?_ ?_ ?_ (fun b hb => ?_) fun out ho he => ?_
    · rw [zip_snd hln]; exact ok1
    · rw [zip_snd hln]; exact ok2
    · rw [List.length_zip]; omega
    · exact units2 hu _ (Nat.le_trans (py_dep b.2) (ok3 _ (List.of_mem_zip hb).2).2)
    · obtain ⟨ws, w1, w2, w3⟩ := sort_end hd he
      obtain ⟨ep, he'⟩ := PyProof.Rows.sortedAll_at s.heap its out.toArray
      refine ⟨.ref _, upd H (s.heap.objs.size + 1) (.lst ws), I.laid (t' := s.toks) (fun _ _ => PyProof.Rows.sortedAll_old) (Nat.le_succ _) ⟨by rw [w3]; exact hz, out, ep, w1, ?_⟩, rfl, q ws _ (I.hok.fresh (Nat.le_succ _)) w2⟩
      simpa using he'
  · obtain ⟨z, lo, vs, rel, dd⟩ := dk_rd I.hok ha
    obtain ⟨ep, hat⟩ := dd.dictAt
    have hl : vs.length = kvs.length := rel.length.symm
    refine Calls.call_function_entry PyProof.Rows.kind_sorted PyProof.Rows.plain_sorted PyProof.Rows.entry_sorted (PyProof.Rows.args_sorted1 _) ?_
    unfold Builtin.«sorted»
    refine wpAny_bind (m := checkCount "sorted" 1 1 _) (wpAny_pure ?_)
    refine wpAny_bind (PySem.W.kdu_collect (A := X.A.in1) (PySem.W.kdl_dict (knd := mixKind X.prog X.w) (kvs := vs) (ep := ep) lo) (I.ok.hd hc) hat (by omega) fun h' tk acc hk hacc => ?_)
    have hal : acc.toList.length = vs.length := by rw [Array.length_toList, hacc.1]
    have hV : Vals (vs.map fun p => kV p.1) acc.toList := keys_at hal fun j v e => hacc.2 j v (by rw [← Array.getElem?_toList]; exact e)
    have hVk : Vals (kvs.map fun p => kV p.1) acc.toList := by
      have e : (vs.map fun p => kV p.1) = kvs.map fun p => kV p.1 := by
        have := rel.keys
        have e2 := congrArg (List.map kV) this
        rw [List.map_map, List.map_map] at e2
        exact e2.symm
      rw [← e]
      exact hV
    have I1 : Inv X pins σ H { s with heap := h', toks := tk } := I.kept hk
    refine wpAny_bind (wpAny_newList ?_ (by rw [hal]; omega))
    refine wpAny_bind (wpAny_holding (wpAny_mono (sort_pushed (Q := Q) hu I1 le hVk hd ok (by rw [List.length_map]; exact z) q) (fun _ s' x => ?_) fun _ _ e => e))
    exact wpAny_pure ⟨_, rfl, x⟩
theorem DRk.keys {K : PySem.W.Frag} {S : Hp} : ∀ {vs : List (Key × V)} {ds : List (Kd × D)}, DRk K S vs ds → DRs K S (vs.map fun p => kV p.1) (ds.map fun p => kD p.1)
  | _, _, .nil => .nil
  | _, _, .cons (k := k) r t => by
    refine .cons ?_ (DRk.keys t)
    cases k with
    | inl i => exact .int i
    | inr l => exact .str l
theorem snd_sorted {K : PySem.W.Frag} : SndN K (rSortA K) cSorted := fun S H xs vs P Q le dv b k => by
  unfold cSorted at b
  split at b
  · obtain ⟨v, rfl, a, ws, rfl, h1, h2⟩ := dv.one
    exact ⟨a, S, _, rfl, le, b.1, .inl ⟨ws, h1, h2⟩, fun us p hp h => k.lst p us _ hp b.2 h⟩
  · obtain ⟨v, rfl, a, ws, rfl, h1, h2⟩ := dv.one
    exact ⟨a, S, _, rfl, le, b.1, .inr ⟨ws, h1, h2.keys⟩, fun us p hp h => k.lst p us _ hp b.2 h⟩
  · exact b.elim
end
/-- new objects: at T they are data, at p the one at hand -/
theorem HR.grow {K : PySem.W.Frag} {B : Bas} {t : Nat → Addr} {S : Hp} {r : Addr → Lb} {M : List (Option O)} {H H1 : Hp} (h : HR K B t S r M H) (ext : ∀ b o, H b = some o → H1 b = some o) {T : Addr → Prop} [DecidablePred T] (hT : ∀ a, T a → H a = none)
    {p : Addr} (hp : H p = none) (np : ¬ T p) (hp1 : H1 p ≠ none) : HR K B t (fun a => if T a then H1 a else S a) (tmpT r p) M H1 where
  le := fun a u e => by
    dsimp only at e
    split at e
    · exact .inl e
    · rcases h.le a u e with z | ⟨z, o, y⟩
      · exact .inl (ext _ _ z)
      · exact .inr ⟨z, o, ext _ _ y⟩
  sep := fun a l e => by
    unfold tmpT at e
    split at e
    · rename_i q
      subst q
      exact ⟨(if_neg np).trans (h.of_none hp), hp1⟩
    · obtain ⟨h1, h2⟩ := h.sep a l (dropT_some e)
      refine ⟨(if_neg fun z => h2 (hT a z)).trans h1, ?_⟩
      cases q : H a with
      | none => exact absurd q h2
      | some o => rw [ext a o q]; simp
  lab := fun a n e => by
    unfold tmpT at e
    split at e
    · cases e
    · exact h.lab a n (dropT_some e)
  obj := fun n o e => by
    have own : ∀ b, r b = some (some n) → H b ≠ none := fun b hb => (h.sep b _ hb).2
    refine ((h.obj n o e).move (fun b u z => .inl ((if_neg fun y => ?_).trans z)) fun b hb => ?_).iff fun b => ?_
    · rcases h.le b u z with w | ⟨_, _, w⟩
      · rw [hT b y] at w; cases w
      · rw [hT b y] at w; cases w
    · cases q : H b with
      | none => exact absurd q (own b hb)
      | some o => exact ext b o q
    · unfold tmpT
      split
      · rename_i q
        subst q
        constructor
        · intro hb; exact absurd hp (own _ hb)
        · intro z; cases z
      · exact dropT_nm.symm
  keep := fun a o e nd => by
    rcases h.keep a o e nd with z | ⟨z1, z2, od, z3⟩
    · exact .inl (ext _ _ z)
    · exact .inr ⟨z1, z2, od, ext _ _ z3⟩
  own := fun a l e => by
    unfold tmpT at e
    split at e
    · rename_i q
      rw [q]
      exact h.fresh hp
    · exact h.own a l (dropT_some e)
  stb := fun a e => by
    by_cases q : T a
    · rcases h.fresh (hT a q) with z | z
      · exact .inr (.inr z)
      · exact .inr (.inl z)
    · have e : (if T a then H1 a else S a) ≠ none := e
      rw [if_neg q] at e
      exact h.stb a e
  bas := fun a o e => by
    have z := h.bas a o e
    refine (if_neg fun y => ?_).trans z
    · rcases h.le a o z with w | ⟨_, _, w⟩
      · rw [hT a y] at w; cases w
      · rw [hT a y] at w; cases w
  th := h.th
  nl := h.nl
theorem HR.grow_le {K : PySem.W.Frag} {B : Bas} {t : Nat → Addr} {S : Hp} {r : Addr → Lb} {M : List (Option O)} {H H1 : Hp} (h : HR K B t S r M H) {T : Addr → Prop} [DecidablePred T] (hT : ∀ a, T a → H a = none) : Ext t S M.length t (fun a => if T a then H1 a else S a) M.length := by
  refine ⟨fun b u z => (if_neg fun y => ?_).trans z, fun _ _ => rfl, Nat.le_refl _⟩
  rcases h.le b u z with w | ⟨_, _, w⟩
  · rw [hT b y] at w; cases w
  · rw [hT b y] at w; cases w
section
variable {X : Cx} {E : WX}
/-! ### sorted(d.items()) -/
theorem items_laid' {pins : List (Addr × Obj)} {σ : L2.St} {H : Hp} {s : Shared} {h' : Heap} {tk : Nat} {kvs : List (Key × V)} {vs : List (Key × Value)} {as : List Addr} {lo : Addr} (I : Inv X pins σ H s) (kv : KV kvs vs) (hlo : s.heap.objs.size ≤ lo)
    (hk : ∀ b o, s.heap.get? b = some o → h'.get? b = some o) (hl : as.length = vs.length) (hG : PySem.W.KdxG (mixKind X.prog X.w) vs lo h' as) :
    ∃ H' : Hp, (∀ b o, H b = some o → H' b = some o) ∧ (∀ t ∈ as, H t = none) ∧ (∀ b, b ∉ as → H' b = H b) ∧ Paired (fun (t : Addr) (q : Key × V) => H' t = some (.tup [kV q.1, q.2])) as kvs ∧ Inv X pins σ H' { s with heap := h', toks := tk } := by
  have lk : kvs.length = vs.length := Paired.length kv
  have nd : as.Nodup := List.Pairwise.imp (fun {a b} (h : a < b) => Nat.ne_of_lt h) hG.rise
  have new : ∀ t ∈ as, H t = none := fun t ht => I.hok.fresh (Nat.le_of_lt (Nat.lt_of_le_of_lt hlo (hG.above t ht)))
  have atP := LiI.putT_at as kvs H (by omega) nd
  have low : ∀ b o, s.heap.get? b = some o → b ∉ as := fun b o e z => absurd (Heap.lt_size e) (Nat.not_lt.mpr (Nat.le_of_lt (Nat.lt_of_le_of_lt hlo (hG.above b z))))
  have off : ∀ b, b ∉ as → LiI.putT H as kvs b = H b := fun b h1 => LiI.putT_off as kvs _ h1
  have kp : ∀ b u, H b = some u → LiI.putT H as kvs b = some u := fun b u e => by
    rw [off b (fun z => by rw [new b z] at e; cases e)]
    exact e
  refine ⟨LiI.putT H as kvs, kp, new, off, atP, ?_⟩
  refine I.call' (ch := []) rfl ⟨fun b o q _ _ _ => hk b o q, fun b o q _ _ _ => ⟨o.slots, hk b o q⟩, fun b o q n _ => ?_, fun b o q _ => ⟨o, hk b o q⟩, fun b xs q => kp b _ q, fun b o u q => kp b _ q, fun b ps q => ⟨#[], by rw [kp b _ q]; simp⟩⟩ (fun b u q => ?_) I.bare fun b z => by simp at z
  · rw [off b (low b o q)]
    exact n
  · by_cases hb : b ∈ as
    · obtain ⟨j, pk, e1, e2, e3⟩ := LiI.paired_ix atP hb
      rw [e3] at q
      cases q
      obtain ⟨key, k, x, f1, f2, f3⟩ := hG.pairs j b e1
      obtain ⟨qv, g1, g2, g3⟩ := LiI.paired_get kv e2
      rw [f1] at g1
      cases g1
      have rk : RelV (kV pk.1) key := by
        rw [g2]
        exact relV_key (show keyIs k key = true from f2)
      exact ⟨by show 2 ≤ sizeLine; decide, [key, x], .cons rk (.cons g3 .nil), ⟨_, f3, rfl, _, rfl⟩⟩
    · rw [off b hb] at q
      exact (I.hok b u q).stay (fun d v _ y => hk d v y) (fun d y => kp d _ y) fun d xs y => kp d _ y
def rSortI (K : PySem.W.Frag) : V → Hp → VK → Prop := fun x H Q => ∃ (d : Addr) (kvs : List (Key × V)) (S : Hp) (kds : List (Kd × D)), x = .ref d ∧ Rd H d (.dK kvs) ∧ Le S H ∧ DRk K S kvs kds ∧ srtOk (kds.map pairD) ∧
  ∀ (H1 : Hp) (as : List Addr) (ws : List V) (p : Addr), (∀ b o, H b = some o → H1 b = some o) → (∀ a ∈ as, H a = none) → (∀ b, b ∉ as → H1 b = H b) → (∀ a ∈ as, H1 a ≠ none) → H1 p = none → DRs K (fun a => if a ∈ as then H1 a else S a) ws (srt (kds.map pairD)) → Q (.ref p) (upd H1 p (.lst ws))
def tSortI (K : PySem.W.Frag) (te : TE) : TE := fun σ H Q => te σ H fun x H1 => rSortI K x H1 Q
theorem pairs_drs {K : PySem.W.Frag} {S S' : Hp} (e : Le S S') : ∀ {as : List Addr} {kvs : List (Key × V)} {kds : List (Kd × D)}, DRk K S kvs kds → Paired (fun (t : Addr) (q : Key × V) => S' t = some (.tup [kV q.1, q.2])) as kvs → DRs K S' (as.map V.ref) (kds.map pairD)
  | _, _, _, .nil, .nil => .nil
  | _, _, _, .cons (k := k) r t, .cons a b => by
    refine .cons (.tup a (.cons ?_ (.cons (r.mono e) .nil))) (pairs_drs e t b)
    cases k with
    | inl i => exact .int i
    | inr l => exact .str l
theorem paired_mem {α β : Type} {F G : α → β → Prop} : ∀ {xs : List α} {ys : List β}, Paired F xs ys → (∀ a b, a ∈ xs → F a b → G a b) → Paired G xs ys
  | _, _, .nil, _ => .nil
  | _, _, .cons r t, h => .cons (h _ _ (by simp) r) (paired_mem t fun a b m => h a b (by simp [m]))
theorem pe_sortI {e : Expr} {te : TE} {p apos cpos pos : Pos} (hc : X.calm = true) (hu : X.A.units + 64 < cLine) (he : PE X e te) (hg : Gl X "sorted") (hm : X.mg "sorted" = none) (hv : bootBuiltins "sorted" = some (.builtin "sorted")) (hbase : attributeBase e "items" X.env (eval e X.env) = eval e X.env := by rfl) (hline : (apos.endLine == cpos.line) = true := by rfl)
    (hs : starEach [.Call (.Attribute e "items" apos) [] [] cpos] X.env = (false, eval (.Call (.Attribute e "items" apos) [] [] cpos) X.env) :: starEach [] X.env := by rfl) (hpl : (backTo pos (starEach ([] : List Expr) X.env)).any (·.1) = false := by rfl) :
    PE X (.Call (.Name "sorted" p) [.Call (.Attribute e "items" apos) [] [] cpos] [] pos) (tSortI X.K te) := by
  refine ⟨fun pins s σ H Q I hq => ?_⟩
  refine wpAny_Call_Name_kw (ld_blt I hg hm hv ?_)
  refine PyProof.Rows.callWith_builtin1 ?_ hs hpl
  rw [hs]
  show wpAny _ _ (spliced ((false, eval (.Call (.Attribute e "items" apos) [] [] cpos) X.env) :: backTo pos (starEach [] X.env))) _ _ s
  refine Calls.spliced_cons ?_
  refine wpAny_Call_method (T := "dict") (id := "dict.items") hbase rfl hline PySem.F.plainAttrs_dict PySem.F.slot_dict_items PySem.F.type_dict_items (thn (he.run pins s σ H _ I hq) fun u s1 ⟨x, H1, I1, rx, d, kvs, S, kds, ex, hd, le, dr, ok, q⟩ => ?_)
  subst ex
  obtain rfl : u = Value.ref d := rx
  obtain ⟨hz, hs0, vs, kv, hdo⟩ := dk_rd I1.hok hd
  obtain ⟨ep, hat⟩ := hdo.dictAt
  have lk : kvs.length = vs.length := Paired.length kv
  have I2 : Inv X pins σ H1 { s1 with heap := s1.heap.push { cls := .type "dict_items", data := .fields #[.ref d] } } := I1.kept (t' := s1.toks) fun b ob q => Heap.get?_push_of_some _ q
  refine ⟨hdo.typeIs, hdo.mapOf.noDict, ?_⟩
  show wpAny _ _ (callWith cpos (.builtin "dict.items") [.ref d] [] []) _ X.xe s1
  refine method_meetsIn PySem.F.slot_dict_items PySem.F.entry_dict_items rfl (PySem.evalArgs_none ⟨rfl, hdo.typeIs, PySem.F.args_dict_items_1 _, _, meets_dict_items (mixKind X.prog X.w) d hs0, ⟨vs, hdo⟩, ?_⟩)
  refine Calls.spliced_nil ?_
  refine Calls.call_function_entry PyProof.Rows.kind_sorted PyProof.Rows.plain_sorted PyProof.Rows.entry_sorted (PyProof.Rows.args_sorted1 _) ?_
  unfold Builtin.«sorted»
  refine wpAny_bind (m := checkCount "sorted" 1 1 _) (wpAny_pure ?_)
  refine wpAny_bind (PySem.W.kdx_collect (A := X.A.in1) (knd := mixKind X.prog X.w) (kvs := vs) (ep := ep) (I1.ok.hd hc) ⟨_, Heap.get?_push_size _ rfl, rfl, rfl⟩ (hat.push _) (by omega) fun h' tk as hk hl hG => ?_)
  obtain ⟨H2, k1, k2, k3, k4, J⟩ := items_laid' (tk := tk) I2 kv (Nat.le_refl _) hk hl hG
  have leS : Le S (fun a => if a ∈ as then H2 a else S a) := fun b u z => .inl (by
    have : ¬ b ∈ as := fun y => by
      rcases le b u z with w | ⟨_, _, w⟩
      · rw [k2 b y] at w; cases w
      · rw [k2 b y] at w; cases w
    show (if b ∈ as then H2 b else S b) = some u
    rw [if_neg this]
    exact z)
  have le2 : Le (fun a => if a ∈ as then H2 a else S a) H2 := fun b u z => by
    dsimp only at z
    by_cases y : b ∈ as
    · rw [if_pos y] at z
      exact .inl z
    · rw [if_neg y] at z
      rcases le b u z with w | ⟨w, o, w2⟩
      · exact .inl (k1 _ _ w)
      · exact .inr ⟨w, o, k1 _ _ w2⟩
  have drs := pairs_drs leS dr (paired_mem k4 fun a b m h => by
    show (if a ∈ as then H2 a else S a) = _
    rw [if_pos m]
    exact h)
  refine wpAny_bind (wpAny_newList ?_ (by rw [List.length_map, hl]; omega))
  refine wpAny_bind (wpAny_holding (wpAny_mono (sort_pushed (Q := Q) hu J le2 (LiI.vals_refs as) drs ok (by rw [List.length_map, hl]; omega) fun ws p hp h => q H2 as ws p k1 k2 k3 (fun a ha => by
    obtain ⟨j, pk, _, _, e3⟩ := LiI.paired_ix k4 ha
    rw [e3]
    simp) hp h) (fun _ s' x => ?_) fun _ _ e => e))
  exact wpAny_pure ⟨_, rfl, x⟩
def pSortI (p : PTE) : PTE := fun A P Y => p A (fun y A1 => match view A1.M y with
  | some (.dic kds) => srtOk (kds.map pairD) ∧ P (.o (.lst (srt (kds.map pairD)))) A1
  | _ => False) Y
theorem de_sortI {t : TE} {e : Expr} {pe : PTE} {p apos cpos pos : Pos} (hc : X.calm = true) (hu : X.A.units + 64 < cLine) (he : DE X E e t pe) (hg : Gl X "sorted") (hm : X.mg "sorted" = none) (hv : bootBuiltins "sorted" = some (.builtin "sorted")) (hbase : attributeBase e "items" X.env (eval e X.env) = eval e X.env := by rfl) (hline : (apos.endLine == cpos.line) = true := by rfl)
    (hs : starEach [.Call (.Attribute e "items" apos) [] [] cpos] X.env = (false, eval (.Call (.Attribute e "items" apos) [] [] cpos) X.env) :: starEach [] X.env := by rfl) (hpl : (backTo pos (starEach ([] : List Expr) X.env)).any (·.1) = false := by rfl) :
    DE X E (.Call (.Name "sorted" p) [.Call (.Attribute e "items" apos) [] [] cpos] [] pos) (tSortI X.K t) (pSortI pe) := by
  obtain ⟨h1, h2⟩ := he
  refine ⟨pe_sortI hc hu h1 hg hm hv hbase hline hs hpl, fun B σ H A P Y Q rel k c xq => ?_⟩
  refine h2 B σ H A _ Y _ rel k (fun y A1 v H1 p1 r1 => ?_) xq
  split at p1
  · rename_i kds ez
    obtain ⟨t, S, ρ, hh, ss, kk⟩ := r1
    obtain ⟨a, vs, rfl, g1, g2⟩ := (Now.mk hh ss).view kk ez
    refine ⟨a, vs, S, kds, rfl, g1, hh.le, g2, p1.1, fun H2 as ws p k1 k2 k3 k5 hp h => ?_⟩
    have hp0 : H1 p = none := by
      cases q : H1 p with
      | none => rfl
      | some o => rw [k1 p o q] at hp; cases hp
    have np : ¬ p ∈ as := fun z => k5 p z hp
    refine c _ A1 _ _ p1.2 ⟨t, _, _, hh.grow (H1 := upd H2 p (.lst ws)) (T := fun a => a ∈ as) (p := p) (fun b o e => ?_) k2 hp0 np (by rw [upd_same]; simp), ss.ext (hh.grow_le k2), p, rfl, tmpT_self, ws, upd_same, ?_⟩
    · have : b ≠ p := fun z => by rw [z, hp0] at e; cases e
      rw [upd_ne this]
      exact k1 b o e
    · have e : (fun a => if a ∈ as then upd H2 p (.lst ws) a else S a) = fun a => if a ∈ as then H2 a else S a := funext fun a => by
        by_cases m : a ∈ as
        · rw [if_pos m, if_pos m, upd_ne (show a ≠ p from fun z => np (by rw [← z]; exact m))]
        · rw [if_neg m, if_neg m]
      show DRs _ (fun a => if a ∈ as then upd H2 p (.lst ws) a else S a) ws _
      rw [e]
      exact h
  · exact p1.elim
end
end PD

/-! PD, eighth part: statements. -/
namespace PD
open PySem L2

theorem SKont.back {K : PySem.W.Frag} {B : Bas} {E : WX} {P : PEnds} {D : Ends} {t : Nat → Addr} {S : Hp} {r : Addr → Lb} {M : List (Option O)} {H : Hp} (k : SKont K B E P D) (h : HR K B t S r M H) : SKont K (baseOf t S r M.length H) E P D where
  nx := fun A σ H' p ⟨t', S', r', h', s'⟩ => k.nx A σ H' p ⟨t', S', r', h.back h', s'⟩
  rt := fun y A v σ H' p ⟨t', S', r', h', s', q⟩ => k.rt y A v σ H' p ⟨t', S', r', h.back h', s', q⟩
  bk := fun A σ H' p ⟨t', S', r', h', s'⟩ => k.bk A σ H' p ⟨t', S', r', h.back h', s'⟩
  ct := fun A σ H' p ⟨t', S', r', h', s'⟩ => k.ct A σ H' p ⟨t', S', r', h.back h', s'⟩
  ex := fun σ => (k.ex σ).back h
section
variable {X : Cx} {E : WX}
def pSeq (p q : PTS) : PTS := fun P A => p { P with nx := fun A' => q P A' } A
def pNext : PTS := fun P A => P.nx A
def pNever : PTS := fun _ _ => False
def pBreak : PTS := fun P A => P.bk A
def pCont : PTS := fun P A => P.ct A
def pDrop (pe : PTE) : PTS := fun P A => pe A (fun _ A1 => P.nx A1) P.ex
def pRet (pe : PTE) : PTS := fun P A => pe A P.rt P.ex
def pRetN : PTS := fun P A => P.rt (.d .non) A
def pIf (t : PTT) (p q : PTS) : PTS := fun P A => t A (fun b A1 => if b = true then p P A1 else q P A1) P.ex
theorem sim_seq {K : PySem.W.Frag} {t u : TS} {p q : PTS} (h : SimS K E t p) (k : SimS K E u q) : SimS K E (tSeq t u) (pSeq p q) := fun B σ H A P D rel x c =>
  h B σ H A _ _ rel x ⟨fun A' σ' H' p' r' => k B σ' H' A' P D r' p' c, c.rt, c.bk, c.ct, c.ex⟩
theorem dss_nil : DSs X E [] tNext pNext := ⟨pss_nil, fun B σ H A P D rel x c => c.nx A σ H x rel⟩
theorem dss_cons {st : Stmt} {rest : List Stmt} {t u : TS} {p q : PTS} (h : DS X E st t p) (k : DSs X E rest u q) : DSs X E (st :: rest) (tSeq t u) (pSeq p q) := ⟨pss_cons h.pe k.pe, sim_seq h.sim k.sim⟩
theorem dss_one {st : Stmt} {t : TS} {p : PTS} (h : DS X E st t p) : DSs X E [st] t p := ⟨pss_one h.pe, h.sim⟩
theorem ds_never {st : Stmt} : DS X E st tNever pNever := ⟨ps_never, fun _ _ _ _ _ _ _ x _ => x⟩
theorem ds_pass {pos : Pos} : DS X E (.Pass pos) tNext pNext := ⟨ps_pass, fun B σ H A P D rel x c => c.nx A σ H x rel⟩
theorem ds_break {pos : Pos} : DS X E (.Break pos) tBreak pBreak := ⟨ps_break, fun B σ H A P D rel x c => c.bk A σ H x rel⟩
theorem ds_cont {pos : Pos} : DS X E (.Continue pos) tCont pCont := ⟨ps_continue, fun B σ H A P D rel x c => c.ct A σ H x rel⟩
theorem ds_expr {e : Expr} {te : TE} {p : PTE} {pos : Pos} (h : DE X E e te p) (hs : swapsWith e none pos.line X.env = pure false := by rfl) : DS X E (.Expr e pos) (tDrop te) (pDrop p) :=
  ⟨ps_expr h.pe hs, fun B σ H A P D rel x c => h.sim B σ H A _ _ _ rel x (fun y A' v H' p' r' => c.nx A' σ H' p' r'.rel) (c.ex _)⟩
theorem ds_ret {e : Expr} {te : TE} {p : PTE} {pos : Pos} (h : DE X E e te p) : DS X E (.Return (some e) pos) (tRet te) (pRet p) :=
  ⟨ps_ret h.pe, fun B σ H A P D rel x c => h.sim B σ H A _ _ _ rel x (fun y A' v H' p' r' => c.rt y A' v σ H' p' r') (c.ex _)⟩
theorem ds_retN {pos : Pos} : DS X E (.Return none pos) tRetN pRetN := ⟨ps_retN, fun B σ H A P D rel x c => c.rt _ A _ σ H x (rel.res fun _ => .non)⟩
theorem ds_if {c : Expr} {a b : List Stmt} {tc : TT} {t u : TS} {pc : PTT} {p q : PTS} {pos : Pos} (hc : DT X E c tc pc) (ha : DSs X E a t p) (hb : DSs X E b u q) : DS X E (.If c a b pos) (tIfS tc t u) (pIf pc p q) :=
  ⟨ps_if hc.pe ha.pe hb.pe, fun B σ H A P D rel x c => hc.sim B σ H A _ _ _ rel x (fun b A' H' p' r' => by
    cases b with
    | true => exact ha.sim B σ H' A' P D r' (by simpa using p') c
    | false => exact hb.sim B σ H' A' P D r' (by simpa using p') c) (c.ex _)⟩
/-! ### x = e -/
def setD (A : Abs) (i : Nat) (x : D) : Abs := ⟨A.env.set i (.d x), A.M⟩
def setP (A : Abs) (i : Nat) (n : Nat) : Abs := ⟨A.env.set i (.p n), A.M⟩
def setO (A : Abs) (i : Nat) (o : O) : Abs := ⟨A.env.set i (.p A.M.length), A.M ++ [some o]⟩
/-- what is new is owned by the name -/
def pSet (i : Nat) (pe : PTE) : PTS := fun P A => pe A (fun y A1 => match y with
  | .d x => P.nx (setD A1 i x)
  | .p n => P.nx (setP A1 i n)
  | .o o => P.nx (setO A1 i o)) P.ex
/-- what is new is data -/
def pSetD (i : Nat) (pe : PTE) : PTS := fun P A => pe A (fun y A1 => match y.fz with
  | some (.d x) => P.nx (setD A1 i x)
  | _ => False) P.ex
theorem Res.set {K : PySem.W.Frag} {B : Bas} {A : Abs} {y : R} {v : V} {σ : St} {H : Hp} (r : Res K B A y v σ H) (i : Nat) : Rel K B (match y with
  | .d x => setD A i x
  | .p n => setP A i n
  | .o o => setO A i o) (σ.set i (some v)) H := by
  obtain ⟨t, S, ρ, h, s, k⟩ := r
  cases y with
  | d x => exact ⟨t, S, ρ, h, s.set i ⟨v, rfl, k⟩⟩
  | p n =>
    obtain ⟨rfl, hn⟩ := k
    exact ⟨t, S, ρ, h, s.set i ⟨rfl, hn⟩⟩
  | o o =>
    obtain ⟨a, rfl, ok⟩ := k
    have ex : Ext t S A.M.length (nameA t A.M.length a) S (A.M ++ [some o]).length := ⟨fun _ _ e => e, fun n hn => by
      unfold nameA
      rw [if_neg (by omega)], by rw [List.length_append]; omega⟩
    refine ⟨nameA t A.M.length a, S, nameT ρ A.M.length, h.name ok, (s.ext ex).set i ⟨?_, by show A.M.length < (A.M ++ [some o]).length; rw [List.length_append, List.length_singleton]; omega⟩⟩
    unfold nameA
    rw [if_pos rfl]
theorem sim_set {K : PySem.W.Frag} {te : TE} {p : PTE} {i : Nat} (h : SimE K E te p) : SimS K E (tAsg te (gName i)) (pSet i p) := fun B σ H A P D rel x c =>
  h B σ H A _ _ _ rel x (fun y A' v H' p' r' => by
    have s := r'.set i
    cases y with
    | d x => exact c.nx _ _ H' p' s
    | p n => exact c.nx _ _ H' p' s
    | o o => exact c.nx _ _ H' p' s) (c.ex _)
theorem Res.fzD {K : PySem.W.Frag} {B : Bas} {A : Abs} {y z : R} {v : V} {σ : St} {H : Hp} (r : Res K B A y v σ H) (e : y.fz = some z) : Res K B A z v σ H := by
  obtain ⟨t, S, ρ, h, s, k⟩ := r
  obtain ⟨S1, ρ1, n1, k1, _, _⟩ := Now.fz (x := .non) ⟨h, s⟩ k e
  exact n1.res k1
theorem sim_setD {K : PySem.W.Frag} {te : TE} {p : PTE} {i : Nat} (h : SimE K E te p) : SimS K E (tAsg te (gName i)) (pSetD i p) := fun B σ H A P D rel x c =>
  h B σ H A _ _ _ rel x (fun y A' v H' p' r' => by
    split at p'
    · rename_i x e
      exact c.nx _ _ H' p' ((r'.fzD e).set i)
    · exact p'.elim) (c.ex _)
theorem ds_set (i : Nat) {x : Str} {e : Expr} {te : TE} {p : PTE} {pos pos' : Pos} (hN : X.N.Nodup) (h : DE X E e te p) (hi : X.N[i]? = some x := by rfl) (hx : Loc X.env.scope x := by first | exact Or.inl rfl | exact Or.inr rfl) (hs : swapsWith e (some (.Name x pos')) pos.line X.env = pure false := by rfl)
    (hf : X.fn x = true ∨ X.env.scope.names.lookup x = some .local := by first | exact .inl rfl | exact .inr rfl | assumption) : DS X E (.Assign [.Name x pos'] e pos) (tAsg te (gName i)) (pSet i p) := ⟨ps_set hN hi hx h.pe hs hf, sim_set h.sim⟩
theorem ds_setD (i : Nat) {x : Str} {e : Expr} {te : TE} {p : PTE} {pos pos' : Pos} (hN : X.N.Nodup) (h : DE X E e te p) (hi : X.N[i]? = some x := by rfl) (hx : Loc X.env.scope x := by first | exact Or.inl rfl | exact Or.inr rfl) (hs : swapsWith e (some (.Name x pos')) pos.line X.env = pure false := by rfl)
    (hf : X.fn x = true ∨ X.env.scope.names.lookup x = some .local := by first | exact .inl rfl | exact .inr rfl | assumption) : DS X E (.Assign [.Name x pos'] e pos) (tAsg te (gName i)) (pSetD i p) := ⟨ps_set hN hi hx h.pe hs hf, sim_setD h.sim⟩
/-! ### targets -/
abbrev PTG := D → List AV → Option (List AV)
def SimG (K : PySem.W.Frag) (g : TG) (tg : PTG) (ix : List Nat) : Prop := ∀ (S H : Hp) (t : Nat → Addr) (m : Nat) (x : D) (v : V) (env env' : List AV) (σ : St) (Q : St → Hp → Prop), Le S H → SR K S t m env σ → DR K S v x → tg x env = some env' →
  (∀ σ', SR K S t m env' σ' → (∀ vs, (∀ i ∈ ix, i ∈ vs) → wipe σ' vs = wipe σ vs) → Q σ' H) → g v σ H Q
def tgN (i : Nat) : PTG := fun x env => some (env.set i (.d x))
theorem wipe_get {σ : St} : ∀ {vs : List Nat} {j : Nat}, (wipe σ vs)[j]? = if j ∈ vs then (if j < σ.length then some none else none) else σ[j]?
  | [], j => by simp [wipe]
  | w :: vs, j => by
    show ((wipe σ vs).set w none)[j]? = _
    by_cases e : w = j
    · subst e
      rw [List.getElem?_set]
      simp [wipe_length]
    · rw [List.getElem?_set_ne e, wipe_get]
      have : (j ∈ w :: vs) ↔ j ∈ vs := by
        rw [List.mem_cons]
        exact ⟨fun h => h.resolve_left fun q => e q.symm, .inr⟩
      simp [this]
theorem wipe_set {σ : St} {i : Nat} {v : Option V} {vs : List Nat} (h : i ∈ vs) : wipe (σ.set i v) vs = wipe σ vs := by
  apply List.ext_getElem?
  intro j
  rw [wipe_get, wipe_get, List.length_set]
  by_cases hj : j ∈ vs
  · rw [if_pos hj, if_pos hj]
  · rw [if_neg hj, if_neg hj, List.getElem?_set_ne (show i ≠ j from fun e => hj (by rw [← e]; exact h))]
theorem simg_n {K : PySem.W.Frag} {i : Nat} : SimG K (gName i) (tgN i) [i] := fun S H t m x v env env' σ Q le s d e q => by
  cases e
  exact q _ (s.set i ⟨v, rfl, d⟩) fun vs hv => wipe_set (hv i (by simp))
def setsA : List Nat → List D → List AV → Option (List AV)
  | [], [], env => some env
  | i :: is, x :: xs, env => setsA is xs (env.set i (.d x))
  | _, _, _ => none
def tgT (is : List Nat) : PTG := fun x env => match x with
  | .tup xs => setsA is xs env
  | _ => none
def gNames : List Nat → TGs
  | [] => gNil
  | i :: is => gCons (gName i) (gNames is)
theorem sets_run {K : PySem.W.Frag} {S H : Hp} {t : Nat → Addr} {m : Nat} : ∀ {is : List Nat} {vs : List V} {xs : List D} {env env' : List AV} {σ : St} {Q : St → Hp → Prop}, SR K S t m env σ → DRs K S vs xs → setsA is xs env = some env' →
    (∀ σ', SR K S t m env' σ' → (∀ ws, (∀ i ∈ is, i ∈ ws) → wipe σ' ws = wipe σ ws) → Q σ' H) → gNames is vs σ H Q
  | [], _, _, _, _, _, _, s, .nil, e, q => by
    cases e
    exact ⟨rfl, q _ s fun _ _ => rfl⟩
  | i :: is, _, _, _, _, _, _, s, .cons a b, e, q => by
    refine ⟨_, _, rfl, ?_⟩
    exact sets_run (s.set (av := .d _) i ⟨_, rfl, a⟩) b e fun σ' s' hw => q σ' s' fun ws hws => (hw ws fun j hj => hws j (by simp [hj])).trans (wipe_set (hws i (by simp)))
  | [], _, _, _, _, _, _, _, .cons _ _, e, _ => by cases e
  | _ :: _, _, _, _, _, _, _, _, .nil, e, _ => by cases e
theorem setsA_len : ∀ {is : List Nat} {xs : List D} {env env' : List AV}, setsA is xs env = some env' → is.length = xs.length
  | [], [], _, _, _ => rfl
  | i :: is, x :: xs, _, _, e => by simp [setsA_len (is := is) (xs := xs) e]
  | [], _ :: _, _, _, e => by cases e
  | _ :: _, [], _, _, e => by cases e
theorem simg_t {K : PySem.W.Frag} {is : List Nat} : SimG K (gTup K is.length (gNames is)) (tgT is) is := fun S H t m x v env env' σ Q le s d e q => by
  unfold tgT at e
  split at e
  · rename_i xs
    obtain ⟨a, vs, rfl, h1, h2⟩ := d.tup_of
    exact ⟨a, vs, rfl, SqT.of (le.tup h1), by rw [h2.length]; exact (setsA_len e).symm, sets_run s h2 e q⟩
  · cases e
structure DG (X : Cx) (target : Expr) (g : TG) (tg : PTG) (ix : List Nat) : Prop where
  pg : PG X target g
  sim : SimG X.K g tg ix
theorem dg_n (i : Nat) {x : Str} {pos : Pos} (hN : X.N.Nodup) (hi : X.N[i]? = some x := by rfl) (hx : Loc X.env.scope x := by first | exact Or.inl rfl | exact Or.inr rfl) (hf : X.fn x = true ∨ X.env.scope.names.lookup x = some .local := by first | exact .inl rfl | exact .inr rfl | assumption) : DG X (.Name x pos) (gName i) (tgN i) [i] := ⟨pg_name hN hi hx hf, simg_n⟩
theorem dg_t (is : List Nat) {es : List Expr} {k : Nat} {pos : Pos} (hc : X.calm = true) (h : PGs X es (gNames is)) (hn : (assignEach es X.env).length = is.length := by rfl) (hst : (assignEach es X.env).findIdx? (·.1) = none := by rfl) : DG X (.Tuple es k pos) (gTup X.K is.length (gNames is)) (tgT is) is := ⟨pg_tup hc h hn hst, simg_t⟩
/-- a, b = e -/
def pAsg (pe : PTE) (tg : PTG) : PTS := fun P A => pe A (fun y A1 => match y.fz with
  | some (.d x) => (match tg x A1.env with
    | some env' => P.nx ⟨env', A1.M⟩
    | none => False)
  | _ => False) P.ex
theorem sim_asg {K : PySem.W.Frag} {te : TE} {p : PTE} {g : TG} {tg : PTG} {ix : List Nat} (h : SimE K E te p) (hg : SimG K g tg ix) : SimS K E (tAsg te g) (pAsg p tg) := fun B σ H A P D rel x c =>
  h B σ H A _ _ _ rel x (fun y A' v H' p' r' => by
    split at p'
    · rename_i x e
      obtain ⟨t, S, ρ, hh, s, k⟩ := r'.fzD e
      cases e2 : tg x A'.env with
      | none => rw [e2] at p'; exact p'.elim
      | some env' =>
        rw [e2] at p'
        exact hg S H' t _ x v _ _ σ _ hh.le s k e2 fun σ' s' _ => c.nx ⟨env', A'.M⟩ σ' H' p' ⟨t, S, ρ, hh, s'⟩
    · exact p'.elim) (c.ex _)
theorem ds_asg {tg e : Expr} {te : TE} {p : PTE} {g : TG} {pg : PTG} {ix : List Nat} {pos : Pos} (h : DE X E e te p) (hg : DG X tg g pg ix) (hs : swapsWithSole [tg] e pos.line X.env = pure false := by rfl) (hw : swappedStores [tg] e X.env = pure none := by rfl) (h1 : (assignEach [tg] X.env).map (·.2) = [assign tg X.env] := by rfl) :
    DS X E (.Assign [tg] e pos) (tAsg te g) (pAsg p pg) := ⟨ps_asg h.pe hg.pg hs hw h1, sim_asg h.sim hg.sim⟩
end
end PD

/-! PD, ninth part: stores, loops, comprehensions. -/
namespace PD
open PySem L2

section
variable {K : PySem.W.Frag} {B : Bas} {t : Nat → Addr} {S : Hp} {r : Addr → Lb} {M : List (Option O)} {H : Hp}
theorem HR.put (h : HR K B t S r M H) {n : Nat} {o o' : O} {u : HO} (e : M[n]? = some (some o)) (f : r (t n) = some (some n)) (ok : OOk K S (fun b => r b = some (some n)) (upd H (t n) u) (t n) o') : HR K B t S r (M.set n (some o')) (upd H (t n) u) :=
  h.mut (List.getElem?_eq_some_iff.mp e).1 (fun b hb => upd_ne fun z => hb (by rw [z]; exact f)) (fun b hb => by
    by_cases z : b = t n
    · rw [z, upd_same]; simp
    · rw [upd_ne z]; exact (h.sep b _ hb).2) ok
/-- the one at hand is changed -/
theorem HR.mutT (h : HR K B t S r M H) {p : Addr} (hp : r p = some none) (u : HO) : HR K B t S r M (upd H p u) where
  le := fun b w e => by
    have ne : b ≠ p := fun q => by rw [q, (h.sep p _ hp).1] at e; cases e
    rw [upd_ne ne]
    exact h.le b w e
  sep := fun b l e => by
    refine ⟨(h.sep b l e).1, ?_⟩
    by_cases q : b = p
    · rw [q, upd_same]; simp
    · rw [upd_ne q]; exact (h.sep b l e).2
  lab := h.lab
  obj := fun n o e => (h.obj n o e).move (Le.refl S) fun b hb => upd_ne fun q => by
    have hb : r b = some (some n) := hb
    rw [q, hp] at hb; cases hb
  keep := fun b o e nd => by
    have ne : b ≠ p := fun q => by
      rcases h.own p _ hp with z | z
      · exact nd (q ▸ z)
      · rw [q, z] at e; cases e
    rw [upd_ne ne]
    exact h.keep b o e nd
  own := h.own
  stb := h.stb
  bas := h.bas
  th := h.th
  nl := h.nl
/-- an object that nobody owns and that is new to the base is taken at hand -/
theorem HR.relabel (h : HR K B t S r M H) {p : Addr} (hs : S p = none) (hp : H p ≠ none) (hn : ∀ n, r p ≠ some (some n)) (ho : B.D p ∨ B.H p = none) : HR K B t S (tmpT r p) M H where
  le := h.le
  sep := fun a l e => by
    unfold tmpT at e
    split at e
    · rename_i q; rw [q]; exact ⟨hs, hp⟩
    · exact h.sep a l (dropT_some e)
  lab := fun a n e => by
    unfold tmpT at e
    split at e
    · cases e
    · exact h.lab a n (dropT_some e)
  obj := fun n o e => (h.obj n o e).iff fun b => by
    unfold tmpT
    split
    · rename_i q
      subst q
      exact ⟨fun z => absurd z (hn n), fun z => nomatch z⟩
    · exact dropT_nm.symm
  keep := h.keep
  own := fun a l e => by
    unfold tmpT at e
    split at e
    · rename_i q; rw [q]; exact ho
    · exact h.own a l (dropT_some e)
  stb := h.stb
  bas := h.bas
  th := h.th
  nl := h.nl
end
/-! ### o[i] = e -/
def rSetA : TSet := fun o i v H Q => rSetL o i v H Q ∨ rSetD o i v H Q
theorem set_A {X : Cx} (hu : X.A.units + 1 < cLine) : PSet X rSetA := fun pins s σ H o i v ov iv u Q I r1 r2 r3 h => by
  rcases h with h | h
  · exact set_list pins s σ H o i v ov iv u Q I r1 r2 r3 h
  · exact set_dict hu pins s σ H o i v ov iv u Q I r1 r2 r3 h
def kdsOf : List D → Option (List Kd)
  | [] => some []
  | x :: r => (match kdOf x, kdsOf r with
    | some k, some ks => some (k :: ks)
    | _, _ => none)
theorem kdOf_v {K : PySem.W.Frag} {S : Hp} {x : D} {k : Kd} {v : V} (e : kdOf x = some k) (d : DR K S v x) : v = kV (kd k) := by
  cases x with
  | int i => cases e; exact d.int_of
  | str l => cases e; exact d.str_of
  | non => cases e
  | bl b => cases e
  | lst b => cases e
  | tup b => cases e
  | dic b => cases e
  | dit b => cases e
  | scr b => cases e
  | exc b => cases e
  | fn b => cases e
theorem kdsOf_v {K : PySem.W.Frag} {S : Hp} : ∀ {xs : List D} {ks : List Kd} {vs : List V}, kdsOf xs = some ks → DRs K S vs xs → vs = (ks.map kd).map kV
  | [], ks, _, e, .nil => by cases e; rfl
  | x :: r, ks, _, e, .cons a b => by
    have e : (match kdOf x, kdsOf r with
      | some k, some ks => some (k :: ks)
      | _, _ => none) = some ks := e
    split at e
    · rename_i k ks' e1 e2
      cases e
      rw [kdOf_v e1 a, kdsOf_v e2 b]
      rfl
    · cases e
def putT (kvs : List (List Kd × D)) (k : List Kd) (x : D) : List (List Kd × D) := if (kvs.any fun p => decide (p.1 = k)) = true then kvs.map (fun p => if p.1 = k then (p.1, x) else p) else kvs ++ [(k, x)]
theorem DRt.any {K : PySem.W.Frag} {S : Hp} {k : List Kd} : ∀ {vs : List (List Key × V)} {ds : List (List Kd × D)}, DRt K S vs ds → (vs.any fun kv => decide (kv.1 = k.map kd)) = ds.any fun p => decide (p.1 = k)
  | _, _, .nil => rfl
  | _, _, .cons (k := j) r t => by
    simp only [List.any_cons]
    rw [DRt.any (k := k) t]
    by_cases e : j = k
    · subst e; simp
    · have : ¬ j.map kd = k.map kd := fun q => e (kds_inj q)
      simp [e, this]
theorem DRt.append {K : PySem.W.Frag} {S : Hp} : ∀ {vs ws : List (List Key × V)} {ds es : List (List Kd × D)}, DRt K S vs ds → DRt K S ws es → DRt K S (vs ++ ws) (ds ++ es)
  | _, _, _, _, .nil, h => h
  | _, _, _, _, .cons r t, h => .cons r (DRt.append t h)
theorem DRt.repl {K : PySem.W.Frag} {S : Hp} {k : List Kd} {v : V} {x : D} (r : DR K S v x) : ∀ {vs : List (List Key × V)} {ds : List (List Kd × D)}, DRt K S vs ds →
    DRt K S (vs.map fun kv => if kv.1 = k.map kd then (kv.1, v) else kv) (ds.map fun p => if p.1 = k then (p.1, x) else p)
  | _, _, .nil => .nil
  | _, _, .cons (k := j) q t => by
    rw [List.map_cons, List.map_cons]
    by_cases e : j = k
    · subst e
      simp only [if_true]
      exact .cons r (DRt.repl r t)
    · have e' : ¬ j.map kd = k.map kd := fun q => e (kds_inj q)
      simp only [if_neg e, if_neg e']
      exact .cons q (DRt.repl r t)
theorem DRt.put {K : PySem.W.Frag} {S : Hp} {k : List Kd} {v : V} {x : D} {vs : List (List Key × V)} {ds : List (List Kd × D)} (h : DRt K S vs ds) (r : DR K S v x) : DRt K S (putK vs (k.map kd) v) (putT ds k x) := by
  unfold putK putT
  rw [h.any (k := k)]
  by_cases e : (ds.any fun p => decide (p.1 = k)) = true
  · rw [if_pos e, if_pos e]
    exact h.repl r
  · rw [if_neg e, if_neg e]
    exact h.append (.cons r .nil)
/-- what the store leaves of an owned object -/
def storeO (k v : D) (P : O → Prop) : O → Prop
  | .lst xs => (match k with
    | .int j => ∃ jj, ixN xs.length j = some jj ∧ P (.lst (xs.set jj v))
    | _ => False)
  | .dic kvs => (match kdOf k with
    | some kk => kvs.length < 16777216 ∧ P (.dic (putD kvs kk v))
    | none => False)
  | .dit kvs => (match k with
    | .tup ks => (match kdsOf ks with
      | some kk => kvs.length < 16777216 ∧ P (.dit (putT kvs kk v))
      | none => False)
    | _ => False)
  | .res _ => False
  | .nst _ => False
  | .obj _ => False
def pSetIx (po pi pe : PTE) : PTS := fun P A => pe A (fun y A1 => match y.fz with
  | some (.d v) => po A1 (fun yo A2 => match yo with
    | .p n => pi A2 (fun yi A3 => match yi with
      | .d k => (match A3.M[n]? with
        | some (some o) => storeO k v (fun o' => P.nx ⟨A3.env, A3.M.set n (some o')⟩) o
        | _ => False)
      | _ => False) P.ex
    | _ => False) P.ex
  | _ => False) P.ex
section
variable {X : Cx} {E : WX}
theorem sim_setIx {K : PySem.W.Frag} {te to ti : TE} {pe po pi : PTE} (he : SimE K E te pe) (ho : SimE K E to po) (hi : SimE K E ti pi) : SimS K E (tAsg te (gSub to ti rSetA)) (pSetIx po pi pe) := fun B σ H A P D rel x c => by
  refine he B σ H A _ _ _ rel x (fun y A1 v H1 p1 r1 => ?_) (c.ex _)
  split at p1
  · rename_i w ew
    obtain ⟨t, S, ρ, h, s, k⟩ := r1.fzD ew
    have k : DR K S v w := k
    refine ho _ σ H1 A1 _ _ _ ⟨t, S, _, h.rebase, s⟩ p1 (fun yo A2 vo H2 p2 res2 => ?_) ((c.ex _).back h)
    split at p2
    · rename_i n
      obtain ⟨t2, S2, ρ2, h2, s2, k2⟩ := res2
      obtain ⟨rfl, hn⟩ := k2
      have h2' := h.back h2
      refine hi _ σ H2 A2 _ _ _ ⟨t2, S2, _, h2'.rebase, s2⟩ p2 (fun yi A3 vi H3 p3 res3 => ?_) ((c.ex _).back h2')
      split at p3
      · rename_i kk
        obtain ⟨t3, S3, ρ3, h3, s3, k3⟩ := res3
        have k3 : DR K S3 vi kk := k3
        have h3' := h2'.back h3
        have kv : DR K S3 v w := (k.mono h2.ext.le).mono h3.ext.le
        have et : t3 n = t2 n := h3.ext.th n hn
        split at p3
        · rename_i o eo
          have ok := h3'.obj n o eo
          rw [← et]
          have fin : ∀ (o' : O) (u : HO), ρ3 (t3 n) = some (some n) → OOk K S3 (fun b => ρ3 b = some (some n)) (upd H3 (t3 n) u) (t3 n) o' → P.nx ⟨A3.env, A3.M.set n (some o')⟩ → D.nx σ (upd H3 (t3 n) u) := fun o' u f ok' q =>
            c.nx ⟨A3.env, A3.M.set n (some o')⟩ σ _ q ⟨t3, S3, ρ3, h3'.put eo f ok', by
              show SR K S3 t3 (A3.M.set n (some o')).length A3.env σ
              rw [List.length_set]
              exact s3⟩
          cases o with
          | lst xs =>
            obtain ⟨f, vs, e1, e2⟩ := ok
            cases kk with
            | int j =>
              obtain ⟨jj, e3, q⟩ := p3
              cases k3.int_of
              exact .inl ⟨t3 n, vs, _, jj, rfl, rfl, e1, by rw [e2.length]; exact e3, fin (.lst _) _ f ⟨f, _, upd_same, e2.set kv jj⟩ q⟩
            | _ => exact False.elim p3
          | dic kvs =>
            obtain ⟨f, vs, e1, e2⟩ := ok
            simp only [storeO] at p3
            cases ekq : kdOf kk with
            | none => rw [ekq] at p3; exact p3.elim
            | some kq =>
              rw [ekq] at p3
              obtain ⟨hl, q⟩ := p3
              rw [kdOf_v ekq k3]
              exact .inr ⟨t3 n, _, rfl, DPut.k e1 (by rw [e2.length]; exact hl), fin (.dic _) _ f ⟨f, _, upd_same, e2.put kv⟩ q⟩
          | dit kvs =>
            obtain ⟨f, vs, e1, e2⟩ := ok
            cases kk with
            | tup ks =>
              obtain ⟨b, ws, rfl, g1, g2⟩ := k3.tup_of
              simp only [storeO] at p3
              cases ekq : kdsOf ks with
              | none => rw [ekq] at p3; exact p3.elim
              | some kq =>
                rw [ekq] at p3
                obtain ⟨hl, q⟩ := p3
                have := kdsOf_v ekq g2
                subst this
                exact .inr ⟨t3 n, _, rfl, DPut.t e1 (h3.le.tup g1) (by rw [e2.length]; exact hl), fin (.dit _) _ f ⟨f, _, upd_same, e2.put kv⟩ q⟩
            | _ => exact False.elim p3
          | res _ => exact False.elim p3
          | nst _ => exact False.elim p3
          | obj _ => exact False.elim p3
        · exact p3.elim
      · exact p3.elim
    · exact p2.elim
  · exact p1.elim
theorem ds_setIx {o i e : Expr} {te to ti : TE} {pe po pi : PTE} {pos pos' : Pos} (hu : X.A.units + 1 < cLine) (ho : DE X E o to po) (hi : DE X E i ti pi) (he : DE X E e te pe)
    (ha : ∀ v, assign (.Subscript o i pos') X.env v = (do
      let ov ← holding [v] (eval o X.env)
      let iv ← holding [v, ov] (eval i X.env)
      standAt pos'
      holding [v, ov, iv] (setItem ov iv v)
      release [v, ov, iv] []) := by intro _; rfl)
    (hs : swapsWithSole [.Subscript o i pos'] e pos.line X.env = pure false := by rfl) (hw : swappedStores [.Subscript o i pos'] e X.env = pure none := by rfl) (h1 : (assignEach [.Subscript o i pos'] X.env).map (·.2) = [assign (.Subscript o i pos') X.env] := by rfl) :
    DS X E (.Assign [.Subscript o i pos'] e pos) (tAsg te (gSub to ti rSetA)) (pSetIx po pi pe) := ⟨ps_asg he.pe (pg_sub ho.pe hi.pe (set_A hu) ha) hs hw h1, sim_setIx he.sim ho.sim hi.sim⟩

/-! ### methods that change an owned list -/
abbrev LM := List D → List D → (R → List D → Prop) → Prop
def SndL (K : PySem.W.Frag) (r : V → List V → Hp → VK → Prop) (lm : LM) : Prop := ∀ (S H : Hp) (a : Addr) (xs args : List D) (vs ws : List V) (P : R → List D → Prop) (Q : VK), Le S H → H a = some (.lst vs) → DRs K S vs xs → DRs K S ws args → lm xs args P →
  (∀ d v xs' vs', P (.d d) xs' → DR K S v d → DRs K S vs' xs' → Q v (upd H a (.lst vs'))) → r (.ref a) ws H Q
def pLM (lm : LM) (po : PTE) (pa : PTA) : PTE := fun A P Y => po A (fun yo A1 => match yo with
  | .p n => (match A1.M[n]? with
    | some (some (.lst _)) => pa A1 (fun zs A2 => match A2.M[n]?, dats zs with
      | some (some (.lst xs)), some args => lm xs args (fun y xs' => P y ⟨A2.env, A2.M.set n (some (.lst xs'))⟩)
      | _, _ => False) Y
    | _ => False)
  | _ => False) Y
theorem tyV_lst {K : PySem.W.Frag} {H : Hp} {a : Addr} {vs : List V} (h : H a = some (.lst vs)) : tyV K "list" (.ref a) H := .inl ⟨rfl, vs, SqL.of h⟩
theorem sim_lm {K : PySem.W.Frag} {r : V → List V → Hp → VK → Prop} {lm : LM} {to : TE} {ta : TA} {po : PTE} {pa : PTA} (hr : SndL K r lm) (ho : SimE K E to po) (ha : SimA K E ta pa) : SimE K E (tBM K "list" r to ta) (pLM lm po pa) := fun B σ H A P Y Q rel x q xq => by
  refine ho B σ H A _ _ _ rel x (fun yo A1 vo H1 p1 res => ?_) xq
  split at p1
  · rename_i n
    obtain ⟨t, S, ρ, h, s, k⟩ := res
    obtain ⟨rfl, hn⟩ := k
    split at p1
    · rename_i xs0 e0
      obtain ⟨_, vs0, e1, _⟩ := h.obj n _ e0
      refine ⟨tyV_lst e1, ha _ σ H1 A1 _ _ _ ⟨t, S, _, h.rebase, s⟩ p1 (fun zs A2 ws H2 p2 res2 => ?_) (xq.back h)⟩
      split at p2
      · rename_i xs args e2 e3
        obtain ⟨t2, S2, ρ2, n2, rl⟩ := res2
        have h2 := h.back n2.h
        have et : t2 n = t n := n2.h.ext.th n hn
        obtain ⟨f, vs, g1, g2⟩ := h2.obj n _ e2
        rw [← et]
        refine hr S2 H2 (t2 n) xs args vs ws _ Q n2.h.le g1 g2 (rl.dats e3) p2 fun d v xs' vs' pd dd dx => ?_
        refine q (.d d) ⟨A2.env, A2.M.set n (some (.lst xs'))⟩ v _ pd ⟨t2, S2, ρ2, h2.put e2 f ⟨f, vs', upd_same, dx⟩, ?_, dd⟩
        show SR K S2 t2 (A2.M.set n (some (.lst xs'))).length A2.env σ
        rw [List.length_set]
        exact n2.s
      · exact p2.elim
    · exact p1.elim
  · exact p1.elim
theorem de_lm {o e : Expr} {es : List Expr} {name : Str} {id : String} {r : V → List V → Hp → VK → Prop} {lm : LM} {to : TE} {ta : TA} {po : PTE} {pa : PTA} {apos cpos : Pos} (slot : Slot "list" name id) (hty : typeOf (.builtin id) = pure (.type "method_descriptor")) (hm : MtR X id r) (hr : SndL X.K r lm)
    (ho : DE X E o to po) (ha : DA X E (e :: es) ta pa) (hbase : attributeBase o name X.env (eval o X.env) = eval o X.env := by rfl)
    (hfew : ((backTo cpos (starEach (e :: es) X.env)).all (fun x => !x.1) && (backToKw cpos (keywordEach [] X.env)).all (fun x => x.1.isSome)
      && decide ((e :: es).length + ([] : List Keyword).length + (if ([] : List Keyword).isEmpty then 0 else 1) < 30)) = true := by rfl)
    (hline : (apos.endLine == cpos.line) = true := by rfl) (hs : starEach (e :: es) X.env = (false, eval e X.env) :: starEach es X.env := by rfl) (hplain : (backTo cpos (starEach es X.env)).any (·.1) = false := by rfl) :
    DE X E (.Call (.Attribute o name apos) (e :: es) [] cpos) (tBM X.K "list" r to ta) (pLM lm po pa) := ⟨pe_bm PySem.F.plainAttrs_list slot hty hm ho.pe ha.pe hbase hfew hline hs hplain, sim_lm hr ho.sim ha.sim⟩
def lAppend : LM
  | xs, [v], P => xs.length < 16777216 ∧ P (.d .non) (xs ++ [v])
  | _, _, _ => False
theorem snd_append {K : PySem.W.Frag} : SndL K rAppend lAppend := fun S H a xs args vs ws P Q le h1 h2 h3 b q => by
  unfold lAppend at b
  split at b
  · cases h3 with
    | cons g h => cases h; exact ⟨a, vs, _, rfl, rfl, h1, by rw [h2.length]; exact b.1, q .non _ _ _ b.2 .non (h2.snoc g)⟩
  · exact b.elim
def lInsert : LM
  | xs, [.int i, v], P => xs.length < 16777216 ∧ 0 ≤ i ∧ i < 2 ^ 63 ∧ P (.d .non) (xs.take i.toNat ++ [v] ++ xs.drop i.toNat)
  | _, _, _ => False
def lExtend : LM
  | xs, [.lst ys], P => xs.length + ys.length ≤ 16777216 ∧ P (.d .non) (xs ++ ys)
  | _, _, _ => False
theorem snd_extend {K : PySem.W.Frag} : SndL K rExtend lExtend := fun S H a xs args vs ws P Q le h1 h2 h3 b q => by
  unfold lExtend at b
  split at b
  · cases h3 with
    | cons g h =>
      cases h
      obtain ⟨p, us, rfl, g1, g2⟩ := g.lst_of
      exact ⟨a, p, vs, us, rfl, rfl, h1, le.lst g1, by rw [h2.length, g2.length]; exact b.1, q .non _ _ _ b.2 .non (h2.append g2)⟩
  · exact b.elim
def lPopAt : LM
  | xs, [.int i], P => -(2 ^ 63) ≤ i ∧ i < 2 ^ 63 ∧ ∃ k d, seqIndex? i xs.length = some k ∧ xs[k]? = some d ∧ P (.d d) (xs.eraseIdx k)
  | _, _, _ => False
theorem snd_popAt {K : PySem.W.Frag} : SndL K rPopAt lPopAt := fun S H a xs args vs ws P Q le h1 h2 h3 b q => by
  unfold lPopAt at b
  split at b
  · obtain ⟨b1, b2, k, d, b3, b4, b5⟩ := b
    cases h3 with
    | cons g h =>
      cases h
      cases g
      obtain ⟨v, e1, e2⟩ := h2.get' b4
      exact ⟨a, vs, _, k, v, rfl, rfl, h1, b1, b2, by rw [h2.length]; exact b3, e1, q _ _ _ _ b5 e2 (h2.eraseIdx k)⟩
  · exact b.elim
end
end PD

/-! PD, tenth part: loops and comprehensions. -/
namespace PD
open PySem L2

/-- what data stood locked stays so -/
def Kf (S Hb H' : Hp) : Prop := ∀ a od u, S a ≠ none → Hb a = some (.frz od u) → H' a = some (.frz od u)
theorem HR.kf {K : PySem.W.Frag} {B : Bas} {t : Nat → Addr} {S : Hp} {r : Addr → Lb} {M : List (Option O)} {H : Hp} (h : HR K B t S r M H) {t' : Nat → Addr} {S' : Hp} {r' : Addr → Lb} {M' : List (Option O)} {H' : Hp} (h' : HR K (baseOf t S r M.length H) t' S' r' M' H') : Kf S H H' := fun a od u hs e => by
  rcases h'.keep a _ e (fun ⟨n, z⟩ => hs (h.sep a _ z).1) with z | ⟨z, _⟩
  · exact z
  · cases z
/-- what is walked: n things, the i-th bears it i; C must hold of the owned objects meanwhile -/
structure Src (K : PySem.W.Frag) (J : It) (n : Nat) (it : Nat → D) (C : List (Option O) → Prop) (t : Nat → Addr) (S : Hp) (m : Nat) (Hb : Hp) : Prop where
  stop : ∀ (B' : Bas) t' S' r' M' H', HR K B' t' S' r' M' H' → Ext t S m t' S' M'.length → Kf S Hb H' → C M' → J.stop n H'
  go : ∀ (B' : Bas) t' S' r' M' H', HR K B' t' S' r' M' H' → Ext t S m t' S' M'.length → Kf S Hb H' → C M' → ∀ i, i < n → J.go i H' ∧ ∀ x H'', J.yld i H' x H'' →
    (∀ b o, H' b = some o → H'' b = some o) ∧ ∃ S'', HR K B' t' S'' r' M' H'' ∧ Ext t' S' M'.length t' S'' M'.length ∧ DR K S'' x (it i)
abbrev PTI := Abs → (Nat → (Nat → D) → (List (Option O) → Prop) → Abs → Prop) → PX → Prop
def SimI (K : PySem.W.Frag) (E : WX) (wi : TI) (ps : PTI) : Prop := ∀ (B : Bas) (σ : St) (H : Hp) (A : Abs) (P : Nat → (Nat → D) → (List (Option O) → Prop) → Abs → Prop) (Y : PX) (R : It → Hp → Prop),
  Rel K B A σ H → ps A P Y → (∀ n it C A' J H', P n it C A' → (∃ t S r, Now K B t S r A' σ H' ∧ Src K J n it C t S A'.M.length H') → R J H') → XQ K B E σ Y → wi σ H R
structure DI (X : Cx) (E : WX) (tg iter : Expr) (wi : TI) (ps : PTI) : Prop where
  pi : PI X tg iter wi
  sim : SimI X.K E wi ps

/-! ### for -/
def pFor (ps : PTI) (tg : PTG) (body : PTS) : PTS := fun P A => ps A (fun n it C A1 => ∃ Inv : Nat → Abs → Prop, Inv 0 A1 ∧ (∀ i A', i ≤ n → Inv i A' → C A'.M) ∧
  (∀ i A', i < n → Inv i A' → ∃ env', tg (it i) A'.env = some env' ∧ body { P with nx := Inv (i + 1), ct := Inv (i + 1), bk := P.nx } ⟨env', A'.M⟩) ∧ (∀ A', Inv n A' → P.nx A')) P.ex
theorem sim_for {K : PySem.W.Frag} {E : WX} {wi : TI} {ps : PTI} {g : TG} {tg : PTG} {ix : List Nat} {tb : TS} {pb : PTS} (hi : SimI K E wi ps) (hg : SimG K g tg ix) (hb : SimS K E tb pb) : SimS K E (tFor wi g tb) (pFor ps tg pb) := fun B σ H A P D rel x c => by
  refine hi B σ H A _ _ _ rel x (fun n it C A1 J H1 p1 ⟨t, S, ρ, nw, src⟩ => ?_) (c.ex _)
  obtain ⟨Inv, i0, iC, iS, iD⟩ := p1
  refine ⟨fun i m σ' H' => i + m = n ∧ ∃ A', Inv i A' ∧ Rel K (baseOf t S ρ A1.M.length H1) A' σ' H', ⟨n, by omega, A1, i0, t, S, _, nw.h.rebase, nw.s⟩, fun i m σ' H' ⟨em, A', iA, t', S', ρ', h', s'⟩ => ?_⟩
  have cb := c.back nw.h
  cases m with
  | zero =>
    have e : i = n := by omega
    subst e
    exact .inl ⟨src.stop _ _ _ _ _ _ h' h'.ext (nw.h.kf h') (iC _ _ (Nat.le_refl _) iA), cb.nx A' σ' H' (iD A' iA) ⟨t', S', ρ', h', s'⟩⟩
  | succ m =>
    have hlt : i < n := by omega
    obtain ⟨g1, g2⟩ := src.go _ _ _ _ _ _ h' h'.ext (nw.h.kf h') (iC _ _ (by omega) iA) i hlt
    refine .inr ⟨g1, fun σ2 H2 => ∃ A2, Inv (i + 1) A2 ∧ Rel K (baseOf t S ρ A1.M.length H1) A2 σ2 H2, fun σ2 H2 ⟨A2, i2, r2⟩ => ⟨m, by omega, by omega, A2, i2, r2⟩, fun v H2 y => ?_⟩
    obtain ⟨_, S2, h2, e2, d2⟩ := g2 v H2 y
    obtain ⟨env', e3, pb⟩ := iS i A' hlt iA
    refine hg S2 H2 t' _ _ v _ env' σ' _ h2.le (s'.ext e2) d2 e3 fun σ2 s2 _ => ?_
    refine hb (baseOf t S ρ A1.M.length H1) σ2 H2 ⟨env', A'.M⟩ _ _ ⟨t', S2, ρ', h2, s2⟩ pb ⟨fun A3 σ3 H3 p3 r3 => ⟨A3, p3, r3⟩, cb.rt, cb.nx, fun A3 σ3 H3 p3 r3 => ⟨A3, p3, r3⟩, cb.ex⟩
section
variable {X : Cx} {E : WX}
theorem ds_for {iter tg : Expr} {body : List Stmt} {wi : TI} {ps : PTI} {g : TG} {pg : PTG} {ix : List Nat} {tb : TS} {pb : PTS} {pos : Pos} (hp : PassesOwn (model X.prog X.w) X.A X.env X.xe) (hc : X.calm = true) (hi : DI X E tg iter wi ps) (hg : DG X tg g pg ix) (hb : DSs X E body tb pb)
    (hs : ∀ x, foldedSetIterable iter X.env x = pure x := by intro _; rfl) : DS X E (.For tg iter body [] pos) (tFor wi g tb) (pFor ps pg pb) := ⟨ps_for hp hc hi.pi hg.pg hb.pe hs, sim_for hi.sim hg.sim hb.sim⟩
/-! ### while -/
def pWhile (t : PTT) (body : PTS) : PTS := fun P A => ∃ W : Nat → Abs → Prop, (∃ m, W m A) ∧ ∀ m A', W m A' → t A' (fun b A1 => if b = true then body { P with nx := fun A2 => ∃ m', m' < m ∧ W m' A2, ct := fun A2 => ∃ m', m' < m ∧ W m' A2, bk := P.nx } A1 else P.nx A1) P.ex
theorem sim_while {K : PySem.W.Frag} {t : TT} {pt : PTT} {tb : TS} {pb : PTS} (ht : SimT K E t pt) (hb : SimS K E tb pb) : SimS K E (tWhile t tb) (pWhile pt pb) := fun B σ H A P D rel x c => by
  obtain ⟨W, ⟨m0, w0⟩, ws⟩ := x
  refine ⟨fun m σ' H' => ∃ A', W m A' ∧ Rel K B A' σ' H', ⟨m0, A, w0, rel⟩, fun m σ' H' ⟨A', wA, r'⟩ => ?_⟩
  refine ht B σ' H' A' _ _ _ r' (ws m A' wA) (fun b A1 H1 p1 r1 => ?_) (c.ex _)
  cases b with
  | false => exact c.nx A1 σ' H1 (by simpa using p1) r1
  | true =>
    refine ⟨fun σ2 H2 => ∃ A2, (∃ m', m' < m ∧ W m' A2) ∧ Rel K B A2 σ2 H2, fun σ2 H2 ⟨A2, ⟨m', hm, w2⟩, r2⟩ => ⟨m', hm, A2, w2, r2⟩, ?_⟩
    exact hb B σ' H1 A1 { P with nx := fun A2 => ∃ m', m' < m ∧ W m' A2, ct := fun A2 => ∃ m', m' < m ∧ W m' A2, bk := P.nx } _ r1 (by simpa using p1) ⟨fun A2 σ2 H2 p2 r2 => ⟨A2, p2, r2⟩, c.rt, c.nx, fun A2 σ2 H2 p2 r2 => ⟨A2, p2, r2⟩, c.ex⟩
theorem ds_while {c : Expr} {body : List Stmt} {t : TT} {pt : PTT} {tb : TS} {pb : PTS} {pos : Pos} (hp : PassesOwn (model X.prog X.w) X.A X.env X.xe) (hc : DT X E c t pt) (hb : DSs X E body tb pb) : DS X E (.While c body [] pos) (tWhile t tb) (pWhile pt pb) := ⟨ps_while hp hc.pe hb.pe, sim_while hc.sim hb.sim⟩
/-! ### what is walked -/
def yes : List (Option O) → Prop := fun _ => True
def itL (xs : List D) (i : Nat) : D := xs.getD i .non
theorem src_lst {K : PySem.W.Frag} {Hb : Hp} {t : Nat → Addr} {S : Hp} {m : Nat} {a : Addr} {vs : List V} {xs : List D} (h1 : S a = some (.lst vs)) (h2 : DRs K S vs xs) : Src K (Itl K a) xs.length (itL xs) yes t S m Hb where
  stop := fun B' t' S' r' M' H' h e _ _ => ⟨vs, SqL.of (h.le.lst (e.le.lst h1)), by rw [h2.length]; exact Nat.le_refl _⟩
  go := fun B' t' S' r' M' H' h e _ _ i hi => by
    have q : SqL K H' a vs := SqL.of (h.le.lst (e.le.lst h1))
    obtain ⟨x, ex⟩ : ∃ x, vs[i]? = some x := ⟨vs[i]'(by rw [h2.length]; exact hi), List.getElem?_eq_getElem _⟩
    refine ⟨⟨vs, x, q, ex⟩, fun y H'' hy => ?_⟩
    obtain ⟨rfl, hy⟩ := hy
    have := hy vs q
    rw [ex] at this
    cases this
    obtain ⟨d, e1, e2⟩ := h2.get ex
    have e3 : itL xs i = d := by
      unfold itL
      rw [List.getD_eq_getElem?_getD, e1]
      rfl
    rw [e3]
    exact ⟨fun _ _ z => z, S', h, Ext.refl, e2.mono e.le⟩
theorem src_lstP {K : PySem.W.Frag} {Hb : Hp} {t : Nat → Addr} {S : Hp} {m n : Nat} {xs : List D} (hn : n < m) : Src K (Itl K (t n)) xs.length (itL xs) (fun M => M[n]? = some (some (.lst xs))) t S m Hb where
  stop := fun B' t' S' r' M' H' h e _ c => by
    obtain ⟨_, vs, h1, h2⟩ := h.obj n _ c
    rw [e.th n hn] at h1
    exact ⟨vs, SqL.of h1, by rw [h2.length]; exact Nat.le_refl _⟩
  go := fun B' t' S' r' M' H' h e _ c i hi => by
    obtain ⟨_, vs, h1, h2⟩ := h.obj n _ c
    rw [e.th n hn] at h1
    have q : SqL K H' (t n) vs := SqL.of h1
    obtain ⟨x, ex⟩ : ∃ x, vs[i]? = some x := ⟨vs[i]'(by rw [h2.length]; exact hi), List.getElem?_eq_getElem _⟩
    refine ⟨⟨vs, x, q, ex⟩, fun y H'' hy => ?_⟩
    obtain ⟨rfl, hy⟩ := hy
    have := hy vs q
    rw [ex] at this
    cases this
    obtain ⟨d, e1, e2⟩ := h2.get ex
    have e3 : itL xs i = d := by
      unfold itL
      rw [List.getD_eq_getElem?_getD, e1]
      rfl
    rw [e3]
    exact ⟨fun _ _ z => z, S', h, Ext.refl, e2⟩
theorem src_scr {K : PySem.W.Frag} {Hb : Hp} {t : Nat → Addr} {S : Hp} {m : Nat} {a : Addr} {ns : List Int} (h1 : SqL K S a (ns.map V.int)) : Src K (Itl K a) ns.length (itL (ns.map D.int)) yes t S m Hb where
  stop := fun B' t' S' r' M' H' h e _ _ => ⟨_, h.le.sql (e.le.sql h1), by rw [List.length_map]; exact Nat.le_refl _⟩
  go := fun B' t' S' r' M' H' h e _ _ i hi => by
    have q : SqL K H' a (ns.map V.int) := h.le.sql (e.le.sql h1)
    have ex : (ns.map V.int)[i]? = some (V.int ns[i]) := by rw [List.getElem?_map, List.getElem?_eq_getElem hi]; rfl
    refine ⟨⟨_, _, q, ex⟩, fun y H'' hy => ?_⟩
    obtain ⟨rfl, hy⟩ := hy
    have := hy _ q
    rw [ex] at this
    cases this
    have e3 : itL (ns.map D.int) i = .int ns[i] := by
      unfold itL
      rw [List.getD_eq_getElem?_getD, List.getElem?_map, List.getElem?_eq_getElem hi]
      rfl
    rw [e3]
    exact ⟨fun _ _ z => z, S', h, Ext.refl, .int _⟩
def pItL (p : PTE) : PTI := fun A P Y => p A (fun y A1 => match y.fz with
  | some (.d (.lst xs)) => P xs.length (itL xs) yes A1
  | some (.d (.scr ns)) => P ns.length (itL (ns.map D.int)) yes A1
  | some (.p n) => (match A1.M[n]? with
    | some (some (.lst xs)) => P xs.length (itL xs) (fun M => M[n]? = some (some (.lst xs))) A1
    | _ => False)
  | _ => False) Y
theorem sim_itL {K : PySem.W.Frag} {te : TE} {p : PTE} (h : SimE K E te p) : SimI K E (iList K te) (pItL p) := fun B σ H A P Y R rel x q xq => by
  refine h B σ H A _ _ _ rel x (fun y A1 v H1 p1 r1 => ?_) xq
  split at p1
  · rename_i xs e
    obtain ⟨t, S, ρ, hh, s, k⟩ := r1.fzD e
    obtain ⟨a, vs, rfl, h1, h2⟩ := DR.lst_of k
    exact ⟨a, rfl, ⟨vs, SqL.of (hh.le.lst h1)⟩, q _ _ _ _ _ _ p1 ⟨t, S, ρ, ⟨hh, s⟩, src_lst h1 h2⟩⟩
  · rename_i ns e
    obtain ⟨t, S, ρ, hh, s, k⟩ := r1.fzD e
    obtain ⟨a, rfl, h1⟩ := DR.scr_of k
    exact ⟨a, rfl, ⟨_, hh.le.sql h1⟩, q _ _ _ _ _ _ p1 ⟨t, S, ρ, ⟨hh, s⟩, src_scr h1⟩⟩
  · rename_i n e
    obtain ⟨t, S, ρ, hh, s, k⟩ := r1.fzD e
    obtain ⟨rfl, hn⟩ := k
    split at p1
    · rename_i xs em
      obtain ⟨_, vs, h1, h2⟩ := hh.obj n _ em
      exact ⟨t n, rfl, ⟨vs, SqL.of h1⟩, q _ _ _ _ _ _ p1 ⟨t, S, ρ, ⟨hh, s⟩, src_lstP hn⟩⟩
    · exact p1.elim
  · exact p1.elim
theorem di_lst {tg e : Expr} {te : TE} {p : PTE} (h : DE X E e te p) : DI X E tg e (iList X.K te) (pItL p) := ⟨pi_list h.pe, sim_itL h.sim⟩
theorem src_rng {K : PySem.W.Frag} {Hb : Hp} {t : Nat → Addr} {S : Hp} {m n : Nat} {lo : Int} : Src K (Itr lo n) n (fun i => .int (lo + i)) yes t S m Hb where
  stop := fun _ _ _ _ _ _ _ _ _ _ => Nat.le_refl n
  go := fun B' t' S' r' M' H' h e _ _ i hi => ⟨hi, fun x H'' hy => by
    obtain ⟨rfl, rfl⟩ := hy
    exact ⟨fun _ _ z => z, S', h, Ext.refl, .int _⟩⟩
theorem src_rngC {K : PySem.W.Frag} {Hb : Hp} {t : Nat → Addr} {S : Hp} {m n : Nat} {lo c : Int} : Src K (Itc lo c n) n (fun i => .int (lo + (i : Nat) * c)) yes t S m Hb where
  stop := fun _ _ _ _ _ _ _ _ _ _ => Nat.le_refl n
  go := fun B' t' S' r' M' H' h e _ _ i hi => ⟨hi, fun x H'' hy => by
    obtain ⟨rfl, rfl⟩ := hy
    exact ⟨fun _ _ z => z, S', h, Ext.refl, .int _⟩⟩
def smallI (i : Int) : Prop := -(2 ^ 62) ≤ i ∧ i < 2 ^ 62
def pRng1 (q : PTA) : PTI := fun A P Y => q A (fun zs A1 => match zs with
  | [.d (.int j)] => smallI j ∧ P j.toNat (fun i => .int (0 + i)) yes A1
  | _ => False) Y
def pRng2 (q : PTA) : PTI := fun A P Y => q A (fun zs A1 => match zs with
  | [.d (.int i), .d (.int j)] => smallI i ∧ smallI j ∧ P (j - i).toNat (fun k => .int (i + k)) yes A1
  | _ => False) Y
/-- range(i, j, -1) -/
def pRng3 (q : PTA) : PTI := fun A P Y => q A (fun zs A1 => match zs with
  | [.d (.int i), .d (.int j), .d (.int c)] => ∃ n, RgC i j c n ∧ P n (fun k => .int (i + (k : Nat) * c)) yes A1
  | _ => False) Y
theorem RL.one {K : PySem.W.Frag} {S : Hp} {t : Nat → Addr} {m : Nat} {x : D} {vs : List V} (h : RL K S t m [.d x] vs) : ∃ v, vs = [v] ∧ DR K S v x := by
  cases h with
  | cons a b c => cases c; exact ⟨_, rfl, b (fun _ => none) (fun _ => none)⟩
theorem RL.uncons {K : PySem.W.Frag} {S : Hp} {t : Nat → Addr} {m : Nat} {x : D} {r : List R} {vs : List V} (h : RL K S t m (.d x :: r) vs) : ∃ v ws, vs = v :: ws ∧ DR K S v x ∧ RL K S t m r ws := by
  cases h with
  | cons a b c => exact ⟨_, _, rfl, b (fun _ => none) (fun _ => none), c⟩
theorem di_rng1 {tg a : Expr} {ta : TA} {q : PTA} {p pos : Pos} (hg : Gl X "range") (hm : X.mg "range" = none) (ha : DA X E [a] ta q) (hs : starEach [a] X.env = [(false, eval a X.env)] := by rfl) : DI X E tg (.Call (.Name "range" p) [a] [] pos) (iRng1 ta) (pRng1 q) :=
  ⟨pi_range1 hg hm ha.pe hs, fun B σ H A P Y R rel x k xq => ha.sim B σ H A _ _ _ rel x (fun zs A1 vs H1 p1 h1 => by
    split at p1
    · rename_i j
      obtain ⟨t, S, ρ, n, rl⟩ := h1
      obtain ⟨v, rfl, d⟩ := rl.one
      cases d.int_of
      exact ⟨j, rfl, p1.1.1, p1.1.2, k _ _ _ _ _ _ p1.2 ⟨t, S, ρ, n, src_rng⟩⟩
    · exact p1.elim) xq⟩
theorem di_rng2 {tg a b : Expr} {ta : TA} {q : PTA} {p pos : Pos} (hg : Gl X "range") (hm : X.mg "range" = none) (ha : DA X E [a, b] ta q) (hs : starEach [a, b] X.env = [(false, eval a X.env), (false, eval b X.env)] := by rfl) (hs2 : starEach [b] X.env = [(false, eval b X.env)] := by rfl) :
    DI X E tg (.Call (.Name "range" p) [a, b] [] pos) (iRng2 ta) (pRng2 q) :=
  ⟨pi_range2 hg hm ha.pe hs hs2, fun B σ H A P Y R rel x k xq => ha.sim B σ H A _ _ _ rel x (fun zs A1 vs H1 p1 h1 => by
    split at p1
    · rename_i i j
      obtain ⟨t, S, ρ, n, rl⟩ := h1
      obtain ⟨v, ws, rfl, d, rl⟩ := rl.uncons
      obtain ⟨w, rfl, d2⟩ := rl.one
      cases d.int_of
      cases d2.int_of
      exact ⟨i, j, rfl, ⟨p1.1.1, p1.1.2, p1.2.1.1, p1.2.1.2⟩, k _ _ _ _ _ _ p1.2.2 ⟨t, S, ρ, n, src_rng⟩⟩
    · exact p1.elim) xq⟩
theorem di_rng3 {tg a b c : Expr} {ta : TA} {q : PTA} {p pos : Pos} (hg : Gl X "range") (hm : X.mg "range" = none) (ha : DA X E [a, b, c] ta q)
    (hs : starEach [a, b, c] X.env = (false, eval a X.env) :: starEach [b, c] X.env := by rfl) (hpl : (backTo pos (starEach [b, c] X.env)).any (·.1) = false := by rfl) :
    DI X E tg (.Call (.Name "range" p) [a, b, c] [] pos) (iRng3 ta) (pRng3 q) :=
  ⟨pi_range3 hg hm ha.pe hs hpl, fun B σ H A P Y R rel x k xq => ha.sim B σ H A _ _ _ rel x (fun zs A1 vs H1 p1 h1 => by
    split at p1
    · rename_i i j c
      obtain ⟨t, S, ρ, nw, rl⟩ := h1
      obtain ⟨v, ws, rfl, d, rl⟩ := rl.uncons
      obtain ⟨v2, ws, rfl, d2, rl⟩ := rl.uncons
      obtain ⟨w, rfl, d3⟩ := rl.one
      cases d.int_of
      cases d2.int_of
      cases d3.int_of
      obtain ⟨n, hr, p1⟩ := p1
      exact ⟨i, j, c, n, rfl, hr, k _ _ _ _ _ _ p1 ⟨t, S, ρ, nw, src_rngC⟩⟩
    · exact p1.elim) xq⟩
/-- the signs of a text -/
theorem src_str {K : PySem.W.Frag} {Hb : Hp} {t : Nat → Addr} {S : Hp} {m : Nat} {l : Tx} : Src K (Its (st l)) l.length (fun i => .str [l.getD i 0]) yes t S m Hb where
  stop := fun _ _ _ _ _ _ _ _ _ _ => by
    show (st l).cps.size ≤ l.length
    simp [st]
  go := fun B' t' S' r' M' H' h e _ _ i hi => ⟨by show i < (st l).cps.size; simp [st]; exact hi, fun x H'' hy => by
    obtain ⟨rfl, c, hc, rfl⟩ := hy
    have : l[i]? = some c := by
      have e2 : (st l).cps[i]? = l[i]? := by simp [st]
      rw [← e2]; exact hc
    have e3 : l.getD i 0 = c := by rw [List.getD_eq_getElem?_getD, this]; rfl
    rw [e3]
    exact ⟨fun _ _ z => z, S', h, Ext.refl, .str [c]⟩⟩
def pItS (p : PTE) : PTI := fun A P Y => p A (fun y A1 => match y with
  | .d (.str l) => P l.length (fun i => .str [l.getD i 0]) yes A1
  | _ => False) Y
theorem di_str {tg e : Expr} {te : TE} {p : PTE} (h : DE X E e te p) : DI X E tg e (iStr te) (pItS p) :=
  ⟨pi_str h.pe, fun B σ H A P Y R rel x k xq => h.sim B σ H A _ _ _ rel x (fun y A1 v H1 p1 r1 => by
    split at p1
    · rename_i l
      obtain ⟨t, S, ρ, hh, s, kk⟩ := r1
      cases DR.str_of kk
      exact ⟨_, rfl, k _ _ _ _ _ _ p1 ⟨t, S, ρ, ⟨hh, s⟩, src_str⟩⟩
    · exact p1.elim) xq⟩

/-! ### comprehensions -/
def wipeA (env : List AV) : List Nat → List AV
  | [] => env
  | v :: vs => (wipeA env vs).set v .un
theorem SR.wipe {K : PySem.W.Frag} {S : Hp} {t : Nat → Addr} {m : Nat} {env : List AV} {σ : St} (s : SR K S t m env σ) : ∀ vs : List Nat, SR K S t m (wipeA env vs) (L2.wipe σ vs)
  | [] => s
  | v :: vs => by
    have ih := SR.wipe s vs
    refine ⟨by show ((wipeA env vs).set v AV.un).length = ((L2.wipe σ vs).set v none).length; rw [List.length_set, List.length_set]; exact ih.len, fun j w e => ?_⟩
    have e : ((wipeA env vs).set v AV.un)[j]? = some w := e
    show AVok K S t m w (((L2.wipe σ vs).set v none)[j]?)
    by_cases q : v = j
    · subst q
      have hi : v < (wipeA env vs).length := by
        have := (List.getElem?_eq_some_iff.mp e).1
        rwa [List.length_set] at this
      rw [List.getElem?_set_self hi] at e
      cases e
      trivial
    · rw [List.getElem?_set_ne q] at e ⊢
      exact ih.ok j w e
def pLc (ps : PTI) (tg : PTG) (tt : PTT) (pe : PTE) (vs : List Nat) : PTE := fun A P Y => ps A (fun n it C A1 => ∃ Inv : Nat → List D → List (Option O) → Prop, Inv 0 [] A1.M ∧ (∀ i acc M, i ≤ n → Inv i acc M → C M) ∧
  (∀ i acc M, i < n → Inv i acc M → ∃ env', tg (it i) (wipeA A1.env vs) = some env' ∧ tt ⟨env', M⟩ (fun b A2 => if b = true then pe A2 (fun y A3 => match y.fz with
      | some (.d d) => acc.length < 16777216 ∧ Inv (i + 1) (acc ++ [d]) A3.M
      | _ => False) noX else Inv (i + 1) acc A2.M) noX) ∧
  (∀ acc M, Inv n acc M → P (.o (.lst acc)) ⟨A1.env, M⟩)) Y
theorem sim_lc {K : PySem.W.Frag} {wi : TI} {ps : PTI} {g : TG} {tg : PTG} {ix : List Nat} {tt : TT} {pt : PTT} {te : TE} {pe : PTE} {vs : List Nat} (hi : SimI K E wi ps) (hg : SimG K g tg ix) (ht : SimT K E tt pt) (he : SimE K E te pe) (hix : ∀ i ∈ ix, i ∈ vs) :
    SimE K E (tLc wi g tt te vs) (pLc ps tg pt pe vs) := fun B σ H A P Y Q rel x q xq => by
  refine hi B σ H A _ _ _ rel x (fun n it C A1 J H1 p1 ⟨t, S, ρ, nw, src⟩ => ?_) xq
  obtain ⟨Inv, i0, iC, iS, iD⟩ := p1
  intro Dl hD
  refine ⟨fun i m H' => i + m = n ∧ ∃ acc M t' S' r' vsa, Inv i acc M ∧ HR K (baseOf t S ρ A1.M.length H1) t' S' r' M H' ∧ r' Dl = some none ∧ H' Dl = some (.lst vsa) ∧ DRs K S' vsa acc,
    ⟨n, by omega, [], A1.M, t, S, tmpT (dropT ρ) Dl, [], i0, nw.h.rebase.tmp hD _, tmpT_self, upd_same, .nil⟩, fun i m H' ⟨em, acc, M, t', S', r', vsa, iA, h', rD, hH, hd⟩ => ?_⟩
  cases m with
  | zero =>
    have e : i = n := by omega
    subst e
    refine .inl ⟨src.stop _ _ _ _ _ _ h' h'.ext (nw.h.kf h') (iC _ _ _ (Nat.le_refl _) iA), q (.o (.lst acc)) ⟨A1.env, M⟩ _ H' (iD acc M iA) ⟨t', S', r', nw.h.back h', nw.s.ext h'.ext, Dl, rfl, rD, vsa, hH, hd⟩⟩
  | succ m =>
    have hlt : i < n := by omega
    obtain ⟨g1, g2⟩ := src.go _ _ _ _ _ _ h' h'.ext (nw.h.kf h') (iC _ _ _ (by omega) iA) i hlt
    refine .inr ⟨g1, fun H2 => ∃ acc M t' S' r' vsa, Inv (i + 1) acc M ∧ HR K (baseOf t S ρ A1.M.length H1) t' S' r' M H2 ∧ r' Dl = some none ∧ H2 Dl = some (.lst vsa) ∧ DRs K S' vsa acc, fun H2 h2 => ⟨m, by omega, by omega, h2⟩, fun v H2 y => ?_⟩
    obtain ⟨kp, S2, h2, e2, d2⟩ := g2 v H2 y
    have hH2 : H2 Dl = some (.lst vsa) := kp _ _ hH
    obtain ⟨env', e3, pb⟩ := iS i acc M hlt iA
    have s2 : SR K S2 t' M.length (wipeA A1.env vs) (L2.wipe σ vs) := ((nw.s.ext h'.ext).ext e2).wipe vs
    refine hg S2 H2 t' _ _ v _ env' _ _ h2.le s2 d2 e3 fun σ2 s3 hw => ?_
    refine ⟨(hw vs hix).trans ?_, ?_⟩
    · have : ∀ ws : List Nat, L2.wipe (L2.wipe σ ws) ws = L2.wipe σ ws := fun ws => by
        apply List.ext_getElem?
        intro j
        rw [wipe_get, wipe_get, wipe_length]
        by_cases hj : j ∈ ws <;> simp [hj]
      exact this vs
    have nDl : ∀ n, r' Dl ≠ some (some n) := fun n z => by rw [rD] at z; cases z
    have back : ∀ {t4 S4 r4 M4 H4}, HR K (baseOf t' S2 r' M.length H2) t4 S4 r4 M4 H4 → H4 Dl = some (.lst vsa) ∧ HR K (baseOf t S ρ A1.M.length H1) t4 S4 (tmpT r4 Dl) M4 H4 := fun {t4 S4 r4 M4 H4} h4 => by
      have k1 : H4 Dl = some (.lst vsa) := by
        rcases h4.keep Dl _ hH2 (fun ⟨n, z⟩ => nDl n z) with z | ⟨z, _⟩
        · exact z
        · cases z
      refine ⟨k1, (h2.back h4).relabel ?_ (by rw [k1]; simp) (fun n z => ?_) (h2.own Dl _ rD)⟩
      · cases w : S4 Dl with
        | none => rfl
        | some o =>
          rcases h4.stb Dl (by rw [w]; simp) with z | z | ⟨n, z⟩
          · exact absurd (h2.sep Dl _ rD).1 z
          · have z : H2 Dl = none := z
            rw [hH2] at z; cases z
          · exact absurd z (nDl n)
      · rcases h4.own Dl _ z with ⟨n', w⟩ | w
        · exact absurd w (nDl n')
        · have w : H2 Dl = none := w
          rw [hH2] at w; cases w
    refine ht (baseOf t' S2 r' M.length H2) σ2 H2 ⟨env', M⟩ _ noX _ ⟨t', S2, _, h2.rebase, s3⟩ pb (fun b A2 H3 p2 r3 => ?_) (fun _ _ _ z => z.elim)
    cases b with
    | false =>
      obtain ⟨t4, S4, r4, h4, _⟩ := r3
      obtain ⟨k1, k2⟩ := back h4
      exact ⟨acc, A2.M, t4, S4, _, vsa, by simpa using p2, k2, tmpT_self, k1, (hd.mono e2.le).mono h4.ext.le⟩
    | true =>
      refine he (baseOf t' S2 r' M.length H2) σ2 H3 A2 _ noX _ r3 (by simpa using p2) (fun y A3 w H4 p3 r4 => ?_) (fun _ _ _ z => z.elim)
      split at p3
      · rename_i d ed
        obtain ⟨t4, S4, r4, h4, _, kk⟩ := r4.fzD ed
        have kk : DR K S4 w d := kk
        obtain ⟨k1, k2⟩ := back h4
        have hda : DRs K S4 vsa acc := (hd.mono e2.le).mono h4.ext.le
        exact ⟨vsa, k1, by rw [hda.length]; exact p3.1, acc ++ [d], A3.M, t4, S4, _, vsa ++ [w], p3.2, k2.mutT tmpT_self _, tmpT_self, upd_same, hda.snoc kk⟩
      · exact p3.elim
structure DTs (X : Cx) (E : WX) (ifs : List Expr) (t : TT) (p : PTT) : Prop where
  pe : PTs X ifs t
  sim : SimT X.K E t p
def pYes : PTT := fun A P _ => P true A
theorem dts_nil : DTs X E [] tYes pYes := ⟨pts_nil, fun B σ H A P Y Q rel x q _ => q true A H x rel⟩
theorem dts_one {c : Expr} {t : TT} {p : PTT} (h : DT X E c t p) : DTs X E [c] t p := ⟨pts_one h.pe, h.sim⟩
theorem de_lc {elt tg iter : Expr} {ifs : List Expr} {scope : Scope} {own : List (Str × Nat)} {pos : Pos} {wi : TI} {ps : PTI} {g : TG} {pg : PTG} {ix : List Nat} {tt : TT} {pt : PTT} {te : TE} {pe : PTE} (hc : X.calm = true) (hN : X.N.Nodup) (hi : DI X E tg iter wi ps) (ok : blkC X.N X.env.scope scope own = true)
    (hg : ∀ (s : Shared) (H : Hp) (C : Addr) (cl : List (Str × Addr)) (fp : List Addr), DG (X.blk s H scope (compEnvC scope cl C X.env) fp) tg g pg ix) (ht : ∀ (s : Shared) (H : Hp) (C : Addr) (cl : List (Str × Addr)) (fp : List Addr), DTs (X.blk s H scope (compEnvC scope cl C X.env) fp) E ifs tt pt)
    (he : ∀ (s : Shared) (H : Hp) (C : Addr) (cl : List (Str × Addr)) (fp : List Addr), DE (X.blk s H scope (compEnvC scope cl C X.env) fp) E elt te pe) (hix : ∀ i ∈ ix, i ∈ own.map (·.2)) (inh : Shared × Hp) (hs : ∀ x, foldedSetIterable iter X.env x = pure x := by intro _; rfl) :
    DE X E (.ListComp elt [⟨tg, iter, ifs, 0⟩] scope pos) (tLc wi g tt te (own.map (·.2))) (pLc ps pg pt pe (own.map (·.2))) :=
  ⟨pe_lc hc hN hi.pi (blkOk_by ok) (fun s H C cl fp => (hg s H C cl fp).pg) (fun s H C cl fp => (ht s H C cl fp).pe) (fun s H C cl fp => (he s H C cl fp).pe) hs,
    sim_lc hi.sim (hg inh.1 inh.2 0 [] []).sim (ht inh.1 inh.2 0 [] []).sim (he inh.1 inh.2 0 [] []).sim hix⟩
end
end PD

/-! PD, eleventh part: defs and their calls. -/
namespace PD
open PySem PySem.Spec PyProof.Rows L2

inductive AR where
  | d (x : D) | o (x : O)
def ownsA : List AR → List (Option O)
  | [] => []
  | .d _ :: r => ownsA r
  | .o x :: r => some x :: ownsA r
def envA : Nat → List AR → List AV
  | _, [] => []
  | k, .d x :: r => .d x :: envA k r
  | k, .o _ :: r => .p k :: envA (k + 1) r
theorem envA_len : ∀ (k : Nat) (ars : List AR), (envA k ars).length = ars.length
  | _, [] => rfl
  | k, .d x :: r => by simp [envA, envA_len k r]
  | k, .o _ :: r => by simp [envA, envA_len (k + 1) r]
/-- a def's promise over data -/
abbrev ASp := List AR → (R → List (Option O) → Prop) → (EN → List (Option O) → Prop) → Prop
def Fin (K : PySem.W.Frag) (B : Bas) (y : R) (os : List (Option O)) (v : V) (H' : Hp) : Prop := (∀ n, y ≠ .p n) ∧ ∃ t' S' r' M', HR K B t' S' r' M' H' ∧ os.length = B.n ∧ (∀ j, j < B.n → M'[j]? = os[j]?) ∧ Rok K S' r' t' M'.length H' y v
def FinX (K : PySem.W.Frag) (B : Bas) (os : List (Option O)) (H' : Hp) : Prop := ∃ t' S' r' M', HR K B t' S' r' M' H' ∧ os.length = B.n ∧ ∀ j, j < B.n → M'[j]? = os[j]?
def spA (K : PySem.W.Frag) (asp : ASp) : Sp := fun vs H Q E => ∃ (t : Nat → Addr) (S : Hp) (r : Addr → Lb) (ars : List AR), HR K (baseOf t S r (ownsA ars).length H) t S r (ownsA ars) H ∧ SR K S t (ownsA ars).length (envA 0 ars) (vs.map some) ∧
  asp ars (fun y os => ∀ v H', Fin K (baseOf t S r (ownsA ars).length H) y os v H' → Q v H') (fun C os => ∀ H', FinX K (baseOf t S r (ownsA ars).length H) os H' → E (ev K C) none H')
theorem HR.unname {K : PySem.W.Frag} {B : Bas} {t : Nat → Addr} {S : Hp} {r : Addr → Lb} {M : List (Option O)} {H : Hp} (h : HR K B t S r M H) {n : Nat} {o : O} (e : M[n]? = some (some o)) :
    ∃ r', HR K B t S r' (M.set n none) H ∧ OOk K S (fun a => r' a = some none) H (t n) o := by
  have hn : n < M.length := (List.getElem?_eq_some_iff.mp e).1
  have c1 : ∀ a k, k ≠ n → ((if r a = some none then none else if r a = some (some n) then some none else r a : Lb) = some (some k) ↔ r a = some (some k)) := fun a k hk => by
    by_cases h1 : r a = some none
    · simp [h1]
    · rw [if_neg h1]
      by_cases h2 : r a = some (some n)
      · rw [if_pos h2, h2]
        constructor
        · intro z; cases z
        · intro z
          have := Option.some.inj (Option.some.inj z)
          exact absurd this.symm hk
      · rw [if_neg h2]
  have c2 : ∀ a l, (if r a = some none then none else if r a = some (some n) then some none else r a : Lb) = some l → ∃ l', r a = some l' := fun a l z => by
    by_cases h1 : r a = some none
    · exact ⟨_, h1⟩
    · rw [if_neg h1] at z
      by_cases h2 : r a = some (some n)
      · exact ⟨_, h2⟩
      · rw [if_neg h2] at z
        exact ⟨_, z⟩
  refine ⟨fun a => if r a = some none then none else if r a = some (some n) then some none else r a, ⟨h.le, fun a l z => ?_, fun a k z => ?_, fun k o' z => ?_, h.keep, fun a l z => ?_, h.stb, h.bas, h.th, by rw [List.length_set]; exact h.nl⟩, ?_⟩
  · obtain ⟨l', q⟩ := c2 a l z
    exact h.sep a l' q
  · rw [List.length_set]
    by_cases hk : k = n
    · rw [hk]; exact hn
    · exact h.lab a k ((c1 a k hk).mp z)
  · by_cases hk : k = n
    · subst hk
      rw [List.getElem?_set_self hn] at z
      cases z
    · rw [List.getElem?_set_ne (Ne.symm hk)] at z
      exact (h.obj k o' z).iff fun b => (c1 b k hk).symm
  · obtain ⟨l', q⟩ := c2 a l z
    exact h.own a l' q
  · refine (h.obj n o e).iff fun b => ?_
    constructor
    · intro z
      show (if r b = some none then none else if r b = some (some n) then some none else r b : Lb) = some none
      rw [if_neg (by rw [z]; intro y; cases y), if_pos z]
    · intro z
      have z : (if r b = some none then none else if r b = some (some n) then some none else r b : Lb) = some none := z
      by_cases h1 : r b = some none
      · rw [if_pos h1] at z; cases z
      · rw [if_neg h1] at z
        by_cases h2 : r b = some (some n)
        · exact h2
        · rw [if_neg h2] at z
          exact absurd z h1
/-- what a def hands back -/
def retR (m : Nat) (post : R → List (Option O) → Prop) (y : R) (A : Abs) : Prop := match y with
  | .d x => post (.d x) (A.M.take m)
  | .o x => post (.o x) (A.M.take m)
  | .p n => m ≤ n ∧ (match A.M[n]? with
    | some (some o) => post (.o o) (A.M.take m)
    | _ => False)
def fnEnds (m : Nat) (post : R → List (Option O) → Prop) (xp : EN → List (Option O) → Prop) : PEnds := { nx := fun A => post (.d .non) (A.M.take m), rt := retR m post, ex := fun C A => xp C (A.M.take m) }
def fnAbs (N : List Str) (ars : List AR) : Abs := ⟨envA 0 ars ++ List.replicate (N.length - ars.length) .un, ownsA ars⟩
theorem take_ok {m : Nat} {M : List (Option O)} (h : m ≤ M.length) : (M.take m).length = m ∧ ∀ j, j < m → M[j]? = (M.take m)[j]? := ⟨by rw [List.length_take]; omega, fun j hj => by rw [List.getElem?_take, if_pos hj]⟩
theorem start_SR {K : PySem.W.Frag} {S : Hp} {t : Nat → Addr} {m : Nat} {ars : List AR} {vs : List V} {N : List Str} (s : SR K S t m (envA 0 ars) (vs.map some)) : SR K S t m (fnAbs N ars).env (L2.start N vs) := by
  have e : ars.length = vs.length := by
    have := s.len
    rw [envA_len, List.length_map] at this
    exact this
  refine ⟨by simp [fnAbs, L2.start, envA_len, e], fun i av h => ?_⟩
  show AVok K S t m av ((vs.map some ++ List.replicate (N.length - vs.length) none)[i]?)
  have h : (envA 0 ars ++ List.replicate (N.length - ars.length) AV.un)[i]? = some av := h
  by_cases hi : i < ars.length
  · rw [List.getElem?_append_left (by rw [envA_len]; exact hi)] at h
    rw [List.getElem?_append_left (by rw [List.length_map, ← e]; exact hi)]
    exact s.ok i av h
  · rw [List.getElem?_append_right (by rw [envA_len]; omega)] at h
    have := (List.getElem?_replicate.symm.trans h)
    split at this
    · cases this
      trivial
    · cases this
theorem body_kont {K : PySem.W.Frag} {t : Nat → Addr} {S : Hp} {r : Addr → Lb} {m : Nat} {H : Hp} {Q : VK} {E : XK} (post : R → List (Option O) → Prop) (xp : EN → List (Option O) → Prop)
    (hp : ∀ y os, post y os → ∀ v H', Fin K (baseOf t S r m H) y os v H' → Q v H') (hx : ∀ C os, xp C os → ∀ H', FinX K (baseOf t S r m H) os H' → E (ev K C) none H') :
    SKont K (baseOf t S r m H) (fun C d _ H => E C d H) (fnEnds m post xp) { nx := fun _ H' => Q .non H', rt := Q } where
  nx := fun A σ H' p ⟨t', S', r', h', s'⟩ => hp _ _ p _ _ ⟨fun n z => (by cases z), t', S', r', A.M, h', (take_ok h'.nl).1, (take_ok h'.nl).2, DR.non⟩
  rt := fun y A v σ H' p ⟨t', S', r', h', s', k⟩ => by
    cases y with
    | d x => exact hp _ _ p _ _ ⟨fun n z => (by cases z), t', S', r', A.M, h', (take_ok h'.nl).1, (take_ok h'.nl).2, k⟩
    | o x => exact hp _ _ p _ _ ⟨fun n z => (by cases z), t', S', r', A.M, h', (take_ok h'.nl).1, (take_ok h'.nl).2, k⟩
    | p n =>
      obtain ⟨rfl, hn⟩ := k
      have p : m ≤ n ∧ (match A.M[n]? with
        | some (some o) => post (.o o) (A.M.take m)
        | _ => False) := p
      obtain ⟨hmn, p⟩ := p
      split at p
      · rename_i o e
        obtain ⟨r2, h2, ok⟩ := h'.unname e
        refine hp _ _ p _ _ ⟨fun n z => (by cases z), t', S', r2, _, h2, (take_ok h'.nl).1, fun j hj => ?_, t' n, rfl, ok⟩
        have hj : j < m := hj
        rw [List.getElem?_set_ne (by omega)]
        exact (take_ok h'.nl).2 j hj
      · exact p.elim
  bk := fun A σ H' p _ => p.elim
  ct := fun A σ H' p _ => p.elim
  ex := fun σ C A H' p ⟨t', S', r', h', _⟩ => hx _ _ p _ ⟨t', S', r', A.M, h', (take_ok h'.nl).1, (take_ok h'.nl).2⟩
section
variable {P : Program} {w : World} {K : PySem.W.Frag} {mg : Str → Option Value} {base : Heap}
theorem spA_len {asp : ASp} {ps : List Str} (hl : ∀ ars post xp, asp ars post xp → ars.length = ps.length) : ∀ vs H Q E, spA K asp vs H Q E → vs.length = ps.length := fun vs H Q E ⟨t, S, r, ars, _, s, a⟩ => by
  have := s.len
  rw [envA_len, List.length_map] at this
  rw [← this]
  exact hl _ _ _ a
/-- a def that nothing leaves by an error -/
theorem fnA {x qual : Str} {st : Stmt} {f : Addr} {fd : FuncData} {N ps : List Str} {k : Nat} {asp : ASp} (F : Fun K x qual st f fd) (Sc : FnScope N ps (defScope st)) (hl : ∀ ars post xp, asp ars post xp → ars.length = ps.length)
    (hbody : ∀ (cdv : Value) (A : Around) (outer : List Env) (s : Shared) (H : Hp) (E : XK), Room k (A.deeper (envOfC qual (defScope st) s.heap.objs.size f cdv)) →
      ∃ t p, DSs (cxOf CX0 P w K mg base N qual (defScope st) f cdv A outer s H E).nox (fun C d _ H => E C d H) (defBody st) t p ∧ ∀ ars post xp, asp ars post xp → p (fnEnds (ownsA ars).length post xp) (fnAbs N ars)) :
    FnOk P w K mg base CX0 (k + 1) f fd ps (spA K asp) := by
  refine F.ok Sc (spA_len hl) fun cdv A outer s H vs Q E hr ⟨t, S, r, ars, h, sr, a⟩ => ?_
  obtain ⟨tt, p, d, q⟩ := hbody cdv A outer s H E hr
  refine ⟨tt, d.pe, d.sim (baseOf t S r (ownsA ars).length H) _ H (fnAbs N ars) _ _ ⟨t, S, r, h, start_SR sr⟩ (q ars _ _ a) (body_kont _ _ (fun y os z => z) fun C os z => z)⟩
/-- .. that an error may leave -/
theorem fnAX {x qual : Str} {st : Stmt} {f : Addr} {fd : FuncData} {N ps : List Str} {k : Nat} {asp : ASp} (F : Fun K x qual st f fd) (Sc : FnScope N ps (defScope st)) (hl : ∀ ars post xp, asp ars post xp → ars.length = ps.length)
    (hbody : ∀ (cdv : Value) (A : Around) (outer : List Env) (s : Shared) (H : Hp) (E : XK), Room k (A.deeper (envOfC qual (defScope st) s.heap.objs.size f cdv)) →
      ∃ t p, DSs (cxOf (L2.CX P w) P w K mg base N qual (defScope st) f cdv A outer s H E) (fun C d _ H => E C d H) (defBody st) t p ∧ ∀ ars post xp, asp ars post xp → p (fnEnds (ownsA ars).length post xp) (fnAbs N ars)) :
    FnOk P w K mg base (L2.CX P w) (k + 1) f fd ps (spA K asp) := by
  refine F.okX Sc (spA_len hl) fun cdv A outer s H vs Q E hr ⟨t, S, r, ars, h, sr, a⟩ => ?_
  obtain ⟨tt, p, d, q⟩ := hbody cdv A outer s H E hr
  refine ⟨tt, d.pe, d.sim (baseOf t S r (ownsA ars).length H) _ H (fnAbs N ars) _ _ ⟨t, S, r, h, start_SR sr⟩ (q ars _ _ a) (body_kont _ _ (fun y os z => z) fun C os z => z)⟩
end
/-! ### a call -/
/-- the arguments as the def sees them, and the names of the owned ones -/
def toAR (M : List (Option O)) : List R → Option (List AR × List Nat)
  | [] => some ([], [])
  | .d x :: r => (match toAR M r with
    | some (as, ns) => some (.d x :: as, ns)
    | none => none)
  | .p n :: r => (match M[n]?, toAR M r with
    | some (some o), some (as, ns) => some (.o o :: as, n :: ns)
    | _, _ => none)
  | .o _ :: _ => none
def putAll (M : List (Option O)) : List Nat → List (Option O) → List (Option O)
  | n :: ns, o :: os => (putAll M ns os).set n o
  | _, _ => M
theorem putAll_len (M : List (Option O)) : ∀ ns os, (putAll M ns os).length = M.length
  | [], _ => rfl
  | _ :: _, [] => rfl
  | n :: ns, o :: os => by simp [putAll, putAll_len M ns os]
theorem putAll_out (M : List (Option O)) {k : Nat} : ∀ ns os, k ∉ ns → (putAll M ns os)[k]? = M[k]?
  | [], _, _ => rfl
  | _ :: _, [], _ => rfl
  | n :: ns, o :: os, h => by
    show ((putAll M ns os).set n o)[k]? = _
    rw [List.getElem?_set_ne (fun e => h (by simp [e])), putAll_out M ns os fun z => h (by simp [z])]
theorem putAll_in (M : List (Option O)) : ∀ (ns : List Nat) (os : List (Option O)) (j k : Nat), ns.Nodup → ns.length = os.length → (∀ n ∈ ns, n < M.length) → ns[j]? = some k → (putAll M ns os)[k]? = os[j]?
  | n :: ns, o :: os, 0, k, nd, hl, hm, e => by
    have e : n = k := by simpa using e
    subst e
    show ((putAll M ns os).set n o)[n]? = _
    rw [List.getElem?_set_self (by rw [putAll_len]; exact hm n (by simp))]
    rfl
  | n :: ns, o :: os, j + 1, k, nd, hl, hm, e => by
    have e : ns[j]? = some k := by simpa using e
    rw [List.nodup_cons] at nd
    have ne : n ≠ k := fun q => nd.1 (by rw [q]; exact List.mem_of_getElem? e)
    show ((putAll M ns os).set n o)[k]? = _
    rw [List.getElem?_set_ne ne, putAll_in M ns os j k nd.2 (by simpa using hl) (fun m hm' => hm m (by simp [hm'])) e]
    simp
  | [], _, _, _, _, _, _, e => by simp at e
  | _ :: _, [], _, _, _, hl, _, _ => by simp at hl
theorem toAR_obj {M : List (Option O)} : ∀ {zs : List R} {ars : List AR} {ns : List Nat}, toAR M zs = some (ars, ns) → (ownsA ars).length = ns.length ∧ (∀ n ∈ ns, n < M.length) ∧ ∀ (j n : Nat), ns[j]? = some n → M[n]? = (ownsA ars)[j]?
  | [], _, _, e => by
    cases e
    exact ⟨rfl, fun n h => by simp at h, fun j n h => by simp at h⟩
  | .d x :: r, ars, ns, e => by
    simp only [toAR] at e
    cases q : toAR M r with
    | none => rw [q] at e; cases e
    | some p =>
      obtain ⟨as, ms⟩ := p
      rw [q] at e
      cases e
      obtain ⟨h1, h2, h3⟩ := toAR_obj q
      exact ⟨h1, h2, h3⟩
  | .p n :: r, ars, ns, e => by
    simp only [toAR] at e
    split at e
    · rename_i o as ms e1 e2
      cases e
      obtain ⟨h1, h2, h3⟩ := toAR_obj e2
      refine ⟨by simp [ownsA, h1], fun m hm => ?_, fun j m hj => ?_⟩
      · rcases List.mem_cons.mp hm with rfl | hm
        · exact (List.getElem?_eq_some_iff.mp e1).1
        · exact h2 m hm
      · cases j with
        | zero =>
          have : n = m := by simpa using hj
          subst this
          rw [e1]
          rfl
        | succ j =>
          have := h3 j m (by simpa using hj)
          rw [this]
          simp [ownsA]
    · cases e
  | .o _ :: _, _, _, e => by cases e
theorem toAR_env {K : PySem.W.Frag} {S : Hp} {t : Nat → Addr} {m : Nat} {M : List (Option O)} {t0 : Nat → Addr} {m0 : Nat} : ∀ {zs : List R} {vs : List V} {ars : List AR} {ns : List Nat} {k : Nat}, toAR M zs = some (ars, ns) → RL K S t m zs vs →
    (∀ (j n : Nat), ns[j]? = some n → t0 (k + j) = t n) → k + ns.length ≤ m0 → SR K S t0 m0 (envA k ars) (vs.map some)
  | [], _, _, _, k, e, .nil, h, hm => by
    cases e
    exact ⟨rfl, fun i av q => by simp [envA] at q⟩
  | .d x :: r, _, ars, ns, k, e, .cons h1 h2 h3, h, hm => by
    simp only [toAR] at e
    cases q : toAR M r with
    | none => rw [q] at e; cases e
    | some p =>
      obtain ⟨as, ms⟩ := p
      rw [q] at e
      cases e
      have ih := toAR_env (k := k) (t0 := t0) (m0 := m0) q h3 h hm
      refine ⟨by simp [envA]; have := ih.len; simp at this; omega, fun i av z => ?_⟩
      cases i with
      | zero =>
        have : AV.d x = av := by simpa [envA] using z
        subst this
        exact ⟨_, by simp, h2 (fun _ => none) (fun _ => none)⟩
      | succ i =>
        have := ih.ok i av (by simpa [envA] using z)
        simpa using this
  | .p n :: r, _, ars, ns, k, e, .cons h1 h2 h3, h, hm => by
    simp only [toAR] at e
    split at e
    · rename_i o as ms e1 e2
      cases e
      have ih := toAR_env (k := k + 1) (t0 := t0) (m0 := m0) e2 h3 (fun j n' z => by
        have := h (j + 1) n' (by simpa using z)
        rw [← this, Nat.add_assoc, Nat.add_comm 1 j]) (by simp at hm; omega)
      obtain ⟨rfl, _⟩ := h2 (fun _ => none) (fun _ => none)
      refine ⟨by simp [envA]; have := ih.len; simp at this; omega, fun i av z => ?_⟩
      cases i with
      | zero =>
        have : AV.p k = av := by simpa [envA] using z
        subst this
        have := h 0 n (by simp)
        rw [Nat.add_zero] at this
        exact ⟨by simp [this], by simp at hm; omega⟩
      | succ i =>
        have := ih.ok i av (by simpa [envA] using z)
        simpa using this
    · cases e
  | .o _ :: _, _, _, _, _, e, _, _, _ => by cases e
def lab0 (ρ : Addr → Lb) (ns : List Nat) : Addr → Lb := fun a => match ρ a with
  | some (some n) => (match ns.idxOf? n with
    | some j => some (some j)
    | none => none)
  | _ => none
theorem idx_some {ns : List Nat} {n j : Nat} (h : ns.idxOf? n = some j) : ns[j]? = some n := by
  induction ns generalizing j with
  | nil => simp [List.idxOf?] at h
  | cons m ns ih =>
    rw [List.idxOf?_cons] at h
    split at h
    · rename_i q
      cases h
      simpa using q
    · cases q : ns.idxOf? n with
      | none => rw [q] at h; cases h
      | some i =>
        rw [q] at h
        cases h
        simpa using ih q
theorem idx_of {ns : List Nat} {n j : Nat} (nd : ns.Nodup) (h : ns[j]? = some n) : ns.idxOf? n = some j := by
  induction ns generalizing j with
  | nil => simp at h
  | cons m ns ih =>
    rw [List.nodup_cons] at nd
    rw [List.idxOf?_cons]
    cases j with
    | zero =>
      have : m = n := by simpa using h
      simp [this]
    | succ j =>
      have h : ns[j]? = some n := by simpa using h
      have ne : ¬ m = n := fun q => nd.1 (by rw [q]; exact List.mem_of_getElem? h)
      rw [if_neg (by simpa using ne), ih nd.2 h]
      rfl
theorem lab0_iff {ρ : Addr → Lb} {ns : List Nat} (nd : ns.Nodup) {a : Addr} {j n : Nat} (h : ns[j]? = some n) : lab0 ρ ns a = some (some j) ↔ ρ a = some (some n) := by
  unfold lab0
  constructor
  · intro z
    split at z
    · rename_i k e
      split at z
      · rename_i i ei
        cases z
        have := idx_some ei
        rw [h] at this
        cases this
        exact e
      · cases z
    · cases z
  · intro z
    rw [z]
    simp only
    rw [idx_of nd h]
theorem lab0_some {ρ : Addr → Lb} {ns : List Nat} {a : Addr} {l : Option Nat} (h : lab0 ρ ns a = some l) : ∃ n j, ρ a = some (some n) ∧ ns[j]? = some n ∧ l = some j := by
  unfold lab0 at h
  split at h
  · rename_i k e
    split at h
    · rename_i i ei
      cases h
      exact ⟨k, i, e, idx_some ei, rfl⟩
    · cases h
  · cases h
theorem HR.forCall {K : PySem.W.Frag} {B : Bas} {t : Nat → Addr} {S : Hp} {ρ : Addr → Lb} {M : List (Option O)} {H : Hp} (h : HR K B t S ρ M H) {zs : List R} {ars : List AR} {ns : List Nat} (e : toAR M zs = some (ars, ns)) (nd : ns.Nodup) :
    HR K (baseOf (fun j => t (ns.getD j 0)) S (lab0 ρ ns) (ownsA ars).length H) (fun j => t (ns.getD j 0)) S (lab0 ρ ns) (ownsA ars) H := by
  obtain ⟨q1, q2, q3⟩ := toAR_obj e
  refine ⟨h.le, fun a l z => ?_, fun a j z => ?_, fun j o z => ?_, fun a o z _ => .inl z, fun a l z => ?_, fun a z => .inl z, fun a o z => z, fun _ _ => rfl, Nat.le_refl _⟩
  · obtain ⟨n, j, e1, _, _⟩ := lab0_some z
    exact h.sep a _ e1
  · obtain ⟨n, j', e1, e2, e3⟩ := lab0_some z
    cases e3
    rw [q1]
    exact (List.getElem?_eq_some_iff.mp e2).1
  · have hj : j < ns.length := by
      rw [← q1]
      exact (List.getElem?_eq_some_iff.mp z).1
    have ej : ns[j]? = some (ns.getD j 0) := by rw [List.getD_eq_getElem?_getD, List.getElem?_eq_getElem hj]; rfl
    have := h.obj (ns.getD j 0) o ((q3 j _ ej).trans z)
    exact this.iff fun b => (lab0_iff nd ej).symm
  · obtain ⟨n, j, e1, e2, e3⟩ := lab0_some z
    subst e3
    exact .inl ⟨j, z⟩
def labBack (ρ r' : Addr → Lb) (ns : List Nat) : Addr → Lb := fun a => match r' a with
  | some (some j) => (match ns[j]? with
    | some n => some (some n)
    | none => none)
  | some none => some none
  | none => (match ρ a with
    | some (some n) => if n ∈ ns then none else some (some n)
    | _ => none)
theorem HR.behindCall {K : PySem.W.Frag} {B : Bas} {t : Nat → Addr} {S : Hp} {ρ : Addr → Lb} {M : List (Option O)} {H : Hp} (h : HR K B t S ρ M H) {zs : List R} {ars : List AR} {ns : List Nat} (e : toAR M zs = some (ars, ns)) (nd : ns.Nodup)
    {t' : Nat → Addr} {S' : Hp} {r' : Addr → Lb} {M' : List (Option O)} {H' : Hp} {os : List (Option O)} (h' : HR K (baseOf (fun j => t (ns.getD j 0)) S (lab0 ρ ns) (ownsA ars).length H) t' S' r' M' H') (ol : os.length = (ownsA ars).length) (om : ∀ j, j < (ownsA ars).length → M'[j]? = os[j]?) :
    HR K (baseOf t S ρ M.length H) t S' (labBack ρ r' ns) (putAll M ns os) H' := by
  obtain ⟨q1, q2, q3⟩ := toAR_obj e
  have dn : ∀ a n, ρ a = some (some n) → n ∉ ns → r' a = none ∧ ¬ ∃ j, lab0 ρ ns a = some (some j) := fun a n ea hn => by
    have c : ¬ ∃ j, lab0 ρ ns a = some (some j) := fun ⟨j, z⟩ => by
      obtain ⟨n', j', e1, e2, _⟩ := lab0_some z
      rw [ea] at e1
      cases e1
      exact hn (List.mem_of_getElem? e2)
    refine ⟨?_, c⟩
    cases z : r' a with
    | none => rfl
    | some l =>
      rcases h'.own a l z with w | w
      · exact absurd w c
      · exact absurd w (h.sep a _ ea).2
  have kp : ∀ a n, ρ a = some (some n) → n ∉ ns → H' a = H a := fun a n ea hn => by
    cases z : H a with
    | none => exact absurd z (h.sep a _ ea).2
    | some o =>
      rcases h'.keep a o z (dn a n ea hn).2 with w | ⟨_, w, _⟩
      · exact w
      · have w : S a = some o := w
        rw [(h.sep a _ ea).1] at w
        cases w
  have some_cases : ∀ a l, labBack ρ r' ns a = some l → (∃ l', r' a = some l') ∨ ∃ n, r' a = none ∧ ρ a = some (some n) ∧ n ∉ ns ∧ l = some n := fun a l z => by
    unfold labBack at z
    split at z
    · rename_i j ej; exact .inl ⟨_, ej⟩
    · rename_i ej; exact .inl ⟨_, ej⟩
    · rename_i ej
      split at z
      · rename_i n en
        split at z
        · cases z
        · rename_i hn
          cases z
          exact .inr ⟨n, ej, en, hn, rfl⟩
      · cases z
  have nm_iff : ∀ a n, labBack ρ r' ns a = some (some n) ↔ (∃ j, r' a = some (some j) ∧ ns[j]? = some n) ∨ (r' a = none ∧ ρ a = some (some n) ∧ n ∉ ns) := fun a n => by
    unfold labBack
    constructor
    · intro z
      split at z
      · rename_i j ej
        split at z
        · rename_i m em
          cases z
          exact .inl ⟨j, ej, em⟩
        · cases z
      · cases z
      · rename_i ej
        split at z
        · rename_i m em
          split at z
          · cases z
          · rename_i hn
            cases z
            exact .inr ⟨ej, em, hn⟩
        · cases z
    · rintro (⟨j, e1, e2⟩ | ⟨e1, e2, e3⟩)
      · simp only [e1, e2]
      · simp only [e1, e2, if_neg e3]
  refine ⟨h'.le, fun a l z => ?_, fun a n z => ?_, fun n o z => ?_, fun a o z nd' => ?_, fun a l z => ?_, fun a z => ?_, fun a o z => h'.bas a o z, fun _ _ => rfl, by rw [putAll_len]; exact Nat.le_refl _⟩
  · rcases some_cases a l z with ⟨l', w⟩ | ⟨n, w1, w2, w3, _⟩
    · exact h'.sep a l' w
    · refine ⟨?_, by rw [kp a n w2 w3]; exact (h.sep a _ w2).2⟩
      cases q : S' a with
      | none => rfl
      | some o =>
        rcases h'.stb a (by rw [q]; simp) with y | y | y
        · exact absurd (h.sep a _ w2).1 y
        · exact absurd y (h.sep a _ w2).2
        · exact absurd y (dn a n w2 w3).2
  · rw [putAll_len]
    rcases (nm_iff a n).mp z with ⟨j, _, w⟩ | ⟨_, w, _⟩
    · exact q2 n (List.mem_of_getElem? w)
    · exact h.lab a n w
  · by_cases hn : n ∈ ns
    · obtain ⟨j, hj⟩ := List.mem_iff_getElem?.mp hn
      have hjl : j < (ownsA ars).length := by rw [q1]; exact (List.getElem?_eq_some_iff.mp hj).1
      rw [putAll_in M ns os j n nd (by rw [ol, q1]) q2 hj] at z
      have ok := h'.obj j o ((om j hjl).trans z)
      have et : t' j = t n := by
        have := h'.th j hjl
        rw [this]
        show t (ns.getD j 0) = t n
        rw [List.getD_eq_getElem?_getD, hj]
        rfl
      rw [et] at ok
      refine ok.iff fun b => ?_
      rw [nm_iff]
      constructor
      · intro w; exact .inl ⟨j, w, hj⟩
      · rintro (⟨j', w1, w2⟩ | ⟨_, _, w3⟩)
        · have : j' = j := by
            have a1 := idx_of nd w2
            have a2 := idx_of nd hj
            rw [a1] at a2
            exact Option.some.inj a2
          rw [← this]
          exact w1
        · exact absurd hn w3
    · rw [putAll_out M ns os hn] at z
      refine ((h.obj n o z).move (fun a u y => .inl (h'.bas a u y)) fun b hb => kp b n hb hn).iff fun b => ?_
      rw [nm_iff]
      constructor
      · intro w; exact .inr ⟨(dn b n w hn).1, w, hn⟩
      · rintro (⟨j', w1, w2⟩ | ⟨_, w2, _⟩)
        · exact absurd (List.mem_of_getElem? w2) hn
        · exact w2
  · refine h'.keep a o z fun ⟨j, w⟩ => ?_
    obtain ⟨n, _, e1, _, _⟩ := lab0_some w
    exact nd' ⟨n, e1⟩
  · rcases some_cases a l z with ⟨l', w⟩ | ⟨n, w1, w2, w3, _⟩
    · rcases h'.own a l' w with ⟨j, y⟩ | y
      · obtain ⟨n, _, e1, _, _⟩ := lab0_some y
        exact .inl ⟨n, e1⟩
      · exact .inr y
    · exact .inl ⟨n, w2⟩
  · rcases h'.stb a z with y | y | ⟨j, y⟩
    · exact .inl y
    · exact .inr (.inl y)
    · obtain ⟨n, _, e1, _, _⟩ := lab0_some y
      exact .inr (.inr ⟨n, e1⟩)
theorem labBack_t {ρ r' : Addr → Lb} {ns : List Nat} (a : Addr) : labBack ρ r' ns a = some none ↔ r' a = some none := by
  unfold labBack
  constructor
  · intro z
    split at z
    · split at z <;> cases z
    · assumption
    · split at z
      · split at z <;> cases z
      · cases z
  · intro z
    simp only [z]
section
def callA (asp : ASp) (zs : List R) (A : Abs) (P : R → Abs → Prop) (Y : PX) : Prop := match toAR A.M zs with
  | some (ars, ns) => ns.Nodup ∧ asp ars (fun y os => P y ⟨A.env, putAll A.M ns os⟩) (fun C os => Y C ⟨A.env, putAll A.M ns os⟩)
  | none => False
theorem run_callA {K : PySem.W.Frag} {asp : ASp} {B : Bas} {t : Nat → Addr} {S : Hp} {ρ : Addr → Lb} {A : Abs} {σ : L2.St} {H : Hp} {zs : List R} {vs : List V} {P : R → Abs → Prop} {Y : PX} {Q : VK} {E : XK} (n : Now K B t S ρ A σ H) (rl : RL K S t A.M.length zs vs)
    (mono : ∀ ars (post post' : R → List (Option O) → Prop) (xp xp' : EN → List (Option O) → Prop), (∀ y os, (∀ n, y ≠ .p n) → os.length = (ownsA ars).length → post y os → post' y os) → (∀ C os, os.length = (ownsA ars).length → xp C os → xp' C os) → asp ars post xp → asp ars post' xp')
    (h : callA asp zs A P Y) (q : ∀ y A' v H', P y A' → Res K B A' y v σ H' → Q v H') (xq : ∀ C A' H', Y C A' → Rel K B A' σ H' → E (ev K C) none H') : spA K asp vs H Q E := by
  unfold callA at h
  split at h
  · rename_i ars ns e
    obtain ⟨nd, a⟩ := h
    obtain ⟨q1, q2, q3⟩ := toAR_obj e
    refine ⟨_, _, _, ars, n.h.forCall e nd, ?_, mono ars _ _ _ _ (fun y os hy ho p v H' f => ?_) (fun C os ho p H' f => ?_) a⟩
    · exact toAR_env e rl (fun j m hj => by
        rw [Nat.zero_add, List.getD_eq_getElem?_getD, hj]
        rfl) (by omega)
    · obtain ⟨_, t', S', r', M', h', o1, o2, k⟩ := f
      have hb := n.h.behindCall e nd h' o1 o2
      have hh := n.h.back hb
      refine q y _ v H' p ⟨t, S', _, hh, ?_, ?_⟩
      · exact n.s.ext hb.ext
      · cases y with
        | d x => exact k
        | p m => exact absurd rfl (hy m)
        | o x =>
          obtain ⟨a, rfl, ok⟩ := k
          exact ⟨a, rfl, ok.iff fun b => (labBack_t b).symm⟩
    · obtain ⟨t', S', r', M', h', o1, o2⟩ := f
      have hb := n.h.behindCall e nd h' o1 o2
      exact xq C _ H' p ⟨t, S', _, n.h.back hb, n.s.ext hb.ext⟩
  · exact h.elim
end
end PD

/-! PD, twelfth part: promises of defs and their calls. -/
namespace PD
open PySem PySem.Spec PyProof.Rows L2

theorem DE.weak {X : Cx} {E : WX} {e : Expr} {t : TE} {p p' : PTE} (h : DE X E e t p) (k : ∀ A P Y, p' A P Y → p A P Y) : DE X E e t p' := ⟨h.pe, fun B σ H A P Y Q rel x => h.sim B σ H A P Y Q rel (k A P Y x)⟩
theorem DS.weak {X : Cx} {E : WX} {e : Stmt} {t : TS} {p p' : PTS} (h : DS X E e t p) (k : ∀ P A, p' P A → p P A) : DS X E e t p' := ⟨h.pe, fun B σ H A P D rel x => h.sim B σ H A P D rel (k P A x)⟩
def AR.toR : AR → R
  | .d x => .d x
  | .o x => .o x
/-- no wish -/
abbrev W0 : WX := fun _ _ _ _ => False
structure Con where
  pre : List AR → Prop
  ok : List AR → AR → List (Option O) → Prop
def Con.asp (c : Con) : ASp := fun ars post _ => c.pre ars ∧ ∀ y os, os.length = (ownsA ars).length → c.ok ars y os → post y.toR os
theorem toR_no (y : AR) : ∀ n, y.toR ≠ .p n := fun n z => by cases y <;> cases z
/-- what a def hands back -/
def retA (m : Nat) (ok : AR → List (Option O) → Prop) (y : R) (A : Abs) : Prop := match y with
  | .d x => ok (.d x) (A.M.take m)
  | .o x => ok (.o x) (A.M.take m)
  | .p n => m ≤ n ∧ ∃ o, A.M[n]? = some (some o) ∧ ok (.o o) (A.M.take m)
def endsA (m : Nat) (ok : AR → List (Option O) → Prop) : PEnds := { nx := fun A => ok (.d .non) (A.M.take m), rt := retA m ok }
structure Cal (P : Program) (w : World) (K : PySem.W.Frag) (mg : Str → Option Value) (base : Heap) (k : Nat) (x : Str) (sp : Sp) : Prop where
  ex : ∃ (f : Addr) (fd : FuncData) (ps : List Str), FnOk P w K mg base CX0 k f fd ps sp ∧ mg x = some (.ref f) ∧ PySem.W.keepIn K (.ref f) = true ∧ Binds K fd ps []
def ACal (P : Program) (w : World) (K : PySem.W.Frag) (mg : Str → Option Value) (base : Heap) (k : Nat) (x : Str) (c : Con) : Prop := Cal P w K mg base k x (spA K c.asp)
section
variable {P : Program} {w : World} {K : PySem.W.Frag} {mg : Str → Option Value} {base : Heap}
theorem acal {x qual : Str} {st : Stmt} {f : Addr} {fd : FuncData} {N ps : List Str} {k : Nat} {c : Con} {p : PTS} (F : Fun K x qual st f fd) (hm : mg x = some (.ref f)) (hb : Binds K fd ps []) (Sc : FnScope N ps (defScope st))
    (hbody : ∀ (cdv : Value) (A : Around) (outer : List Env) (s : Shared) (H : Hp) (E : XK), Room k (A.deeper (envOfC qual (defScope st) s.heap.objs.size f cdv)) →
      ∃ t, DSs (cxOf CX0 P w K mg base N qual (defScope st) f cdv A outer s H E).nox W0 (defBody st) t p)
    (law : ∀ ars, c.pre ars → ars.length = ps.length ∧ p (endsA (ownsA ars).length (c.ok ars)) (fnAbs N ars)) : ACal P w K mg base (k + 1) x c := by
  refine ⟨f, fd, ps, F.ok Sc (spA_len fun ars post xp h => (law ars h.1).1) fun cdv A outer s H vs Q E hr ⟨t, S, r, ars, h, sr, a⟩ => ?_, hm, F.kp, hb⟩
  obtain ⟨tt, d⟩ := hbody cdv A outer s H E hr
  refine ⟨tt, d.pe, d.sim (baseOf t S r (ownsA ars).length H) _ H (fnAbs N ars) _ _ ⟨t, S, r, h, start_SR sr⟩ (law ars a.1).2 ?_⟩
  refine { nx := fun A' σ H' q ⟨t', S', r', h', s'⟩ => ?_, rt := fun y A' v σ H' q ⟨t', S', r', h', s', kk⟩ => ?_, bk := fun A' σ H' q _ => q.elim, ct := fun A' σ H' q _ => q.elim, ex := fun _ C A' H' q => q.elim }
  · exact a.2 _ _ (take_ok h'.nl).1 q _ _ ⟨fun n z => (by cases z), t', S', r', A'.M, h', (take_ok h'.nl).1, (take_ok h'.nl).2, DR.non⟩
  · cases y with
    | d x => exact a.2 _ _ (take_ok h'.nl).1 q _ _ ⟨fun n z => (by cases z), t', S', r', A'.M, h', (take_ok h'.nl).1, (take_ok h'.nl).2, kk⟩
    | o x => exact a.2 _ _ (take_ok h'.nl).1 q _ _ ⟨fun n z => (by cases z), t', S', r', A'.M, h', (take_ok h'.nl).1, (take_ok h'.nl).2, kk⟩
    | p n =>
      obtain ⟨rfl, hn⟩ := kk
      obtain ⟨hmn, o, e, q⟩ := q
      obtain ⟨r2, h2, ok⟩ := h'.unname e
      refine a.2 _ _ (take_ok h'.nl).1 q _ _ ⟨fun n z => (by cases z), t', S', r2, _, h2, (take_ok h'.nl).1, fun j hj => ?_, t' n, rfl, ok⟩
      have hj : j < (ownsA ars).length := hj
      rw [List.getElem?_set_ne (by omega)]
      exact (take_ok h'.nl).2 j hj
end
def callG (c : Con) (zs : List R) (A : Abs) (P : R → Abs → Prop) : Prop := match toAR A.M zs with
  | some (ars, ns) => ns.Nodup ∧ c.pre ars ∧ ∀ y os, os.length = ns.length → c.ok ars y os → P y.toR ⟨A.env, putAll A.M ns os⟩
  | none => False
def pCalls (g : List R → Abs → (R → Abs → Prop) → Prop) (q : PTA) : PTE := fun A P Y => q A (fun zs A1 => g zs A1 P) Y
def Reads (c : Con) (g : List R → Abs → (R → Abs → Prop) → Prop) : Prop := ∀ zs A P, g zs A P → callG c zs A P
theorem reads_self (c : Con) : Reads c (callG c) := fun _ _ _ h => h
theorem sim_call {K : PySem.W.Frag} {E : WX} {c : Con} {ta : TA} {q : PTA} {g : List R → Abs → (R → Abs → Prop) → Prop} (hg : Reads c g) (h : SimA K E ta q) : SimE K E (tCall (spA K c.asp) [] E0 ta) (pCalls g q) := fun B σ H A P Y Q rel p k xq => by
  refine h B σ H A _ Y _ rel p (fun zs A1 vs H1 p1 ⟨t, S, r, n, rl⟩ => ?_) xq
  rw [List.append_nil]
  refine run_callA (P := P) (Y := fun _ _ => False) n rl (fun ars post post' xp xp' h1 h2 ⟨a1, a2⟩ => ⟨a1, fun y os hl ho => h1 _ _ (toR_no y) hl (a2 y os hl ho)⟩) ?_ k fun C A H z => z.elim
  have p1 := hg _ _ _ p1
  unfold callA
  unfold callG at p1
  split at p1
  · rename_i ars ns e
    obtain ⟨nd, pr, ok⟩ := p1
    try rw [e]
    exact ⟨nd, pr, fun y os hl ho => ok y os (by rw [hl, (toAR_obj e).1]) ho⟩
  · exact p1.elim
section
variable {X : Cx} {E : WX} {k j : Nat}
theorem de_call {x : Str} {c : Con} {g : List R → Abs → (R → Abs → Prop) → Prop} (rd : Reads c g) {p pos : Pos} {e : Expr} {es : List Expr} {ta : TA} {q : PTA} (h : ACal X.prog X.w X.K X.mg X.base k x c) (hr : Room j X.A) (hk : k ≤ j) (hg : Gl X x) (ha : DA X E (e :: es) ta q)
    (hdb : (x == ("__debug__" : Str)) = false := by decide) (he : starEach (e :: es) X.env = (false, eval e X.env) :: starEach es X.env := by rfl) (hpl : (backTo pos (starEach es X.env)).any (·.1) = false := by rfl) :
    DE X E (.Call (.Name x p) (e :: es) [] pos) (tCall (spA X.K c.asp) [] E0 ta) (pCalls g q) := by
  obtain ⟨f, fd, ps, F, hm, kp, b⟩ := h.ex
  exact ⟨pe_call F (hr.mono hk) hg hm kp b .nil pass0 ha.pe hdb he hpl, sim_call rd ha.sim⟩
end
/-! ### defs that only read -/
theorem putAll_same {M : List (Option O)} {zs : List R} {ars : List AR} {ns : List Nat} (nd : ns.Nodup) (e : toAR M zs = some (ars, ns)) : putAll M ns (ownsA ars) = M := by
  obtain ⟨q1, q2, q3⟩ := toAR_obj e
  apply List.ext_getElem?
  intro i
  by_cases hi : i ∈ ns
  · obtain ⟨j, hj⟩ := List.mem_iff_getElem?.mp hi
    rw [putAll_in M ns _ j i nd q1.symm q2 hj, q3 j i hj]
  · exact putAll_out M ns _ hi
def conN (pre : List AR → Prop) (ok : List AR → AR → Prop) : Con := ⟨pre, fun ars y os => ok ars y ∧ os = ownsA ars⟩
def conP (pre : List AR → Prop) (F : List AR → AR) : Con := conN pre fun ars y => y = F ars
def callN (pre : List AR → Prop) (ok : List AR → AR → Prop) (zs : List R) (A : Abs) (P : R → Abs → Prop) : Prop := match toAR A.M zs with
  | some (ars, ns) => ns.Nodup ∧ pre ars ∧ ∀ y, ok ars y → P y.toR A
  | none => False
def callP (pre : List AR → Prop) (F : List AR → AR) (zs : List R) (A : Abs) (P : R → Abs → Prop) : Prop := match toAR A.M zs with
  | some (ars, ns) => ns.Nodup ∧ pre ars ∧ P (F ars).toR A
  | none => False
theorem reads_N (pre : List AR → Prop) (ok : List AR → AR → Prop) : Reads (conN pre ok) (callN pre ok) := fun zs A P h => by
  unfold callN at h
  unfold callG
  split at h
  · rename_i ars ns e
    obtain ⟨nd, h0, h⟩ := h
    refine ⟨nd, h0, fun y' os hl ⟨h1, h2⟩ => ?_⟩
    rw [h2, putAll_same nd e]
    exact h _ h1
  · exact h.elim
theorem reads_P (pre : List AR → Prop) (F : List AR → AR) : Reads (conP pre F) (callP pre F) := fun zs A P h => reads_N _ _ zs A P (by
  unfold callP at h
  unfold callN
  split at h
  · exact ⟨h.1, h.2.1, fun y e => by rw [e]; exact h.2.2⟩
  · exact h.elim)
theorem hu65_of {A : Around} {k : Nat} (hr : Room k A) : A.units + 65 < cLine := by have := hr.un; omega
end PD

/-! PD, thirteenth part: names let go; a comprehension set to a name. -/
namespace PD
open PySem PySem.Spec PyProof.Rows L2

def truncE (m : Nat) : AV → AV
  | .p n => if n < m then .p n else .un
  | x => x
def trunc (m : Nat) (A : Abs) : Abs := ⟨A.env.map (truncE m), A.M.take m⟩
theorem HR.trunc {K : PySem.W.Frag} {B : Bas} {t : Nat → Addr} {S : Hp} {r : Addr → Lb} {M : List (Option O)} {H : Hp} (h : HR K B t S r M H) {m : Nat} (hm : B.n ≤ m) :
    ∃ r', HR K B t S r' (M.take m) H := by
  have c1 : ∀ a k, k < m → ((match r a with
    | some (some n) => if n < m then some (some n) else none
    | x => x : Lb) = some (some k) ↔ r a = some (some k)) := fun a k hk => by
    constructor
    · intro z
      split at z
      · rename_i n e
        split at z
        · cases z; exact e
        · cases z
      · exact z
    · intro z
      rw [z]
      simp only
      rw [if_pos hk]
  have c2 : ∀ a l, (match r a with
    | some (some n) => if n < m then some (some n) else none
    | x => x : Lb) = some l → r a = some l := fun a l z => by
    split at z
    · rename_i n e
      split at z
      · rw [e]; exact z
      · cases z
    · exact z
  refine ⟨fun a => match r a with
    | some (some n) => if n < m then some (some n) else none
    | x => x, h.le, fun a l z => h.sep a l (c2 a l z), fun a k z => ?_, fun k o z => ?_, h.keep, fun a l z => h.own a l (c2 a l z), h.stb, h.bas, h.th, ?_⟩
  · have z' := c2 a _ z
    have q := h.lab a k z'
    have : k < m := by
      have z : (match r a with
        | some (some n) => if n < m then some (some n) else none
        | x => x : Lb) = some (some k) := z
      rw [z'] at z
      simp only at z
      split at z
      · assumption
      · cases z
    rw [List.length_take]
    omega
  · have hk : k < m := by
      have := (List.getElem?_eq_some_iff.mp z).1
      rw [List.length_take] at this
      omega
    rw [List.getElem?_take, if_pos hk] at z
    exact (h.obj k o z).iff fun b => (c1 b k hk).symm
  · rw [List.length_take]
    have := h.nl
    omega
theorem Rel.trunc {K : PySem.W.Frag} {B : Bas} {A : Abs} {σ : L2.St} {H : Hp} (rel : Rel K B A σ H) {m : Nat} (hm : B.n ≤ m) : Rel K B (trunc m A) σ H := by
  obtain ⟨t, S, r, h, s⟩ := rel
  obtain ⟨r', h'⟩ := h.trunc hm
  refine ⟨t, S, r', h', by show (A.env.map (truncE m)).length = _; rw [List.length_map]; exact s.len, fun i av e => ?_⟩
  have e : (A.env.map (truncE m))[i]? = some av := e
  rw [List.getElem?_map] at e
  cases q : A.env[i]? with
  | none => rw [q] at e; cases e
  | some b =>
    rw [q] at e
    have e : truncE m b = av := by simpa using e
    have ok := s.ok i b q
    cases b with
    | un => subst e; trivial
    | d x => subst e; exact ok
    | p n =>
      simp only [truncE] at e
      split at e
      · rename_i hn
        subst e
        refine ⟨ok.1, ?_⟩
        show n < (A.M.take m).length
        rw [List.length_take]
        have := ok.2
        omega
      · subst e; trivial
/-- behind these statements what they made is let go -/
def pGc (p : PTS) : PTS := fun P A => p { P with nx := fun A' => P.nx (trunc A.M.length A'), ct := fun A' => P.ct (trunc A.M.length A'), bk := fun A' => P.bk (trunc A.M.length A') } A
theorem DSs.gc {X : Cx} {E : WX} {e : List Stmt} {t : TS} {p : PTS} (h : DSs X E e t p) : DSs X E e t (pGc p) := ⟨h.pe, fun B σ H A P D rel x c => by
  have hm : B.n ≤ A.M.length := by
    obtain ⟨t, S, r, h, s⟩ := rel
    exact h.nl
  exact h.sim B σ H A _ D rel x { nx := fun A' σ' H' q r => c.nx _ σ' H' q (r.trunc hm), rt := c.rt, bk := fun A' σ' H' q r => c.bk _ σ' H' q (r.trunc hm), ct := fun A' σ' H' q r => c.ct _ σ' H' q (r.trunc hm), ex := c.ex }⟩
section
variable {X : Cx} {E : WX}
theorem ds_setLc (i : Nat) {y : Str} {py : Pos} {elt tg iter : Expr} {ifs : List Expr} {scope : Scope} {own : List (Str × Nat)} {pos spos : Pos} {wi : TI} {ps : PTI} {g : TG} {pg : PTG} {ix : List Nat} {tt : TT} {pt : PTT} {te : TE} {pe : PTE} (hc : X.calm = true) (hN : X.N.Nodup) (hi : DI X E tg iter wi ps) (ok : blkC X.N X.env.scope scope own = true)
    (hg : ∀ (s : Shared) (H : Hp) (C : Addr) (cl : List (Str × Addr)) (fp : List Addr), DG (X.blk s H scope (compEnvC scope cl C X.env) fp) tg g pg ix) (ht : ∀ (s : Shared) (H : Hp) (C : Addr) (cl : List (Str × Addr)) (fp : List Addr), DTs (X.blk s H scope (compEnvC scope cl C X.env) fp) E ifs tt pt)
    (he : ∀ (s : Shared) (H : Hp) (C : Addr) (cl : List (Str × Addr)) (fp : List Addr), DE (X.blk s H scope (compEnvC scope cl C X.env) fp) E elt te pe) (hix : ∀ i ∈ ix, i ∈ own.map (·.2)) (inh : Shared × Hp) 
    (hy : X.N[i]? = some y := by rfl) (hyl : X.env.scope.names.lookup y = some .local := by rfl) (hsw : swapsWith (.ListComp elt [⟨tg, iter, ifs, 0⟩] scope pos) (some (.Name y py)) spos.line X.env = pure true := by exact sw_true rfl rfl rfl (by decide +kernel)) (hs : ∀ x, foldedSetIterable iter X.env x = pure x := by intro _; rfl) :
    DS X E (.Assign [.Name y py] (.ListComp elt [⟨tg, iter, ifs, 0⟩] scope pos) spos) (tAsg (tLc wi g tt te (own.map (·.2))) (gName i)) (pSet i (pLc ps pg pt pe (own.map (·.2)))) :=
  ⟨ps_setLc hc hN hy hyl hsw hi.pi (blkOk_by ok) (fun s H C cl fp => (hg s H C cl fp).pg) (fun s H C cl fp => (ht s H C cl fp).pe) (fun s H C cl fp => (he s H C cl fp).pe) hs,
    sim_set (sim_lc hi.sim (hg inh.1 inh.2 0 [] []).sim (ht inh.1 inh.2 0 [] []).sim (he inh.1 inh.2 0 [] []).sim hix)⟩
theorem ds_setLcD (i : Nat) {y : Str} {py : Pos} {elt tg iter : Expr} {ifs : List Expr} {scope : Scope} {own : List (Str × Nat)} {pos spos : Pos} {wi : TI} {ps : PTI} {g : TG} {pg : PTG} {ix : List Nat} {tt : TT} {pt : PTT} {te : TE} {pe : PTE} (hc : X.calm = true) (hN : X.N.Nodup) (hi : DI X E tg iter wi ps) (ok : blkC X.N X.env.scope scope own = true)
    (hg : ∀ (s : Shared) (H : Hp) (C : Addr) (cl : List (Str × Addr)) (fp : List Addr), DG (X.blk s H scope (compEnvC scope cl C X.env) fp) tg g pg ix) (ht : ∀ (s : Shared) (H : Hp) (C : Addr) (cl : List (Str × Addr)) (fp : List Addr), DTs (X.blk s H scope (compEnvC scope cl C X.env) fp) E ifs tt pt)
    (he : ∀ (s : Shared) (H : Hp) (C : Addr) (cl : List (Str × Addr)) (fp : List Addr), DE (X.blk s H scope (compEnvC scope cl C X.env) fp) E elt te pe) (hix : ∀ i ∈ ix, i ∈ own.map (·.2)) (inh : Shared × Hp) 
    (hy : X.N[i]? = some y := by rfl) (hyl : X.env.scope.names.lookup y = some .local := by rfl) (hsw : swapsWith (.ListComp elt [⟨tg, iter, ifs, 0⟩] scope pos) (some (.Name y py)) spos.line X.env = pure true := by exact sw_true rfl rfl rfl (by decide +kernel)) (hs : ∀ x, foldedSetIterable iter X.env x = pure x := by intro _; rfl) :
    DS X E (.Assign [.Name y py] (.ListComp elt [⟨tg, iter, ifs, 0⟩] scope pos) spos) (tAsg (tLc wi g tt te (own.map (·.2))) (gName i)) (pSetD i (pLc ps pg pt pe (own.map (·.2)))) :=
  ⟨ps_setLc hc hN hy hyl hsw hi.pi (blkOk_by ok) (fun s H C cl fp => (hg s H C cl fp).pg) (fun s H C cl fp => (ht s H C cl fp).pe) (fun s H C cl fp => (he s H C cl fp).pe) hs,
    sim_setD (sim_lc hi.sim (hg inh.1 inh.2 0 [] []).sim (ht inh.1 inh.2 0 [] []).sim (he inh.1 inh.2 0 [] []).sim hix)⟩
end
end PD

/-! PD, fourteenth part: the rules with the fragment named, so that they stand within comprehensions. -/
namespace PD
open PySem PySem.Spec PyProof.Rows L2
section
variable {X : Cx} {E : WX} {K : PySem.W.Frag}
theorem kisi {t : TE} {T : String} {e : Expr} {p : PTE} {x y : Str} {p1 p2 pos : Pos} (h : DE X E e t p) (hT : T ∈ okT) (hg : Gl X x) (hm : X.mg x = none) (hv : bootBuiltins x = some (.builtin "isinstance")) (hg2 : Gl X y) (hm2 : X.mg y = none) (hv2 : bootBuiltins y = some (.type T)) (hK : X.K = K := by rfl)
    (hn2 : y ≠ "__name__" := by decide) (hd2 : (y == ("__debug__" : Str)) = false := by decide)
    (hn : x ≠ "__name__" := by decide) (hdb : (x == ("__debug__" : Str)) = false := by decide) (he : starEach [e, .Name y p2] X.env = (false, eval e X.env) :: starEach [.Name y p2] X.env := by rfl) (hpl : (backTo pos (starEach [.Name y p2] X.env)).any (·.1) = false := by rfl)
    (he2 : starEach [.Name y p2] X.env = (false, eval (.Name y p2) X.env) :: starEach [] X.env := by rfl) : DE X E (.Call (.Name x p1) [e, .Name y p2] [] pos) (tCB (rIsi K) (tCons t (tCons (tC (.ty T)) tNil))) (pIsiP T p) := by
  subst hK
  exact de_isi h hT hg hm hv hg2 hm2 hv2 hn2 hd2 hn hdb he hpl he2
theorem kix {ta tb : TE} {a b : Expr} {pa pb : PTE} {pos : Pos} (hu : X.A.units + 1 < cLine) (ha : DE X E a ta pa) (hb : DE X E b tb pb) (hK : X.K = K := by rfl) (hs : PlainIx b := by exact fun _ _ => rfl) : DE X E (.Subscript a b pos) (tOp (rIxA K) ta tb) (pOp2 bIx pa pb) := by
  subst hK
  exact de_ix hu ha hb hs
theorem ksl {ta : TE} {tl th : TO} {e : Expr} {lo hi : Option Expr} {pa : PTE} {pl ph : PTO} {pos p2 : Pos} (ha : DE X E e ta pa) (hl : DO X E lo tl pl) (hh : DO X E hi th ph) (hK : X.K = K := by rfl) : DE X E (.Subscript e (.Slice lo hi none p2) pos) (tSl (rSlA K) ta tl th) (pSl pa pl ph) := by
  subst hK
  exact de_sl ha hl hh
theorem ksortI {t : TE} {e : Expr} {pe : PTE} {p apos cpos pos : Pos} (hc : X.calm = true) (hu : X.A.units + 64 < cLine) (he : DE X E e t pe) (hg : Gl X "sorted") (hm : X.mg "sorted" = none) (hv : bootBuiltins "sorted" = some (.builtin "sorted")) (hK : X.K = K := by rfl) (hbase : attributeBase e "items" X.env (eval e X.env) = eval e X.env := by rfl) (hline : (apos.endLine == cpos.line) = true := by rfl)
    (hs : starEach [.Call (.Attribute e "items" apos) [] [] cpos] X.env = (false, eval (.Call (.Attribute e "items" apos) [] [] cpos) X.env) :: starEach [] X.env := by rfl) (hpl : (backTo pos (starEach ([] : List Expr) X.env)).any (·.1) = false := by rfl) :
    DE X E (.Call (.Name "sorted" p) [.Call (.Attribute e "items" apos) [] [] cpos] [] pos) (tSortI K t) (pSortI pe) := by
  subst hK
  exact de_sortI hc hu he hg hm hv hbase hline hs hpl
theorem kjoin {ta tb : TE} {o e : Expr} {pa pb : PTE} {apos pos : Pos} (ha : DE X E o ta pa) (hb : DE X E e tb pb) (hK : X.K = K := by rfl) (hs : starEach [e] X.env = [(false, eval e X.env)] := by rfl) (hbase : attributeBase o "join" X.env (eval o X.env) = eval o X.env := by rfl) (hline : (apos.endLine == pos.line) = true := by rfl) :
    DE X E (.Call (.Attribute o "join" apos) [e] [] pos) (tM1 (rJoin K) ta tb) (pM1 bJoin pa pb) := by
  subst hK
  exact de_join ha hb hs hbase hline
theorem klm {o e : Expr} {es : List Expr} {name : Str} {id : String} {r : V → List V → Hp → VK → Prop} {lm : LM} {to : TE} {ta : TA} {po : PTE} {pa : PTA} {apos cpos : Pos} (slot : Slot "list" name id) (hty : typeOf (.builtin id) = pure (.type "method_descriptor")) (hm : MtR X id r) (hr : SndL K r lm)
    (ho : DE X E o to po) (ha : DA X E (e :: es) ta pa) (hK : X.K = K := by rfl) (hbase : attributeBase o name X.env (eval o X.env) = eval o X.env := by rfl)
    (hfew : ((backTo cpos (starEach (e :: es) X.env)).all (fun x => !x.1) && (backToKw cpos (keywordEach [] X.env)).all (fun x => x.1.isSome)
      && decide ((e :: es).length + ([] : List Keyword).length + (if ([] : List Keyword).isEmpty then 0 else 1) < 30)) = true := by rfl)
    (hline : (apos.endLine == cpos.line) = true := by rfl) (hs : starEach (e :: es) X.env = (false, eval e X.env) :: starEach es X.env := by rfl) (hplain : (backTo cpos (starEach es X.env)).any (·.1) = false := by rfl) :
    DE X E (.Call (.Attribute o name apos) (e :: es) [] cpos) (tBM K "list" r to ta) (pLM lm po pa) := by
  subst hK
  exact de_lm slot hty hm hr ho ha hbase hfew hline hs hplain
theorem ktru {a : Expr} {t : TE} {p : PTE} (h : DE X E a t p) (hK : X.K = K := by rfl) (he : ∀ whole, isTrue a X.env whole = (do let v ← whole; standAt a.pos; holding [v] (truthy v)) := by intro _; rfl) : DT X E a (tTru K t) (pTru p) := by
  subst hK
  exact dt_tru h he
theorem klst {tg e : Expr} {te : TE} {p : PTE} (h : DE X E e te p) (hK : X.K = K := by rfl) : DI X E tg e (iList K te) (pItL p) := by
  subst hK
  exact di_lst h
theorem kcall {k j : Nat} {x : Str} {c : Con} {g : List R → Abs → (R → Abs → Prop) → Prop} {p pos : Pos} {e : Expr} {es : List Expr} {ta : TA} {q : PTA} (rd : Reads c g) (h : ACal X.prog X.w K X.mg X.base k x c) (hr : Room j X.A) (hk : k ≤ j) (hg : Gl X x) (ha : DA X E (e :: es) ta q) (hK : X.K = K := by rfl)
    (hdb : (x == ("__debug__" : Str)) = false := by decide) (he : starEach (e :: es) X.env = (false, eval e X.env) :: starEach es X.env := by rfl) (hpl : (backTo pos (starEach es X.env)).any (·.1) = false := by rfl) :
    DE X E (.Call (.Name x p) (e :: es) [] pos) (tCall (spA K c.asp) [] E0 ta) (pCalls g q) := by
  subst hK
  exact de_call rd h hr hk hg ha hdb he hpl
theorem kdg_t (is : List Nat) {es : List Expr} {k : Nat} {pos : Pos} (hc : X.calm = true) (h : PGs X es (gNames is)) (hK : X.K = K := by rfl) (hn : (assignEach es X.env).length = is.length := by rfl) (hst : (assignEach es X.env).findIdx? (·.1) = none := by rfl) : DG X (.Tuple es k pos) (gTup K is.length (gNames is)) (tgT is) is := by
  subst hK
  exact dg_t is hc h hn hst
end
def rListA (K : PySem.W.Frag) : List V → Hp → VK → Prop := fun xs H Q => ∃ p ys, xs = [.ref p] ∧ (SqL K H p ys ∨ SqT K H p ys) ∧ ∀ l, H l = none → Q (.ref l) (upd H l (.lst ys))
/-! list.insert -/
def rInsert : V → List V → Hp → VK → Prop := fun x vs H Q => ∃ (l : Addr) (xs : List V) (i : Int) (y : V), x = .ref l ∧ vs = [.int i, y] ∧ H l = some (.lst xs) ∧ xs.length < sizeLine ∧ 0 ≤ i ∧ i < 2 ^ 63 ∧
    Q .non (upd H l (.lst (xs.take i.toNat ++ [y] ++ xs.drop i.toNat)))
end PD

/-! PD, fifteenth part: readings of loops. -/
namespace PD
open PySem PySem.Spec PyProof.Rows L2
/-- the list that a comprehension makes -/
def lcL (n : Nat) (o : Nat → Option D) : List D := (List.range n).filterMap o
theorem lcL_zero (o : Nat → Option D) : lcL 0 o = [] := rfl
theorem lcL_succ (n : Nat) (o : Nat → Option D) : lcL (n + 1) o = lcL n o ++ (match o n with
  | some d => [d]
  | none => []) := by
  unfold lcL
  rw [List.range_succ, List.filterMap_append]
  congr 1
  cases h : o n <;> simp [List.filterMap, h]
theorem lcL_len (n : Nat) (o : Nat → Option D) : (lcL n o).length ≤ n := by
  unfold lcL
  have := List.length_filterMap_le o (List.range n)
  rwa [List.length_range] at this
def LcP (n : Nat) (it : Nat → D) (C : List (Option O) → Prop) (tg : PTG) (tt : PTT) (pe : PTE) (vs : List Nat) (A1 : Abs) (P : R → Abs → Prop) (Y : PX) : Prop := ∃ Inv : Nat → List D → List (Option O) → Prop, Inv 0 [] A1.M ∧ (∀ i acc M, i ≤ n → Inv i acc M → C M) ∧
  (∀ i acc M, i < n → Inv i acc M → ∃ env', tg (it i) (wipeA A1.env vs) = some env' ∧ tt ⟨env', M⟩ (fun b A2 => if b = true then pe A2 (fun y A3 => match y.fz with
      | some (.d d) => acc.length < 16777216 ∧ Inv (i + 1) (acc ++ [d]) A3.M
      | _ => False) Y else Inv (i + 1) acc A2.M) Y) ∧
  (∀ acc M, Inv n acc M → P (.o (.lst acc)) ⟨A1.env, M⟩)
theorem pLc_eq (ps : PTI) (tg : PTG) (tt : PTT) (pe : PTE) (vs : List Nat) (A : Abs) (P : R → Abs → Prop) (Y : PX) : pLc ps tg tt pe vs A P Y = ps A (fun n it C A1 => LcP n it C tg tt pe vs A1 P noX) Y := rfl
/-- what a turn hands on -/
def Hand (J : Option D → List (Option O) → Prop) (pe : PTE) (Y : PX) : Bool → Abs → Prop := fun b A2 => if b = true then pe A2 (fun y A3 => match y.fz with
      | some (.d d) => J (some d) A3.M
      | _ => False) Y else J none A2.M
theorem lc_run {n : Nat} {it : Nat → D} {C : List (Option O) → Prop} {tg : PTG} {tt : PTT} {pe : PTE} {vs : List Nat} {A1 : Abs} {P : R → Abs → Prop} {Y : PX} (o : Nat → Option D) (hC : C A1.M) (hn : n ≤ 16777216)
    (hs : ∀ i, i < n → ∃ env', tg (it i) (wipeA A1.env vs) = some env' ∧ ∀ J : Option D → List (Option O) → Prop, J (o i) A1.M → tt ⟨env', A1.M⟩ (Hand J pe Y) Y) (hp : P (.o (.lst (lcL n o))) A1) : LcP n it C tg tt pe vs A1 P Y := by
  refine ⟨fun i acc M => M = A1.M ∧ acc = lcL i o, ⟨rfl, rfl⟩, fun i acc M _ ⟨h, _⟩ => by rw [h]; exact hC, fun i acc M hi ⟨h1, h2⟩ => ?_, fun acc M ⟨h1, h2⟩ => by rw [h1, h2]; exact hp⟩
  obtain ⟨env', e, k⟩ := hs i hi
  refine ⟨env', e, ?_⟩
  rw [h1]
  refine k (fun x M => match x with
    | some d => acc.length < 16777216 ∧ M = A1.M ∧ acc ++ [d] = lcL (i + 1) o
    | none => M = A1.M ∧ acc = lcL (i + 1) o) ?_
  have hl : acc.length < 16777216 := by
    rw [h2]
    have := lcL_len i o
    omega
  cases q : o i with
  | none => exact ⟨rfl, by rw [lcL_succ, q, h2, List.append_nil]⟩
  | some d => exact ⟨hl, rfl, by rw [lcL_succ, q, h2]⟩
/-- .. whose parts touch owned things: the state stays, what a turn gives is any of these -/
theorem lc_any {n : Nat} {it : Nat → D} {C : List (Option O) → Prop} {tg : PTG} {tt : PTT} {pe : PTE} {vs : List Nat} {A1 : Abs} {P : R → Abs → Prop} {Y : PX} (G : D → Prop) (hC : C A1.M) (hn : n ≤ 16777216)
    (hs : ∀ i, i < n → ∃ env', tg (it i) (wipeA A1.env vs) = some env' ∧ ∀ J : Option D → List (Option O) → Prop, (∀ d, G d → J (some d) A1.M) → tt ⟨env', A1.M⟩ (Hand J pe Y) Y) (hp : ∀ ds : List D, ds.length = n → (∀ d ∈ ds, G d) → P (.o (.lst ds)) A1) : LcP n it C tg tt pe vs A1 P Y := by
  refine ⟨fun i acc M => M = A1.M ∧ acc.length = i ∧ ∀ d ∈ acc, G d, ⟨rfl, rfl, fun d h => by simp at h⟩, fun i acc M _ ⟨h, _⟩ => by rw [h]; exact hC, fun i acc M hi ⟨h1, h2, h3⟩ => ?_, fun acc M ⟨h1, h2, h3⟩ => by rw [h1]; exact hp acc h2 h3⟩
  obtain ⟨env', e, k⟩ := hs i hi
  refine ⟨env', e, ?_⟩
  rw [h1]
  refine k (fun x M => match x with
    | some d => acc.length < 16777216 ∧ M = A1.M ∧ (acc ++ [d]).length = i + 1 ∧ ∀ z ∈ acc ++ [d], G z
    | none => M = A1.M ∧ acc.length = i + 1 ∧ ∀ d ∈ acc, G d) fun d hd => ⟨by omega, rfl, by simp [h2], fun z hz => ?_⟩
  rcases List.mem_append.mp hz with hz | hz
  · exact h3 z hz
  · rw [List.mem_singleton] at hz
    rw [hz]
    exact hd
def ForP (n : Nat) (it : Nat → D) (C : List (Option O) → Prop) (tg : PTG) (body : PTS) (P : PEnds) (A1 : Abs) : Prop := ∃ Inv : Nat → Abs → Prop, Inv 0 A1 ∧ (∀ i A', i ≤ n → Inv i A' → C A'.M) ∧
  (∀ i A', i < n → Inv i A' → ∃ env', tg (it i) A'.env = some env' ∧ body { P with nx := Inv (i + 1), ct := Inv (i + 1), bk := P.nx } ⟨env', A'.M⟩) ∧ (∀ A', Inv n A' → P.nx A')
theorem pFor_eq (ps : PTI) (tg : PTG) (body : PTS) (P : PEnds) (A : Abs) : pFor ps tg body P A = ps A (fun n it C A1 => ForP n it C tg body P A1) P.ex := rfl
def Then (q : PTS) (P : PEnds) (A : Abs) : Prop := q P A
theorem pSeq_then (p q : PTS) (P : PEnds) (A : Abs) : pSeq p q P A = p { P with nx := Then q P } A := rfl
def Law (p : PTS) (N : List Str) (m : Nat) (c : Con) : Prop := ∀ ars, c.pre ars → ars.length = m ∧ p (endsA (ownsA ars).length (c.ok ars)) (fnAbs N ars)
/-! sizes and layouts -/
def abc : Tx := [97, 98, 99, 100, 101, 102, 103, 104, 105, 106, 107, 108, 109, 110, 111, 112, 113, 114, 115, 116, 117, 118, 119, 120, 121, 122]
def small (l : Tx) : Bool := l.all fun c => decide (c ∈ abc)
def okX (l : Tx) : Prop := l.all (· < 0x110000) = true
theorem small_okX {l : Tx} (h : small l = true) : okX l := by
  unfold small at h
  unfold okX
  rw [List.all_eq_true] at h ⊢
  intro c hc
  have := of_decide_eq_true (h c hc)
  simp only [abc, List.mem_cons, List.not_mem_nil, or_false] at this
  simp only [decide_eq_true_eq]
  omega
theorem chks_map {α : Type} (f : α → D) (xs : List α) (h : ∀ x ∈ xs, chk (f x) = true) : chks (xs.map f) = true := by
  induction xs with
  | nil => rfl
  | cons a r ih =>
    simp only [List.map_cons, chks, Bool.and_eq_true]
    exact ⟨h a (by simp), ih fun x hx => h x (by simp [hx])⟩
theorem deps_le {m : Nat} : ∀ xs : List D, (∀ x ∈ xs, dep x ≤ m) → deps xs ≤ m
  | [], _ => Nat.zero_le _
  | a :: r, h => by
    simp only [deps]
    exact Nat.max_le.mpr ⟨h a (by simp), deps_le r fun x hx => h x (by simp [hx])⟩
theorem chks_all : ∀ xs : List D, (∀ x ∈ xs, chk x = true) → chks xs = true
  | [], _ => rfl
  | a :: r, h => by
    simp only [chks, Bool.and_eq_true]
    exact ⟨h a (by simp), chks_all r fun x hx => h x (by simp [hx])⟩
theorem okD_lst {xs : List D} {m : Nat} (hm : m < 60) (h : ∀ x ∈ xs, chk x = true ∧ dep x ≤ m) : okD (.lst xs) :=
  ⟨by simp only [chk]; exact chks_all xs fun x hx => (h x hx).1, by
    simp only [dep]
    have := deps_le xs fun x hx => (h x hx).2
    omega⟩
theorem okD_nil : okD (.lst []) := okD_lst (m := 0) (by decide) fun x h => by simp at h
theorem chkx_str {l : Tx} (h : okX l) : chk (.str l) = true ∧ dep (.str l) ≤ 0 := ⟨by simp only [chk]; exact h, Nat.le_refl _⟩
end PD

/-! PD, sixteenth part: slices. -/
namespace PD
open PySem PySem.Spec PyProof.Rows L2
theorem sIx_pos {n d : Nat} {a : Int} (h : 0 ≤ a) : HT.sIx n d (some a) = min a.toNat n := by
  obtain ⟨k, rfl⟩ := Int.eq_ofNat_of_zero_le h
  rw [HT.sIx_nat, Int.toNat_natCast]
theorem dropmin {α : Type} (l : List α) (a : Nat) : l.drop (min a l.length) = l.drop a := by
  by_cases h : a ≤ l.length
  · rw [Nat.min_eq_left h]
  · rw [Nat.min_eq_right (by omega), List.drop_eq_nil_of_le (Nat.le_refl _), List.drop_eq_nil_of_le (by omega)]
theorem cut_ab {α : Type} {l : List α} {a b : Int} (ha : 0 ≤ a) (hb : 0 ≤ b) : cutL l (some a) (some b) = (l.drop a.toNat).take (b.toNat - a.toNat) := by
  unfold cutL
  rw [sIx_pos ha, sIx_pos hb, dropmin]
  apply List.ext_getElem?
  intro i
  rw [List.getElem?_take, List.getElem?_take, List.getElem?_drop]
  by_cases h1 : i < b.toNat - a.toNat
  · rw [if_pos h1]
    by_cases h2 : i < min b.toNat l.length - min a.toNat l.length
    · rw [if_pos h2]
    · rw [if_neg h2, List.getElem?_eq_none (by omega)]
  · rw [if_neg h1]
    split
    · rw [List.getElem?_eq_none (by omega)]
    · rfl
theorem cut_a {α : Type} {l : List α} {a : Int} (ha : 0 ≤ a) : cutL l (some a) none = l.drop a.toNat := by
  unfold cutL
  rw [sIx_pos ha, dropmin]
  show (l.drop a.toNat).take (l.length - _) = _
  rw [List.take_of_length_le]
  rw [List.length_drop]
  omega
theorem cut_b {α : Type} {l : List α} {b : Int} (hb : 0 ≤ b) : cutL l none (some b) = l.take b.toNat := by
  unfold cutL
  rw [sIx_pos hb]
  show (l.drop 0).take (_ - 0) = _
  rw [List.drop_zero, Nat.sub_zero]
  by_cases h : b.toNat ≤ l.length
  · rw [Nat.min_eq_left h]
  · rw [Nat.min_eq_right (by omega), List.take_length, List.take_of_length_le (by omega)]
/-! lists by place -/
theorem lcL_take {α : Type} (xs : List α) (z : α) (p : α → Bool) (f : α → D) : ∀ n, n ≤ xs.length → lcL n (fun i => if p (xs.getD i z) = true then some (f (xs.getD i z)) else none) = ((xs.take n).filter p).map f
  | 0, _ => rfl
  | n + 1, h => by
    have hn : n < xs.length := by omega
    rw [lcL_succ, lcL_take xs z p f n (by omega), List.take_succ, List.getElem?_eq_getElem hn, List.filter_append, List.map_append]
    congr 1
    have : xs.getD n z = xs[n] := by rw [List.getD_eq_getElem?_getD, List.getElem?_eq_getElem hn]; rfl
    rw [this]
    cases q : p xs[n] <;> simp [List.filter, q]
theorem lcL_map {α : Type} (xs : List α) (z : α) (p : α → Bool) (f : α → D) : lcL xs.length (fun i => if p (xs.getD i z) = true then some (f (xs.getD i z)) else none) = (xs.filter p).map f := by
  rw [lcL_take xs z p f xs.length (Nat.le_refl _), List.take_length]
theorem lcL_all (n : Nat) (f : Nat → D) : lcL n (fun i => some (f i)) = (List.range n).map f := by
  unfold lcL
  induction List.range n with
  | nil => rfl
  | cons a r ih => simp [ih]
end PD

/-! PD, seventeenth part: more rules. -/
namespace PD
open PySem PySem.Spec PyProof.Rows L2
def pNeg (p : PTE) : PTE := fun A P Y => p A (fun y A1 => match y with
  | .d (.int i) => P (.d (.int (-i))) A1
  | _ => False) Y
section
variable {X : Cx} {E : WX} {K : PySem.W.Frag}
theorem de_neg {t : TE} {e : Expr} {p : PTE} {pos : Pos} (h : DE X E e t p) : DE X E (.UnaryOp .USub e pos) (tUn (rU fun i => .int (-i)) t) (pNeg p) := ⟨pe_un un_neg h.pe, fun B σ H A P Y Q rel k c xq => h.sim B σ H A _ Y _ rel k (fun y A1 v H1 p1 r1 => by
  split at p1
  · rename_i i
    obtain ⟨t, S, r, hh, s, kk⟩ := r1
    cases DR.int_of kk
    exact ⟨i, rfl, c _ A1 _ H1 p1 ⟨t, S, r, hh, s, .int _⟩⟩
  · exact p1.elim) xq⟩
theorem simg_u {is : List Nat} : SimG K (gUnl K is.length (gNames is)) (fun x env => match x with
  | .lst xs => setsA is xs env
  | _ => none) is := fun S H t m x v env env' σ Q le s d e q => by
  simp only at e
  split at e
  · rename_i xs
    obtain ⟨a, vs, rfl, h1, h2⟩ := d.lst_of
    exact ⟨a, vs, rfl, SqL.of (le.lst h1), by rw [h2.length]; exact (setsA_len e).symm, sets_run s h2 e q⟩
  · cases e
def tgU (is : List Nat) : PTG := fun x env => match x with
  | .lst xs => setsA is xs env
  | _ => none
theorem kdg_u (is : List Nat) {es : List Expr} {k : Nat} {pos : Pos} (hc : X.calm = true) (h : PGs X es (gNames is)) (hK : X.K = K := by rfl) (hn : (assignEach es X.env).length = is.length := by rfl) (hst : (assignEach es X.env).findIdx? (·.1) = none := by rfl) : DG X (.Tuple es k pos) (gUnl K is.length (gNames is)) (tgU is) is := by
  subst hK
  exact ⟨pg_unl hc h hn hst, simg_u⟩
/-! list(range(..)) -/
def rgD (a b : Int) : List D := (List.range (b - a).toNat).map fun i => D.int (a + (i : Nat))
theorem rgV_DRs {S : Hp} (a b : Int) : DRs K S (rgV a b) (rgD a b) := by
  unfold rgV rgD
  induction List.range (b - a).toNat with
  | nil => exact .nil
  | cons x r ih => exact .cons (.int _) ih
def pLr2 (pa pb : PTE) : PTE := fun A P Y => pa A (fun y1 A1 => match y1 with
  | .d (.int i) => pb A1 (fun y2 A2 => match y2 with
    | .d (.int j) => RgOk i j ∧ P (.o (.lst (rgD i j))) A2
    | _ => False) Y
  | _ => False) Y
theorem de_lr2 {a b : Expr} {ta tb : TE} {pa pb : PTE} {p p2 pos pos2 : Pos} (hc : X.calm = true) (hg : Gl X "list") (hm : X.mg "list" = none) (hg2 : Gl X "range") (hm2 : X.mg "range" = none) (ha : DE X E a ta pa) (hb : DE X E b tb pb)
    (na : starEach [a, b] X.env = (false, eval a X.env) :: starEach [b] X.env := by rfl) (nb : starEach [b] X.env = (false, eval b X.env) :: starEach [] X.env := by rfl) (hp2 : (backTo pos2 (starEach [b] X.env)).any (·.1) = false := by rfl) (ne : starEach [.Call (.Name "range" p2) [a, b] [] pos2] X.env = (false, eval (.Call (.Name "range" p2) [a, b] [] pos2) X.env) :: starEach [] X.env := by rfl) :
    DE X E (.Call (.Name "list" p) [.Call (.Name "range" p2) [a, b] [] pos2] [] pos) (tLstRg (tRg2 ta tb)) (pLr2 pa pb) := ⟨pe_listRg hc hg hm (prg_2 hg2 hm2 ha.pe hb.pe na nb (hp := hp2)) ne, fun B σ H A P Y Q rel k c xq => ha.sim B σ H A _ Y _ rel k (fun y1 A1 v1 H1 p1 r1 => by
  split at p1
  · rename_i i
    obtain ⟨t, S, r, hh, s, kk⟩ := id r1
    cases DR.int_of kk
    refine hb.sim B σ H1 A1 _ Y _ r1.rel p1 (fun y2 A2 v2 H2 p2 r2 => ?_) xq
    split at p2
    · rename_i j
      obtain ⟨t, S, r, hh, s, kk⟩ := id r2
      cases DR.int_of kk
      refine ⟨i, j, rfl, rfl, p2.1, fun q hq => ?_⟩
      exact ((Now.kont (P := fun y => P y A2) ⟨hh, s⟩ fun y v H' py ry => c y A2 v H' py ry).lst q _ _ hq p2.2 (rgV_DRs i j))
    · exact p2.elim
  · exact p1.elim) xq⟩
/-! displays of dicts with constants -/
/-- the pairs of a display that holds constants -/
inductive CPs (K : PySem.W.Frag) : List (TE × TE) → List (Kd × D) → Prop
  | nil : CPs K [] []
  | str {k : Str} {l : Tx} {v : V} {d : D} {r : List (TE × TE)} {q : List (Kd × D)} (h : k.cps.toList = l) (hv : ∀ S, DR K S v d) (t : CPs K r q) : CPs K ((tC (.str k), tC v) :: r) ((.inr l, d) :: q)
  | int {k : Int} {v : V} {d : D} {r : List (TE × TE)} {q : List (Kd × D)} (hv : ∀ S, DR K S v d) (t : CPs K r q) : CPs K ((tC (.int k), tC v) :: r) ((.inl k, d) :: q)
theorem CPs.run {σ : L2.St} {H : Hp} {trs : List (TE × TE)} {q : List (Kd × D)} (h : CPs K trs q) : ∃ kvs : List (Key × V), (∀ S, DRk K S kvs q) ∧ kvs.length = trs.length ∧ ∀ Q : List (V × V) → Hp → Prop, Q (kvs.map fun kv => (kV kv.1, kv.2)) H → tPairs trs σ H Q := by
  induction h with
  | nil => exact ⟨[], fun _ => .nil, rfl, fun Q q => q⟩
  | @str k l v d r q h hv t ih =>
    obtain ⟨kvs, h1, hl, h2⟩ := ih
    refine ⟨(kd (.inr l), v) :: kvs, fun S => .cons (hv S) (h1 S), by simp [hl], fun Q q => h2 _ ?_⟩
    have e : kV (kd (.inr l)) = V.str k := by
      subst h
      rfl
    rw [List.map_cons] at q
    simp only [e] at q
    exact q
  | @int k v d r q hv t ih =>
    obtain ⟨kvs, h1, hl, h2⟩ := ih
    exact ⟨(kd (.inl k), v) :: kvs, fun S => .cons (hv S) (h1 S), by simp [hl], fun Q q => h2 _ q⟩
def pDictC (kvs : List (Kd × D)) : PTE := fun A P _ => P (.o (.dic (mergeD [] kvs))) A
theorem kdictC {pos : Pos} {keys : List (Option Expr)} {values : List Expr} {trs : List (TE × TE)} {kvs : List (Kd × D)} (h : PPs X pos keys values trs) (c : CPs K trs kvs) (hK : X.K = K := by rfl) (h15' : trs.length ≤ 15 := by decide) (hall : keys.all (·.isSome) = true := by rfl) (hl : keys.length = values.length := by rfl) (h0 : keys ≠ [] := by exact fun z => nomatch z)
    (h15 : keys.length ≤ 15 := by decide) : DE X E (.Dict keys values pos) (tDisp trs) (pDictC kvs) := by
  subst hK
  refine ⟨pe_disp h hall hl h0 h15, fun B σ H A P Y Q rel p c' xq => ?_⟩
  intro a ha
  obtain ⟨ws, w1, w2, w3⟩ := c.run (σ := σ) (H := upd H a (.dK []))
  refine w3 _ ⟨upd_same, ws, rfl, by omega, ?_⟩
  obtain ⟨t, S, r, h, s⟩ := rel
  have := (Now.kont (P := fun y => P y A) ⟨h, s⟩ fun y v H' py ry => c' y A v H' py ry).dic a _ _ ha p ((w1 S).merge .nil)
  rwa [upd_upd]
end
/-! list.insert -/
theorem mt_insertA {X : Cx} : MtR X "list.insert" rInsert := mt_insert
theorem snd_insert {K : PySem.W.Frag} : SndL K rInsert lInsert := fun S H a xs args vs ws P Q le h1 h2 h3 b q => by
  unfold lInsert at b
  split at b
  · obtain ⟨b1, b2, b3, b4⟩ := b
    cases h3 with
    | cons g h =>
      cases g
      cases h with
      | cons g h =>
        cases h
        exact ⟨a, vs, _, _, rfl, rfl, h1, by rw [h2.length]; exact b1, b2, b3, q .non _ _ _ b4 .non (((DRs.take _ h2).append (.cons g .nil)).append (DRs.drop _ h2))⟩
  · exact b.elim
end PD

/-! PD, eighteenth part: list(range(i, j, c)). -/
namespace PD
open PySem PySem.Spec PyProof.Rows L2
def rg3V (a c : Int) (n : Nat) : List V := (List.range n).map fun i => V.int (a + (i : Nat) * c)
def rg3D (a c : Int) (n : Nat) : List D := (List.range n).map fun i => D.int (a + (i : Nat) * c)
theorem rg3_DRs {K : PySem.W.Frag} {S : Hp} (a c : Int) (n : Nat) : DRs K S (rg3V a c n) (rg3D a c n) := by
  unfold rg3V rg3D
  induction List.range n with
  | nil => exact .nil
  | cons x r ih => exact .cons (.int _) ih
theorem vals_rg3 {a c : Int} {n : Nat} {acc : Array Value} (h : ItemsOf (fun i v => ∃ t, v = .int (a + i * c) t) acc n) : Vals (rg3V a c n) acc.toList := by
  have e : acc.toList.length = n := by rw [Array.length_toList]; exact h.1
  unfold rg3V
  rw [← e]
  refine vals_of_get acc.toList _ fun j u hj => ?_
  obtain ⟨t, rfl⟩ := h.2 j u (by rw [← hj, Array.getElem?_toList])
  exact ⟨t, rfl⟩
def tLr3 (ta : TA) : TE := fun σ H Q => ta σ H fun vs H1 => ∃ (i j c : Int) (n : Nat), vs = [.int i, .int j, .int c] ∧ RgC i j c n ∧ n ≤ 2 ^ 24 ∧ ∀ q, H1 q = none → Q (.ref q) (upd H1 q (.lst (rg3V i c n)))
section
variable {X : Cx} {E : WX}
theorem pe_lr3 {a b c : Expr} {ta : TA} {p p2 pos pos2 : Pos} (hc : X.calm = true) (hg2 : Gl X "list") (hm2 : X.mg "list" = none) (hg : Gl X "range") (hm : X.mg "range" = none) (ha : PA X [a, b, c] ta)
    (hs : starEach [a, b, c] X.env = (false, eval a X.env) :: starEach [b, c] X.env := by rfl) (hpl : (backTo pos (starEach [b, c] X.env)).any (·.1) = false := by rfl)
    (na : starEach [.Call (.Name "range" p) [a, b, c] [] pos] X.env = (false, eval (.Call (.Name "range" p) [a, b, c] [] pos) X.env) :: starEach [] X.env := by rfl) :
    PE X (.Call (.Name "list" p2) [.Call (.Name "range" p) [a, b, c] [] pos] [] pos2) (tLr3 ta) := by
  refine ⟨fun pins s σ H Q I h => ?_⟩
  refine Call_ (ld_blt I hg2 hm2 boot_list (PyProof.Rows.callWith_type1 (args_cons ?_ na) na))
  refine Call_ (ld_blt I hg hm boot_range (PyProof.Rows.callWith_type1 (thn (ha.run pos pins s σ H _ I h) fun us s1 ⟨vs, H1, I1, r1, q1⟩ => ?_) hs hpl))
  obtain ⟨i, j, k, n, e, ⟨c0, c1, c2, c3⟩, hn, q⟩ := q1
  subst e
  cases r1 with
  | cons r rr =>
    cases rr with
    | cons r' rr =>
      cases rr with
      | cons r'' rr =>
        cases rr
        obtain ⟨t, rfl⟩ := r
        obtain ⟨t', rfl⟩ := r'
        obtain ⟨t'', rfl⟩ := r''
        refine call_range_3 c0 ?_ (.inl (PyProof.noPylong_small c1))
        have I2 : Inv X pins σ H1 { s1 with heap := s1.heap.push { cls := .type "range", data := .fields #[.int i t, .int j t', .int k t''] } } := I1.kept (t' := s1.toks) fun b o e => Heap.get?_push_of_some _ e
        refine args_nil ?_
        refine call_list_range (n := n) (I2.ok.hd hc) (IsRange.new ..) c2 c3 hn fun h' tk acc c' hk e' hi => ?_
        refine ⟨.ref _, upd H1 _ (.lst (rg3V i k n)), I2.laid hk (Nat.le_refl _) (show ObjOk X.prog X.w _ _ _ (.lst (rg3V i k n)) from ⟨?_, acc.toList, c', vals_rg3 hi, ?_⟩), rfl, q _ (I2.hok.fresh (Nat.le_refl _))⟩
        · unfold rg3V; rw [List.length_map, List.length_range, sizeLine_eq]; omega
        · rw [Array.toArray_toList]; exact e'
def pLr3 (q : PTA) : PTE := fun A P Y => q A (fun zs A1 => match zs with
  | [.d (.int i), .d (.int j), .d (.int c)] => ∃ n, RgC i j c n ∧ n ≤ 2 ^ 24 ∧ P (.o (.lst (rg3D i c n))) A1
  | _ => False) Y
theorem de_lr3 {a b c : Expr} {ta : TA} {qa : PTA} {p p2 pos pos2 : Pos} (hc : X.calm = true) (hg2 : Gl X "list") (hm2 : X.mg "list" = none) (hg : Gl X "range") (hm : X.mg "range" = none) (ha : DA X E [a, b, c] ta qa)
    (hs : starEach [a, b, c] X.env = (false, eval a X.env) :: starEach [b, c] X.env := by rfl) (hpl : (backTo pos (starEach [b, c] X.env)).any (·.1) = false := by rfl)
    (na : starEach [.Call (.Name "range" p) [a, b, c] [] pos] X.env = (false, eval (.Call (.Name "range" p) [a, b, c] [] pos) X.env) :: starEach [] X.env := by rfl) :
    DE X E (.Call (.Name "list" p2) [.Call (.Name "range" p) [a, b, c] [] pos] [] pos2) (tLr3 ta) (pLr3 qa) := ⟨pe_lr3 hc hg2 hm2 hg hm ha.pe hs hpl na, fun B σ H A P Y Q rel k c' xq => by
  refine ha.sim B σ H A _ Y _ rel k (fun zs A1 vs H1 p1 ⟨t, S, r, n, rl⟩ => ?_) xq
  split at p1
  ·
    obtain ⟨v1, w1, rfl, d1, rl⟩ := rl.uncons
    obtain ⟨v2, w2, rfl, d2, rl⟩ := rl.uncons
    obtain ⟨v3, rfl, d3⟩ := rl.one
    cases DR.int_of d1
    cases DR.int_of d2
    cases DR.int_of d3
    obtain ⟨m, rg, hm, pp⟩ := p1
    refine ⟨_, _, _, m, rfl, rg, hm, fun q hq => ?_⟩
    exact ((Now.kont (P := fun y => P y A1) n fun y v H' py ry => c' y A1 v H' py ry).lst q _ _ hq pp (rg3_DRs _ _ m))
  · exact p1.elim⟩
end
end PD

/-! PD, nineteenth part: a def's body under its promise; the law itself. -/
namespace PD
open PySem PySem.Spec PyProof.Rows L2
theorem body_run {X : Cx} {E : WX} {body : List Stmt} {tt : TS} {p : PTS} {N : List Str} {m : Nat} {c : Con} (d : DSs X E body tt p) (law : Law p N m c) {vs : List V} {H : Hp} {Q : VK} {E' : XK} (sp : spA X.K c.asp vs H Q E') : tt { nx := fun _ H' => Q .non H', rt := Q } (L2.start N vs) H := by
  obtain ⟨t, S, r, ars, h, sr, a⟩ := sp
  refine d.sim (baseOf t S r (ownsA ars).length H) _ H (fnAbs N ars) _ _ ⟨t, S, r, h, start_SR sr⟩ (law ars a.1).2 ?_
  refine { nx := fun A' σ H' q ⟨t', S', r', h', s'⟩ => ?_, rt := fun y A' v σ H' q ⟨t', S', r', h', s', kk⟩ => ?_, bk := fun A' σ H' q _ => q.elim, ct := fun A' σ H' q _ => q.elim, ex := fun _ C A' H' q => q.elim }
  · exact a.2 _ _ (take_ok h'.nl).1 q _ _ ⟨fun n z => (by cases z), t', S', r', A'.M, h', (take_ok h'.nl).1, (take_ok h'.nl).2, DR.non⟩
  · cases y with
    | d x => exact a.2 _ _ (take_ok h'.nl).1 q _ _ ⟨fun n z => (by cases z), t', S', r', A'.M, h', (take_ok h'.nl).1, (take_ok h'.nl).2, kk⟩
    | o x => exact a.2 _ _ (take_ok h'.nl).1 q _ _ ⟨fun n z => (by cases z), t', S', r', A'.M, h', (take_ok h'.nl).1, (take_ok h'.nl).2, kk⟩
    | p n =>
      obtain ⟨rfl, hn⟩ := kk
      obtain ⟨hmn, o, e, q⟩ := q
      obtain ⟨r2, h2, ok⟩ := h'.unname e
      refine a.2 _ _ (take_ok h'.nl).1 q _ _ ⟨fun n z => (by cases z), t', S', r2, _, h2, (take_ok h'.nl).1, fun j hj => ?_, t' n, rfl, ok⟩
      have hj : j < (ownsA ars).length := hj
      rw [List.getElem?_set_ne (by omega)]
      exact (take_ok h'.nl).2 j hj
section
variable {P : Program} {w : World} {K : PySem.W.Frag} {mg : Str → Option Value} {base : Heap}
theorem acalL {x qual : Str} {st : Stmt} {f : Addr} {fd : FuncData} {N ps : List Str} {k : Nat} {c : Con} {p : PTS} (F : Fun K x qual st f fd) (hm : mg x = some (.ref f)) (hb : Binds K fd ps []) (Sc : FnScope N ps (defScope st))
    (hbody : ∀ (cdv : Value) (A : Around) (outer : List Env) (s : Shared) (H : Hp) (E : XK), Room k (A.deeper (envOfC qual (defScope st) s.heap.objs.size f cdv)) →
      ∃ t, DSs (cxOf CX0 P w K mg base N qual (defScope st) f cdv A outer s H E).nox W0 (defBody st) t p) (law : Law p N ps.length c) : ACal P w K mg base (k + 1) x c :=
  ⟨f, fd, ps, F.ok Sc (spA_len fun ars post xp h => (law ars h.1).1) fun cdv A outer s H vs Q E hr sp => by
    obtain ⟨tt, d⟩ := hbody cdv A outer s H E hr
    exact ⟨tt, d.pe, body_run (X := (cxOf CX0 P w K mg base N qual (defScope st) f cdv A outer s H E).nox) d law sp⟩, hm, F.kp, hb⟩
/-- what the law is asked: a script of at most 63 whole numbers, answered by True -/
def spTrue (K : PySem.W.Frag) : Sp := fun vs H Q _ => ∃ (a : Addr) (ns : List Int), vs = [.ref a] ∧ SqL K H a (ns.map V.int) ∧ ns.length ≤ 63 ∧ ∀ H', Q (.bl true) H'
theorem law_start {K : PySem.W.Frag} {c : Con} (hpre : ∀ ns : List Int, ns.length ≤ 63 → c.pre [.d (.scr ns)]) (hok : ∀ (ns : List Int) y os, c.ok [.d (.scr ns)] y os → y = .d (.bl true)) {vs : List V} {H : Hp} {Q : VK} {E : XK} (sp : spTrue K vs H Q E) : spA K c.asp vs H Q E := by
  obtain ⟨a, ns, rfl, hS, hl, q⟩ := sp
  refine ⟨fun _ => 0, H, fun _ => none, [.d (.scr ns)], ⟨Le.refl H, fun a l e => (by cases e), fun a n e => (by cases e), fun n o e => (by cases e), fun a o e _ => .inl e, fun a l e => (by cases e), fun a e => .inl e, fun a o e => e, fun _ _ => rfl, Nat.le_refl _⟩, ⟨rfl, fun i av e => ?_⟩, hpre ns hl, fun y os _ ho v H' f => ?_⟩
  · cases i with
    | zero =>
      have e : some (AV.d (.scr ns)) = some av := e
      cases e
      exact ⟨_, rfl, .scr hS⟩
    | succ i => cases e
  · have := hok ns y os ho
    subst this
    obtain ⟨_, t', S', r', M', h', _, _, k⟩ := f
    have k : DR K S' v (.bl true) := k
    cases k
    exact q H'
theorem law_fn {x qual : Str} {st : Stmt} {f : Addr} {fd : FuncData} {N : List Str} {k : Nat} {c : Con} {p : PTS} (F : Fun K x qual st f fd) (Sc : FnScope N ["script"] (defScope st))
    (hbody : ∀ (cdv : Value) (A : Around) (outer : List Env) (s : Shared) (H : Hp) (E : XK), Room k (A.deeper (envOfC qual (defScope st) s.heap.objs.size f cdv)) →
      ∃ t, DSs (cxOf CX0 P w K mg base N qual (defScope st) f cdv A outer s H E).nox W0 (defBody st) t p) (law : Law p N 1 c)
    (hpre : ∀ ns : List Int, ns.length ≤ 63 → c.pre [.d (.scr ns)]) (hok : ∀ (ns : List Int) y os, c.ok [.d (.scr ns)] y os → y = .d (.bl true)) : FnOk P w K mg base CX0 (k + 1) f fd ["script"] (spTrue K) :=
  F.ok Sc (fun vs H Q E ⟨a, ns, e, _⟩ => by rw [e]; rfl) fun cdv A outer s H vs Q E hr sp => by
    obtain ⟨tt, d⟩ := hbody cdv A outer s H E hr
    exact ⟨tt, d.pe, body_run (X := (cxOf CX0 P w K mg base N qual (defScope st) f cdv A outer s H E).nox) d law (law_start hpre hok sp : spA K c.asp vs H Q E)⟩
end
theorem walk_law {k : Nat} {l : PySem.W.OpenLaw} {q : Program} {loose : List Str} {XP : (Str → Option Value) → Heap → Prop} {YP : World → Heap → Prop} {d : DefRec} {K : Params → PySem.W.Frag} (hk : Room k callerA) (hn : l.most = some 63) (hdf : d.params.defaults = [])
    (hY : ∀ (w : World) (h : Heap), YP w h → (K w.params).In h)
    (F : ∀ (w : World) (mg : Str → Option Value) (fa : Addr) (h : Heap), (K w.params).In h → h.Ns mainGlobals mg → mg d.name = some (.ref fa) →
      ∃ fd : FuncData, (∀ (s : Shared) (u : Value), BindsTo s fd ⟨[u], []⟩ [("script", u)]) ∧ ∀ base : Heap, (K w.params).In base → base.Ns mainGlobals mg → FnOk l.prog w (K w.params) mg base CX0 k fa fd ["script"] (spTrue (K w.params))) :
    PySem.W.WalkO q loose XP YP l.row.toRowW d [] (fun f vs => PySem.call f vs) :=
  L2.walk_of (n := 63) (k := k) (x := "script") (CX := fun _ => CX0) (sp := fun w => spTrue (K w.params)) hn (by decide) hdf hk hY F (fun _ _ a ns hl _ hS => ⟨a, ns, rfl, hS, hl, fun _ => rfl⟩) fun _ _ _ _ _ z => z
end PD

/-! PD, twentieth part: an owned object read as data from then on; x += e; {len(x): c}. -/
namespace PD
open PySem PySem.Spec PyProof.Rows L2
def pVarF (i : Nat) : PTE := fun A P _ => match A.env[i]? with
  | some (.d x) => P (.d x) A
  | some (.p n) => (match A.M[n]? with
    | some (some o) => (match o.toD with
      | some x => P (.d x) ⟨A.env.set i (.d x), A.M.set n none⟩
      | none => False)
    | _ => False)
  | _ => False
theorem sim_varF {K : PySem.W.Frag} {E : WX} {i : Nat} : SimE K E (tVar i) (pVarF i) := fun B σ H A P Y Q ⟨t, S, r, h, s⟩ k c _ => by
  unfold pVarF at k
  split at k
  · rename_i x e
    obtain ⟨v, e1, d⟩ := s.get e
    exact ⟨v, e1, c _ A v H k ⟨t, S, r, h, s, d⟩⟩
  · rename_i n e
    obtain ⟨e1, hn⟩ := s.getP e
    split at k
    · rename_i o eo
      split at k
      · rename_i x ex
        have ok := h.obj n o eo
        obtain ⟨ra, _, hu⟩ := ok.data ex H h.le rfl
        have ra : r (t n) = some (some n) := ra
        obtain ⟨u, hu⟩ := Option.ne_none_iff_exists'.mp hu
        have le := h.le_up (u := u) ra
        have ext : Ext t S A.M.length t (upd S (t n) u) (A.M.set n none).length := ⟨fun b w q => by
          rcases le b w q with z | ⟨_, _, z⟩
          · exact z
          · have ne : b ≠ t n := fun y => by rw [y, (h.sep _ _ ra).1] at q; cases q
            rw [upd_ne ne, q] at z
            rw [upd_ne ne]
            exact q, fun _ _ => rfl, by rw [List.length_set]; exact Nat.le_refl _⟩
        have hf := h.freeze ra hu (A.M.set n none) List.length_set fun m w q => by
          by_cases em : m = n
          · subst em
            rw [List.getElem?_set_self (by exact hn)] at q
            cases q
          · rw [List.getElem?_set_ne (Ne.symm em)] at q
            exact ⟨q, fun z => em (Option.some.inj z).symm⟩
        have dr := (ok.data ex (upd S (t n) u) le (by rw [upd_same, hu])).2.1
        have s2 := s.ext ext
        refine ⟨.ref (t n), e1, c _ _ _ H k ⟨t, _, _, hf, ⟨by show (A.env.set i _).length = _; rw [List.length_set]; exact s2.len, fun j av ej => ?_⟩, dr⟩⟩
        have ej : (A.env.set i (.d x))[j]? = some av := ej
        by_cases em : i = j
        · subst em
          have hi : i < A.env.length := (List.getElem?_eq_some_iff.mp e).1
          rw [List.getElem?_set_self hi] at ej
          cases ej
          exact ⟨_, e1, dr⟩
        · rw [List.getElem?_set_ne em] at ej
          exact s2.ok j av ej
      · exact k.elim
    · exact k.elim
  · exact k.elim
section
variable {X : Cx} {E : WX} {K : PySem.W.Frag}
theorem de_varF (i : Nat) {x : Str} {pos : Pos} (hN : X.N[i]? = some x := by rfl) (hv : Vis X.env.scope x := by first | exact Or.inl rfl | exact Or.inr (Or.inl rfl) | exact Or.inr (Or.inr rfl)) (hd : (x == ("__debug__" : Str)) = false := by decide)
    (hcd : (x == ("__classdict__" : Str)) = false := by decide) : DE X E (.Name x pos) (tVar i) (pVarF i) := ⟨pe_var hN hv hd hcd, sim_varF⟩
/-! x += e -/
def pAug (i : Nat) (f : Int → Int → Int) (pe : PTE) : PTS := fun P A => match A.env[i]? with
  | some (.d (.int a)) => pe A (fun y A1 => match y with
    | .d (.int b) => P.nx (setD A1 i (.int (f a b)))
    | _ => False) P.ex
  | _ => False
theorem sim_aug {i : Nat} {f : Int → Int → Int} {te : TE} {p : PTE} (h : SimE K E te p) : SimS K E (tAug i te (ipI f)) (pAug i f p) := fun B σ H A P D rel x c => by
  unfold pAug at x
  split at x
  · rename_i a e
    obtain ⟨t, S, r, hh, s⟩ := id rel
    obtain ⟨v, e1, d⟩ := s.get e
    cases DR.int_of d
    refine ⟨_, e1, h B σ H A _ _ _ rel x (fun y A1 w H1 p1 r1 => ?_) (c.ex _)⟩
    split at p1
    · rename_i b
      obtain ⟨t, S, r, hh, s, kk⟩ := id r1
      cases DR.int_of kk
      refine ⟨a, b, rfl, rfl, c.nx _ _ _ p1 ⟨t, S, r, hh, s.set i ⟨_, rfl, .int _⟩⟩⟩
    · exact p1.elim
  · exact x.elim
theorem ds_augAdd (i : Nat) {x : Str} {e : Expr} {te : TE} {p : PTE} {pos pos' : Pos} (hN : X.N.Nodup) (h : DE X E e te p) (hi : X.N[i]? = some x := by rfl) (hx : Loc X.env.scope x := by first | exact Or.inl rfl | exact Or.inr rfl)
    (hf : X.fn x = true ∨ X.env.scope.names.lookup x = some .local := by first | exact .inl rfl | exact .inr rfl | assumption) : DS X E (.AugAssign (.Name x pos') .Add e pos) (tAug i te (ipI fun i j => i + j)) (pAug i (fun i j => i + j) p) := ⟨ps_aug hN hi hx h.pe ip_add hf, sim_aug h.sim⟩
theorem ds_augSub (i : Nat) {x : Str} {e : Expr} {te : TE} {p : PTE} {pos pos' : Pos} (hN : X.N.Nodup) (h : DE X E e te p) (hi : X.N[i]? = some x := by rfl) (hx : Loc X.env.scope x := by first | exact Or.inl rfl | exact Or.inr rfl)
    (hf : X.fn x = true ∨ X.env.scope.names.lookup x = some .local := by first | exact .inl rfl | exact .inr rfl | assumption) : DS X E (.AugAssign (.Name x pos') .Sub e pos) (tAug i te (ipI fun i j => i - j)) (pAug i (fun i j => i - j) p) := ⟨ps_aug hN hi hx h.pe ip_sub hf, sim_aug h.sim⟩
/-! {len(x): c}, x a text in a slot -/
def pDictLen (i : Nat) (d : D) : PTE := fun A P _ => match A.env[i]? with
  | some (.d (.str l)) => l.length ≤ 16777216 ∧ P (.o (.dic [(.inl l.length, d)])) A
  | _ => False
theorem kdictLen {pos : Pos} {ke ve : Expr} {i : Nat} {v : V} {d : D} {q q2 : PTE} (hk : DE X E ke (tCB (rLenA K) (tCons (tVar i) tNil)) q) (hv : DE X E ve (tC v) q2) (hd : ∀ S, DR K S v d) (hK : X.K = K := by rfl) : DE X E (.Dict [some ke] [ve] pos) (tDisp [(tCB (rLenA K) (tCons (tVar i) tNil), tC v)]) (pDictLen i d) := by
  subst hK
  refine ⟨pe_disp (pps_cons hk.pe hv.pe pps_nil) rfl rfl (fun z => nomatch z) (show 1 ≤ 15 by decide), fun B σ H A P Y Q rel p c xq => ?_⟩
  unfold pDictLen at p
  split at p
  · rename_i l e
    obtain ⟨t, S, r, h, s⟩ := rel
    obtain ⟨w, e1, dr⟩ := s.get e
    intro a ha
    cases DR.str_of dr
    refine ⟨_, e1, .inl ⟨.str (st l), l.length, rfl, ⟨by rw [st_len]; exact p.1, (st_len l).symm⟩, ?_⟩⟩
    refine ⟨upd_same, [(kd (.inl (l.length : Int)), v)], rfl, by show 1 ≤ 15; decide, ?_⟩
    have := (Now.kont (P := fun y => P y A) ⟨h, s⟩ fun y v H' py ry => c y A v H' py ry).dic a _ _ ha p.2 (.cons (k := .inl (l.length : Int)) (hd S) .nil)
    rw [upd_upd]
    exact this
  · exact p.elim
end
end PD

/-! PD, twenty-first part: d.update(e), both dicts of ints and texts. -/
namespace PD
open PySem PySem.Spec PyProof.Rows L2
def rUpd : V → List V → Hp → VK → Prop := fun x vs H Q => ∃ (d o : Addr) (kvs more : List (Key × V)), x = .ref d ∧ vs = [.ref o] ∧ d ≠ o ∧ H d = some (.dK kvs) ∧ Rd H o (.dK more) ∧ kvs.length + more.length ≤ sizeLine ∧ Q .non (upd H d (.dK (mergeK kvs more)))
theorem mt_update {X : Cx} : MtR X "dict.update" rUpd := by
  intro pins s σ H x vs v us Q I rx rv h
  obtain ⟨d, o, kvs, more, rfl, rfl, hdo, hd, ho, hz, q⟩ := h
  cases rx
  obtain ⟨u, rfl, ru⟩ := rv.one
  cases ru
  obtain ⟨z, big, vs0, r0, dd⟩ := dk_of I.hok hd
  obtain ⟨z1, lo, vs1, r1, d1⟩ := dk_rd I.hok ho
  refine call_meetsIn PySem.F.slot_dict_update dd.typeIs PySem.F.entry_dict_update (PySem.F.args_dict_update_2 _ _) (meets_dict_update (mixKind X.prog X.w) d o hdo lo) ⟨vs0, vs1, dd, d1, by rw [← r0.length, ← r1.length]; exact hz, fun h' dd' ho' hs => ?_⟩
  have he : ∃ q, h'.get? d = some q := let ⟨q, _, _, hq, _⟩ := dd'; ⟨q, hq⟩
  refine ⟨.non, _, d_write I (by rw [hd]; exact True.intro) hs he (dk_new ?_ big (r1.merge r0) dd'), rfl, q⟩
  have := length_mergeK more kvs
  omega
end PD
namespace PD
open PySem PySem.Spec PyProof.Rows L2
/-! ### methods that change an owned dict -/
abbrev DM := List (Kd × D) → List D → (R → List (Kd × D) → Prop) → Prop
def SndD (K : PySem.W.Frag) (r : V → List V → Hp → VK → Prop) (dm : DM) : Prop := ∀ (S H : Hp) (a : Addr) (xs : List (Kd × D)) (args : List D) (vs : List (Key × V)) (ws : List V) (P : R → List (Kd × D) → Prop) (Q : VK), Le S H → S a = none → H a = some (.dK vs) → DRk K S vs xs → DRs K S ws args → dm xs args P →
  (∀ d v xs' vs', P (.d d) xs' → DR K S v d → DRk K S vs' xs' → Q v (upd H a (.dK vs'))) → r (.ref a) ws H Q
def pDM (dm : DM) (po : PTE) (pa : PTA) : PTE := fun A P Y => po A (fun yo A1 => match yo with
  | .p n => (match A1.M[n]? with
    | some (some (.dic _)) => pa A1 (fun zs A2 => match A2.M[n]?, dats zs with
      | some (some (.dic xs)), some args => dm xs args (fun y xs' => P y ⟨A2.env, A2.M.set n (some (.dic xs'))⟩)
      | _, _ => False) Y
    | _ => False)
  | _ => False) Y
theorem tyV_dic {K : PySem.W.Frag} {H : Hp} {a : Addr} {vs : List (Key × V)} (h : H a = some (.dK vs)) : tyV K "dict" (.ref a) H := .inr (.inr (.inl ⟨rfl, .inl ⟨vs, h⟩⟩))
theorem sim_dm {K : PySem.W.Frag} {r : V → List V → Hp → VK → Prop} {dm : DM} {to : TE} {ta : TA} {E : WX} {po : PTE} {pa : PTA} (hr : SndD K r dm) (ho : SimE K E to po) (ha : SimA K E ta pa) : SimE K E (tBM K "dict" r to ta) (pDM dm po pa) := fun B σ H A P Y Q rel x q xq => by
  refine ho B σ H A _ _ _ rel x (fun yo A1 vo H1 p1 res => ?_) xq
  split at p1
  · rename_i n
    obtain ⟨t, S, ρ, h, s, k⟩ := res
    obtain ⟨rfl, hn⟩ := k
    split at p1
    · rename_i xs0 e0
      obtain ⟨_, vs0, e1, _⟩ := h.obj n _ e0
      refine ⟨tyV_dic e1, ha _ σ H1 A1 _ _ _ ⟨t, S, _, h.rebase, s⟩ p1 (fun zs A2 ws H2 p2 res2 => ?_) (xq.back h)⟩
      split at p2
      · rename_i xs args e2 e3
        obtain ⟨t2, S2, ρ2, n2, rl⟩ := res2
        have h2 := h.back n2.h
        have et : t2 n = t n := n2.h.ext.th n hn
        obtain ⟨f, vs, g1, g2⟩ := h2.obj n _ e2
        rw [← et]
        refine hr S2 H2 (t2 n) xs args vs ws _ Q n2.h.le (h2.sep _ _ f).1 g1 g2 (rl.dats e3) p2 fun d v xs' vs' pd dd dx => ?_
        refine q (.d d) ⟨A2.env, A2.M.set n (some (.dic xs'))⟩ v _ pd ⟨t2, S2, ρ2, h2.put e2 f ⟨f, vs', upd_same, dx⟩, ?_, dd⟩
        show SR K S2 t2 (A2.M.set n (some (.dic xs'))).length A2.env σ
        rw [List.length_set]
        exact n2.s
      · exact p2.elim
    · exact p1.elim
  · exact p1.elim
theorem kdm {X : Cx} {E : WX} {K : PySem.W.Frag} {o e : Expr} {es : List Expr} {name : Str} {id : String} {r : V → List V → Hp → VK → Prop} {dm : DM} {to : TE} {ta : TA} {po : PTE} {pa : PTA} {apos cpos : Pos} (slot : Slot "dict" name id) (hty : typeOf (.builtin id) = pure (.type "method_descriptor")) (hm : MtR X id r) (hr : SndD K r dm)
    (ho : DE X E o to po) (ha : DA X E (e :: es) ta pa) (hK : X.K = K := by rfl) (hbase : attributeBase o name X.env (eval o X.env) = eval o X.env := by rfl)
    (hfew : ((backTo cpos (starEach (e :: es) X.env)).all (fun x => !x.1) && (backToKw cpos (keywordEach [] X.env)).all (fun x => x.1.isSome)
      && decide ((e :: es).length + ([] : List Keyword).length + (if ([] : List Keyword).isEmpty then 0 else 1) < 30)) = true := by rfl)
    (hline : (apos.endLine == cpos.line) = true := by rfl) (hs : starEach (e :: es) X.env = (false, eval e X.env) :: starEach es X.env := by rfl) (hplain : (backTo cpos (starEach es X.env)).any (·.1) = false := by rfl) :
    DE X E (.Call (.Attribute o name apos) (e :: es) [] cpos) (tBM K "dict" r to ta) (pDM dm po pa) := by
  subst hK
  exact ⟨pe_bm PySem.F.plainAttrs_dict slot hty hm ho.pe ha.pe hbase hfew hline hs hplain, sim_dm hr ho.sim ha.sim⟩
def dUpdate : DM
  | xs, [.dic more], P => xs.length + more.length ≤ 16777216 ∧ P (.d .non) (mergeD xs more)
  | _, _, _ => False
theorem snd_update {K : PySem.W.Frag} : SndD K rUpd dUpdate := fun S H a xs args vs ws P Q le sa h1 h2 h3 b q => by
  unfold dUpdate at b
  split at b
  · cases h3 with
    | cons g h =>
      cases h
      cases g with
      | @dic o kvs kds g1 g2 =>
        have ne : a ≠ o := fun e => by
          subst e
          rcases g1 with z | ⟨_, z⟩ <;> rw [sa] at z <;> cases z
        exact ⟨a, o, vs, kvs, rfl, rfl, ne, h1, le.rd g1, by rw [h2.length, g2.length]; exact b.1, q .non _ _ _ b.2 .non (g2.merge h2)⟩
  · exact b.elim
end PD

/-! DK: the deck, a list that holds a list of lists of whole numbers: readings by hand. -/
namespace PD
open PySem PySem.Spec PyProof.Rows L2
def EvS (t : TE) (σ : L2.St) (H : Hp) (v : V) : Prop := ∀ Q : VK, Q v H → t σ H Q
section
variable {K : PySem.W.Frag} {σ : L2.St} {H : Hp} {ta tb : TE}
theorem evs_var {i : Nat} {v : V} (h : σ[i]? = some (some v)) : EvS (tVar i) σ H v := fun Q q => ⟨v, h, q⟩
theorem evs_c {v : V} : EvS (tC v) σ H v := fun Q q => q
theorem evs_add {i j : Int} (ha : EvS ta σ H (.int i)) (hb : EvS tb σ H (.int j)) : EvS (tOp rAddA ta tb) σ H (.int (i + j)) := fun Q q => ha _ (hb _ (.inl ⟨i, j, rfl, rfl, q⟩))
theorem evs_mod {i j : Int} (ha : EvS ta σ H (.int i)) (hb : EvS tb σ H (.int j)) (h : 0 < j) : EvS (tOp (rI (fun _ j => 0 < j) fun i j => .int (i % j)) ta tb) σ H (.int (i % j)) := fun Q q => ha _ (hb _ ⟨i, j, rfl, rfl, h, q⟩)
theorem evs_div {i j : Int} (ha : EvS ta σ H (.int i)) (hb : EvS tb σ H (.int j)) (h : CDivW i j) : EvS (tOp (rI CDivW fun i j => .int (i / j)) ta tb) σ H (.int (i / j)) := fun Q q => ha _ (hb _ ⟨i, j, rfl, rfl, h, q⟩)
theorem evs_pow {i j : Int} (ha : EvS ta σ H (.int i)) (hb : EvS tb σ H (.int j)) (h : CPow i j) : EvS (tOp (rI CPow fun i j => .int (i ^ j.toNat)) ta tb) σ H (.int (i ^ j.toNat)) := fun Q q => ha _ (hb _ ⟨i, j, rfl, rfl, h, q⟩)
theorem evs_mul {i j : Int} (ha : EvS ta σ H (.int i)) (hb : EvS tb σ H (.int j)) (h : CMul i j) : EvS (tOp rMulA ta tb) σ H (.int (i * j)) := fun Q q => ha _ (hb _ (.inl ⟨i, j, rfl, rfl, h, q⟩))
theorem evs_ix {a : Addr} {vs : List V} {i : Int} {v : V} (ha : EvS ta σ H (.ref a)) (hb : EvS tb σ H (.int i)) (h : SqL K H a vs) (hi : atI vs i = some v) : EvS (tOp (rIxA K) ta tb) σ H v := fun Q q => ha _ (hb _ (.inl (.inl ⟨a, vs, i, v, rfl, rfl, h, hi, q⟩)))
theorem evs_gt {i j : Int} {f : Int → Int → Bool} {g : Tx → Tx → Bool} (ha : EvS ta σ H (.int i)) (hb : EvS tb σ H (.int j)) : EvS (tOp (rCmpA f g) ta tb) σ H (.bl (f i j)) := fun Q q => ha _ (hb _ (.inl ⟨i, j, rfl, rfl, q⟩))
theorem evs_eqi {i j : Int} (ha : EvS ta σ H (.int i)) (hb : EvS tb σ H (.int j)) : EvS (tOp (rEqA K id) ta tb) σ H (.bl (decide (V.int i = V.int j))) := fun Q q => ha _ (hb _ (.inl ⟨rfl, q⟩))
theorem evs_test {t : TE} {b : Bool} (h : EvS t σ H (.bl b)) (Q : Bool → Hp → Prop) (q : Q b H) : tTest t σ H Q := h _ ⟨b, rfl, q⟩
/-- pool[j] = e on an int list -/
theorem st_ix {te to ti : TE} {D : Ends} {a : Addr} {vs : List V} {k : Int} {j : Nat} {v : V} (he : EvS te σ H v) (ho : EvS to σ H (.ref a)) (hi : EvS ti σ H (.int k)) (h : H a = some (.lst vs)) (hk : ixN vs.length k = some j) (q : D.nx σ (upd H a (.lst (vs.set j v)))) : tAsg te (gSub to ti rSetA) D σ H :=
  he _ (ho _ (hi _ (.inl ⟨a, vs, k, j, rfl, rfl, h, hk, q⟩)))
theorem st_nm {te : TE} {D : Ends} {i : Nat} {v : V} (he : EvS te σ H v) (q : D.nx (σ.set i (some v)) H) : tAsg te (gName i) D σ H := he _ q
end
/-- a pool: a list of three whole numbers -/
def PoolAt (H : Hp) (p : Addr) : Prop := ∃ c b n : Int, H p = some (.lst [.int c, .int b, .int n])
structure DeckAt (f : Addr → Prop) (H : Hp) (a pa : Addr) (i : Int) (ps : List Addr) : Prop where
  fa : f a
  ha : H a = some (.lst [.ref pa, .int i])
  fp : f pa
  hp : H pa = some (.lst (ps.map V.ref))
  ne : ps ≠ []
  all : ∀ p ∈ ps, f p ∧ PoolAt H p
def deckRP : RP := ⟨fun _ f H a => ∃ pa i ps, DeckAt f H a pa i ps, fun K f H H' a e ⟨pa, i, ps, d⟩ => ⟨pa, i, ps, d.fa, by rw [e a d.fa]; exact d.ha, d.fp, by rw [e pa d.fp]; exact d.hp, d.ne, fun p hp => by
  obtain ⟨q1, c, b, n, q2⟩ := d.all p hp
  exact ⟨q1, c, b, n, by rw [e p q1]; exact q2⟩⟩⟩
def addT (r : Addr → Lb) (p : Addr) : Addr → Lb := fun a => if a = p then some none else r a
section
variable {K : PySem.W.Frag} {B : Bas} {t : Nat → Addr} {S : Hp} {r : Addr → Lb} {M : List (Option O)} {H : Hp}
theorem HR.add1 (h : HR K B t S r M H) {p : Addr} (hp : H p = none) (u : HO) : HR K B t S (addT r p) M (upd H p u) where
  le := fun a w e => by
    have ne : a ≠ p := fun q => by rw [q, h.of_none hp] at e; cases e
    rw [upd_ne ne]
    exact h.le a w e
  sep := fun a l e => by
    unfold addT at e
    split at e
    · rename_i q
      rw [q]
      exact ⟨h.of_none hp, by rw [upd_same]; simp⟩
    · rename_i ne
      have := h.sep a l (e)
      rw [upd_ne ne]
      exact this
  lab := fun a n e => by
    unfold addT at e
    split at e
    · cases e
    · exact h.lab a n (e)
  obj := fun n o e => by
    have np : ∀ b, r b = some (some n) → b ≠ p := fun b hb q => (h.sep b _ hb).2 (by rw [q]; exact hp)
    refine ((h.obj n o e).move (Le.refl S) fun b hb => upd_ne (np b hb)).iff fun b => ?_
    unfold addT
    split
    · rename_i q
      constructor
      · intro hb; exact absurd q (np b hb)
      · intro z; cases z
    · exact Iff.rfl
  keep := fun a o e nd => by
    have ne : a ≠ p := fun q => by
      subst q
      rcases h.keep a o e nd with z | ⟨_, _, _, z⟩
      · rw [hp] at z; cases z
      · rw [hp] at z; cases z
    rw [upd_ne ne]
    exact h.keep a o e nd
  own := fun a l e => by
    unfold addT at e
    split at e
    · rename_i q
      rw [q]
      exact h.fresh hp
    · exact h.own a l (e)
  stb := h.stb
  bas := h.bas
  th := h.th
  nl := h.nl
end
theorem pool_ne {H : Hp} {p q : Addr} {vs : List V} (h : PoolAt H p) (hq : H q = some (.lst vs)) (hv : ∀ c b n : Int, vs ≠ [.int c, .int b, .int n]) : q ≠ p := fun e => by
  obtain ⟨c, b, n, h⟩ := h
  rw [e, h] at hq
  cases hq
  exact hv _ _ _ rfl
theorem DeckAt.pool {f : Addr → Prop} {H : Hp} {a pa : Addr} {i : Int} {ps : List Addr} (d : DeckAt f H a pa i ps) {p : Addr} (hp : p ∈ ps) (c b n : Int) : DeckAt f (upd H p (.lst [.int c, .int b, .int n])) a pa i ps := by
  have q := (d.all p hp).2
  refine ⟨d.fa, ?_, d.fp, ?_, d.ne, fun x hx => ⟨(d.all x hx).1, ?_⟩⟩
  · rw [upd_ne (pool_ne q d.ha (fun c b n z => by cases z))]; exact d.ha
  · rw [upd_ne (pool_ne q d.hp (fun c b n z => by
      have hn := d.ne
      cases ps with
      | nil => exact hn rfl
      | cons x xs => cases z))]; exact d.hp
  · by_cases e : x = p
    · exact ⟨c, b, n, by rw [e, upd_same]⟩
    · obtain ⟨c', b', n', h'⟩ := (d.all x hx).2
      exact ⟨c', b', n', by rw [upd_ne e]; exact h'⟩
theorem DeckAt.step {f : Addr → Prop} {H : Hp} {a pa : Addr} {i : Int} {ps : List Addr} (d : DeckAt f H a pa i ps) (j : Int) : DeckAt f (upd H a (.lst [.ref pa, .int j])) a pa j ps := by
  have hpa : pa ≠ a := fun e => by
    have := d.hp
    rw [e, d.ha] at this
    have hn := d.ne
    cases ps with
    | nil => exact hn rfl
    | cons x xs =>
      cases xs with
      | nil => simp at this
      | cons y ys => simp at this
  refine ⟨d.fa, upd_same, d.fp, by rw [upd_ne hpa]; exact d.hp, d.ne, fun x hx => ⟨(d.all x hx).1, ?_⟩⟩
  obtain ⟨c', b', n', h'⟩ := (d.all x hx).2
  exact ⟨c', b', n', by rw [upd_ne (fun e => by rw [e, d.ha] at h'; cases h')]; exact h'⟩
end PD
namespace PD
open PySem PySem.Spec PyProof.Rows L2
theorem HR.rebaseN {K : PySem.W.Frag} {t : Nat → Addr} {S : Hp} {r : Addr → Lb} {M : List (Option O)} {H : Hp} {m : Nat} (h : HR K (baseOf t S r m H) t S r M H) : HR K (baseOf t S r m H) t S r M H := h
end PD
namespace PD
open PySem PySem.Spec PyProof.Rows L2
theorem evs_len {K : PySem.W.Frag} {σ : L2.St} {H : Hp} {ta : TE} {a : Addr} {vs : List V} (ha : EvS ta σ H (.ref a)) (h : SqL K H a vs) : EvS (tCB (rLenA K) (tCons ta tNil)) σ H (.int vs.length) := fun Q q => ha _ (.inl ⟨.ref a, vs.length, rfl, .inl ⟨vs, h, rfl⟩, q⟩)
theorem same_upd {f : Addr → Prop} {H H1 : Hp} {p : Addr} {u : HO} (hs : ∀ b, ¬ f b → H1 b = H b) (hf : f p) : ∀ b, ¬ f b → upd H1 p u b = H b := fun b hb => by
  rw [upd_ne (fun e => hb (by rw [e]; exact hf))]
  exact hs b hb
theorem there_upd {f : Addr → Prop} {H1 : Hp} {p : Addr} {u : HO} (ht : ∀ b, f b → H1 b ≠ none) : ∀ b, f b → upd H1 p u b ≠ none := fun b hb => by
  by_cases e : b = p
  · rw [e, upd_same]; simp
  · rw [upd_ne e]; exact ht b hb
theorem atI_mod {α : Type} {xs : List α} (h : 0 < xs.length) (i : Int) : ∃ x, atI xs (i % (xs.length : Int)) = some x ∧ x ∈ xs := by
  have h1 := Int.emod_nonneg i (b := (xs.length : Int)) (by omega)
  have h2 := Int.emod_lt_of_pos i (b := (xs.length : Int)) (by omega)
  have h3 : (i % (xs.length : Int)).toNat < xs.length := by omega
  refine ⟨xs[(i % (xs.length : Int)).toNat], ?_, List.getElem_mem h3⟩
  unfold atI ixN
  rw [if_pos h1, if_pos (by omega)]
  show xs[(i % (xs.length : Int)).toNat]? = _
  rw [List.getElem?_eq_getElem h3]
end PD
namespace PD
open PySem PySem.Spec PyProof.Rows L2
section
variable {K : PySem.W.Frag} {σ : L2.St} {H : Hp} {ta tb : TE}
theorem evs_max {i j : Int} (ha : EvS ta σ H (.int i)) (hb : EvS tb σ H (.int j)) : EvS (tCB (fun xs H Q => ∃ i j, xs = [V.int i, V.int j] ∧ Q (V.int (if j > i then j else i)) H) (tCons ta (tCons tb tNil))) σ H (.int (if j > i then j else i)) := fun Q q => ha _ (hb _ ⟨i, j, rfl, q⟩)
theorem evs_min {i j : Int} (ha : EvS ta σ H (.int i)) (hb : EvS tb σ H (.int j)) : EvS (tCB (fun xs H Q => ∃ i j, xs = [V.int i, V.int j] ∧ Q (V.int (if j < i then j else i)) H) (tCons ta (tCons tb tNil))) σ H (.int (if j < i then j else i)) := fun Q q => ha _ (hb _ ⟨i, j, rfl, q⟩)
theorem evs_intb {k : Bool} (ha : EvS ta σ H (.bl k)) : EvS (tCB (fun xs H Q => (∃ i, xs = [V.int i] ∧ Q (V.int i) H) ∨ ∃ k, xs = [V.bl k] ∧ Q (V.int (if k = true then 1 else 0)) H) (tCons ta tNil)) σ H (.int (if k = true then 1 else 0)) := fun Q q => ha _ (.inr ⟨k, rfl, q⟩)
theorem rng1_run {j : Int} {R : It → Hp → Prop} (ha : EvS ta σ H (.int j)) (h0 : -(2 ^ 62) ≤ j) (h1 : j < 2 ^ 62) (q : R (Itr 0 j.toNat) H) : iRng1 (tCons ta tNil) σ H R := ha _ ⟨j, rfl, h0, h1, q⟩
theorem lst3_run {tc : TE} {a b c : V} (ha : EvS ta σ H a) (hb : EvS tb σ H b) (hc : EvS tc σ H c) (Q : VK) (q : ∀ p, H p = none → Q (.ref p) (upd H p (.lst [a, b, c]))) : tLst (tCons ta (tCons tb (tCons tc tNil))) σ H Q := ha _ (hb _ (hc _ ⟨by show 3 ≤ sizeLine; decide, q⟩))
theorem lst2_run {a b : V} (ha : EvS ta σ H a) (hb : EvS tb σ H b) (Q : VK) (q : ∀ p, H p = none → Q (.ref p) (upd H p (.lst [a, b]))) : tLst (tCons ta (tCons tb tNil)) σ H Q := ha _ (hb _ ⟨by show 2 ≤ sizeLine; decide, q⟩)
end
end PD
namespace PD
open PySem PySem.Spec PyProof.Rows L2
theorem st_lst0 {D : Ends} {i : Nat} {σ : L2.St} {H : Hp} (q : ∀ pa, H pa = none → D.nx (σ.set i (some (.ref pa))) (upd H pa (.lst []))) : tAsg (tLst tNil) (gName i) D σ H := ⟨Nat.zero_le _, fun pa h => q pa h⟩
theorem for_rng1 {ta : TE} {kk : Nat} {tb u : TS} {D : Ends} {σ : L2.St} {H : Hp} {j : Int} (ha : EvS ta σ H (.int j)) (h0 : -(2 ^ 62) ≤ j) (h1 : j < 2 ^ 62)
    (q : ∃ W : Nat → Nat → L2.St → Hp → Prop, (∃ m, W 0 m σ H) ∧ ∀ i m σ H, W i m σ H → (j.toNat ≤ i ∧ u D σ H) ∨ (i < j.toNat ∧ ∃ N : L2.St → Hp → Prop, (∀ σ' H', N σ' H' → ∃ m', m' < m ∧ W (i + 1) m' σ' H') ∧ tb { D with nx := N, ct := N, bk := u D } (σ.set kk (some (.int (0 + i)))) H)) : tSeq (tFor (iRng1 (tCons ta tNil)) (gName kk) tb) u D σ H := by
  obtain ⟨W, w0, w1⟩ := q
  refine ha _ ⟨j, rfl, h0, h1, W, w0, fun i m σ H w => ?_⟩
  rcases w1 i m σ H w with ⟨a, b⟩ | ⟨a, N, b, c⟩
  · exact .inl ⟨a, b⟩
  · exact .inr ⟨a, N, b, fun v H' ⟨e1, e2⟩ => by subst e1 e2; exact c⟩
end PD
namespace PD
open PySem PySem.Spec PyProof.Rows L2
theorem cdivw {i m : Int} (h0 : 0 < m) (h1 : m < 2 ^ 64) : CDivW i m := ⟨h0, by
  have : m.natAbs < 2 ^ 64 := by omega
  have := Nat.log2_lt (n := m.natAbs) (k := 64) (by omega) |>.mpr this
  omega⟩
section
variable {K : PySem.W.Frag}
structure Making (K : PySem.W.Frag) (B : Bas) (t : Nat → Addr) (S : Hp) (pa : Addr) (n : Nat) (H : Hp) : Prop where
  ex : ∃ (r : Addr → Lb) (ps : List Addr), HR K B t S r [] H ∧ r pa = some none ∧ H pa = some (.lst (ps.map V.ref)) ∧ ps.length = n ∧ ∀ p ∈ ps, r p = some none ∧ PoolAt H p
theorem Making.more {B : Bas} {t : Nat → Addr} {S : Hp} {pa : Addr} {n : Nat} {H : Hp} (m : Making K B t S pa n H) (c b k : Int) (D : Ends) (σ : L2.St) {X : TE} (hX : ∀ Q : VK, (∀ p, H p = none → Q (.ref p) (upd H p (.lst [.int c, .int b, .int k]))) → X σ H Q) (hv : σ[1]? = some (some (V.ref pa))) (hn : n < 63) (q : ∀ H', Making K B t S pa (n + 1) H' → D.nx σ H') :
    tDrop (tBM K "list" rAppend (tVar 1) (tCons X tNil)) D σ H := by
  obtain ⟨r, ps, h, rp, hp, hl, all⟩ := m.ex
  refine ⟨_, hv, .inl ⟨rfl, _, SqL.of hp⟩, hX _ fun p hn' => ?_⟩
  have ne : pa ≠ p := fun e => by rw [← e, hp] at hn'; cases hn'
  refine ⟨pa, ps.map V.ref, .ref p, rfl, rfl, by rw [upd_ne ne]; exact hp, ?_, q _ ⟨addT r p, ps ++ [p], ?_, ?_, ?_, ?_, ?_⟩⟩
  · rw [List.length_map, hl]
    exact Nat.lt_of_lt_of_le hn (by decide)
  · exact (h.add1 hn' _).mutT (by unfold addT; rw [if_neg ne]; exact rp) _
  · unfold addT; rw [if_neg ne]; exact rp
  · rw [upd_same, List.map_append]; rfl
  · rw [List.length_append, hl]; rfl
  · intro x hx
    rcases List.mem_append.mp hx with hx | hx
    · obtain ⟨e1, c', b', n', e2⟩ := all x hx
      have nx : x ≠ p := fun e => by rw [e, hn'] at e2; cases e2
      have npa : x ≠ pa := fun e => by
        rw [e, hp] at e2
        cases ps with
        | nil => cases e2
        | cons y ys => cases e2
      exact ⟨by unfold addT; rw [if_neg nx]; exact e1, c', b', n', by rw [upd_ne npa, upd_ne nx]; exact e2⟩
    · rw [List.mem_singleton] at hx
      subst hx
      exact ⟨by unfold addT; rw [if_pos rfl], c, b, k, by rw [upd_ne (Ne.symm ne), upd_same]⟩
end
end PD

/-! PE, first part: dead slots wiped; loops over typed lists. -/
namespace PD
open PySem PySem.Spec PyProof.Rows L2
/-! ### wiping -/
def wipeS (ws : List Nat) (A : Abs) : Abs := ⟨wipeA A.env ws, A.M⟩
theorem SR.un {K : PySem.W.Frag} {S : Hp} {t : Nat → Addr} {m : Nat} {env : List AV} {σ : L2.St} (s : SR K S t m env σ) (i : Nat) : SR K S t m (env.set i .un) σ := ⟨by rw [List.length_set]; exact s.len, fun j av e => by
  by_cases h : i = j
  · subst h
    by_cases hi : i < env.length
    · rw [List.getElem?_set_self hi] at e
      cases e
      trivial
    · rw [List.getElem?_eq_none (by rw [List.length_set]; omega)] at e
      cases e
  · rw [List.getElem?_set_ne h] at e
    exact s.ok j av e⟩
theorem SR.wipes {K : PySem.W.Frag} {S : Hp} {t : Nat → Addr} {m : Nat} {env : List AV} {σ : L2.St} (s : SR K S t m env σ) : ∀ ws : List Nat, SR K S t m (wipeA env ws) σ
  | [] => s
  | w :: ws => (SR.wipes s ws).un w
theorem Rel.wipes {K : PySem.W.Frag} {B : Bas} {A : Abs} {σ : L2.St} {H : Hp} (r : Rel K B A σ H) (ws : List Nat) : Rel K B (wipeS ws A) σ H := by
  obtain ⟨t, S, ρ, h, s⟩ := r
  exact ⟨t, S, ρ, h, s.wipes ws⟩
/-- behind these statements what they made is let go, and the slots ws are forgotten -/
def pGw (ws wb : List Nat) (p : PTS) : PTS := fun P A => p { P with nx := fun A' => P.nx (wipeS ws (trunc A.M.length A')), ct := fun A' => P.ct (wipeS ws (trunc A.M.length A')), bk := fun A' => P.bk (wipeS wb (trunc A.M.length A')) } A
theorem DSs.gw {X : Cx} {E : WX} {e : List Stmt} {t : TS} {p : PTS} {ws wb : List Nat} (h : DSs X E e t p) : DSs X E e t (pGw ws wb p) := ⟨h.pe, fun B σ H A P D rel x c => by
  have hm : B.n ≤ A.M.length := by
    obtain ⟨t, S, r, h, s⟩ := rel
    exact h.nl
  exact h.sim B σ H A _ D rel x { nx := fun A' σ' H' q r => c.nx _ σ' H' q ((r.trunc hm).wipes ws), rt := c.rt, bk := fun A' σ' H' q r => c.bk _ σ' H' q ((r.trunc hm).wipes wb), ct := fun A' σ' H' q r => c.ct _ σ' H' q ((r.trunc hm).wipes ws), ex := c.ex }⟩
def pWip (ws : List Nat) (p : PTS) : PTS := fun P A => p P (wipeS ws A)
theorem DS.wip {X : Cx} {E : WX} {e : Stmt} {t : TS} {p : PTS} {ws : List Nat} (h : DS X E e t p) : DS X E e t (pWip ws p) := ⟨h.pe, fun B σ H A P D rel x c => h.sim B σ H _ P D (rel.wipes ws) x c⟩

/-! ### comprehensions over typed lists -/
theorem itL_map {α : Type} {xs : List α} {f : α → D} {i : Nat} (h : i < xs.length) : itL (xs.map f) i = f xs[i] := by
  unfold itL
  rw [List.getD_eq_getElem?_getD, List.getElem?_map, List.getElem?_eq_getElem h]
  rfl
theorem lcL_filter {α : Type} (xs : List α) (q : α → Bool) (g : α → D) : ∀ n, (h : n ≤ xs.length) → lcL n (fun i => if h : i < xs.length then (if q xs[i] = true then some (g xs[i]) else none) else none) = ((xs.take n).filter q).map g
  | 0, _ => by rw [List.take_zero]; rfl
  | n + 1, h => by
    have hn : n < xs.length := by omega
    rw [lcL_succ, lcL_filter xs q g n (by omega), List.take_succ, List.getElem?_eq_getElem hn, List.filter_append, List.map_append]
    congr 1
    rw [dif_pos hn]
    cases e : q xs[n] <;> simp [List.filter, e]
section
variable {α : Type} {n : Nat} {it : Nat → D} {C : List (Option O) → Prop} {tg : PTG} {tt : PTT} {pe : PTE} {vs : List Nat} {A1 : Abs} {P : R → Abs → Prop} {Y : PX}
theorem lc_gen {xs : List α} {f : α → D} (q : α → Bool) (g : α → D) (hl : n = xs.length) (hit : ∀ i, (h : i < xs.length) → it i = f xs[i]) (hC : C A1.M) (hn : xs.length ≤ 16777216)
    (hs : ∀ x ∈ xs, ∃ env', tg (f x) (wipeA A1.env vs) = some env' ∧ ∀ J : Option D → List (Option O) → Prop, (if q x = true then J (some (g x)) A1.M else J none A1.M) → tt ⟨env', A1.M⟩ (Hand J pe Y) Y)
    (hp : P (.o (.lst ((xs.filter q).map g))) A1) : LcP n it C tg tt pe vs A1 P Y := by
  subst hl
  refine lc_run (fun i => if h : i < xs.length then (if q xs[i] = true then some (g xs[i]) else none) else none) hC hn (fun i hi => ?_) ?_
  · obtain ⟨env', e, k⟩ := hs xs[i] (List.getElem_mem hi)
    rw [hit i hi]
    refine ⟨env', e, fun J hJ => k J ?_⟩
    rw [dif_pos hi] at hJ
    split
    · rename_i z; rw [if_pos z] at hJ; exact hJ
    · rename_i z; rw [if_neg z] at hJ; exact hJ
  · rw [lcL_filter xs q g xs.length (Nat.le_refl _), List.take_length]
    exact hp
theorem filter_all (xs : List α) : xs.filter (fun _ => true) = xs := by
  induction xs with
  | nil => rfl
  | cons x r ih => rw [List.filter_cons, if_pos rfl, ih]
/-- over a list, with a test -/
theorem lc_over {xs : List α} {f : α → D} (q : α → Bool) (g : α → D) (hC : C A1.M) (hn : xs.length ≤ 16777216)
    (hs : ∀ x ∈ xs, ∃ env', tg (f x) (wipeA A1.env vs) = some env' ∧ ∀ J : Option D → List (Option O) → Prop, (if q x = true then J (some (g x)) A1.M else J none A1.M) → tt ⟨env', A1.M⟩ (Hand J pe Y) Y)
    (hp : P (.o (.lst ((xs.filter q).map g))) A1) : LcP (xs.map f).length (itL (xs.map f)) C tg tt pe vs A1 P Y :=
  lc_gen q g (List.length_map f) (fun i h => itL_map h) hC hn hs hp
theorem lc_each {xs : List α} {f : α → D} (g : α → D) (hC : C A1.M) (hn : xs.length ≤ 16777216)
    (hs : ∀ x ∈ xs, ∃ env', tg (f x) (wipeA A1.env vs) = some env' ∧ ∀ J : Option D → List (Option O) → Prop, J (some (g x)) A1.M → tt ⟨env', A1.M⟩ (Hand J pe Y) Y)
    (hp : P (.o (.lst (xs.map g))) A1) : LcP (xs.map f).length (itL (xs.map f)) C tg tt pe vs A1 P Y :=
  lc_over (fun _ => true) g hC hn (fun x hx => by
    obtain ⟨env', e, k⟩ := hs x hx
    exact ⟨env', e, fun J hJ => k J hJ⟩) (by rw [filter_all]; exact hp)
/-- over a range -/
theorem lc_rng {lo : Int} (q : Nat → Bool) (g : Nat → D) (hC : C A1.M) (hn : n ≤ 16777216)
    (hs : ∀ i, i < n → ∃ env', tg (.int (lo + (i : Nat))) (wipeA A1.env vs) = some env' ∧ ∀ J : Option D → List (Option O) → Prop, (if q i = true then J (some (g i)) A1.M else J none A1.M) → tt ⟨env', A1.M⟩ (Hand J pe Y) Y)
    (hp : P (.o (.lst (((List.range n).filter q).map g))) A1) : LcP n (fun i => .int (lo + (i : Nat))) C tg tt pe vs A1 P Y :=
  lc_gen (xs := List.range n) (f := fun i : Nat => D.int (lo + (i : Nat))) q g List.length_range.symm (fun i h => by rw [List.getElem_range]) hC (by rw [List.length_range]; exact hn) (fun i hi => hs i (List.mem_range.mp hi)) hp
theorem lc_rng0 (q : Nat → Bool) (g : Nat → D) (hC : C A1.M) (hn : n ≤ 16777216)
    (hs : ∀ i, i < n → ∃ env', tg (.int (i : Nat)) (wipeA A1.env vs) = some env' ∧ ∀ J : Option D → List (Option O) → Prop, (if q i = true then J (some (g i)) A1.M else J none A1.M) → tt ⟨env', A1.M⟩ (Hand J pe Y) Y)
    (hp : P (.o (.lst (((List.range n).filter q).map g))) A1) : LcP n (fun i => .int (i : Nat)) C tg tt pe vs A1 P Y :=
  lc_gen (xs := List.range n) (f := fun i : Nat => D.int (i : Nat)) q g List.length_range.symm (fun i h => by rw [List.getElem_range]) hC (by rw [List.length_range]; exact hn) (fun i hi => hs i (List.mem_range.mp hi)) hp
theorem lc_rngA {lo : Int} (g : Nat → D) (hC : C A1.M) (hn : n ≤ 16777216)
    (hs : ∀ i, i < n → ∃ env', tg (.int (lo + (i : Nat))) (wipeA A1.env vs) = some env' ∧ ∀ J : Option D → List (Option O) → Prop, J (some (g i)) A1.M → tt ⟨env', A1.M⟩ (Hand J pe Y) Y)
    (hp : P (.o (.lst ((List.range n).map g))) A1) : LcP n (fun i => .int (lo + (i : Nat))) C tg tt pe vs A1 P Y :=
  lc_rng (fun _ => true) g hC hn (fun x hx => by
    obtain ⟨env', e, k⟩ := hs x hx
    exact ⟨env', e, fun J hJ => k J hJ⟩) (by rw [filter_all]; exact hp)
theorem lc_rngA0 (g : Nat → D) (hC : C A1.M) (hn : n ≤ 16777216)
    (hs : ∀ i, i < n → ∃ env', tg (.int (i : Nat)) (wipeA A1.env vs) = some env' ∧ ∀ J : Option D → List (Option O) → Prop, J (some (g i)) A1.M → tt ⟨env', A1.M⟩ (Hand J pe Y) Y)
    (hp : P (.o (.lst ((List.range n).map g))) A1) : LcP n (fun i => .int (i : Nat)) C tg tt pe vs A1 P Y :=
  lc_rng0 (fun _ => true) g hC hn (fun x hx => by
    obtain ⟨env', e, k⟩ := hs x hx
    exact ⟨env', e, fun J hJ => k J hJ⟩) (by rw [filter_all]; exact hp)
/-- over the signs of a text -/
theorem lc_str {l : Tx} (q : Nat → Bool) (g : Nat → D) (hC : C A1.M) (hn : l.length ≤ 16777216)
    (hs : ∀ c ∈ l, ∃ env', tg (.str [c]) (wipeA A1.env vs) = some env' ∧ ∀ J : Option D → List (Option O) → Prop, (if q c = true then J (some (g c)) A1.M else J none A1.M) → tt ⟨env', A1.M⟩ (Hand J pe Y) Y)
    (hp : P (.o (.lst ((l.filter q).map g))) A1) : LcP l.length (fun i => .str [l.getD i 0]) C tg tt pe vs A1 P Y :=
  lc_gen (xs := l) (f := fun c => D.str [c]) q g rfl (fun i h => by rw [List.getD_eq_getElem?_getD, List.getElem?_eq_getElem h]; rfl) hC hn hs hp
theorem lc_strA {l : Tx} (g : Nat → D) (hC : C A1.M) (hn : l.length ≤ 16777216)
    (hs : ∀ c ∈ l, ∃ env', tg (.str [c]) (wipeA A1.env vs) = some env' ∧ ∀ J : Option D → List (Option O) → Prop, J (some (g c)) A1.M → tt ⟨env', A1.M⟩ (Hand J pe Y) Y)
    (hp : P (.o (.lst (l.map g))) A1) : LcP l.length (fun i => .str [l.getD i 0]) C tg tt pe vs A1 P Y :=
  lc_str (fun _ => true) g hC hn (fun x hx => by
    obtain ⟨env', e, k⟩ := hs x hx
    exact ⟨env', e, fun J hJ => k J hJ⟩) (by rw [filter_all]; exact hp)
end
/-! ### for over typed lists -/
section
variable {α : Type} {n : Nat} {it : Nat → D} {C : List (Option O) → Prop} {tg : PTG} {body : PTS} {P : PEnds} {A1 : Abs}
theorem for_gen {xs : List α} {f : α → D} (hl : n = xs.length) (hit : ∀ i, (h : i < xs.length) → it i = f xs[i]) (Inv : List α → Abs → Prop) (h0 : Inv [] A1) (hC : ∀ pre A', Inv pre A' → C A'.M)
    (hs : ∀ pre x post A', xs = pre ++ x :: post → Inv pre A' → ∃ env', tg (f x) A'.env = some env' ∧ ∀ J Kb : Abs → Prop, (∀ A, Inv (pre ++ [x]) A → J A) → (∀ A, P.nx A → Kb A) → body { nx := J, rt := P.rt, bk := Kb, ct := J, ex := P.ex } ⟨env', A'.M⟩)
    (hd : ∀ A', Inv xs A' → P.nx A') : ForP n it C tg body P A1 := by
  subst hl
  refine ⟨fun i A => Inv (xs.take i) A, h0, fun i A' _ h => hC _ A' h, fun i A' hi hA => ?_, fun A' h => hd A' (by have h : Inv (xs.take xs.length) A' := h; rw [List.take_length] at h; exact h)⟩
  have e : xs = xs.take i ++ xs[i] :: xs.drop (i + 1) := by
    conv => lhs; rw [← List.take_append_drop i xs]
    rw [List.drop_eq_getElem_cons hi]
  obtain ⟨env', e1, k⟩ := hs _ _ _ A' e hA
  refine ⟨env', by rw [hit i hi]; exact e1, ?_⟩
  refine k _ _ (fun A h => ?_) (fun A h => h)
  have : xs.take (i + 1) = xs.take i ++ [xs[i]] := by
    rw [List.take_succ, List.getElem?_eq_getElem hi]
    rfl
  show Inv (xs.take (i + 1)) A
  rw [this]
  exact h
theorem for_over {xs : List α} {f : α → D} (Inv : List α → Abs → Prop) (h0 : Inv [] A1) (hC : ∀ pre A', Inv pre A' → C A'.M)
    (hs : ∀ pre x post A', xs = pre ++ x :: post → Inv pre A' → ∃ env', tg (f x) A'.env = some env' ∧ ∀ J Kb : Abs → Prop, (∀ A, Inv (pre ++ [x]) A → J A) → (∀ A, P.nx A → Kb A) → body { nx := J, rt := P.rt, bk := Kb, ct := J, ex := P.ex } ⟨env', A'.M⟩)
    (hd : ∀ A', Inv xs A' → P.nx A') : ForP (xs.map f).length (itL (xs.map f)) C tg body P A1 :=
  for_gen (List.length_map f) (fun i h => itL_map h) Inv h0 hC hs hd
theorem for_rng {lo : Int} (Inv : Nat → Abs → Prop) (h0 : Inv 0 A1) (hC : ∀ i A', i ≤ n → Inv i A' → C A'.M)
    (hs : ∀ i A', i < n → Inv i A' → ∃ env', tg (.int (lo + (i : Nat))) A'.env = some env' ∧ ∀ J Kb : Abs → Prop, (∀ A, Inv (i + 1) A → J A) → (∀ A, P.nx A → Kb A) → body { nx := J, rt := P.rt, bk := Kb, ct := J, ex := P.ex } ⟨env', A'.M⟩)
    (hd : ∀ A', Inv n A' → P.nx A') : ForP n (fun i => .int (lo + (i : Nat))) C tg body P A1 :=
  ⟨Inv, h0, hC, fun i A' hi hA => by
    obtain ⟨e, h1, h2⟩ := hs i A' hi hA
    exact ⟨e, h1, h2 _ _ (fun _ h => h) (fun _ h => h)⟩, hd⟩
theorem for_rng0 (Inv : Nat → Abs → Prop) (h0 : Inv 0 A1) (hC : ∀ i A', i ≤ n → Inv i A' → C A'.M)
    (hs : ∀ i A', i < n → Inv i A' → ∃ env', tg (.int (i : Nat)) A'.env = some env' ∧ ∀ J Kb : Abs → Prop, (∀ A, Inv (i + 1) A → J A) → (∀ A, P.nx A → Kb A) → body { nx := J, rt := P.rt, bk := Kb, ct := J, ex := P.ex } ⟨env', A'.M⟩)
    (hd : ∀ A', Inv n A' → P.nx A') : ForP n (fun i => .int (i : Nat)) C tg body P A1 :=
  ⟨Inv, h0, hC, fun i A' hi hA => by
    obtain ⟨e, h1, h2⟩ := hs i A' hi hA
    exact ⟨e, h1, h2 _ _ (fun _ h => h) (fun _ h => h)⟩, hd⟩
theorem for_any (Inv : Nat → Abs → Prop) (h0 : Inv 0 A1) (hC : ∀ i A', i ≤ n → Inv i A' → C A'.M)
    (hs : ∀ i A', i < n → Inv i A' → ∃ env', tg (it i) A'.env = some env' ∧ ∀ J Kb : Abs → Prop, (∀ A, Inv (i + 1) A → J A) → (∀ A, P.nx A → Kb A) → body { nx := J, rt := P.rt, bk := Kb, ct := J, ex := P.ex } ⟨env', A'.M⟩)
    (hd : ∀ A', Inv n A' → P.nx A') : ForP n it C tg body P A1 :=
  ⟨Inv, h0, hC, fun i A' hi hA => by
    obtain ⟨e, h1, h2⟩ := hs i A' hi hA
    exact ⟨e, h1, h2 _ _ (fun _ h => h) (fun _ h => h)⟩, hd⟩
theorem for_strs {l : Tx} (Inv : Tx → Abs → Prop) (h0 : Inv [] A1) (hC : ∀ pre A', Inv pre A' → C A'.M)
    (hs : ∀ pre c post A', l = pre ++ c :: post → Inv pre A' → ∃ env', tg (.str [c]) A'.env = some env' ∧ ∀ J Kb : Abs → Prop, (∀ A, Inv (pre ++ [c]) A → J A) → (∀ A, P.nx A → Kb A) → body { nx := J, rt := P.rt, bk := Kb, ct := J, ex := P.ex } ⟨env', A'.M⟩)
    (hd : ∀ A', Inv l A' → P.nx A') : ForP l.length (fun i => .str [l.getD i 0]) C tg body P A1 :=
  for_gen (f := fun c => D.str [c]) rfl (fun i h => by rw [List.getD_eq_getElem?_getD, List.getElem?_eq_getElem h]; rfl) Inv h0 hC hs hd
end
/-! ### while -/
def WhileP (t : PTT) (body : PTS) (P : PEnds) (A : Abs) : Prop := ∃ W : Nat → Abs → Prop, (∃ m, W m A) ∧ ∀ m A', W m A' → t A' (fun b A1 => if b = true then body { P with nx := fun A2 => ∃ m', m' < m ∧ W m' A2, ct := fun A2 => ∃ m', m' < m ∧ W m' A2, bk := P.nx } A1 else P.nx A1) P.ex
theorem pWhile_eq (t : PTT) (body : PTS) (P : PEnds) (A : Abs) : pWhile t body P A = WhileP t body P A := rfl
theorem while_run {t : PTT} {body : PTS} {P : PEnds} {A : Abs} (W : Nat → Abs → Prop) (m0 : Nat) (h0 : W m0 A)
    (hs : ∀ m A', W m A' → ∀ J Kb : Abs → Prop, (∀ m' A2, m' < m → W m' A2 → J A2) → (∀ A2, P.nx A2 → Kb A2) → t A' (fun b A1 => if b = true then body { nx := J, rt := P.rt, bk := Kb, ct := J, ex := P.ex } A1 else P.nx A1) P.ex) : WhileP t body P A :=
  ⟨W, ⟨m0, h0⟩, fun m A' h => hs m A' h _ _ (fun m' A2 h1 h2 => ⟨m', h1, h2⟩) (fun _ h => h)⟩
/-! ### places -/
theorem then_eq (q : PTS) (P : PEnds) (A : Abs) : Then q P A = q P A := rfl
theorem at_ex {α : Type} {xs : List α} {i : Int} {P : α → Prop} (h0 : 0 ≤ i) (h1 : i < xs.length) (h : ∀ d ∈ xs, P d) : ∃ d, atI xs i = some d ∧ P d := by
  have h3 : i.toNat < xs.length := by omega
  refine ⟨xs[i.toNat], ?_, h _ (List.getElem_mem h3)⟩
  unfold atI ixN
  rw [if_pos h0, if_pos h1]
  show xs[i.toNat]? = _
  rw [List.getElem?_eq_getElem h3]
theorem ixN_nat {n m : Nat} (h : m < n) : ixN n (m : Int) = some m := by
  unfold ixN
  rw [if_pos (by omega), if_pos (by omega), Int.toNat_natCast]
theorem atI_nat {α : Type} {xs : List α} {m : Nat} (h : m < xs.length) : atI xs (m : Int) = some xs[m] := by
  unfold atI
  rw [ixN_nat h]
  show xs[m]? = _
  rw [List.getElem?_eq_getElem h]
theorem atI_last {α : Type} (r : List α) (x : α) : atI (r ++ [x]) (-1) = some x := by
  unfold atI ixN
  rw [if_neg (by decide), if_pos (by rw [List.length_append, List.length_singleton]; omega)]
  show (r ++ [x])[(-1 + ((r ++ [x]).length : Int)).toNat]? = _
  have : (-1 + ((r ++ [x]).length : Int)).toNat = r.length := by rw [List.length_append, List.length_singleton]; omega
  rw [this, List.getElem?_append_right (Nat.le_refl _), Nat.sub_self]
  rfl
theorem getD_of {α : Type} {xs : List α} {i : Nat} (h : i < xs.length) (z : α) : xs.getD i z = xs[i] := by
  rw [List.getD_eq_getElem?_getD, List.getElem?_eq_getElem h]
  rfl
/-- the thing at a place of a list of a kind -/
theorem atI_of {α : Type} {xs : List α} {f : α → D} {i : Int} (z : α) (h0 : 0 ≤ i) (h1 : i < xs.length) : atI (xs.map f) i = some (f (xs.getD i.toNat z)) := by
  have h : i.toNat < (xs.map f).length := by rw [List.length_map]; omega
  have e := atI_nat h
  rw [Int.toNat_of_nonneg h0] at e
  rw [e, List.getElem_map, getD_of (by omega)]
theorem ixN_of {n : Nat} {i : Int} (h0 : 0 ≤ i) (h1 : i < n) : ixN n i = some i.toNat := by
  have := ixN_nat (n := n) (m := i.toNat) (by omega)
  rwa [Int.toNat_of_nonneg h0] at this
theorem rep_flat {α : Type} (x : α) : ∀ n : Nat, (List.replicate n [x]).flatten = List.replicate n x
  | 0 => rfl
  | n + 1 => by
    rw [List.replicate_succ, List.flatten_cons, rep_flat x n, List.replicate_succ]
    rfl
/-! ### equality of data -/
theorem deq_bl (a b : Bool) : deq (.bl a) (.bl b) = decide (a = b) := by cases a <;> cases b <;> rfl
theorem deqs_map {α : Type} [DecidableEq α] (f : α → D) (hf : ∀ x y, deq (f x) (f y) = decide (x = y)) : ∀ xs ys : List α, deqs (xs.map f) (ys.map f) = decide (xs = ys)
  | [], [] => rfl
  | [], _ :: _ => rfl
  | _ :: _, [] => rfl
  | x :: xs, y :: ys => by
    rw [List.map_cons, List.map_cons]
    show (deq (f x) (f y) && deqs (xs.map f) (ys.map f)) = _
    rw [hf, deqs_map f hf xs ys]
    simp [List.cons.injEq]
theorem okD_map {α : Type} {xs : List α} {f : α → D} {m : Nat} (hm : m < 60) (h : ∀ x ∈ xs, chk (f x) = true ∧ dep (f x) ≤ m) : okD (.lst (xs.map f)) := okD_lst hm fun x hx => by
  obtain ⟨y, hy, rfl⟩ := List.mem_map.mp hx
  exact h y hy
theorem okD_ints {xs : List Int} : okD (.lst (xs.map D.int)) := okD_map (m := 0) (by decide) fun x _ => ⟨rfl, Nat.le_refl _⟩
theorem okD_strX {xs : List Tx} (h : ∀ l ∈ xs, okX l) : okD (.lst (xs.map D.str)) := okD_map (m := 0) (by decide) fun x hx => chkx_str (h x hx)
theorem okD_strS {xs : List Tx} (h : ∀ l ∈ xs, small l = true) : okD (.lst (xs.map D.str)) := okD_strX fun l hl => small_okX (h l hl)
theorem map_isEmpty {α β : Type} (f : α → β) (xs : List α) : (xs.map f).isEmpty = xs.isEmpty := by cases xs <;> rfl
end PD

/-! PE, second part: sorting. -/
namespace PD
open PySem PySem.Spec PyProof.Rows L2
/-- the strict order of data -/
def dlt (x y : D) : Bool := PyProof.Rows.lexLt PyProof.Rows.itemOrd (PySem.W.keyToks (py x)) (PySem.W.keyToks (py y))
theorem leD_dlt (x y : D) : leD x y = !dlt y x := rfl
theorem dlt_int (a b : Int) : dlt (.int a) (.int b) = decide (a < b) := by
  unfold dlt
  show PyProof.Rows.lexLt PyProof.Rows.itemOrd [Sum.inl a] [Sum.inl b] = _
  rw [PyProof.Rows.lex_cons]
  show (decide (a < b) || (!decide (b < a) && false)) = _
  simp
theorem dlt_str (a b : Tx) : dlt (.str a) (.str b) = decide (a < b) := by
  unfold dlt
  show PyProof.Rows.lexLt PyProof.Rows.itemOrd [Sum.inr (st a).cps.toList] [Sum.inr (st b).cps.toList] = _
  rw [PyProof.Rows.lex_cons, st_tl, st_tl]
  show (decide (a < b) || (!decide (b < a) && false)) = _
  simp
theorem lex_pre {O : PyProof.Rows.KeyOrd} {x : O.α} {a b : List O.α} : PyProof.Rows.lexLt O (x :: a) (x :: b) = PyProof.Rows.lexLt O a b := PyProof.Rows.lex_self x a b
/-- pairs whose first things are texts, unlike -/
theorem dlt_pair {a b : Tx} {x y : D} (h : a ≠ b) : dlt (.tup [.str a, x]) (.tup [.str b, y]) = decide (a < b) := by
  unfold dlt
  show PyProof.Rows.lexLt PyProof.Rows.itemOrd (Sum.inl 1 :: Sum.inr (st a).cps.toList :: _) (Sum.inl 1 :: Sum.inr (st b).cps.toList :: _) = _
  rw [lex_pre, st_tl, st_tl, PyProof.Rows.lex_diff (fun e => h (Sum.inr.inj e))]
  rfl
theorem leD_trans (a b c : D) (h1 : leD a b = true) (h2 : leD b c = true) : leD a c = true := (PySem.W.sortLe_total (listOrd PyProof.Rows.itemOrd) false fun b : D => PySem.W.keyToks (py b)).trans a b c h1 h2
theorem leD_total (a b : D) : (leD a b || leD b a) = true := by
  have := (PySem.W.sortLe_total (listOrd PyProof.Rows.itemOrd) false fun b => PySem.W.keyToks (py b)).total a b
  rw [Bool.or_eq_true]
  exact this
theorem srt_sorted (xs : List D) : (srt xs).Pairwise (fun a b => leD a b = true) := List.pairwise_mergeSort (fun a b c => leD_trans a b c) leD_total xs
theorem srt_perm (xs : List D) : (srt xs).Perm xs := List.mergeSort_perm xs leD
theorem srt_uniq {xs ys : List D} (hp : ys.Perm xs) (hs : ys.Pairwise fun a b => leD a b = true) (ha : ∀ a ∈ xs, ∀ b ∈ xs, leD a b = true → leD b a = true → a = b) : srt xs = ys :=
  List.Perm.eq_of_pairwise (fun a b h1 h2 => ha a ((srt_perm xs).mem_iff.mp h1) b (hp.mem_iff.mp h2)) (srt_sorted xs) hs ((srt_perm xs).trans hp.symm)
theorem srt_mem {xs : List D} {x : D} : x ∈ srt xs ↔ x ∈ xs := (List.mergeSort_perm xs leD).mem_iff
theorem srt_len {xs : List D} : (srt xs).length = xs.length := (List.mergeSort_perm xs leD).length_eq
/-- a list of a kind, with its own strict order -/
theorem srt_map {α : Type} {f : α → D} {xs ys : List α} (hp : ys.Perm xs) (lt : α → α → Prop) (hlt : ∀ a ∈ xs, ∀ b ∈ xs, dlt (f a) (f b) = true ↔ lt a b) (hs : ys.Pairwise lt) (ht : ∀ a ∈ xs, ∀ b ∈ xs, ¬ lt a b → ¬ lt b a → a = b) (hn : ∀ a ∈ xs, ∀ b ∈ xs, lt a b → ¬ lt b a) : srt (xs.map f) = ys.map f := by
  refine srt_uniq (hp.map f) (List.pairwise_map.mpr ?_) ?_
  · refine hs.imp_of_mem fun {a b} ha hb h => ?_
    rw [leD_dlt]
    have ha := hp.mem_iff.mp ha
    have hb := hp.mem_iff.mp hb
    cases e : dlt (f b) (f a)
    · rfl
    · exact absurd ((hlt b hb a ha).mp e) (hn a ha b hb h)
  · rintro _ h1 _ h2 e1 e2
    obtain ⟨a, ha, rfl⟩ := List.mem_map.mp h1
    obtain ⟨b, hb, rfl⟩ := List.mem_map.mp h2
    rw [leD_dlt] at e1 e2
    have g1 : ¬ lt b a := fun z => by
      rw [(hlt b hb a ha).mpr z] at e1
      cases e1
    have g2 : ¬ lt a b := fun z => by
      rw [(hlt a ha b hb).mpr z] at e2
      cases e2
    rw [ht a ha b hb g2 g1]
theorem srt_ints {xs ys : List Int} (hp : ys.Perm xs) (hs : ys.Pairwise (· < ·)) : srt (xs.map .int) = ys.map .int :=
  srt_map hp (· < ·) (fun a _ b _ => by rw [dlt_int, decide_eq_true_eq]) hs (fun a _ b _ h1 h2 => by omega) (fun a _ b _ h => by omega)
theorem tx_total {a b : Tx} (h1 : ¬ a < b) (h2 : ¬ b < a) : a = b := List.le_antisymm (List.not_lt.mp h2) (List.not_lt.mp h1)
theorem tx_asymm {a b : Tx} (h : a < b) : ¬ b < a := fun z => List.lt_irrefl a (List.lt_trans h z)
theorem srt_strs {xs ys : List Tx} (hp : ys.Perm xs) (hs : ys.Pairwise (· < ·)) : srt (xs.map .str) = ys.map .str :=
  srt_map hp (· < ·) (fun a _ b _ => by rw [dlt_str, decide_eq_true_eq]) hs (fun a _ b _ h1 h2 => tx_total h1 h2) (fun a _ b _ h => tx_asymm h)
/-- texts sorted -/
def tle (a b : Tx) : Bool := !decide (b < a)
def srtT (xs : List Tx) : List Tx := xs.mergeSort tle
theorem srt_texts (xs : List Tx) : srt (xs.map .str) = (srtT xs).map .str := by
  unfold srt srtT
  exact (List.map_mergeSort fun a _ b _ => by rw [leD_dlt, dlt_str]; rfl).symm
theorem srtT_perm (xs : List Tx) : (srtT xs).Perm xs := List.mergeSort_perm xs tle
theorem tle_iff {a b : Tx} : tle a b = true ↔ a ≤ b := by
  unfold tle
  rw [Bool.not_eq_true', decide_eq_false_iff_not]
  exact List.not_lt
theorem srtT_sorted (xs : List Tx) : (srtT xs).Pairwise (· ≤ ·) := by
  have := List.pairwise_mergeSort (le := tle) (fun a b c h1 h2 => tle_iff.mpr (List.le_trans (tle_iff.mp h1) (tle_iff.mp h2))) (fun a b => by
    rw [Bool.or_eq_true, tle_iff, tle_iff]
    exact List.le_total a b) xs
  exact this.imp fun h => tle_iff.mp h
theorem srtT_strict {xs : List Tx} (h : xs.Nodup) : (srtT xs).Pairwise (· < ·) := by
  have h1 := srtT_sorted xs
  have h2 : (srtT xs).Nodup := (srtT_perm xs).nodup_iff.mpr h
  refine (h1.and h2).imp fun {a b} ⟨h1, h2⟩ => ?_
  by_cases e : a < b
  · exact e
  · exact absurd (List.le_antisymm h1 (List.not_lt.mp e)) h2
/-- pairs of a text and a thing, the texts unlike -/
theorem srt_pairs {α : Type} {g : α → D} {xs ys : List (Tx × α)} (hp : ys.Perm xs) (hs : (ys.map (·.1)).Pairwise (· < ·)) : srt (xs.map fun p => .tup [.str p.1, g p.2]) = ys.map fun p => .tup [.str p.1, g p.2] := by
  have hs' : ys.Pairwise fun a b => a.1 < b.1 := List.pairwise_map.mp hs
  have hn : ∀ a ∈ xs, ∀ b ∈ xs, a.1 = b.1 → a = b := by
    have hnd0 : (ys.map (·.1)).Nodup := hs.imp fun {a b} h e => by
      subst e
      exact List.lt_irrefl _ h
    have hnd : (xs.map (·.1)).Nodup := (hp.map (·.1)).nodup_iff.mp hnd0
    intro a ha b hb e
    rw [List.nodup_iff_pairwise_ne, List.pairwise_map] at hnd
    rcases List.mem_iff_getElem.mp ha with ⟨i, hi, rfl⟩
    rcases List.mem_iff_getElem.mp hb with ⟨j, hj, rfl⟩
    rw [List.pairwise_iff_getElem] at hnd
    rcases Nat.lt_trichotomy i j with h | h | h
    · exact absurd e (hnd i j hi hj h)
    · subst h; rfl
    · exact absurd e.symm (hnd j i hj hi h)
  refine srt_uniq (hp.map _) (List.pairwise_map.mpr (hs'.imp fun {a b} h => ?_)) ?_
  · rw [leD_dlt, dlt_pair (fun e => by rw [e] at h; exact List.lt_irrefl _ h)]
    rw [decide_eq_false (tx_asymm h)]
    rfl
  · rintro _ h1 _ h2 e1 e2
    obtain ⟨a, ha, rfl⟩ := List.mem_map.mp h1
    obtain ⟨b, hb, rfl⟩ := List.mem_map.mp h2
    by_cases e : a.1 = b.1
    · rw [hn a ha b hb e]
    · rw [leD_dlt, dlt_pair (Ne.symm e)] at e1
      rw [leD_dlt, dlt_pair e] at e2
      refine absurd (tx_total (a := a.1) (b := b.1) (fun z => ?_) (fun z => ?_)) e
      · rw [decide_eq_true z] at e2; cases e2
      · rw [decide_eq_true z] at e1; cases e1
/-! when sorting is allowed -/
theorem srtOk_ints {ls : List Int} : srtOk (ls.map D.int) := by
  refine ⟨?_, ?_, fun x hx => ?_⟩
  · rw [List.map_map]
    exact PySem.W.AllAlike.of fun b b' => rfl
  · rw [List.map_map]
    exact PySem.W.Sortable.others fun b => ⟨nofun, fun xs => nofun⟩
  · obtain ⟨l, hl, rfl⟩ := List.mem_map.mp hx
    exact ⟨rfl, Nat.zero_le _⟩
theorem srtOk_strs {ls : List Tx} (h : ∀ l ∈ ls, okX l) : srtOk (ls.map D.str) := by
  refine ⟨?_, ?_, fun x hx => ?_⟩
  · rw [List.map_map]
    exact PySem.W.AllAlike.of fun b b' => rfl
  · rw [List.map_map]
    exact PySem.W.Sortable.others fun b => ⟨nofun, fun xs => nofun⟩
  · obtain ⟨l, hl, rfl⟩ := List.mem_map.mp hx
    have := chkx_str (h l hl)
    exact ⟨this.1, by omega⟩
theorem srtOk_pairs {ls : List (Tx × Int)} (h : ∀ p ∈ ls, okX p.1) : srtOk (ls.map fun p => D.tup [.str p.1, .int p.2]) := by
  refine ⟨?_, ?_, fun x hx => ?_⟩
  · rw [List.map_map]
    exact PySem.W.AllAlike.of fun b b' => rfl
  · rw [List.map_map]
    exact PySem.W.Sortable.tuples fun b => ⟨_, _, rfl⟩
  · obtain ⟨p, hp, rfl⟩ := List.mem_map.mp hx
    have := (chkx_str (h p hp)).1
    refine ⟨?_, by simp [dep, deps]⟩
    simp only [chk, chks, Bool.and_true] at this ⊢
    exact this
end PD

/-! PE, third part: sum, abs, enumerate, slices with a step, beginnings and ends of texts, d[k] += x. -/
namespace PD
open PySem PySem.Spec PyProof.Rows L2
/-! ### sum, abs -/
def intsD : List D → Option (List Int)
  | [] => some []
  | .int i :: r => (match intsD r with
    | some is => some (i :: is)
    | none => none)
  | _ => none
theorem intsD_map : ∀ is : List Int, intsD (is.map D.int) = some is
  | [] => rfl
  | i :: r => by
    show (match intsD (r.map D.int) with
      | some is => some (i :: is)
      | none => none) = _
    rw [intsD_map r]
theorem intsD_of : ∀ {ds : List D} {is : List Int}, intsD ds = some is → ds = is.map D.int
  | [], is, h => by cases h; rfl
  | .int i :: r, is, h => by
    unfold intsD at h
    split at h
    · rename_i js e
      cases h
      rw [intsD_of e]
      rfl
    · cases h
  | .non :: _, _, h => nomatch h
  | .bl _ :: _, _, h => nomatch h
  | .str _ :: _, _, h => nomatch h
  | .lst _ :: _, _, h => nomatch h
  | .tup _ :: _, _, h => nomatch h
  | .dic _ :: _, _, h => nomatch h
  | .dit _ :: _, _, h => nomatch h
  | .scr _ :: _, _, h => nomatch h
  | .exc _ :: _, _, h => nomatch h
  | .fn _ :: _, _, h => nomatch h
def cSum : BN
  | [.lst xs], P => ∃ is : List Int, xs = is.map D.int ∧ P (.d (.int is.sum))
  | _, _ => False
theorem snd_sum {K : PySem.W.Frag} : SndN K (rSum K) cSum := fun S H xs vs P Q le dv b k => by
  unfold cSum at b
  split at b
  · obtain ⟨v, rfl, d⟩ := dv.one
    obtain ⟨a, ws, rfl, h1, h2⟩ := d
    obtain ⟨is, rfl, b⟩ := b
    have e := h2.ints_of
    subst e
    exact ⟨a, is, rfl, SqL.of h1, k.dat _ _ b (.int _)⟩
  · exact b.elim
def cAbs : BN
  | [.int i], P => P (.d (.int (if i < 0 then -i else i)))
  | _, _ => False
theorem snd_abs {K : PySem.W.Frag} : SndN K (fun xs H Q => ∃ i, xs = [.int i] ∧ Q (.int (if i < 0 then -i else i)) H) cAbs := fun S H xs vs P Q le dv b k => by
  unfold cAbs at b
  split at b
  · obtain ⟨v, rfl, d⟩ := dv.one
    cases d
    exact ⟨_, rfl, k.dat _ _ b (.int _)⟩
  · exact b.elim
/-! ### enumerate -/
def itE (it : Nat → D) (i : Nat) : D := .tup [.int (i : Nat), it i]
theorem src_enumL {K : PySem.W.Frag} {Hb : Hp} {t : Nat → Addr} {S : Hp} {m : Nat} {a : Addr} {vs : List V} {xs : List D} (h1 : ∀ H, Le S H → SqL K H a vs) (h2 : DRs K S vs xs) : Src K (Ite K a) xs.length (itE (itL xs)) yes t S m Hb where
  stop := fun B' t' S' r' M' H' h e _ _ => ⟨vs, h1 _ (e.le.trans h.le), by rw [h2.length]; exact Nat.le_refl _⟩
  go := fun B' t' S' r' M' H' h e _ _ i hi => by
    have q : SqL K H' a vs := h1 _ (e.le.trans h.le)
    obtain ⟨x, ex⟩ : ∃ x, vs[i]? = some x := ⟨vs[i]'(by rw [h2.length]; exact hi), List.getElem?_eq_getElem _⟩
    refine ⟨⟨vs, x, q, ex⟩, fun y H'' hy => ?_⟩
    obtain ⟨T, z, rfl, hT, rfl, hy⟩ := hy
    have := hy vs q
    rw [ex] at this
    cases this
    obtain ⟨d, e1, e2⟩ := h2.get ex
    have e3 : itL xs i = d := by
      unfold itL
      rw [List.getD_eq_getElem?_getD, e1]
      rfl
    have ext : Ext t' S' M'.length t' (upd S' T (.tup [.int (i : Nat), x])) M'.length := ⟨fun b o z => by
      have ne : b ≠ T := fun y => by rw [y, h.of_none hT] at z; cases z
      rw [upd_ne ne]
      exact z, fun _ _ => rfl, Nat.le_refl _⟩
    refine ⟨fun b o z => ?_, upd S' T (.tup [.int (i : Nat), x]), h.stable hT _, ext, ?_⟩
    · have ne : b ≠ T := fun y => by rw [y, hT] at z; cases z
      rw [upd_ne ne]
      exact z
    · unfold itE
      rw [e3]
      exact .tup upd_same (.cons (.int _) (.cons ((e2.mono e.le).mono ext.le) .nil))
def pEnum (q : PTE) : PTI := fun A P Y => q A (fun y A1 => match y.fz with
  | some (.d (.lst xs)) => P xs.length (itE (itL xs)) yes A1
  | some (.d (.scr ns)) => P ns.length (itE (itL (ns.map D.int))) yes A1
  | _ => False) Y
theorem sim_enum {K : PySem.W.Frag} {E : WX} {te : TE} {p : PTE} (h : SimE K E te p) : SimI K E (iEnum K (tCons te tNil)) (pEnum p) := fun B σ H A P Y R rel x q xq => by
  refine h B σ H A _ _ _ rel x (fun y A1 v H1 p1 r1 => ?_) xq
  split at p1
  · rename_i xs e
    obtain ⟨t, S, ρ, hh, s, k⟩ := r1.fzD e
    obtain ⟨a, vs, rfl, h1, h2⟩ := DR.lst_of k
    exact ⟨a, vs, rfl, SqL.of (hh.le.lst h1), q _ _ _ _ _ _ p1 ⟨t, S, ρ, ⟨hh, s⟩, src_enumL (fun H le => SqL.of (le.lst h1)) h2⟩⟩
  · rename_i ns e
    obtain ⟨t, S, ρ, hh, s, k⟩ := r1.fzD e
    obtain ⟨a, rfl, h1⟩ := DR.scr_of k
    have := src_enumL (K := K) (Hb := H1) (t := t) (S := S) (m := A1.M.length) (a := a) (xs := ns.map D.int) (fun H le => le.sql h1) DRs.ints
    rw [List.length_map] at this
    exact ⟨a, _, rfl, hh.le.sql h1, q _ _ _ _ _ _ p1 ⟨t, S, ρ, ⟨hh, s⟩, this⟩⟩
  · exact p1.elim
theorem di_enum {X : Cx} {E : WX} {K : PySem.W.Frag} {elts : List Expr} {kk : Nat} {tpos p pos : Pos} {e : Expr} {te : TE} {q : PTE} (hg : Gl X "enumerate") (hm : X.mg "enumerate" = none) (h : DE X E e te q) (hK : X.K = K := by rfl)
    (hs : starEach [e] X.env = [(false, eval e X.env)] := by rfl) (hs2 : starEach [e] X.env = (false, eval e X.env) :: starEach [] X.env := by rfl) :
    DI X E (.Tuple elts kk tpos) (.Call (.Name "enumerate" p) [e] [] pos) (iEnum K (tCons te tNil)) (pEnum q) := by
  subst hK
  exact ⟨pi_enum hg hm (pa_cons h.pe pa_nil hs2) hs, sim_enum h.sim⟩
/-! ### text[lo::step] -/
def stepS (z : Str) (l : Option Int) (k : Int) : Str := ⟨((Builtin.Str.strSliceIndices l none k z.length).filterMap (z.cps[·]?)).toArray⟩
def tStepS (te : TE) (tl ts : TO) : TE := fun σ H Q => te σ H fun x H1 => tl σ H1 fun l H2 => ts σ H2 fun s H3 => ∃ z k, x = .str z ∧ s = some k ∧ k ≠ 0 ∧ k ≠ 1 ∧ z.length ≤ sizeLine ∧ (stepS z l k).length ≤ sizeLine ∧ Q (.str (stepS z l k)) H3
theorem pe_stepS {X : Cx} {e st : Expr} {lo : Option Expr} {te : TE} {tl ts : TO} {p3 pos : Pos} (he : PE X e te) (hl : PO X lo tl) (hst : PO X (some st) ts) : PE X (.Subscript e (.Slice lo none (some st) p3) pos) (tStepS te tl ts) := by
  refine ⟨fun pins s σ H Q I h => ?_⟩
  refine Subscript_ (thn (he.run pins s σ H _ I h) fun v s1 ⟨x, H1, I1, r1, q1⟩ => ?_)
  refine wpAny_Slice (thn (hl.run pins s1 σ H1 _ I1 q1) fun vl s2 ⟨l, H2, I2, pl, q2⟩ => ?_)
  refine thn (po_none.run pins s2 σ H2 (fun o H3 => o = none ∧ H3 = H2) I2 ⟨rfl, rfl⟩) fun vu s3 ⟨u, H3, I3, pu, eu, e3⟩ => ?_
  subst eu e3
  refine thn (hst.run pins s3 σ H3 _ I3 q2) fun vs s4 ⟨o, H4, I4, ps, q4⟩ => ?_
  obtain ⟨z, k, ex, es, k0, k1, hz, hz2, q⟩ := q4
  subst ex es
  obtain ⟨t, rfl⟩ := r1
  obtain ⟨ll, rfl, el⟩ := IsPart.raw pl
  obtain ⟨uu, rfl, eu⟩ := IsPart.raw pu
  obtain ⟨kk, rfl, ek⟩ := IsPart.raw ps
  have I5 : Inv X pins σ H4 { s4 with heap := s4.heap.push { cls := .type "slice", data := .fields #[partValue ll, partValue uu, partValue kk] } } := I4.kept (t' := s4.toks) fun b ob q => Heap.get?_push_of_some _ q
  show wpAny (model X.prog X.w) X.A (subscriptTail e (.Slice lo none (some st) p3) (.str z t) (.ref s4.heap.objs.size)) (EP X pins σ Q) X.xe { s4 with heap := s4.heap.push { cls := .type "slice", data := .fields #[partValue ll, partValue uu, partValue kk] } }
  refine tail_any (ops := [.ref s4.heap.objs.size, .str z t]) (typeIs_str _ _ _) F.slot_str_getitem.lookup ?_ (by with_unfolding_all rfl)
  refine wpAny_getItem_str_slice (l := ll) (u := uu) (st := kk) ⟨_, Heap.get?_push_size _ rfl, rfl, rfl⟩ (by rw [ek]; simpa using k0) ?_
  have e1 : PySem.slicePicked z ll uu kk = Builtin.Str.strSliceIndices l none k z.length := by
    unfold PySem.slicePicked
    rw [el, eu, ek]
    rfl
  unfold PySem.sliceMade
  rw [e1, ek]
  rw [if_neg (by
    intro hh
    rw [Bool.and_eq_true] at hh
    have := hh.1
    simp at this
    exact k1 this)]
  exact ⟨hz2, .str _, H4, I5.tok _, ⟨_, rfl⟩, q⟩
def stepT (l : Tx) (lo : Option Int) (k : Int) : Tx := (Builtin.Str.strSliceIndices lo none k l.length).filterMap (l[·]?)
theorem stepS_st (l : Tx) (lo : Option Int) (k : Int) : stepS (st l) lo k = st (stepT l lo k) := by
  unfold stepS stepT st
  have e : (⟨l.toArray⟩ : Str).length = l.length := st_len l
  rw [e]
  congr 2
  refine congrArg (fun g => List.filterMap g _) (funext fun x => ?_)
  show l.toArray[x]? = l[x]?
  exact List.getElem?_toArray
def pStepS (pa : PTE) (pl ps : PTO) : PTE := fun A P Y => pa A (fun y1 A1 => match y1 with
  | .d (.str l) => pl A1 (fun lo A2 => ps A2 (fun s A3 => match s with
    | some k => k ≠ 0 ∧ k ≠ 1 ∧ l.length ≤ 16777216 ∧ (stepT l lo k).length ≤ 16777216 ∧ P (.d (.str (stepT l lo k))) A3
    | none => False) Y) Y
  | _ => False) Y
theorem de_stepS {X : Cx} {E : WX} {e st : Expr} {lo : Option Expr} {te : TE} {tl ts : TO} {pa : PTE} {pl ps : PTO} {p3 pos : Pos} (ha : DE X E e te pa) (hl : DO X E lo tl pl) (hs : DO X E (some st) ts ps) : DE X E (.Subscript e (.Slice lo none (some st) p3) pos) (tStepS te tl ts) (pStepS pa pl ps) := by
  refine ⟨pe_stepS ha.pe hl.pe hs.pe, fun B σ H A P Y Q rel p q xq => ?_⟩
  refine ha.sim B σ H A _ Y _ rel p (fun y1 A1 v1 H1 p1 res => ?_) xq
  split at p1
  · rename_i l
    obtain ⟨t, S, ρ, h, s, k⟩ := res
    cases DR.str_of k
    refine hl.sim B σ H1 A1 _ Y _ ⟨t, S, ρ, h, s⟩ p1 (fun lo A2 H2 p2 rel2 => ?_) xq
    refine hs.sim B σ H2 A2 _ Y _ rel2 p2 (fun o A3 H3 p3 rel3 => ?_) xq
    split at p3
    · rename_i k
      obtain ⟨k0, k1, h1, h2, p3⟩ := p3
      refine ⟨_, k, rfl, rfl, k0, k1, by rw [st_len]; exact h1, by rw [stepS_st, st_len]; exact h2, ?_⟩
      rw [stepS_st]
      obtain ⟨t3, S3, ρ3, h3, s3⟩ := rel3
      exact q _ A3 _ H3 p3 ⟨t3, S3, ρ3, h3, s3, .str _⟩
    · exact p3.elim
  · exact p1.elim
/-! ### xs[::-1] -/
def pRevL (pa : PTE) : PTE := fun A P Y => pa A (fun y A1 => match view A1.M y with
  | some (.lst xs) => P (.o (.lst xs.reverse)) A1
  | _ => False) Y
theorem de_revL {X : Cx} {E : WX} {K : PySem.W.Frag} {e : Expr} {te : TE} {pa : PTE} {k : Nat} {p1 p2 p3 pos : Pos} (ha : DE X E e te pa) (hK : X.K = K := by rfl) : DE X E (.Subscript e (.Slice none none (some (.UnaryOp .USub (.Constant (.int 1) k p1) p2)) p3) pos) (tRevL K te) (pRevL pa) := by
  subst hK
  refine ⟨pe_revL ha.pe, fun B σ H A P Y Q rel p q xq => ?_⟩
  refine ha.sim B σ H A _ Y _ rel p (fun y1 A1 v1 H1 p1 res => ?_) xq
  split at p1
  · rename_i xs ex
    obtain ⟨t, S, ρ, h, s, kk⟩ := res
    have n : Now X.K B t S ρ A1 σ H1 := ⟨h, s⟩
    obtain ⟨a, vs, rfl, h1, h2⟩ := n.view kk ex
    refine ⟨a, vs, rfl, SqL.of h1, fun pp hp => ?_⟩
    exact (n.kont (P := fun z => P z A1) fun z v H' pz rz => q z A1 v H' pz rz).lst pp _ _ hp p1 h2.reverse
  · exact p1.elim
/-! ### text.startswith, text.endswith -/
theorem starts_st (a b : Tx) : Txt.startswith (st a) (st b) = decide (b <+: a) := by
  unfold Txt.startswith
  rw [StrLaws.subAt_eq, st_len, st_len, st_tl, st_tl, List.drop_zero, Nat.zero_add]
  rw [Bool.eq_iff_iff, Bool.and_eq_true, decide_eq_true_eq, beq_iff_eq, decide_eq_true_eq, List.prefix_iff_eq_take]
  constructor
  · exact fun h => h.2.symm
  · intro h
    refine ⟨?_, h.symm⟩
    have := congrArg List.length h
    rw [List.length_take] at this
    omega
theorem ends_st (a b : Tx) : Txt.endswith (st a) (st b) = decide (b <:+ a) := by
  unfold Txt.endswith
  rw [StrLaws.subAt_eq, st_len, st_len, st_tl, st_tl, Nat.zero_add]
  rw [Bool.eq_iff_iff, Bool.and_eq_true, decide_eq_true_eq, beq_iff_eq, decide_eq_true_eq, List.suffix_iff_eq_drop]
  constructor
  · rintro ⟨h1, h2⟩
    rw [List.take_of_length_le (by rw [List.length_drop]; omega)] at h2
    exact h2.symm
  · intro h
    have hl := congrArg List.length h
    rw [List.length_drop] at hl
    refine ⟨by omega, ?_⟩
    rw [List.take_of_length_le (by rw [List.length_drop]; omega)]
    exact h.symm
def bStarts (a : Tx) : D → (R → Prop) → Prop
  | .str b, P => P (.d (.bl (decide (b <+: a))))
  | _, _ => False
def bEnds (a : Tx) : D → (R → Prop) → Prop
  | .str b, P => P (.d (.bl (decide (b <:+ a))))
  | _, _ => False
theorem snd_starts {K : PySem.W.Frag} : Snd1 K (fun x xs H Q => ∃ a b, x = .str a ∧ xs = [.str b] ∧ Q (.bl (Txt.startswith a b)) H) bStarts := fun S H a x v P Q le dv b k => by
  unfold bStarts at b
  split at b
  · cases dv
    refine ⟨_, _, rfl, rfl, ?_⟩
    rw [starts_st]
    exact k.dat _ _ b (.bl _)
  · exact b.elim
theorem snd_ends {K : PySem.W.Frag} : Snd1 K (fun x xs H Q => ∃ a b, x = .str a ∧ xs = [.str b] ∧ Q (.bl (Txt.endswith a b)) H) bEnds := fun S H a x v P Q le dv b k => by
  unfold bEnds at b
  split at b
  · cases dv
    refine ⟨_, _, rfl, rfl, ?_⟩
    rw [ends_st]
    exact k.dat _ _ b (.bl _)
  · exact b.elim
theorem km1 {X : Cx} {E : WX} {K : PySem.W.Frag} {ta tb : TE} {id : String} {name : Str} {o e : Expr} {pa pb : PTE} {apos pos : Pos} {r : V → List V → Hp → VK → Prop} {b : Tx → D → (R → Prop) → Prop} (slot : Slot "str" name id) (ty : typeOf (.builtin id) = pure (.type "method_descriptor")) (rule : MtR X id r) (hr : Snd1 K r b)
    (ha : DE X E o ta pa) (hb : DE X E e tb pb) (hK : X.K = K := by rfl) (hs : starEach [e] X.env = [(false, eval e X.env)] := by rfl) (hbase : attributeBase o name X.env (eval o X.env) = eval o X.env := by rfl) (hline : (apos.endLine == pos.line) = true := by rfl) :
    DE X E (.Call (.Attribute o name apos) [e] [] pos) (tM1 r ta tb) (pM1 b pa pb) := by
  subst hK
  exact de_m1 slot ty rule hr ha hb hs hbase hline
/-! ### d[k] += x, a dict of whole numbers -/
def pAugK (f : Int → Int → Int) (po pi pe : PTE) : PTS := fun P A => po A (fun yo A1 => match yo with
  | .p n => pi A1 (fun yi A2 => match yi with
    | .d k => (match A2.M[n]? with
      | some (some (.dic kvs)) => (match kdOf k with
        | some kk => ∃ a, getK kvs kk = some (.int a) ∧ pe A2 (fun y A3 => match y with
          | .d (.int b) => (match A3.M[n]? with
            | some (some (.dic kvs')) => kvs'.length < 16777216 ∧ P.nx ⟨A3.env, A3.M.set n (some (.dic (putD kvs' kk (.int (f a b)))))⟩
            | _ => False)
          | _ => False) P.ex
        | none => False)
      | _ => False)
    | _ => False) P.ex
  | _ => False) P.ex
theorem sim_augK {K : PySem.W.Frag} {E : WX} {f : Int → Int → Int} {rd : V → V → Hp → VK → Prop} (hrd : rd = fun x y H Q => ∃ i j, x = .int i ∧ y = .int j ∧ Q (.int (f i j)) H) {te to ti : TE} {pe po pi : PTE} (ho : SimE K E to po) (hi : SimE K E ti pi) (he : SimE K E te pe) : SimS K E (sDAug to ti te rd) (pAugK f po pi pe) := fun B σ H A P D rel x c => by
  subst hrd
  refine ho B σ H A _ _ _ rel x (fun yo A1 vo H1 p1 res1 => ?_) (c.ex _)
  split at p1
  · rename_i n
    obtain ⟨t, S, ρ, h, s, k⟩ := res1
    obtain ⟨rfl, hn⟩ := k
    refine hi _ σ H1 A1 _ _ _ ⟨t, S, _, h.rebase, s⟩ p1 (fun yi A2 vi H2 p2 res2 => ?_) ((c.ex _).back h)
    split at p2
    · rename_i kk
      obtain ⟨t2, S2, ρ2, h2, s2, k2⟩ := res2
      have k2 : DR K S2 vi kk := k2
      have h2' := h.back h2
      have et : t2 n = t n := h2.ext.th n hn
      split at p2
      · rename_i kvs e2
        cases ekq : kdOf kk with
        | none => rw [ekq] at p2; exact p2.elim
        | some kq =>
          rw [ekq] at p2
          obtain ⟨a, ea, p2⟩ := p2
          obtain ⟨f2, vs, e3, e4⟩ := h2'.obj n _ e2
          have hv : ∃ v, valV vs (kd kq) = some v ∧ v = V.int a := by
            rcases e4.val (k := kq) with ⟨_, z⟩ | ⟨v, d, g1, g2, g3⟩
            · rw [ea] at z; cases z
            · rw [ea] at g2
              cases g2
              exact ⟨v, g1, g3.int_of⟩
          obtain ⟨_, g1, rfl⟩ := hv
          rw [kdOf_v ekq k2]
          refine ⟨t n, V.int a, rfl, ?_, ?_⟩
          · have := DGet.k (H := H2) (a := t2 n) (kvs := vs) (k := kd kq) e3
            rw [g1] at this
            rw [← et]
            exact this
          · refine he _ σ H2 A2 _ _ _ ⟨t2, S2, _, h2'.rebase, s2⟩ p2 (fun y A3 v3 H3 p3 res3 => ?_) ((c.ex _).back h2')
            split at p3
            · rename_i b
              obtain ⟨t3, S3, ρ3, h3, s3, k3⟩ := res3
              cases DR.int_of k3
              have h3' := h2'.back h3
              have hn2 : n < A2.M.length := (List.getElem?_eq_some_iff.mp e2).1
              have et3 : t3 n = t2 n := h3.ext.th n hn2
              refine ⟨a, b, rfl, rfl, ?_⟩
              split at p3
              · rename_i kvs' e5
                obtain ⟨hl, q⟩ := p3
                obtain ⟨f3, vs3, e6, e7⟩ := h3'.obj n _ e5
                rw [← et, ← et3]
                refine ⟨_, DPut.k e6 (by rw [e7.length]; exact hl), c.nx ⟨A3.env, _⟩ σ _ q ⟨t3, S3, ρ3, h3'.put e5 f3 ⟨f3, _, upd_same, e7.put (.int _)⟩, ?_⟩⟩
                show SR K S3 t3 (A3.M.set n _).length A3.env σ
                rw [List.length_set]
                exact s3
              · exact p3.elim
            · exact p3.elim
      · exact p2.elim
    · exact p2.elim
  · exact p1.elim
theorem ds_augK {X : Cx} {E : WX} {o i e : Expr} {to ti te : TE} {po pi pe : PTE} {tpos pos : Pos} (hu : X.A.units + 1 < cLine) (ho : DE X E o to po) (hi : DE X E i ti pi) (he : DE X E e te pe)
    (ha : ∀ ov iv new, augStore i ov iv new = (do holding [new, ov, iv] (setItem ov iv new); release [new, ov, iv] []; pure .next) := by intros; rfl) :
    DS X E (.AugAssign (.Subscript o i tpos) .Add e pos) (sDAug to ti te rAdd) (pAugK (fun i j => i + j) po pi pe) := ⟨ps_daug hu ho.pe hi.pe he.pe in_add ha, sim_augK rfl ho.sim hi.sim he.sim⟩
end PD

/-! PE, fourth part: walks over dicts that are data; owned things taken as data from a statement on. -/
namespace PD
open PySem PySem.Spec PyProof.Rows L2
/-! ### a dict is locked for good -/
def tLkP (t : TE) : TE := fun σ H Q => t σ H fun x H1 => ∃ d u, x = .ref d ∧ ((H1 d = some u ∧ Mut (some u) ∧ ∀ od, Q x (upd H1 d (.frz od u))) ∨ ((∃ od, H1 d = some (.frz od u)) ∧ Q x H1))
theorem pe_lockP {X : Cx} {e : Expr} {t : TE} (h : PE X e t) : PE X e (tLkP t) := by
  refine ⟨fun pins s σ H Q I hw => ?_⟩
  refine thn (h.run pins s σ H _ I hw) fun v s1 ⟨x, H1, I1, r, d, u, ex, q⟩ => ?_
  rcases q with ⟨hd, mu, q⟩ | ⟨_, q⟩
  · obtain ⟨od, I2⟩ := I1.lock hd mu
    exact ⟨x, _, I2, by subst ex; exact r, q od⟩
  · exact ⟨x, H1, I1, r, q⟩
theorem HR.lockd {K : PySem.W.Frag} {B : Bas} {t : Nat → Addr} {S : Hp} {r : Addr → Lb} {M : List (Option O)} {H : Hp} (h : HR K B t S r M H) {d : Addr} {u : HO} (hd : isD u = true) (hs : S d = some u) (hh : H d = some u) (od : Obj) : HR K B t S r M (upd H d (.frz od u)) where
  le := fun a w e => by
    by_cases q : a = d
    · subst q
      rw [hs] at e
      cases e
      exact .inr ⟨hd, od, upd_same⟩
    · rw [upd_ne q]
      exact h.le a w e
  sep := fun a l e => by
    have q : a ≠ d := fun z => by rw [z] at e; rw [(h.sep d l e).1] at hs; cases hs
    rw [upd_ne q]
    exact h.sep a l e
  lab := h.lab
  obj := fun n o e => (h.obj n o e).move (Le.refl S) fun b hb => upd_ne fun z => by
    rw [z] at hb
    rw [(h.sep d _ hb).1] at hs
    cases hs
  keep := fun a o e nd => by
    by_cases q : a = d
    · subst q
      rcases h.keep a o e nd with z | ⟨z1, z2, od', z3⟩
      · rw [hh] at z
        cases z
        refine .inr ⟨hd, ?_, od, upd_same⟩
        rcases h.stb a (by rw [hs]; simp) with w | w | w
        · cases q2 : B.S a with
          | none => exact absurd q2 w
          | some o' =>
            have := h.bas a o' q2
            rw [hs] at this
            exact this.symm
        · rw [w] at e; cases e
        · exact absurd w nd
      · rw [hh] at z3
        cases z3
        cases hd
    · rw [upd_ne q]
      exact h.keep a o e nd
  own := h.own
  stb := h.stb
  bas := h.bas
  th := h.th
  nl := h.nl
def itK (kvs : List (Kd × D)) (i : Nat) : D := ((kvs.map fun p => kD p.1)[i]?).getD .non
theorem itK_itL (kvs : List (Kd × D)) : itK kvs = itL (kvs.map fun p => kD p.1) := by
  funext i
  unfold itK itL
  rw [List.getD_eq_getElem?_getD]
theorem DRk.key {K : PySem.W.Frag} {S : Hp} : ∀ {vs : List (Key × V)} {ds : List (Kd × D)} {i : Nat} {k : Key} {v : V}, DRk K S vs ds → vs[i]? = some (k, v) → ∃ kd' d, ds[i]? = some (kd', d) ∧ k = kd kd'
  | _, _, _, _, _, .nil, e => by simp at e
  | _, _, 0, _, _, .cons r _, e => by
    simp at e
    exact ⟨_, _, rfl, e.1.symm⟩
  | _, _, i + 1, k, v, .cons _ t, e => by
    obtain ⟨a, b, h1, h2⟩ := DRk.key (i := i) t (by simpa using e)
    exact ⟨a, b, by simpa using h1, h2⟩
theorem DR.kD {K : PySem.W.Frag} {S : Hp} : ∀ k : Kd, DR K S (kV (kd k)) (kD k)
  | .inl i => .int i
  | .inr l => .str l
theorem src_keys {K : PySem.W.Frag} {Hb : Hp} {t : Nat → Addr} {S : Hp} {m : Nat} {d : Addr} {od : Obj} {vs : List (Key × V)} {kvs : List (Kd × D)} (hs : S d ≠ none) (hb : Hb d = some (.frz od (.dK vs))) (h2 : DRk K S vs kvs) : Src K (Itk d od vs) (kvs.map fun p => kD p.1).length (itL (kvs.map fun p => kD p.1)) yes t S m Hb where
  stop := fun B' t' S' r' M' H' h e kf _ => ⟨kf d od _ hs hb, by rw [List.length_map, h2.length]; exact Nat.le_refl _⟩
  go := fun B' t' S' r' M' H' h e kf _ i hi => by
    rw [List.length_map] at hi
    refine ⟨⟨kf d od _ hs hb, by rw [h2.length]; exact hi⟩, fun x H'' hy => ?_⟩
    obtain ⟨rfl, k, v, e1, rfl⟩ := hy
    obtain ⟨k', d', g1, rfl⟩ := h2.key e1
    refine ⟨fun _ _ z => z, S', h, Ext.refl, ?_⟩
    have : itL (kvs.map fun p => PD.kD p.1) i = PD.kD k' := by
      unfold itL
      rw [List.getD_eq_getElem?_getD, List.getElem?_map, g1]
      rfl
    rw [this]
    exact DR.kD k'
def pItK (p : PTE) : PTI := fun A P Y => p A (fun y A1 => match y.fz with
  | some (.d (.dic kvs)) => P (kvs.map fun p => kD p.1).length (itL (kvs.map fun p => kD p.1)) yes A1
  | _ => False) Y
theorem sim_itK {K : PySem.W.Frag} {E : WX} {te : TE} {p : PTE} (h : SimE K E te p) : SimI K E (iKeys (tLkP te)) (pItK p) := fun B σ H A P Y R rel x q xq => by
  refine h B σ H A _ _ _ rel x (fun y A1 v H1 p1 r1 => ?_) xq
  split at p1
  · rename_i kvs e
    obtain ⟨t, S, ρ, hh, s, k⟩ := r1.fzD e
    obtain ⟨a, vs, rfl, h1, h2⟩ := DR.dic_of k
    rcases h1 with h1 | ⟨od, h1⟩
    · rcases hh.le a _ h1 with z | ⟨_, od, z⟩
      · refine ⟨a, _, rfl, .inl ⟨z, True.intro, fun od => ⟨a, od, rfl, .inl ⟨vs, upd_same, ?_⟩⟩⟩⟩
        refine q _ _ _ A1 _ _ p1 ⟨t, S, ρ, ⟨hh.lockd rfl h1 z od, s⟩, src_keys (by rw [h1]; simp) upd_same h2⟩
      · refine ⟨a, .dK vs, rfl, .inr ⟨⟨od, z⟩, a, od, rfl, .inl ⟨vs, z, ?_⟩⟩⟩
        exact q _ _ _ A1 _ _ p1 ⟨t, S, ρ, ⟨hh, s⟩, src_keys (by rw [h1]; simp) z h2⟩
    · have z : H1 a = some (.frz od (.dK vs)) := by
        rcases hh.le a _ h1 with z | ⟨z, _⟩
        · exact z
        · cases z
      refine ⟨a, .dK vs, rfl, .inr ⟨⟨od, z⟩, a, od, rfl, .inl ⟨vs, z, ?_⟩⟩⟩
      exact q _ _ _ A1 _ _ p1 ⟨t, S, ρ, ⟨hh, s⟩, src_keys (by rw [h1]; simp) z h2⟩
  · exact p1.elim
theorem di_keys {X : Cx} {E : WX} {tg e : Expr} {te : TE} {p : PTE} (h : DE X E e te p) : DI X E tg e (iKeys (tLkP te)) (pItK p) := ⟨pi_keys (pe_lockP h.pe), sim_itK h.sim⟩
/-! ### an owned thing is data from here on -/
def pFz (i : Nat) (p : PTS) : PTS := fun P A => match A.env[i]? with
  | some (.d _) => p P A
  | some (.p n) => (match A.M[n]? with
    | some (some o) => (match o.toD with
      | some x => p P ⟨A.env.set i (.d x), A.M.set n none⟩
      | none => False)
    | _ => False)
  | _ => False
theorem DS.fz {X : Cx} {E : WX} {e : Stmt} {t : TS} {p : PTS} (i : Nat) (h : DS X E e t p) : DS X E e t (pFz i p) := ⟨h.pe, fun B σ H A P D rel x c => by
  unfold pFz at x
  split at x
  · exact h.sim B σ H A P D rel x c
  · rename_i n e
    split at x
    · rename_i o eo
      split at x
      · rename_i y ey
        have key := sim_varF (K := X.K) (E := E) (i := i) B σ H A (fun y' A' => p P A') (fun _ _ => False) (fun v H' => ∃ A', p P A' ∧ Rel X.K B A' σ H') rel (by
          unfold pVarF
          rw [e]
          dsimp only
          rw [eo]
          dsimp only
          rw [ey]
          exact x) (fun y' A' v H' h1 h2 => ⟨A', h1, h2.rel⟩) (fun _ _ _ z => z.elim)
        obtain ⟨v, _, A', h1, h2⟩ := key
        exact h.sim B σ H A' P D h2 h1 c
      · exact x.elim
    · exact x.elim
  · exact x.elim⟩
end PD

/-! PE, fifth part: a comprehension that keeps any of the things. -/
namespace PD
open PySem PySem.Spec PyProof.Rows L2
theorem then_go {q : PTS} {P : PEnds} {A : Abs} (h : q P A) : Then q P A := h
theorem lc_sub {α : Type} {C : List (Option O) → Prop} {tg : PTG} {tt : PTT} {pe : PTE} {vs : List Nat} {A1 : Abs} {P : R → Abs → Prop} {Y : PX} {xs : List α} {f : α → D} (g : α → D) (hC : C A1.M) (hn : xs.length ≤ 16777216)
    (hs : ∀ x ∈ xs, ∃ env', tg (f x) (wipeA A1.env vs) = some env' ∧ ∀ J : Option D → List (Option O) → Prop, J (some (g x)) A1.M → J none A1.M → tt ⟨env', A1.M⟩ (Hand J pe Y) Y)
    (hp : ∀ ys : List α, ys.Sublist xs → P (.o (.lst (ys.map g))) A1) : LcP (xs.map f).length (itL (xs.map f)) C tg tt pe vs A1 P Y := by
  refine ⟨fun i acc M => M = A1.M ∧ ∃ ys : List α, ys.Sublist (xs.take i) ∧ acc = ys.map g, ⟨rfl, [], by simp, rfl⟩, fun i acc M _ ⟨h, _⟩ => by rw [h]; exact hC, fun i acc M hi ⟨h1, ys, h2, h3⟩ => ?_, fun acc M ⟨h1, ys, h2, h3⟩ => ?_⟩
  · rw [List.length_map] at hi
    rw [itL_map hi]
    obtain ⟨env', e, k⟩ := hs xs[i] (List.getElem_mem hi)
    refine ⟨env', e, ?_⟩
    rw [h1]
    have st : xs.take (i + 1) = xs.take i ++ [xs[i]] := by
      rw [List.take_succ, List.getElem?_eq_getElem hi]
      rfl
    have hl : acc.length < 16777216 := by
      rw [h3, List.length_map]
      have := h2.length_le
      rw [List.length_take] at this
      omega
    refine k (fun x M => match x with
      | some d => acc.length < 16777216 ∧ M = A1.M ∧ ∃ ys : List α, ys.Sublist (xs.take (i + 1)) ∧ acc ++ [d] = ys.map g
      | none => M = A1.M ∧ ∃ ys : List α, ys.Sublist (xs.take (i + 1)) ∧ acc = ys.map g) ⟨hl, rfl, ys ++ [xs[i]], ?_, ?_⟩ ⟨rfl, ys, ?_, h3⟩
    · rw [st]
      exact h2.append (List.Sublist.refl _)
    · rw [List.map_append, h3]
      rfl
    · rw [st]
      exact h2.trans (List.sublist_append_left _ _)
  · rw [h1, h3]
    rw [List.length_map, List.take_length] at h2
    exact hp ys h2
end PD

/-! PE, sixth part: [[..], [..], ..][i] of lists of constants, the one at i is owned. -/
namespace PD
open PySem PySem.Spec PyProof.Rows L2
theorem cmulR {i j : Int} (h1 : -(2 ^ 64) < j) (h2 : j < 2 ^ 64) : CMul i j ∨ CMulW i j := .inl (.inr ⟨h1, h2⟩)
theorem cmulL {i j : Int} (h1 : -(2 ^ 64) < i) (h2 : i < 2 ^ 64) : CMul i j ∨ CMulW i j := .inl (.inl ⟨h1, h2⟩)
theorem smallI_of {i : Int} (h1 : -(2 ^ 62) ≤ i) (h2 : i < 2 ^ 62) : smallI i := ⟨h1, h2⟩
theorem HR.junk {K : PySem.W.Frag} {B : Bas} {t : Nat → Addr} {S : Hp} {r : Addr → Lb} {M : List (Option O)} {H H' : Hp} (h : HR K B t S r M H) (hk : ∀ b, H b ≠ none → H' b = H b) : HR K B t S r M H' where
  le := fun a w e => by
    have z := h.le a w e
    have ne : H a ≠ none := by
      rcases z with z | ⟨_, _, z⟩ <;> rw [z] <;> simp
    rw [hk a ne]
    exact z
  sep := fun a l e => ⟨(h.sep a l e).1, by rw [hk a (h.sep a l e).2]; exact (h.sep a l e).2⟩
  lab := h.lab
  obj := fun n o e => (h.obj n o e).move (Le.refl S) fun b hb => hk b (h.sep b _ hb).2
  keep := fun a o e nd => by
    have z := h.keep a o e nd
    have ne : H a ≠ none := by
      rcases z with z | ⟨_, _, _, z⟩ <;> rw [z] <;> simp
    rw [hk a ne]
    exact z
  own := h.own
  stb := h.stb
  bas := h.bas
  th := h.th
  nl := h.nl
/-- what nobody owns is at hand -/
theorem HR.take {K : PySem.W.Frag} {B : Bas} {t : Nat → Addr} {S : Hp} {r : Addr → Lb} {M : List (Option O)} {H : Hp} (h : HR K B t S r M H) {p : Addr} (hs : S p = none) (hh : H p ≠ none) (hr : r p = none) (ho : B.D p ∨ B.H p = none) : HR K B t S (tmpT r p) M H where
  le := h.le
  sep := fun a l e => by
    unfold tmpT at e
    split at e
    · rename_i q; rw [q]; exact ⟨hs, hh⟩
    · exact h.sep a l (dropT_some e)
  lab := fun a n e => by
    unfold tmpT at e
    split at e
    · cases e
    · exact h.lab a n (dropT_some e)
  obj := fun n o e => (h.obj n o e).iff fun b => by
    unfold tmpT
    split
    · rename_i q
      rw [q, hr]
      constructor <;> (intro z; cases z)
    · exact dropT_nm.symm
  keep := h.keep
  own := fun a l e => by
    unfold tmpT at e
    split at e
    · rename_i q; rw [q]; exact ho
    · exact h.own a l (dropT_some e)
  stb := h.stb
  bas := h.bas
  th := h.th
  nl := h.nl
/-- constants in a row -/
def CstA (ta : TA) (cs : List D) : Prop := ∀ (σ : L2.St) (H : Hp) (Q : List V → Hp → Prop), (∀ vs, vs.length = cs.length → (∀ K S, DRs K S vs cs) → Q vs H) → ta σ H Q
theorem cst_nil : CstA tNil [] := fun σ H Q q => q [] rfl fun _ _ => .nil
theorem cst_str {ta : TA} {cs : List D} {x : Str} {l : Tx} (h : x.cps.toList = l) (k : CstA ta cs) : CstA (tCons (tC (.str x)) ta) (.str l :: cs) := fun σ H Q q => k σ H _ fun vs hl hd => q (.str x :: vs) (by rw [List.length_cons, List.length_cons, hl]) fun K S => .cons (DR.str' h) (hd K S)
theorem cst_int {ta : TA} {cs : List D} {x : Int} (k : CstA ta cs) : CstA (tCons (tC (.int x)) ta) (.int x :: cs) := fun σ H Q q => k σ H _ fun vs hl hd => q (.int x :: vs) (by rw [List.length_cons, List.length_cons, hl]) fun K S => .cons (.int x) (hd K S)
/-- lists of constants in a row -/
def MksA (ta : TA) (css : List (List D)) : Prop := ∀ (σ : L2.St) (H : Hp) (Q : List V → Hp → Prop),
  (∀ (as : List Addr) (H' : Hp), as.length = css.length → (∀ a ∈ as, H a = none) → (∀ b, H b ≠ none → H' b = H b) → (∀ (i : Nat) (a : Addr) (cs : List D), as[i]? = some a → css[i]? = some cs → ∃ vs, H' a = some (.lst vs) ∧ ∀ K S, DRs K S vs cs) → Q (as.map V.ref) H') → ta σ H Q
theorem mks_nil : MksA tNil [] := fun σ H Q q => q [] H rfl (by simp) (fun _ _ => rfl) fun i a cs e => by simp at e
theorem mks_cons {tc ta : TA} {cs : List D} {css : List (List D)} (hc : CstA tc cs) (hl : cs.length ≤ 1000) (k : MksA ta css) : MksA (tCons (tLst tc) ta) (cs :: css) := fun σ H Q q => by
  refine hc σ H _ fun vs hvl hvd => ?_
  refine ⟨by rw [hvl]; exact Nat.le_trans hl (by decide), fun p hp => ?_⟩
  refine k σ _ _ fun as H' h1 h2 h3 h4 => ?_
  have hH' : H' p = some (.lst vs) := by rw [h3 p (by rw [upd_same]; simp), upd_same]
  refine q (p :: as) H' (by rw [List.length_cons, List.length_cons, h1]) (fun a ha => ?_) (fun b hb => ?_) fun i a ds e1 e2 => ?_
  · rcases List.mem_cons.mp ha with rfl | ha
    · exact hp
    · have := h2 a ha
      have ne : a ≠ p := fun z => by rw [z, upd_same] at this; cases this
      rw [upd_ne ne] at this
      exact this
  · have ne : b ≠ p := fun z => hb (by rw [z]; exact hp)
    rw [h3 b (by rw [upd_ne ne]; exact hb), upd_ne ne]
  · cases i with
    | zero =>
      simp at e1 e2
      subst e1 e2
      exact ⟨vs, hH', hvd⟩
    | succ i => exact h4 i a ds (by simpa using e1) (by simpa using e2)
def pPickL (css : List (List D)) (pi : PTE) : PTE := fun A P Y => pi A (fun y A1 => match y with
  | .d (.int i) => ∃ cs, atI css i = some cs ∧ P (.o (.lst cs)) A1
  | _ => False) Y
theorem sim_pickL {K : PySem.W.Frag} {E : WX} {ta : TA} {ti : TE} {css : List (List D)} {pi : PTE} (hm : MksA ta css) (hl : css.length ≤ 1000) (hi : SimE K E ti pi) : SimE K E (tOp (rIxA K) (tLst ta) ti) (pPickL css pi) := fun B σ H A P Y Q rel p q xq => by
  obtain ⟨t, S, r, h, s⟩ := rel
  refine hm σ H _ fun as H' h1 h2 h3 h4 => ?_
  refine ⟨by rw [List.length_map, h1]; exact Nat.le_trans hl (by decide), fun o ho => ?_⟩
  have hj : HR K B t S r A.M (upd H' o (.lst (as.map V.ref))) := h.junk fun b hb => by
    have ne : b ≠ o := fun z => by rw [z] at hb; rw [← h3 o hb] at hb; exact hb ho
    rw [upd_ne ne]
    exact h3 b hb
  refine hi _ σ _ A _ Y _ ⟨t, S, _, hj.rebase, s⟩ p (fun y A1 v H1 p1 res => ?_) (xq.back hj)
  split at p1
  · rename_i i
    obtain ⟨cs, e, p1⟩ := p1
    obtain ⟨t1, S1, r1, g1, s1, k1⟩ := res
    cases DR.int_of k1
    have keep : ∀ a u, H a = none → upd H' o (.lst (as.map V.ref)) a = some u → isD u = false → H1 a = some u := fun a u ha hu hd => by
      rcases g1.keep a u hu (fun ⟨n, z⟩ => (h.sep a _ z).2 ha) with z | ⟨z, _⟩
      · exact z
      · rw [hd] at z; cases z
    have ho' : H o = none := by
      cases z : H o with
      | none => rfl
      | some u => rw [h3 o (by rw [z]; simp), z] at ho; cases ho
    have ho1 := keep o _ ho' upd_same rfl
    obtain ⟨j, hj1, hj2⟩ : ∃ j, ixN css.length i = some j ∧ css[j]? = some cs := by
      unfold atI at e
      cases z : ixN css.length i with
      | none => rw [z] at e; cases e
      | some j => rw [z] at e; exact ⟨j, rfl, e⟩
    have hjl : j < as.length := by rw [h1]; exact (List.getElem?_eq_some_iff.mp hj2).1
    have ea : as[j]? = some as[j] := List.getElem?_eq_getElem hjl
    obtain ⟨vs, f1, f2⟩ := h4 j as[j] cs ea hj2
    have ha : H as[j] = none := h2 _ (List.getElem_mem hjl)
    have neo : as[j] ≠ o := fun z => by rw [z, ho] at f1; cases f1
    have a1 := keep as[j] (.lst vs) ha (by rw [upd_ne neo]; exact f1) rfl
    have b1 := hj.back g1
    have rn : r1 as[j] = none := by
      cases z : r1 as[j] with
      | none => rfl
      | some l =>
        rcases g1.own _ l z with ⟨n, y⟩ | y
        · exact absurd ha (h.sep _ _ y).2
        · have y : upd H' o (.lst (as.map V.ref)) as[j] = none := y
          rw [upd_ne neo, f1] at y
          cases y
    have sn : S1 as[j] = none := by
      cases z : S1 as[j] with
      | none => rfl
      | some u =>
        rcases g1.stb _ (by rw [z]; simp) with y | y | ⟨n, y⟩
        · exact absurd (h.of_none ha) y
        · have y : upd H' o (.lst (as.map V.ref)) as[j] = none := y
          rw [upd_ne neo, f1] at y
          cases y
        · exact absurd ha (h.sep _ _ y).2
    refine .inl (.inl ⟨o, as.map V.ref, i, .ref as[j], rfl, rfl, SqL.of ho1, ?_, ?_⟩)
    · unfold atI
      rw [List.length_map, h1, hj1]
      show (as.map V.ref)[j]? = _
      rw [List.getElem?_map, ea]
      rfl
    · refine q _ A1 _ H1 p1 ⟨t1, S1, _, b1.take sn (by rw [a1]; simp) rn (h.fresh ha), s1, as[j], rfl, tmpT_self, vs, a1, f2 _ _⟩
  · exact p1.elim
theorem kpick {X : Cx} {E : WX} {K : PySem.W.Frag} {es : List Expr} {e : Expr} {ta : TA} {ti : TE} {css : List (List D)} {q : PTA} {pi : PTE} {pos pos2 : Pos} (hu : X.A.units + 1 < cLine) (hd : DA X E es ta q) (hm : MksA ta css) (hi : DE X E e ti pi) (hl : css.length ≤ 1000 := by decide) (hK : X.K = K := by rfl) (hs : PlainIx e := by exact fun _ _ => rfl) :
    DE X E (.Subscript (.List es pos) e pos2) (tOp (rIxA K) (tLst ta) ti) (pPickL css pi) := by
  subst hK
  exact ⟨(de_ix hu (de_lst hd) hi hs).pe, sim_pickL hm hl hi.sim⟩
end PD

/-! Q: what the defs of books tell, in Lean. -/
namespace PD
open PySem PySem.Spec PyProof.Rows L2
def pre_is_whole : List AR → Prop
  | [.d (.int _)] => True
  | _ => False
def f_is_whole : List AR → AR := fun _ => .d (.bl true)
def pre_is_text : List AR → Prop
  | [.d (.str l)] => okX l ∧ l.length ≤ 16777216
  | _ => False
def f_is_text : List AR → AR
  | [.d (.str l)] => .d (.bl (small l))
  | _ => .d .non
def pre_need_text : List AR → Prop
  | [.d (.str l)] => small l = true ∧ l.length ≤ 16777216
  | _ => False
def f_need_text : List AR → AR := fun _ => .d .non
def unpair : D → Kd × D
  | .tup [.str l, x] => (.inr l, x)
  | .tup [.int l, x] => (.inl l, x)
  | _ => (.inl 0, .non)
def dictOf (ds : List D) : List (Kd × D) := mergeD [] (ds.map unpair)
def isPairs (ds : List D) : Prop := ds = (ds.map unpair).map pairD
def pre_only_words : List AR → Prop
  | [.d (.lst ds)] => isPairs ds
  | _ => False
def f_only_words : List AR → AR
  | [.d (.lst ds)] => .o (.dic (dictOf ds))
  | _ => .d .non
/-- the words from a place -/
def wordsFrom (kvs : List (Kd × D)) (l : Tx) (p : Nat) : List Tx := ((List.range (min 12 (l.length - p))).map fun k => (l.drop p).take (k + 1)).filter fun x => hasK kvs (.inr x)
def pre_words_from : List AR → Prop
  | [.d (.dic _), .d (.str l), .d (.int p)] => 0 ≤ p ∧ p ≤ l.length ∧ l.length ≤ 16777216
  | _ => False
def f_words_from : List AR → AR
  | [.d (.dic kvs), .d (.str l), .d (.int p)] => .o (.lst ((wordsFrom kvs l p.toNat).map .str))
  | _ => .d .non
def pre_words_at : List AR → Prop
  | [.d (.lst ds), .d (.str l), .d (.int p)] => isPairs ds ∧ small l = true ∧ 0 ≤ p ∧ p ≤ l.length ∧ l.length ≤ 16777216
  | _ => False
def f_words_at : List AR → AR
  | [.d (.lst ds), .d (.str l), .d (.int p)] => .o (.lst ((wordsFrom (dictOf ds) l p.toNat).map .str))
  | _ => .d .non
def isWord (l : Tx) : Prop := small l = true ∧ 1 ≤ l.length ∧ l.length ≤ 12
/-- a dict of words and whole numbers -/
def WDict (kvs : List (Kd × D)) : Prop := ∃ ps : List (Tx × Int), kvs = ps.map (fun p => (.inr p.1, .int p.2)) ∧ (∀ p ∈ ps, isWord p.1) ∧ (ps.map (·.1)).Nodup
/-- the rows of a book -/
def Book (ds : List D) : Prop := ∃ ps : List (Tx × Int), ds = ps.map (fun p => pairD (.inr p.1, .int p.2)) ∧ (∀ p ∈ ps, isWord p.1) ∧ (ps.map (·.1)).Pairwise (· < ·)
/-- which places are led to, behind k places looked at -/
def ledStep (W : Nat → List Tx) (k : Nat) (L : List Bool) : List Bool := if L.getD k false = true then (W k).foldl (fun L w => L.set (k + w.length) true) L else L
def ledUp (W : Nat → List Tx) (n : Nat) : Nat → List Bool
  | 0 => true :: List.replicate n false
  | k + 1 => ledStep W k (ledUp W n k)
def ledPl (W : Nat → List Tx) (n : Nat) : List Int := ((List.range (n + 1)).filter fun q => (ledUp W n n).getD q false).map fun q : Nat => (q : Int)
def pre_led_places : List AR → Prop
  | [.d (.lst ds), .d (.str l)] => isPairs ds ∧ small l = true ∧ l.length ≤ 1000000
  | _ => False
def f_led_places : List AR → AR
  | [.d (.lst ds), .d (.str l)] => .o (.lst ((ledPl (wordsFrom (dictOf ds) l) l.length).map .int))
  | _ => .d .non
def pre_least_bar : List AR → Prop := pre_led_places
def f_least_bar : List AR → AR
  | [.d (.lst ds), .d (.str l)] => if (ledUp (wordsFrom (dictOf ds) l) l.length l.length).getD l.length false = true then .d .non else .o (.lst ((ledPl (wordsFrom (dictOf ds) l) l.length).map .int))
  | _ => .d .non
/-- which of the last k + 1 places of n lead on to the end -/
def back (W : Nat → List Tx) (n : Nat) : Nat → List Bool
  | 0 => [true]
  | k + 1 => ((W (n - (k + 1))).any fun w => (back W n k).getD (w.length - 1) false) :: back W n k
def wds (ds : List D) (l : Tx) (p : Nat) : List Tx := wordsFrom (dictOf ds) l p
def goods (ds : List D) (l : Tx) : List Bool := back (wds ds l) l.length l.length
def path (W : Nat → List Tx) (g : List Bool) (n : Nat) : Nat → Nat → List Tx
  | 0, _ => []
  | f + 1, p => if p < n then (match (W p).find? (fun w => g.getD (p + w.length) false) with
    | some w => w :: path W g n f (p + w.length)
    | none => []) else []
def firstCut (ds : List D) (l : Tx) : D := if (goods ds l).getD 0 false = true then .lst ((path (wds ds l) (goods ds l) l.length (l.length + 1) 0).map .str) else .non
def pre_places_back : List AR → Prop
  | [.d (.lst ds), .d (.str l)] => isPairs ds ∧ small l = true ∧ l.length ≤ 1000000
  | _ => False
def f_places_back : List AR → AR
  | [.d (.lst ds), .d (.str l)] => .o (.lst ((goods ds l).map .bl))
  | _ => .d .non
def pre_first_cut : List AR → Prop := pre_places_back
def f_first_cut : List AR → AR
  | [.d (.lst ds), .d (.str l)] => (match firstCut ds l with
    | .lst xs => .o (.lst xs)
    | x => .d x)
  | _ => .d .non
end PD

namespace PD
open PySem PySem.Spec PyProof.Rows L2
def p_is_text : PTS :=
  (pRet (pAndV (pIsiP "str" (pVar 0)) (pOp2 (bEq id) (pLc (pItS (pVar 0)) (tgN 1) (pTest (pOp2 (bIn not) (pVar 1) (pC (.str abc)))) (pVar 1) [1]) (pLst pNil))))
abbrev N_is_text : List Str := ["thing", "sign"]
def p_need_text : PTS :=
  (pIf (pNot (pTest (pCalls (callP pre_is_text f_is_text) (pCons (pVar 0) pNil)))) pNever
  pNext)
abbrev N_need_text : List Str := ["thing"]
def p_only_words : PTS :=
  (pRet (pCall cDict (pCons (pVar 0) pNil)))
abbrev N_only_words : List Str := ["book"]
def p_words_from : PTS :=
  (pSeq (pSet 3 (pLc (pRng2 (pCons (pC (.int 1)) (pCons (pOp2 bAdd (pCall cMin2 (pCons (pC (.int 12)) (pCons (pOp2 bSub (pCall cLen (pCons (pVar 1) pNil)) (pVar 2)) pNil))) (pC (.int 1))) pNil))) (tgN 4) pYes (pSl (pVar 1) (pPart (pVar 2)) (pPart (pOp2 bAdd (pVar 2) (pVar 4)))) [4]))
  (pRet (pLc (pItL (pVar 3)) (tgN 5) (pTest (pOp2 (bIn id) (pVar 5) (pVar 0))) (pVar 5) [5])))
abbrev N_words_from : List Str := ["words", "text", "place", "pieces", "many", "piece"]
def p_led_places : PTS :=
  (pSeq (pDrop (pCalls (callP pre_need_text f_need_text) (pCons (pVar 1) pNil)))
  (pSeq (pSetD 2 (pCalls (callP pre_only_words f_only_words) (pCons (pVar 0) pNil)))
  (pSeq (pSet 3 (pOp2 bAdd (pLst (pCons (pC (.bl true)) pNil)) (pOp2 bMul (pLst (pCons (pC (.bl false)) pNil)) (pCall cLen (pCons (pVar 1) pNil)))))
  (pSeq (pFor (pRng1 (pCons (pCall cLen (pCons (pVar 1) pNil)) pNil)) (tgN 4) (pGc (pIf (pTru (pOp2 bIx (pVar 3) (pVar 4))) (pFor (pItL (pCalls (callP pre_words_from f_words_from) (pCons (pVar 2) (pCons (pVar 1) (pCons (pVar 4) pNil))))) (tgN 5) (pGc (pSetIx (pVar 3) (pOp2 bAdd (pVar 4) (pCall cLen (pCons (pVar 5) pNil))) (pC (.bl true)))))
  pNext)))
  (pRet (pLc (pRng1 (pCons (pOp2 bAdd (pCall cLen (pCons (pVar 1) pNil)) (pC (.int 1))) pNil)) (tgN 4) (pTru (pOp2 bIx (pVar 3) (pVar 4))) (pVar 4) [4]))))))
abbrev N_led_places : List Str := ["book", "text", "words", "led", "place", "word"]
def p_least_bar : PTS :=
  (pSeq (pSet 2 (pCalls (callP pre_led_places f_led_places) (pCons (pVar 0) (pCons (pVar 1) pNil))))
  (pSeq (pIf (pTest (pOp2 (bEq id) (pOp2 bIx (pVar 2) (pNeg (pC (.int 1)))) (pCall cLen (pCons (pVar 1) pNil)))) (pRet (pC .non))
  pNext)
  (pRet (pVar 2))))
abbrev N_least_bar : List Str := ["book", "text", "found"]
def p_places_back : PTS :=
  (pSeq (pDrop (pCalls (callP pre_need_text f_need_text) (pCons (pVar 1) pNil)))
  (pSeq (pSetD 2 (pCalls (callP pre_only_words f_only_words) (pCons (pVar 0) pNil)))
  (pSeq (pSet 3 (pOp2 bAdd (pOp2 bMul (pLst (pCons (pC (.bl false)) pNil)) (pCall cLen (pCons (pVar 1) pNil))) (pLst (pCons (pC (.bl true)) pNil))))
  (pSeq (pFor (pRng3 (pCons (pOp2 bSub (pCall cLen (pCons (pVar 1) pNil)) (pC (.int 1))) (pCons (pNeg (pC (.int 1))) (pCons (pNeg (pC (.int 1))) pNil)))) (tgN 4) (pGc (pSetIx (pVar 3) (pVar 4) (pOp2 (bIn id) (pC (.bl true)) (pLc (pItL (pCalls (callP pre_words_from f_words_from) (pCons (pVar 2) (pCons (pVar 1) (pCons (pVar 4) pNil))))) (tgN 5) pYes (pOp2 bIx (pVar 3) (pOp2 bAdd (pVar 4) (pCall cLen (pCons (pVar 5) pNil)))) [5])))))
  (pRet (pVar 3))))))
abbrev N_places_back : List Str := ["book", "text", "words", "good", "place", "word"]
def p_first_cut : PTS :=
  (pSeq (pSetD 2 (pCalls (callP pre_places_back f_places_back) (pCons (pVar 0) (pCons (pVar 1) pNil))))
  (pSeq (pIf (pNot (pTru (pOp2 bIx (pVar 2) (pC (.int 0))))) (pRet (pC .non))
  pNext)
  (pSeq (pSetD 3 (pCalls (callP pre_only_words f_only_words) (pCons (pVar 0) pNil)))
  (pSeq (pSet 4 (pLst pNil))
  (pSeq (pSet 5 (pC (.int 0)))
  (pSeq (pWhile (pTest (pOp2 bLt (pVar 5) (pCall cLen (pCons (pVar 1) pNil)))) (pGc (pSeq (pSet 6 (pOp2 bIx (pLc (pItL (pCalls (callP pre_words_from f_words_from) (pCons (pVar 3) (pCons (pVar 1) (pCons (pVar 5) pNil))))) (tgN 7) (pTru (pOp2 bIx (pVar 2) (pOp2 bAdd (pVar 5) (pCall cLen (pCons (pVar 7) pNil))))) (pVar 7) [7]) (pC (.int 0))))
  (pSeq (pDrop (pLM lAppend (pVar 4) (pCons (pVar 6) pNil)))
  (pAug 5 (fun i j => i + j) (pCall cLen (pCons (pVar 6) pNil)))))))
  (pRet (pVar 4))))))))
abbrev N_first_cut : List Str := ["book", "text", "good", "words", "found", "place", "word", "one"]
def p_is_whole : PTS :=
  (pRet (pAndV (pIsiP "int" (pVar 0)) (pNotV (pIsiP "bool" (pVar 0)))))
abbrev N_is_whole : List Str := ["thing"]
def p_words_at : PTS :=
  (pSeq (pDrop (pCalls (callP pre_need_text f_need_text) (pCons (pVar 1) pNil)))
  (pSeq (pIf (pOr (pNot (pTest (pCalls (callP pre_is_whole f_is_whole) (pCons (pVar 2) pNil)))) (pNot (pTest (pChain (fun i j => decide (i ≤ j)) (fun i j => !decide (j < i)) (fun i j => decide (i ≤ j)) (fun i j => !decide (j < i)) (pC (.int 0)) (pVar 2) (pCall cLen (pCons (pVar 1) pNil)))))) pNever
  pNext)
  (pRet (pCalls (callP pre_words_from f_words_from) (pCons (pCalls (callP pre_only_words f_only_words) (pCons (pVar 0) pNil)) (pCons (pVar 1) (pCons (pVar 2) pNil)))))))
abbrev N_words_at : List Str := ["book", "text", "place"]
end PD

/-! Q: readings. -/
namespace PD
open PySem L2
local macro_rules | `(tactic| walk_at "rd") => `(tactic| simp only [pSeq_then, pNext, pNever, pBreak, pCont, pDrop, pRet, pRetN, pIf, pSet, pSetD, setD, setP, setO, pVar, pC, pOp2, pTest, pAnd, pOr, pNot, pAndV, pOrV, pNotV, pIfE, pNil, pCons, pLst, pTup, pDict0, pCall, pIsiP, pM1, pNo, pPart, pSl, pSortI, pLM, pLc_eq, pFor_eq, pItL, pItS, pRng1, pRng2, pCalls, callP, callN, toAR, R.fz, view, views, dats, O.toD, AR.toR, bAdd, bSub, bEq, bCmp, bIn, bIs, bIx, bSl, cLen, cMin2, cMax2, cInt, cList, cDict, cSorted, plainD, isiB, tyn, pAsg, pChain, cmpD, pYes, pTru, truD, Hand, pGc, tgN, wipeA, fnAbs, envA, ownsA, retA, conP, conN, List.set, List.set_cons_zero, List.set_cons_succ, List.set_nil, List.getElem?_cons_zero, List.getElem?_cons_succ, List.getElem?_nil, List.length_cons, List.length_nil, List.cons_append, List.nil_append, List.append_nil, List.replicate, Nat.reduceSub, Nat.reduceAdd, Nat.zero_add, true_and, and_true, reduceIte, Bool.false_eq_true, id, Bool.not_true, Bool.not_false, List.nodup_nil, List.nodup_cons, List.not_mem_nil, not_false_eq_true, List.take_zero, List.take_succ_cons, List.take_nil])
theorem r_is_text : Law p_is_text ["thing", "sign"] 1 (conP pre_is_text f_is_text) := fun ars h => by
  have h : pre_is_text ars := h
  unfold pre_is_text at h
  split at h
  · rename_i l _
    refine ⟨rfl, ?_⟩
    unfold p_is_text endsA f_is_text
    walk_at "rd"
    simp only [BEq.rfl, Bool.true_or]
    walk_at "rd"
    refine lc_run (fun i => if l.getD i 0 ∈ abc then none else some (.str [l.getD i 0])) trivial h.2 (fun i hi => ⟨_, rfl, fun J hJ => ?_⟩) ?_
    · walk_at "rd"
      by_cases q : l.getD i 0 ∈ abc
      · rw [if_pos q] at hJ
        rw [decide_eq_true q]
        exact hJ
      · rw [if_neg q] at hJ
        rw [decide_eq_false q]
        exact hJ
    · walk_at "rd"
      refine ⟨Nat.zero_le _, okD_lst (m := 0) (by decide) fun x hx => ?_, okD_nil, ?_⟩
      · unfold lcL at hx
        obtain ⟨i, hi, e⟩ := List.mem_filterMap.mp hx
        rw [List.mem_range] at hi
        split at e
        · cases e
        · cases e
          refine chkx_str ?_
          have := h.1
          unfold okX at this ⊢
          rw [List.all_eq_true] at this
          simp only [List.all_cons, List.all_nil, Bool.and_true]
          refine this _ ?_
          rw [List.getD_eq_getElem?_getD, List.getElem?_eq_getElem hi]
          exact List.getElem_mem hi
      · rw [deq_lst, deqs_nil]
        congr 3
        rw [Bool.eq_iff_iff]
        unfold small lcL
        rw [List.isEmpty_iff, List.filterMap_eq_nil_iff, List.all_eq_true]
        constructor
        · intro z c hc
          obtain ⟨i, hi, e⟩ := List.mem_iff_getElem.mp hc
          have := z i (List.mem_range.mpr hi)
          rw [List.getD_eq_getElem?_getD, List.getElem?_eq_getElem hi, Option.getD_some, e] at this
          split at this
          · rename_i q; exact decide_eq_true q
          · cases this
        · intro z i hi
          rw [List.mem_range] at hi
          have := of_decide_eq_true (z _ (List.getElem_mem hi))
          rw [List.getD_eq_getElem?_getD, List.getElem?_eq_getElem hi, Option.getD_some, if_pos this]
  · exact h.elim
theorem r_need_text : Law p_need_text ["thing"] 1 (conP pre_need_text f_need_text) := fun ars h => by
  have h : pre_need_text ars := h
  unfold pre_need_text at h
  split at h
  · rename_i l _
    refine ⟨rfl, ?_⟩
    unfold p_need_text endsA
    walk_at "rd"
    simp only [pre_is_text, f_is_text, h.1, small_okX h.1, h.2]
    walk_at "rd"
    trivial
  · exact h.elim
theorem r_only_words : Law p_only_words ["book"] 1 (conP pre_only_words f_only_words) := fun ars h => by
  have h : pre_only_words ars := h
  unfold pre_only_words at h
  split at h
  · refine ⟨rfl, ?_⟩
    unfold p_only_words endsA
    walk_at "rd"
    exact ⟨_, h, rfl⟩
  · exact h.elim
theorem r_words_from : Law p_words_from ["words", "text", "place", "pieces", "many", "piece"] 3 (conP pre_words_from f_words_from) := fun ars h => by
  have h : pre_words_from ars := h
  unfold pre_words_from at h
  split at h
  · rename_i kvs l p _
    obtain ⟨h1, h2, h3⟩ := h
    refine ⟨rfl, ?_⟩
    unfold p_words_from endsA
    walk_at "rd"
    have hn : ((if (l.length : Int) - p < 12 then (l.length : Int) - p else 12) + 1 - 1).toNat = min 12 (l.length - p.toNat) := by split <;> omega
    refine ⟨h3, by unfold smallI; omega, by unfold smallI; split <;> omega, ?_⟩
    rw [hn]
    refine lc_run (fun k => some (.str ((l.drop p.toNat).take (k + 1)))) trivial (by omega) (fun k hk => ⟨_, rfl, fun J hJ => ?_⟩) ?_
    · walk_at "rd"
      rw [cut_ab h1 (by omega)]
      refine ⟨h3, ?_⟩
      have e : (p + (1 + (k : Int))).toNat - p.toNat = k + 1 := by omega
      rw [e]
      exact hJ
    · rw [lcL_all]
      unfold Then
      walk_at "rd"
      have e : (List.range (min 12 (l.length - p.toNat))).map (fun k => D.str (List.take (k + 1) (List.drop p.toNat l))) = ((List.range (min 12 (l.length - p.toNat))).map fun k => List.take (k + 1) (List.drop p.toNat l)).map D.str := by rw [List.map_map]; rfl
      rw [e]
      generalize hx : ((List.range (min 12 (l.length - p.toNat))).map fun k => List.take (k + 1) (List.drop p.toNat l)) = xs
      have hl : xs.length ≤ 12 := by rw [← hx, List.length_map, List.length_range]; omega
      have e2 : ∀ i, i < xs.length → itL (xs.map D.str) i = .str (xs.getD i []) := fun i hi => by
        unfold itL
        rw [List.getD_eq_getElem?_getD, List.getD_eq_getElem?_getD, List.getElem?_map, List.getElem?_eq_getElem hi]
        rfl
      refine lc_run (fun i => if hasK kvs (.inr (xs.getD i [])) = true then some (.str (xs.getD i [])) else none) rfl (by rw [List.length_map]; omega) (fun k hk => ?_) ?_
      · rw [List.length_map] at hk
        rw [e2 k hk]
        refine ⟨_, rfl, fun J hJ => ?_⟩
        walk_at "rd"
        cases q : hasK kvs (.inr (xs.getD k []))
        · rw [q] at hJ
          walk_at "rd"
          exact hJ
        · rw [q] at hJ
          walk_at "rd"
          exact hJ
      · rw [List.length_map, lcL_map xs [] (fun x => hasK kvs (.inr x)) D.str]
        walk_at "rd"
        unfold f_words_from wordsFrom
        rw [← hx]
  · exact h.elim
local macro_rules | `(tactic| walk_at "rd") => `(tactic| simp (config := { decide := true }) only [pSeq_then, pNext, pNever, pBreak, pCont, pDrop, pRet, pRetN, pIf, pSet, pSetD, setD, setP, setO, pVar, pC, pOp2, pTest, pAnd, pOr, pNot, pAndV, pOrV, pNotV, pIfE, pNil, pCons, pLst, pTup, pDict0, pDictC, pCall, pIsiP, pM1, bJoin, pNo, pPart, pSl, pSortI, pLM, lAppend, lInsert, lExtend, lPopAt, pLc_eq, pFor_eq, pItL, pItS, pRng1, pRng2, pLr3, pNeg, pCalls, callP, toAR, R.fz, view, views, dats, O.toD, AR.toR, bAdd, bSub, bMul, bDiv, bMod, bPow, bEq, bCmp, bIn, bIs, bIx, bSl, cLen, cMin2, cMax2, cInt, cList, cDict, cSorted, plainD, isiB, tyn, pAsg, tgT, tgU, setsA, pSetIx, storeO, kdOf, pChain, cmpD, pYes, pTru, truD, Hand, tgN, wipeA, fnAbs, envA, ownsA, retA, conP, conN, List.set, List.set_cons_zero, List.set_cons_succ, List.set_nil, List.getElem?_cons_zero, List.getElem?_cons_succ, List.getElem?_nil, List.length_cons, List.length_nil, List.cons_append, List.nil_append, List.append_nil, List.replicate, Nat.reduceSub, Nat.reduceAdd, Nat.zero_add, true_and, and_true, reduceIte, Bool.false_eq_true, id, Bool.not_true, Bool.not_false, List.nodup_nil, List.nodup_cons, List.not_mem_nil, not_false_eq_true, List.take_zero, List.take_succ_cons, List.take_nil, List.map_cons, List.map_nil])
theorem for_run {n : Nat} {it : Nat → D} {C : List (Option O) → Prop} {tg : PTG} {body : PTS} {P : PEnds} {A1 : Abs} (Inv : Nat → Abs → Prop) (h0 : Inv 0 A1) (hC : ∀ i A', i ≤ n → Inv i A' → C A'.M)
    (hs : ∀ i A', i < n → Inv i A' → ∃ env', tg (it i) A'.env = some env' ∧ ∀ J : Abs → Prop, (∀ A, Inv (i + 1) A → J A) → body { P with nx := J, ct := J, bk := P.nx } ⟨env', A'.M⟩) (hd : ∀ A', Inv n A' → P.nx A') : ForP n it C tg body P A1 :=
  ⟨Inv, h0, hC, fun i A' hi hA => by
    obtain ⟨e, h1, h2⟩ := hs i A' hi hA
    exact ⟨e, h1, h2 _ fun _ h => h⟩, hd⟩
theorem p64 : (1000000000 : Int) = 10 ^ Int.toNat 9 := by decide
theorem small_append {a b : Tx} (ha : small a = true) (hb : small b = true) : small (a ++ b) = true := by
  unfold small at *
  rw [List.all_append, ha, hb]
  rfl
theorem small_take {a : Tx} (ha : small a = true) (n : Nat) : small (a.take n) = true := by
  unfold small at *
  rw [List.all_eq_true] at *
  exact fun x hx => ha x (List.mem_of_mem_take hx)
theorem small_drop {a : Tx} (ha : small a = true) (n : Nat) : small (a.drop n) = true := by
  unfold small at *
  rw [List.all_eq_true] at *
  exact fun x hx => ha x (List.mem_of_mem_drop hx)
theorem small_one {l : Tx} {c : Nat} (h : small l = true) (hc : c ∈ l) : small [c] = true := by
  unfold small at *
  rw [List.all_eq_true] at h
  simp only [List.all_cons, List.all_nil, Bool.and_true]
  exact h c hc
theorem kvs_keys {ps : List (Tx × Int)} : (ps.map fun p => ((.inr p.1, .int p.2) : Kd × D)).map (fun p => kD p.1) = (ps.map (·.1)).map D.str := by
  rw [List.map_map, List.map_map]
  rfl
theorem join_small {a : Tx} {ls : List Tx} (h : ∀ l ∈ ls, small l = true) : small ls.flatten = true := by
  unfold small
  rw [List.all_eq_true]
  intro c hc
  obtain ⟨l, hl, hcl⟩ := List.mem_flatten.mp hc
  have := h l hl
  unfold small at this
  rw [List.all_eq_true] at this
  exact this c hcl
theorem putD_words {ps : List (Tx × Int)} {k : Tx} {v : Int} (hw : ∀ p ∈ ps, isWord p.1) (hn : (ps.map (·.1)).Nodup) (hk : isWord k) :
    ∃ qs : List (Tx × Int), putD (ps.map fun p => (.inr p.1, .int p.2)) (.inr k) (.int v) = qs.map (fun p => (.inr p.1, .int p.2)) ∧ (∀ p ∈ qs, isWord p.1) ∧ (qs.map (·.1)).Nodup ∧ qs.length ≤ ps.length + 1 := by
  unfold putD
  split
  · refine ⟨ps.map fun p => if p.1 = k then (p.1, v) else p, ?_, fun p hp => ?_, ?_, by rw [List.length_map]; omega⟩
    · rw [List.map_map, List.map_map]
      apply List.map_congr_left
      intro p hp
      simp only [Function.comp]
      by_cases e : p.1 = k
      · simp [e]
      · simp [e]
    · obtain ⟨q, hq, rfl⟩ := List.mem_map.mp hp
      split
      · exact hw q hq
      · exact hw q hq
    · rw [List.map_map]
      have e : ((fun p : Tx × Int => p.1) ∘ fun p : Tx × Int => if p.1 = k then (p.1, v) else p) = fun p => p.1 := by
        funext p
        simp only [Function.comp]
        split <;> rfl
      rw [e]
      exact hn
  · rename_i hh
    refine ⟨ps ++ [(k, v)], by simp, fun p hp => ?_, ?_, by simp⟩
    · rcases List.mem_append.mp hp with hp | hp
      · exact hw p hp
      · rw [List.mem_singleton] at hp
        rw [hp]
        exact hk
    · rw [List.map_append, List.nodup_append]
      refine ⟨hn, by simp, fun x hx y hy e => ?_⟩
      have : y = k := by simpa using hy
      subst this
      subst e
      obtain ⟨p, hp, rfl⟩ := List.mem_map.mp hx
      apply hh
      unfold hasK
      rw [List.any_eq_true]
      exact ⟨(.inr p.1, .int p.2), List.mem_map.mpr ⟨p, hp, rfl⟩, by simp⟩
/-- pairs sorted by their words -/
def srtP (ps : List (Tx × Int)) : List (Tx × Int) := ps.mergeSort fun a b => tle a.1 b.1
theorem srtP_perm (ps : List (Tx × Int)) : (srtP ps).Perm ps := List.mergeSort_perm _ _
theorem srtP_strict {ps : List (Tx × Int)} (hn : (ps.map (·.1)).Nodup) : ((srtP ps).map (·.1)).Pairwise (· < ·) := by
  have h1 : (srtP ps).Pairwise fun a b => tle a.1 b.1 = true := List.pairwise_mergeSort (le := fun a b : Tx × Int => tle a.1 b.1) (fun a b c h1 h2 => tle_iff.mpr (List.le_trans (tle_iff.mp h1) (tle_iff.mp h2))) (fun a b => by
    rw [Bool.or_eq_true, tle_iff, tle_iff]
    exact List.le_total a.1 b.1) ps
  have h2 : ((srtP ps).map (·.1)).Nodup := ((srtP_perm ps).map (·.1)).nodup_iff.mpr hn
  rw [List.pairwise_map]
  rw [List.nodup_iff_pairwise_ne, List.pairwise_map] at h2
  refine (h1.and h2).imp fun {a b} ⟨h1, h2⟩ => ?_
  by_cases e : a.1 < b.1
  · exact e
  · exact absurd (List.le_antisymm (tle_iff.mp h1) (List.not_lt.mp e)) h2
theorem srt_rows {ps : List (Tx × Int)} (hn : (ps.map (·.1)).Nodup) : srt (ps.map fun p => pairD (.inr p.1, .int p.2)) = (srtP ps).map fun p => pairD (.inr p.1, .int p.2) :=
  srt_pairs (g := D.int) (srtP_perm ps) (srtP_strict hn)
theorem pairs_sorted {ps : List (Tx × Int)} (hw : ∀ p ∈ ps, isWord p.1) (hn : (ps.map (·.1)).Nodup) : srtOk ((ps.map fun p => ((.inr p.1, .int p.2) : Kd × D)).map pairD) ∧ Book (srt ((ps.map fun p => ((.inr p.1, .int p.2) : Kd × D)).map pairD)) := by
  have e : (ps.map fun p => ((.inr p.1, .int p.2) : Kd × D)).map pairD = ps.map fun p => pairD (.inr p.1, .int p.2) := by rw [List.map_map]; rfl
  rw [e]
  exact ⟨srtOk_pairs fun p hp => small_okX (hw p hp).1, srtP ps, srt_rows hn, fun p hp => hw p ((srtP_perm ps).mem_iff.mp hp), srtP_strict hn⟩
theorem mem_book {ds : List D} (h : Book ds) {d : D} (hd : d ∈ ds) : ∃ l v, d = .tup [.str l, .int v] ∧ isWord l := by
  obtain ⟨ps, rfl, hw, _⟩ := h
  obtain ⟨p, hp, rfl⟩ := List.mem_map.mp hd
  exact ⟨_, _, rfl, hw p hp⟩
theorem book_okD {ds : List D} (h : Book ds) : okD (.lst ds) := okD_lst (m := 1) (by decide) fun x hx => by
  obtain ⟨l, v, rfl, hl⟩ := mem_book h hx
  have := chkx_str (small_okX hl.1)
  refine ⟨?_, by simp [dep, deps]⟩
  simp only [chk, chks, Bool.and_true]
  have := this.1
  simp only [chk] at this
  exact this
theorem for_run2 {n : Nat} {it : Nat → D} {C : List (Option O) → Prop} {tg : PTG} {body : PTS} {P : PEnds} {A1 : Abs} (Inv : Nat → Abs → Prop) (h0 : Inv 0 A1) (hC : ∀ i A', i ≤ n → Inv i A' → C A'.M)
    (hs : ∀ i A', i < n → Inv i A' → ∃ env', tg (it i) A'.env = some env' ∧ ∀ J Kb : Abs → Prop, (∀ A, Inv (i + 1) A → J A) → body { nx := J, rt := P.rt, bk := Kb, ct := J, ex := P.ex } ⟨env', A'.M⟩) (hd : ∀ A', Inv n A' → P.nx A') : ForP n it C tg body P A1 :=
  ⟨Inv, h0, hC, fun i A' hi hA => by
    obtain ⟨e, h1, h2⟩ := hs i A' hi hA
    exact ⟨e, h1, h2 _ _ fun _ h => h⟩, hd⟩
local macro_rules | `(tactic| walk_at "rd") => `(tactic| simp (config := { decide := true }) only [pSeq_then, pNext, pNever, pBreak, pCont, pDrop, pRet, pRetN, pIf, pSet, pSetD, setD, setP, setO, pVar, pC, pOp2, pTest, pAnd, pOr, pNot, pAndV, pOrV, pNotV, pIfE, pNil, pCons, pLst, pTup, pDict0, pDictC, pCall, pIsiP, pM1, bJoin, pNo, pPart, pSl, pSortI, pLM, lAppend, lInsert, lExtend, lPopAt, pLc_eq, pFor_eq, pItL, pItS, pRng1, pRng2, pLr3, pNeg, pCalls, callP, toAR, R.fz, view, views, dats, O.toD, AR.toR, bAdd, bSub, bMul, bDiv, bMod, bPow, bEq, bCmp, bIn, bIs, bIx, bSl, cLen, cMin2, cMax2, cInt, cList, cDict, cSorted, plainD, isiB, tyn, pAsg, tgT, tgU, setsA, pSetIx, storeO, kdOf, pChain, cmpD, pYes, pTru, truD, Hand, tgN, wipeA, fnAbs, envA, ownsA, retA, conP, conN, List.set, List.set_cons_zero, List.set_cons_succ, List.set_nil, List.getElem?_cons_zero, List.getElem?_cons_succ, List.getElem?_nil, List.length_cons, List.length_nil, List.cons_append, List.nil_append, List.append_nil, List.replicate, Nat.reduceSub, Nat.reduceAdd, Nat.zero_add, true_and, and_true, reduceIte, Bool.false_eq_true, id, Bool.not_true, Bool.not_false, List.nodup_nil, List.nodup_cons, List.not_mem_nil, not_false_eq_true, List.take_zero, List.take_succ_cons, List.take_nil, List.map_cons, List.map_nil])
theorem book_un {ds : List D} (h : Book ds) : ds = (ds.map unpair).map pairD := by
  obtain ⟨ps, rfl, _, _⟩ := h
  rw [List.map_map, List.map_map]
  rfl
theorem words_ok {kvs : List (Kd × D)} {l : Tx} (p : Nat) (hl : small l = true) : okD (.lst ((wordsFrom kvs l p).map .str)) := okD_lst (m := 0) (by decide) fun x hx => by
  obtain ⟨w, hw, rfl⟩ := List.mem_map.mp hx
  refine chkx_str (small_okX ?_)
  unfold wordsFrom at hw
  obtain ⟨k, _, rfl⟩ := List.mem_map.mp (List.mem_filter.mp hw).1
  exact small_take (small_drop hl _) _
theorem words_len {kvs : List (Kd × D)} {l : Tx} (p : Nat) : (wordsFrom kvs l p).length ≤ 12 := by
  unfold wordsFrom
  refine Nat.le_trans (List.length_filter_le _ _) ?_
  rw [List.length_map, List.length_range]
  omega
theorem itL_mem {xs : List D} {i : Nat} (h : i < xs.length) : itL xs i ∈ xs := by
  unfold itL
  rw [List.getD_eq_getElem?_getD, List.getElem?_eq_getElem h]
  exact List.getElem_mem h
local macro_rules | `(tactic| walk_at "rd") => `(tactic| simp (config := { decide := true }) only [pSeq_then, pNext, pNever, pBreak, pCont, pDrop, pRet, pRetN, pIf, pSet, pSetD, setD, setP, setO, pVar, pC, pOp2, pTest, pAnd, pOr, pNot, pAndV, pOrV, pNotV, pIfE, pNil, pCons, pLst, pTup, pDict0, pDictC, pCall, pIsiP, pM1, bJoin, pNo, pPart, pSl, pSortI, pLM, lAppend, lInsert, lExtend, lPopAt, pLc_eq, pFor_eq, pItL, pItS, pRng1, pRng2, pLr3, pNeg, pCalls, callP, toAR, R.fz, view, views, dats, O.toD, AR.toR, bAdd, bSub, bMul, bDiv, bMod, bPow, bEq, bCmp, bIn, bIs, bIx, bSl, cLen, cMin2, cMax2, cInt, cList, cDict, cSorted, plainD, isiB, tyn, pAsg, tgT, tgU, setsA, pSetIx, storeO, kdOf, pChain, cmpD, pYes, pTru, truD, Hand, tgN, wipeA, fnAbs, envA, ownsA, retA, conP, conN, List.set, List.set_cons_zero, List.set_cons_succ, List.set_nil, List.getElem?_cons_zero, List.getElem?_cons_succ, List.getElem?_nil, List.length_cons, List.length_nil, List.cons_append, List.nil_append, List.append_nil, List.replicate, Nat.reduceSub, Nat.reduceAdd, Nat.zero_add, true_and, and_true, reduceIte, Bool.false_eq_true, id, Bool.not_true, Bool.not_false, List.nodup_nil, List.nodup_cons, List.not_mem_nil, not_false_eq_true, List.take_zero, List.take_succ_cons, List.take_nil, List.map_cons, List.map_nil])
local macro_rules | `(tactic| walk_at "rd") => `(tactic| simp only [pSeq_then, pNext, pNever, pBreak, pCont, pDrop, pRet, pRetN, pIf, pSet, pSetD, setD, setP, setO, pVar, pC, pOp2, pTest, pAnd, pOr, pNot, pAndV, pOrV, pNotV, pIfE, pNil, pCons, pLst, pTup, pDict0, pCall, pIsiP, pM1, pNo, pPart, pSl, pSortI, pLM, pLc_eq, pFor_eq, pItL, pItS, pRng1, pRng2, pCalls, callP, callN, toAR, R.fz, view, views, dats, O.toD, AR.toR, bAdd, bSub, bEq, bCmp, bIn, bIs, bIx, bSl, cLen, cMin2, cMax2, cInt, cList, cDict, cSorted, plainD, isiB, tyn, pAsg, pChain, cmpD, pYes, pTru, truD, Hand, pGc, tgN, wipeA, fnAbs, envA, ownsA, retA, conP, conN, List.set, List.set_cons_zero, List.set_cons_succ, List.set_nil, List.getElem?_cons_zero, List.getElem?_cons_succ, List.getElem?_nil, List.length_cons, List.length_nil, List.cons_append, List.nil_append, List.append_nil, List.replicate, Nat.reduceSub, Nat.reduceAdd, Nat.zero_add, true_and, and_true, reduceIte, Bool.false_eq_true, id, Bool.not_true, Bool.not_false, List.nodup_nil, List.nodup_cons, List.not_mem_nil, not_false_eq_true, List.take_zero, List.take_succ_cons, List.take_nil])
theorem r_is_whole : Law p_is_whole ["thing"] 1 (conP pre_is_whole f_is_whole) := fun ars h => by
  have h : pre_is_whole ars := h
  unfold pre_is_whole at h
  split at h
  · refine ⟨rfl, ?_⟩
    unfold p_is_whole endsA f_is_whole
    walk_at "rd"
    simp
  · exact h.elim
theorem r_words_at : Law p_words_at ["book", "text", "place"] 3 (conP pre_words_at f_words_at) := fun ars h => by
  have h : pre_words_at ars := h
  unfold pre_words_at at h
  split at h
  · rename_i ds l p _
    obtain ⟨h0, h1, h2, h3, h4⟩ := h
    refine ⟨rfl, ?_⟩
    unfold p_words_at endsA
    walk_at "rd"
    simp only [pre_need_text, h1, h4, f_need_text]
    walk_at "rd"
    unfold Then
    walk_at "rd"
    simp only [pre_is_whole, f_is_whole]
    walk_at "rd"
    rw [decide_eq_true h2, decide_eq_true h3]
    walk_at "rd"
    refine ⟨h4, ?_⟩
    unfold Then
    walk_at "rd"
    simp only [pre_only_words, h0, f_only_words, pre_words_from, h2, h3, h4, f_words_from]
    walk_at "rd"
    exact ⟨⟨h2, h3, h4⟩, rfl⟩
  · exact h.elim
local macro_rules | `(tactic| walk_at "rd") => `(tactic| simp (config := { decide := true }) only [pSeq_then, pNext, pNever, pBreak, pCont, pDrop, pRet, pRetN, pIf, pSet, pSetD, setD, setP, setO, pVar, pC, pOp2, pTest, pAnd, pOr, pNot, pAndV, pOrV, pNotV, pIfE, pNil, pCons, pLst, pTup, pDict0, pDictC, pCall, pIsiP, pM1, bJoin, pNo, pPart, pSl, pSortI, pLM, lAppend, lInsert, lExtend, lPopAt, pLc_eq, pFor_eq, pItL, pItS, pRng1, pRng2, pRng3, pVarF, pAug, pDictLen, pLr3, pNeg, pCalls, callP, f_only_words, f_words_from, f_need_text, toAR, R.fz, view, views, dats, O.toD, AR.toR, bAdd, bSub, bMul, bDiv, bMod, bPow, bEq, bCmp, bIn, bIs, bIx, bSl, cLen, cMin2, cMax2, cInt, cList, cDict, cSorted, plainD, isiB, tyn, pAsg, tgT, tgU, setsA, pSetIx, storeO, kdOf, pChain, cmpD, pYes, pTru, truD, Hand, tgN, wipeA, fnAbs, envA, ownsA, retA, conP, conN, List.set, List.set_cons_zero, List.set_cons_succ, List.set_nil, List.getElem?_cons_zero, List.getElem?_cons_succ, List.getElem?_nil, List.length_cons, List.length_nil, List.cons_append, List.nil_append, List.append_nil, List.replicate, Nat.reduceSub, Nat.reduceAdd, Nat.zero_add, true_and, and_true, reduceIte, Bool.false_eq_true, id, Bool.not_true, Bool.not_false, List.nodup_nil, List.nodup_cons, List.not_mem_nil, not_false_eq_true, List.take_zero, List.take_succ_cons, List.take_nil, List.map_cons, List.map_nil])
theorem back_len (W : Nat → List Tx) (n : Nat) : ∀ k, (back W n k).length = k + 1
  | 0 => rfl
  | k + 1 => by show ((_ : Bool) :: back W n k).length = _; rw [List.length_cons, back_len W n k]
theorem wds_eq (kvs : List (Kd × D)) (l : Tx) (p : Nat) : ∀ w ∈ wordsFrom kvs l p, 1 ≤ w.length ∧ p + w.length ≤ l.length ∧ w.length ≤ 12 := fun w hw => by
  unfold wordsFrom at hw
  obtain ⟨k, hk, rfl⟩ := List.mem_map.mp (List.mem_filter.mp hw).1
  rw [List.mem_range] at hk
  rw [List.length_take, List.length_drop]
  omega
theorem rep_set {α : Type} (x b : α) (B : List α) : ∀ m : Nat, (List.replicate (m + 1) x ++ B).set m b = List.replicate m x ++ b :: B
  | 0 => rfl
  | m + 1 => by
    rw [List.replicate_succ, List.cons_append, List.set_cons_succ, rep_set x b B m, List.replicate_succ, List.cons_append]
theorem any_bl (xs : List Bool) : (xs.map D.bl).any (fun z => deq z (.bl true)) = xs.any id := by
  induction xs with
  | nil => rfl
  | cons x r ih =>
    rw [List.map_cons, List.any_cons, List.any_cons, ih, deq_bl]
    cases x <;> rfl
theorem range_getD {α β : Type} (xs : List α) (z : α) (g : α → β) : (List.range xs.length).map (fun i => g (xs.getD i z)) = xs.map g := by
  apply List.ext_getElem?
  intro i
  rw [List.getElem?_map, List.getElem?_map]
  by_cases h : i < xs.length
  · rw [List.getElem?_range h, List.getElem?_eq_getElem h]
    show some (g (xs.getD i z)) = some (g xs[i])
    rw [List.getD_eq_getElem?_getD, List.getElem?_eq_getElem h]
    rfl
  · rw [List.getElem?_eq_none (by rw [List.length_range]; omega), List.getElem?_eq_none (by omega)]
    rfl
theorem r_places_back : Law p_places_back ["book", "text", "words", "good", "place", "word"] 2 (conP pre_places_back f_places_back) := fun ars h => by
  have h : pre_places_back ars := h
  unfold pre_places_back at h
  split at h
  · rename_i ds l _
    obtain ⟨hB, hl, hll⟩ := h
    refine ⟨rfl, ?_⟩
    unfold p_places_back endsA
    walk_at "rd"
    refine ⟨⟨hl, by omega⟩, ?_⟩
    rw [then_eq]
    walk_at "rd"
    refine ⟨hB, ?_⟩
    rw [then_eq]
    walk_at "rd"
    rw [Int.toNat_natCast, rep_flat]
    refine ⟨by omega, ⟨by omega, by omega, by omega⟩, by rw [List.length_replicate]; omega, ?_⟩
    rw [then_eq]
    walk_at "rd"
    have hrn : ((l.length : Int) - 1 - -1).toNat = l.length := by omega
    refine ⟨by omega, l.length, by have := RgC.neg (i := (l.length : Int) - 1) (j := -1) (by omega) (by omega) (by omega) (by omega); rwa [hrn] at this, ?_⟩
    let W := wds ds l
    refine for_run2 (fun k A => ∃ x : AV, A = ⟨[AV.d (.lst ds), AV.d (.str l), AV.d (.dic (dictOf ds)), AV.p 0, x, .un], [some (.lst ((List.replicate (l.length - k) false ++ back W l.length k).map .bl))]⟩)
      ⟨.un, by rw [List.map_append, List.map_replicate]; rfl⟩ (fun _ _ _ _ => trivial) ?_ ?_
    · rintro k A hk ⟨x, rfl⟩
      refine ⟨_, rfl, fun J Kb hJ => ?_⟩
      obtain ⟨m, hm⟩ : ∃ m, l.length = k + m + 1 := ⟨l.length - k - 1, by omega⟩
      have e : (l.length : Int) - 1 + (k : Int) * -1 = (m : Int) := by omega
      have e2 : l.length - k = m + 1 := by omega
      have e3 : l.length - (k + 1) = m := by omega
      have hlen : ((List.replicate (l.length - k) false ++ back W l.length k).map D.bl).length = l.length + 1 := by
        rw [List.length_map, List.length_append, List.length_replicate, back_len]; omega
      rw [e]
      unfold pGc
      dsimp only
      walk_at "rd"
      refine ⟨⟨by omega, by omega, by omega⟩, ?_⟩
      refine lc_run (fun i => some (.bl ((back W l.length k).getD (((wordsFrom (dictOf ds) l m).getD i []).length - 1) false))) trivial (by rw [List.length_map]; have := words_len (kvs := dictOf ds) (l := l) (m : Int).toNat; omega) (fun i hi => ?_) ?_
      · rw [List.length_map] at hi
        have hi : i < (wordsFrom (dictOf ds) l m).length := hi
        have ei : itL ((wordsFrom (dictOf ds) l (m : Int).toNat).map D.str) i = .str ((wordsFrom (dictOf ds) l m).getD i []) := by
          unfold itL
          show ((wordsFrom (dictOf ds) l m).map D.str).getD i .non = _
          rw [List.getD_eq_getElem?_getD, List.getD_eq_getElem?_getD, List.getElem?_map, List.getElem?_eq_getElem hi]
          rfl
        rw [ei]
        refine ⟨_, rfl, fun J2 hJ2 => ?_⟩
        have hw : (wordsFrom (dictOf ds) l m).getD i [] ∈ wordsFrom (dictOf ds) l m := by
          rw [List.getD_eq_getElem?_getD, List.getElem?_eq_getElem hi]
          exact List.getElem_mem hi
        obtain ⟨h1, h2, h3⟩ := wds_eq _ _ _ _ hw
        generalize (wordsFrom (dictOf ds) l m).getD i [] = w at h1 h2 h3 hJ2 ⊢
        walk_at "rd"
        have ea : (m : Int) + (w.length : Int) = ((m + w.length : Nat) : Int) := by omega
        refine ⟨by omega, _, by rw [ea]; exact atI_nat (by rw [hlen]; omega), ?_⟩
        have eq : (List.map D.bl (List.replicate (l.length - k) false ++ back W l.length k))[m + w.length]'(by rw [hlen]; omega) = .bl ((back W l.length k).getD (w.length - 1) false) := by
          rw [List.getElem_map, List.getElem_append_right (by rw [List.length_replicate]; omega), getD_of (by rw [back_len]; omega)]
          congr 2
          rw [List.length_replicate]
          omega
        rw [eq]
        exact hJ2
      · walk_at "rd"
        have eL : lcL (List.map D.str (wordsFrom (dictOf ds) l (m : Int).toNat)).length (fun i => some (D.bl ((back W l.length k).getD (((wordsFrom (dictOf ds) l m).getD i []).length - 1) false))) = ((wordsFrom (dictOf ds) l m).map fun w => (back W l.length k).getD (w.length - 1) false).map D.bl := by
          rw [lcL_all, List.length_map]
          show (List.range (wordsFrom (dictOf ds) l m).length).map (fun i => D.bl ((back W l.length k).getD (((wordsFrom (dictOf ds) l m).getD i []).length - 1) false)) = _
          rw [range_getD (wordsFrom (dictOf ds) l m) [] (fun w => D.bl ((back W l.length k).getD (w.length - 1) false)), List.map_map]
          rfl
        rw [eL, any_bl]
        refine ⟨⟨rfl, Nat.zero_le _⟩, okD_lst (m := 0) (by decide) fun x hx => ?_, m, by rw [hlen]; exact ixN_nat (by omega), ?_⟩
        · obtain ⟨b, _, rfl⟩ := List.mem_map.mp hx
          exact ⟨rfl, Nat.le_refl _⟩
        · refine hJ _ ⟨.d (.int m), ?_⟩
          have st : (List.map D.bl (List.replicate (l.length - k) false ++ back W l.length k)).set m (D.bl ((List.map (fun w => (back W l.length k).getD (w.length - 1) false) (wordsFrom (dictOf ds) l m)).any id)) = List.map D.bl (List.replicate (l.length - (k + 1)) false ++ back W l.length (k + 1)) := by
            rw [← List.map_set, e2, rep_set, e3]
            show _ = List.map D.bl (List.replicate m false ++ (((W (l.length - (k + 1))).any fun w => (back W l.length k).getD (w.length - 1) false) :: back W l.length k))
            rw [e3, List.any_map]
            rfl
          rw [st]
          rfl
    · rintro A ⟨x, rfl⟩
      dsimp only
      rw [then_eq]
      walk_at "rd"
      refine ⟨_, rfl, ?_⟩
      rw [Nat.sub_self]
      rfl
  · exact h.elim
theorem path_small {kvs : List (Kd × D)} {l : Tx} {g : List Bool} {n : Nat} (hl : small l = true) : ∀ (f p : Nat) (w : Tx), w ∈ path (wordsFrom kvs l) g n f p → small w = true
  | 0, _, _, h => by simp [path] at h
  | f + 1, p, w, h => by
    unfold path at h
    split at h
    · split at h
      · rename_i v e
        rcases List.mem_cons.mp h with rfl | h
        · have := List.mem_of_find?_eq_some e
          unfold wordsFrom at this
          obtain ⟨k, _, rfl⟩ := List.mem_map.mp (List.mem_filter.mp this).1
          exact small_take (small_drop hl _) _
        · exact path_small hl f _ w h
      · simp at h
    · simp at h
theorem back_drop (W : Nat → List Tx) (n k : Nat) : ∀ j, (back W n (j + k)).drop j = back W n k
  | 0 => by rw [Nat.zero_add]; rfl
  | j + 1 => by
    have : j + 1 + k = (j + k) + 1 := by omega
    rw [this]
    show ((_ : Bool) :: back W n (j + k)).drop (j + 1) = _
    rw [List.drop_succ_cons, back_drop W n k j]
theorem back_get (W : Nat → List Tx) {n k : Nat} (hk : k ≤ n) (i : Nat) : (back W n n).getD (n - k + i) false = (back W n k).getD i false := by
  have := back_drop W n k (n - k)
  rw [Nat.sub_add_cancel hk] at this
  rw [← this, List.getD_eq_getElem?_getD, List.getD_eq_getElem?_getD, List.getElem?_drop]
theorem good_at (W : Nat → List Tx) {n p : Nat} (hW : ∀ w ∈ W p, 1 ≤ w.length) (hp : p < n) : (back W n n).getD p false = (W p).any fun w => (back W n n).getD (p + w.length) false := by
  obtain ⟨k, hk⟩ : ∃ k, n = p + k + 1 := ⟨n - p - 1, by omega⟩
  have e := back_get W (n := n) (k := k + 1) (by omega) 0
  have e1 : n - (k + 1) + 0 = p := by omega
  rw [e1] at e
  rw [e]
  have e2 : n - (k + 1) = p := by omega
  show (((W (n - (k + 1))).any fun w => (back W n k).getD (w.length - 1) false) :: back W n k).getD 0 false = _
  rw [e2]
  show ((W p).any fun w => (back W n k).getD (w.length - 1) false) = _
  rw [Bool.eq_iff_iff, List.any_eq_true, List.any_eq_true]
  have q : ∀ w ∈ W p, (back W n k).getD (w.length - 1) false = (back W n n).getD (p + w.length) false := fun w hw => by
    rw [← back_get W (n := n) (k := k) (by omega) (w.length - 1)]
    have := hW w hw
    congr 1
    omega
  exact ⟨fun ⟨w, hw, h⟩ => ⟨w, hw, by rw [← q w hw]; exact h⟩, fun ⟨w, hw, h⟩ => ⟨w, hw, by rw [q w hw]; exact h⟩⟩
theorem path_end (W : Nat → List Tx) (g : List Bool) {n p : Nat} (h : n ≤ p) : ∀ f, path W g n f p = []
  | 0 => rfl
  | f + 1 => by
    unfold path
    rw [if_neg (by omega)]
theorem path_step (W : Nat → List Tx) (g : List Bool) {n p f : Nat} {w : Tx} (h : p < n) (e : (W p).find? (fun w => g.getD (p + w.length) false) = some w) : path W g n (f + 1) p = w :: path W g n f (p + w.length) := by
  show (if p < n then _ else _) = _
  rw [if_pos h, e]
theorem find_filter {α : Type} (q : α → Bool) : ∀ xs : List α, (∃ x ∈ xs, q x = true) → ∃ w r, xs.filter q = w :: r ∧ xs.find? q = some w
  | [], h => by obtain ⟨x, hx, _⟩ := h; simp at hx
  | a :: r, h => by
    cases e : q a with
    | true => exact ⟨a, r.filter q, by rw [List.filter_cons, if_pos e], by rw [List.find?_cons, e]⟩
    | false =>
      obtain ⟨x, hx, hq⟩ := h
      have hx : x ∈ r := by
        rcases List.mem_cons.mp hx with rfl | hx
        · rw [e] at hq; cases hq
        · exact hx
      obtain ⟨w, r', h1, h2⟩ := find_filter q r ⟨x, hx, hq⟩
      exact ⟨w, r', by rw [List.filter_cons, if_neg (by rw [e]; exact Bool.false_ne_true)]; exact h1, by rw [List.find?_cons, e]; exact h2⟩
theorem goods_len (ds : List D) (l : Tx) : (goods ds l).length = l.length + 1 := back_len _ _ _
theorem itL_strs {xs : List Tx} {i : Nat} (h : i < xs.length) : itL (xs.map D.str) i = .str (xs.getD i []) := by
  unfold itL
  rw [List.getD_eq_getElem?_getD, List.getD_eq_getElem?_getD, List.getElem?_map, List.getElem?_eq_getElem h]
  rfl
theorem getD_mem {xs : List Tx} {i : Nat} (h : i < xs.length) : xs.getD i [] ∈ xs := by
  rw [List.getD_eq_getElem?_getD, List.getElem?_eq_getElem h]
  exact List.getElem_mem h
theorem r_first_cut : Law p_first_cut ["book", "text", "good", "words", "found", "place", "word", "one"] 2 (conP pre_first_cut f_first_cut) := fun ars h => by
  have h : pre_places_back ars := h
  unfold pre_places_back at h
  split at h
  · rename_i ds l _
    obtain ⟨hB, hl, hll⟩ := h
    refine ⟨rfl, ?_⟩
    unfold p_first_cut endsA
    walk_at "rd"
    refine ⟨⟨hB, hl, hll⟩, ?_⟩
    simp only [f_places_back]
    rw [then_eq]
    walk_at "rd"
    have gl := goods_len ds l
    have g0 : atI (List.map D.bl (goods ds l)) 0 = some (.bl ((goods ds l).getD 0 false)) := by
      rw [getD_of (by omega), ← List.getElem_map (f := D.bl) (h := by rw [List.length_map]; omega)]
      exact atI_nat (m := 0) (by rw [List.length_map]; omega)
    refine ⟨_, g0, ?_⟩
    dsimp only
    unfold f_first_cut firstCut
    cases hg : (goods ds l).getD 0 false
    · walk_at "rd"
      rw [hg]
      rfl
    · walk_at "rd"
      rw [then_eq]
      walk_at "rd"
      refine ⟨hB, ?_⟩
      rw [then_eq]
      walk_at "rd"
      rw [then_eq]
      walk_at "rd"
      rw [then_eq]
      rw [pSeq_then]
      unfold pWhile
      refine ⟨fun m A => ∃ (p f : Nat) (found : List Tx) (x : AV), A = ⟨[AV.d (.lst ds), AV.d (.str l), AV.d (.lst ((goods ds l).map .bl)), AV.d (.dic (dictOf ds)), AV.p 0, AV.d (.int p), x, .un], [some (.lst (found.map .str))]⟩ ∧ (∀ m, truncE m x = x) ∧ p ≤ l.length ∧ l.length < f + p ∧ found.length ≤ p ∧ (goods ds l).getD p false = true ∧
        found ++ path (wds ds l) (goods ds l) l.length f p = path (wds ds l) (goods ds l) l.length (l.length + 1) 0 ∧ m = l.length - p, ⟨_, 0, l.length + 1, [], .un, rfl, fun _ => rfl, by omega, by omega, Nat.le_refl _, hg, rfl, rfl⟩, ?_⟩
      rintro m A ⟨p, f, found, x, rfl, hx, hp, hf, hfl, hgp, hpa, rfl⟩
      walk_at "rd"
      refine ⟨by omega, ?_⟩
      split
      · rename_i hlt
        have hlt : p < l.length := by
          have := of_decide_eq_true hlt
          omega
        unfold pGc
        walk_at "rd"
        refine ⟨⟨by omega, by omega, by omega⟩, ?_⟩
        rw [Int.toNat_natCast]
        let q : Tx → Bool := fun w => (goods ds l).getD (p + w.length) false
        have hwd : ∀ w ∈ wordsFrom (dictOf ds) l p, 1 ≤ w.length ∧ p + w.length ≤ l.length ∧ w.length ≤ 12 := wds_eq (dictOf ds) l p
        have hany : ∃ w ∈ wordsFrom (dictOf ds) l p, q w = true := by
          have := good_at (wds ds l) (n := l.length) (p := p) (fun w hw => (hwd w hw).1) hlt
          have this : (goods ds l).getD p false = (wordsFrom (dictOf ds) l p).any q := this
          rw [hgp] at this
          exact List.any_eq_true.mp this.symm
        obtain ⟨w, r, hfil, hfind⟩ := find_filter q _ hany
        have hwm : w ∈ wordsFrom (dictOf ds) l p ∧ q w = true := by
          have : w ∈ (wordsFrom (dictOf ds) l p).filter q := by rw [hfil]; simp
          exact List.mem_filter.mp this
        obtain ⟨hw1, hw2, hw3⟩ := hwd w hwm.1
        refine lc_run (fun i => if q ((wordsFrom (dictOf ds) l p).getD i []) = true then some (.str ((wordsFrom (dictOf ds) l p).getD i [])) else none) trivial (by rw [List.length_map]; have := words_len (kvs := dictOf ds) (l := l) p; omega) (fun i hi => ?_) ?_
        · rw [List.length_map] at hi
          rw [itL_strs hi]
          refine ⟨_, rfl, fun J2 hJ2 => ?_⟩
          obtain ⟨h1, h2, h3⟩ := hwd _ (getD_mem hi)
          generalize (wordsFrom (dictOf ds) l p).getD i [] = v at h1 h2 h3 hJ2 ⊢
          walk_at "rd"
          have ea : (p : Int) + (v.length : Int) = ((p + v.length : Nat) : Int) := by omega
          have eq : (List.map D.bl (goods ds l))[p + v.length]'(by rw [List.length_map]; omega) = .bl (q v) := by
            rw [List.getElem_map]
            show _ = D.bl ((goods ds l).getD (p + v.length) false)
            rw [getD_of (by omega)]
          refine ⟨by omega, _, by rw [ea]; exact atI_nat (by rw [List.length_map]; omega), ?_⟩
          rw [eq]
          dsimp only
          cases hq : q v
          · rw [hq] at hJ2
            walk_at "rd"
            exact hJ2
          · rw [hq] at hJ2
            walk_at "rd"
            exact hJ2
        · rw [List.length_map, lcL_map (wordsFrom (dictOf ds) l p) [] q D.str, hfil]
          walk_at "rd"
          refine ⟨.str w, atI_nat (m := 0) (by simp), ?_⟩
          rw [then_eq]
          walk_at "rd"
          refine ⟨by rw [List.length_map]; omega, ?_⟩
          rw [then_eq]
          walk_at "rd"
          refine ⟨by omega, ?_⟩
          cases f with
          | zero => omega
          | succ f =>
            rw [path_step (wds ds l) (goods ds l) hlt hfind] at hpa
            refine ⟨l.length - (p + w.length), by omega, p + w.length, f, found ++ [w], .d (.str w), ?_, fun _ => rfl, by omega, by omega, by rw [List.length_append, List.length_singleton]; omega, hwm.2, by rw [List.append_assoc]; exact hpa, rfl⟩
            rw [List.map_append]
            rfl
      · rename_i hlt
        have hle : l.length ≤ p := by
          have : ¬ ((p : Int) < l.length) := fun z => hlt (decide_eq_true z)
          omega
        rw [then_eq]
        walk_at "rd"
        rw [path_end _ _ hle, List.append_nil] at hpa
        exact ⟨_, rfl, by rw [← hpa]⟩
  · exact h.elim
theorem hasK_put (kvs : List (Kd × D)) (k j : Kd) (v : D) : hasK (putD kvs k v) j = (hasK kvs j || decide (k = j)) := by
  unfold putD
  split
  · rename_i h
    unfold hasK at h ⊢
    rw [List.any_map]
    have e : ((fun p : Kd × D => decide (p.1 = j)) ∘ fun p : Kd × D => if p.1 = k then (p.1, v) else p) = fun p => decide (p.1 = j) := by
      funext p
      simp only [Function.comp]
      split <;> rfl
    rw [e]
    by_cases q : k = j
    · subst q
      rw [h]
      rfl
    · rw [decide_eq_false q, Bool.or_false]
  · unfold hasK
    rw [List.any_append]
    simp only [List.any_cons, List.any_nil, Bool.or_false]
theorem putD_len (kvs : List (Kd × D)) (k : Kd) (v : D) : (putD kvs k v).length ≤ kvs.length + 1 := by
  unfold putD
  split
  · rw [List.length_map]; omega
  · rw [List.length_append]; exact Nat.le_refl _
def GoodD (W : Nat → List Tx) (n k : Nat) (gd : List (Kd × D)) : Prop := gd.length ≤ k + 1 ∧ ∀ q : Nat, hasK gd (.inl (q : Int)) = (decide (n - k ≤ q) && (back W n n).getD q false)
theorem back_over (W : Nat → List Tx) {n q : Nat} (h : n < q) : (back W n n).getD q false = false := by
  rw [List.getD_eq_getElem?_getD, List.getElem?_eq_none (by rw [back_len]; omega)]
  rfl
theorem back_last (W : Nat → List Tx) (n : Nat) : (back W n n).getD n false = true := by
  have := back_get W (n := n) (k := 0) (Nat.zero_le n) 0
  rw [Nat.sub_zero, Nat.add_zero] at this
  rw [this]
  rfl
theorem GoodD_zero (W : Nat → List Tx) (n : Nat) (d : D) : GoodD W n 0 [(.inl (n : Int), d)] := by
  refine ⟨Nat.le_refl _, fun q => ?_⟩
  unfold hasK
  simp only [List.any_cons, List.any_nil, Bool.or_false, Nat.sub_zero]
  by_cases h : q = n
  · subst h
    rw [back_last, decide_eq_true rfl, decide_eq_true (Nat.le_refl _)]
    rfl
  · rw [decide_eq_false (fun e => h (by have := Sum.inl.inj e; omega))]
    by_cases h2 : n ≤ q
    · rw [back_over W (by omega), Bool.and_false]
    · rw [decide_eq_false h2, Bool.false_and]
theorem GoodD_yes {W : Nat → List Tx} {n k m : Nat} {gd : List (Kd × D)} (h : GoodD W n k gd) (hm : n = k + m + 1) (hg : (back W n n).getD m false = true) (d : D) : GoodD W n (k + 1) (putD gd (.inl (m : Int)) d) := by
  refine ⟨by have := putD_len gd (.inl (m : Int)) d; have := h.1; omega, fun q => ?_⟩
  rw [hasK_put, h.2 q]
  by_cases e : q = m
  · subst e
    rw [hg, decide_eq_true rfl, decide_eq_true (by omega : n - (k + 1) ≤ q), Bool.or_true]
    rfl
  · rw [decide_eq_false (fun z : (Sum.inl (m : Int) : Kd) = .inl (q : Int) => e (by have := Sum.inl.inj z; omega)), Bool.or_false]
    by_cases h2 : n - k ≤ q
    · rw [decide_eq_true h2, decide_eq_true (by omega : n - (k + 1) ≤ q)]
    · rw [decide_eq_false h2, decide_eq_false (by omega : ¬ n - (k + 1) ≤ q)]
theorem GoodD_no {W : Nat → List Tx} {n k m : Nat} {gd : List (Kd × D)} (h : GoodD W n k gd) (hm : n = k + m + 1) (hg : (back W n n).getD m false = false) : GoodD W n (k + 1) gd := by
  refine ⟨by have := h.1; omega, fun q => ?_⟩
  rw [h.2 q]
  by_cases e : q = m
  · subst e
    rw [hg, Bool.and_false, Bool.and_false]
  · by_cases h2 : n - k ≤ q
    · rw [decide_eq_true h2, decide_eq_true (by omega : n - (k + 1) ≤ q)]
    · rw [decide_eq_false h2, decide_eq_false (by omega : ¬ n - (k + 1) ≤ q)]
theorem filter_empty {α : Type} (q : α → Bool) (f : α → D) : ∀ xs : List α, ((xs.filter q).map f).isEmpty = !(xs.any q)
  | [] => rfl
  | x :: r => by
    rw [List.filter_cons, List.any_cons]
    cases q x
    · rw [if_neg Bool.false_ne_true, filter_empty q f r, Bool.false_or]
    · rw [if_pos rfl, Bool.true_or]
      rfl
theorem strs_ok {xs : List Tx} (h : ∀ w ∈ xs, small w = true) : okD (.lst (xs.map .str)) := okD_lst (m := 0) (by decide) fun x hx => by
  obtain ⟨w, hw, rfl⟩ := List.mem_map.mp hx
  exact chkx_str (small_okX (h w hw))
theorem from_small {kvs : List (Kd × D)} {l : Tx} (hl : small l = true) (p : Nat) : ∀ w ∈ wordsFrom kvs l p, small w = true := fun w hw => by
  unfold wordsFrom at hw
  obtain ⟨k, _, rfl⟩ := List.mem_map.mp (List.mem_filter.mp hw).1
  exact small_take (small_drop hl _) _
local macro_rules | `(tactic| walk_at "rd") => `(tactic| simp (config := { decide := true }) only [pSeq_then, pNext, pNever, pBreak, pCont, pDrop, pRet, pRetN, pIf, pSet, pSetD, setD, setP, setO, pVar, pC, pOp2, pTest, pAnd, pOr, pNot, pAndV, pOrV, pNotV, pIfE, pNil, pCons, pLst, pTup, pDict0, pDictC, pCall, pIsiP, pM1, bJoin, pNo, pPart, pSl, pSortI, pLM, lAppend, lInsert, lExtend, lPopAt, pLc_eq, pFor_eq, pItL, pItS, pRng1, pRng2, pRng3, pVarF, pAug, pDictLen, pLr3, pNeg, pCalls, callP, f_only_words, f_words_from, f_need_text, toAR, R.fz, view, views, dats, O.toD, AR.toR, bAdd, bSub, bMul, bDiv, bMod, bPow, bEq, bCmp, bIn, bIs, bIx, bSl, cLen, cMin2, cMax2, cInt, cList, cDict, cSorted, plainD, isiB, tyn, pAsg, tgT, tgU, setsA, pSetIx, storeO, kdOf, pChain, cmpD, pYes, pTru, truD, Hand, tgN, wipeA, fnAbs, envA, ownsA, retA, conP, conN, List.set, List.set_cons_zero, List.set_cons_succ, List.set_nil, List.getElem?_cons_zero, List.getElem?_cons_succ, List.getElem?_nil, List.length_cons, List.length_nil, List.cons_append, List.nil_append, List.append_nil, List.replicate, Nat.reduceSub, Nat.reduceAdd, Nat.zero_add, true_and, and_true, reduceIte, Bool.false_eq_true, id, Bool.not_true, Bool.not_false, List.nodup_nil, List.nodup_cons, List.not_mem_nil, not_false_eq_true, List.take_zero, List.take_succ_cons, List.take_nil, List.map_cons, List.map_nil])
theorem set_all (W : List Tx) (k : Nat) : ∀ (L : List Bool) (q : Nat), (W.foldl (fun L w => L.set (k + w.length) true) L).getD q false = (L.getD q false || (decide (q < L.length) && W.any fun w => decide (k + w.length = q))) := by
  induction W with
  | nil => intro L q; simp
  | cons w r ih =>
    intro L q
    rw [List.foldl_cons, ih, List.length_set, List.any_cons]
    by_cases h : k + w.length = q
    · rw [decide_eq_true h]
      by_cases hq : q < L.length
      · rw [decide_eq_true hq]
        have : (L.set (k + w.length) true).getD q false = true := by
          rw [List.getD_eq_getElem?_getD, h, List.getElem?_set_self hq]
          rfl
        rw [this]
        simp
      · rw [decide_eq_false hq]
        have e1 : (L.set (k + w.length) true).getD q false = false := by
          rw [List.getD_eq_getElem?_getD, List.getElem?_eq_none (by rw [List.length_set]; omega)]
          rfl
        have e2 : L.getD q false = false := by
          rw [List.getD_eq_getElem?_getD, List.getElem?_eq_none (by omega)]
          rfl
        rw [e1, e2]
        rfl
    · rw [decide_eq_false h, Bool.false_or]
      have : (L.set (k + w.length) true).getD q false = L.getD q false := by
        rw [List.getD_eq_getElem?_getD, List.getElem?_set_ne h, List.getD_eq_getElem?_getD]
      rw [this]
theorem led_len (W : Nat → List Tx) (n : Nat) : ∀ k, (ledUp W n k).length = n + 1
  | 0 => by show (_ :: List.replicate n false).length = _; rw [List.length_cons, List.length_replicate]
  | k + 1 => by
    have fl : ∀ (ws : List Tx) (L : List Bool), (ws.foldl (fun L w => L.set (k + w.length) true) L).length = L.length := fun ws => by
      induction ws with
      | nil => intro L; rfl
      | cons w r ih => intro L; rw [List.foldl_cons, ih, List.length_set]
    show (ledStep W k (ledUp W n k)).length = _
    unfold ledStep
    split
    · rw [fl, led_len W n k]
    · exact led_len W n k
theorem r_led_places : Law p_led_places ["book", "text", "words", "led", "place", "word"] 2 (conP pre_led_places f_led_places) := fun ars h => by
  have h : pre_led_places ars := h
  unfold pre_led_places at h
  split at h
  · rename_i ds l _
    obtain ⟨hB, hl, hll⟩ := h
    refine ⟨rfl, ?_⟩
    unfold p_led_places endsA
    walk_at "rd"
    refine ⟨⟨hl, by omega⟩, ?_⟩
    rw [then_eq]
    walk_at "rd"
    refine ⟨hB, ?_⟩
    rw [then_eq]
    walk_at "rd"
    rw [Int.toNat_natCast, rep_flat]
    refine ⟨by omega, ⟨by omega, by omega, by omega⟩, by rw [List.length_replicate]; omega, ?_⟩
    rw [then_eq]
    walk_at "rd"
    refine ⟨by omega, by unfold smallI; omega, ?_⟩
    let W := wordsFrom (dictOf ds) l
    have hwd : ∀ p, ∀ w ∈ wordsFrom (dictOf ds) l p, 1 ≤ w.length ∧ p + w.length ≤ l.length ∧ w.length ≤ 12 := wds_eq (dictOf ds) l
    refine for_run2 (fun k A => ∃ x y : AV, A = ⟨[AV.d (.lst ds), AV.d (.str l), AV.d (.dic (dictOf ds)), AV.p 0, x, y], [some (.lst ((ledUp W l.length k).map .bl))]⟩ ∧ (∀ m, truncE m x = x) ∧ ∀ m, truncE m y = y)
      ⟨.un, .un, by show _ = (⟨_, [some (.lst ((true :: List.replicate l.length false).map D.bl))]⟩ : Abs); rw [List.map_cons, List.map_replicate], fun _ => rfl, fun _ => rfl⟩ (fun _ _ _ _ => trivial) ?_ ?_
    · rintro k A hk ⟨x, y, rfl, hx, hy⟩
      have hk : k < l.length := by simpa using hk
      refine ⟨_, rfl, fun J Kb hJ => ?_⟩
      have e0 : (0 : Int) + (k : Int) = (k : Int) := by omega
      rw [e0]
      have ll := led_len W l.length k
      unfold pGc
      dsimp only
      walk_at "rd"
      refine ⟨.bl ((ledUp W l.length k).getD k false), by rw [getD_of (by omega), ← List.getElem_map (f := D.bl) (h := by rw [List.length_map]; omega)]; exact atI_nat (by rw [List.length_map]; omega), ?_⟩
      dsimp only
      have done : ∀ (L : List Bool) (y' : AV), (∀ m, truncE m y' = y') → L = ledUp W l.length (k + 1) → J (trunc 1 ⟨[AV.d (.lst ds), AV.d (.str l), AV.d (.dic (dictOf ds)), AV.p 0, .d (.int k), y'], [some (.lst (L.map .bl))]⟩) := fun L y' h1 h2 => hJ _ ⟨.d (.int k), y', by
        rw [h2]
        show (⟨[_, _, _, _, _, truncE 1 y'], _⟩ : Abs) = _
        rw [h1]
        rfl, fun _ => rfl, h1⟩
      cases hg : (ledUp W l.length k).getD k false
      · rw [if_neg Bool.false_ne_true]
        refine done _ y hy ?_
        show _ = ledStep W k (ledUp W l.length k)
        unfold ledStep
        rw [if_neg (by rw [hg]; exact Bool.false_ne_true)]
      · rw [if_pos rfl]
        refine ⟨⟨by omega, by omega, by omega⟩, ?_⟩
        rw [Int.toNat_natCast]
        refine for_run2 (fun j A => ∃ y' : AV, A = ⟨[AV.d (.lst ds), AV.d (.str l), AV.d (.dic (dictOf ds)), AV.p 0, .d (.int k), y'], [some (.lst ((((W k).take j).foldl (fun L w => L.set (k + w.length) true) (ledUp W l.length k)).map .bl))]⟩ ∧ ∀ m, truncE m y' = y') ⟨y, by rw [List.take_zero]; rfl, hy⟩ (fun _ _ _ _ => trivial) ?_ ?_
        · rintro j A hj ⟨y', rfl, hy'⟩
          rw [List.length_map] at hj
          have hj : j < (wordsFrom (dictOf ds) l k).length := hj
          rw [itL_strs hj]
          refine ⟨_, rfl, fun J2 Kb2 hJ2 => ?_⟩
          obtain ⟨h1, h2, h3⟩ := hwd k _ (getD_mem hj)
          have fl : ∀ (ws : List Tx) (L : List Bool), (ws.foldl (fun L w => L.set (k + w.length) true) L).length = L.length := fun ws => by
            induction ws with
            | nil => intro L; rfl
            | cons w r ih => intro L; rw [List.foldl_cons, ih, List.length_set]
          walk_at "rd"
          have ea : (k : Int) + (((wordsFrom (dictOf ds) l k).getD j []).length : Int) = ((k + ((wordsFrom (dictOf ds) l k).getD j []).length : Nat) : Int) := by omega
          refine ⟨by omega, k + ((wordsFrom (dictOf ds) l k).getD j []).length, by rw [ea]; exact ixN_nat (by rw [List.length_map, fl, ll]; omega), hJ2 _ ⟨.d (.str ((wordsFrom (dictOf ds) l k).getD j [])), ?_, fun _ => rfl⟩⟩
          have st : List.take (j + 1) (W k) = List.take j (W k) ++ [(wordsFrom (dictOf ds) l k).getD j []] := by
            show List.take (j + 1) (wordsFrom (dictOf ds) l k) = _
            rw [List.take_succ, List.getElem?_eq_getElem hj, getD_of hj]
            rfl
          rw [st, List.foldl_append, ← List.map_set]
          rfl
        · rintro A ⟨y', rfl, hy'⟩
          dsimp only
          refine done _ y' hy' ?_
          show _ = ledStep W k (ledUp W l.length k)
          unfold ledStep
          rw [if_pos hg, List.length_map]
          show List.foldl _ _ (List.take (W k).length (W k)) = _
          rw [List.take_length]
    · rintro A ⟨x, y, rfl, hx, hy⟩
      dsimp only
      rw [then_eq]
      walk_at "rd"
      have e1 : ((l.length : Int) + 1).toNat = l.length + 1 := by omega
      rw [e1, Int.toNat_natCast]
      have ll := led_len W l.length l.length
      refine ⟨by omega, by unfold smallI; omega, ?_⟩
      refine lc_run (fun i => if (ledUp W l.length l.length).getD i false = true then some (.int (i : Int)) else none) trivial (by omega) (fun i hi => ⟨_, rfl, fun J hJ => ?_⟩) ?_
      · have e0 : (0 : Int) + (i : Int) = (i : Int) := by omega
        rw [e0]
        walk_at "rd"
        refine ⟨.bl ((ledUp W l.length l.length).getD i false), by rw [getD_of (by omega), ← List.getElem_map (f := D.bl) (h := by rw [List.length_map]; omega)]; exact atI_nat (by rw [List.length_map]; omega), ?_⟩
        dsimp only
        cases q : (ledUp W l.length l.length).getD i false
        · rw [q] at hJ
          walk_at "rd"
          exact hJ
        · rw [q] at hJ
          walk_at "rd"
          exact hJ
      · walk_at "rd"
        have eL : ∀ n, lcL n (fun i => if (ledUp W l.length l.length).getD i false = true then some (.int (i : Int)) else none) = (((List.range n).filter fun q => (ledUp W l.length l.length).getD q false).map fun q : Nat => (q : Int)).map D.int := fun n => by
          induction n with
          | zero => rfl
          | succ n ih =>
            rw [lcL_succ, ih, List.range_succ, List.filter_append, List.map_append, List.map_append]
            congr 1
            rw [List.filter_cons, List.filter_nil]
            cases q : (ledUp W l.length l.length).getD n false
            · rw [if_neg Bool.false_ne_true]
              rfl
            · rw [if_pos rfl]
              rfl
        rw [eL]
        rfl
  · exact h.elim
theorem led_zero (W : Nat → List Tx) (n k : Nat) : (ledUp W n k).getD 0 false = true := by
  induction k with
  | zero => rfl
  | succ k ih =>
    show (ledStep W k (ledUp W n k)).getD 0 false = true
    unfold ledStep
    split
    · rw [set_all, ih, Bool.true_or]
    · exact ih
theorem pl_last (W : Nat → List Tx) (n : Nat) : ∃ r x, ledPl W n = r ++ [x] ∧ ((x = (n : Int)) ↔ (ledUp W n n).getD n false = true) := by
  unfold ledPl
  rw [List.range_succ, List.filter_append, List.map_append, List.filter_cons, List.filter_nil]
  cases q : (ledUp W n n).getD n false
  · rw [if_neg Bool.false_ne_true, List.map_nil, List.append_nil]
    have hne : ((List.range n).filter fun q => (ledUp W n n).getD q false) ≠ [] := fun e => by
      have h0 := led_zero W n n
      have hn : 0 < n := by
        cases n with
        | zero => rw [h0] at q; cases q
        | succ n => omega
      have : 0 ∈ (List.range n).filter fun q => (ledUp W n n).getD q false := List.mem_filter.mpr ⟨List.mem_range.mpr hn, h0⟩
      rw [e] at this
      cases this
    have hd := List.dropLast_concat_getLast hne
    refine ⟨(((List.range n).filter fun q => (ledUp W n n).getD q false).dropLast).map (fun q : Nat => (q : Int)), ((((List.range n).filter fun q => (ledUp W n n).getD q false).getLast hne : Nat) : Int), ?_, ?_⟩
    · conv => lhs; rw [← hd]
      rw [List.map_append]
      rfl
    · have hm := List.getLast_mem hne
      have := List.mem_range.mp (List.mem_filter.mp hm).1
      constructor
      · intro e; omega
      · intro e; cases e
  · rw [if_pos rfl]
    exact ⟨_, _, rfl, by simp⟩
theorem at_last {α : Type} (r : List α) (x : α) : atI (r ++ [x]) (-1) = some x := by
  unfold atI ixN
  rw [if_neg (by decide), if_pos (by rw [List.length_append, List.length_singleton]; omega)]
  show (r ++ [x])[(-1 + ((r ++ [x]).length : Int)).toNat]? = _
  have : (-1 + ((r ++ [x]).length : Int)).toNat = r.length := by rw [List.length_append, List.length_singleton]; omega
  rw [this, List.getElem?_append_right (Nat.le_refl _), Nat.sub_self]
  rfl
theorem r_least_bar : Law p_least_bar ["book", "text", "found"] 2 (conP pre_least_bar f_least_bar) := fun ars h => by
  have h : pre_led_places ars := h
  unfold pre_led_places at h
  split at h
  · rename_i ds l _
    obtain ⟨hB, hl, hll⟩ := h
    refine ⟨rfl, ?_⟩
    unfold p_least_bar endsA
    walk_at "rd"
    refine ⟨⟨hB, hl, hll⟩, ?_⟩
    simp only [f_led_places]
    rw [then_eq]
    walk_at "rd"
    obtain ⟨r, x, e, hx⟩ := pl_last (wordsFrom (dictOf ds) l) l.length
    have e2 : (ledPl (wordsFrom (dictOf ds) l) l.length).map D.int = r.map D.int ++ [D.int x] := by rw [e, List.map_append]; rfl
    refine ⟨.int x, by rw [e2]; exact at_last _ _, by omega, ?_⟩
    dsimp only
    unfold f_least_bar
    cases hg : (ledUp (wordsFrom (dictOf ds) l) l.length l.length).getD l.length false
    · have : ¬ x = (l.length : Int) := fun z => by have := hx.mp z; rw [hg] at this; cases this
      rw [decide_eq_false this]
      walk_at "rd"
      rw [then_eq]
      walk_at "rd"
      rw [hg]
      exact ⟨_, rfl, rfl⟩
    · rw [decide_eq_true (hx.mpr hg)]
      walk_at "rd"
      rw [hg]
      rfl
  · exact h.elim
local macro_rules | `(tactic| walk_at "rd") => `(tactic| simp (config := { decide := true }) only [pSeq_then, pNext, pNever, pBreak, pCont, pDrop, pRet, pRetN, pIf, pSet, pSetD, setD, setP, setO, pVar, pC, pOp2, pTest, pAnd, pOr, pNot, pAndV, pOrV, pNotV, pIfE, pNil, pCons, pLst, pTup, pDict0, pDictC, pDM, dUpdate, pCall, pIsiP, pM1, bJoin, pNo, pPart, pSl, pSortI, pLM, lAppend, lInsert, lExtend, lPopAt, pLc_eq, pFor_eq, pItL, pItS, pRng1, pRng2, pRng3, pVarF, pAug, pDictLen, pLr3, pNeg, pCalls, callP, f_only_words, f_words_from, f_need_text, toAR, R.fz, view, views, dats, O.toD, AR.toR, bAdd, bSub, bMul, bDiv, bMod, bPow, bEq, bCmp, bIn, bIs, bIx, bSl, cLen, cMin2, cMax2, cInt, cList, cDict, cSorted, plainD, isiB, tyn, pAsg, tgT, tgU, setsA, pSetIx, storeO, kdOf, pChain, cmpD, pYes, pTru, truD, Hand, tgN, wipeA, fnAbs, envA, ownsA, retA, conP, conN, List.set, List.set_cons_zero, List.set_cons_succ, List.set_nil, List.getElem?_cons_zero, List.getElem?_cons_succ, List.getElem?_nil, List.length_cons, List.length_nil, List.cons_append, List.nil_append, List.append_nil, List.replicate, Nat.reduceSub, Nat.reduceAdd, Nat.zero_add, true_and, and_true, reduceIte, Bool.false_eq_true, id, Bool.not_true, Bool.not_false, List.nodup_nil, List.nodup_cons, List.not_mem_nil, not_false_eq_true, List.take_zero, List.take_succ_cons, List.take_nil, List.map_cons, List.map_nil])
def enc (qs : List Nat) : List (Kd × D) := qs.map fun q : Nat => (.inl (q : Int), .bl true)
def ins (qs : List Nat) (q : Nat) : List Nat := if q ∈ qs then qs else qs ++ [q]
theorem hasK_enc (qs : List Nat) (q : Nat) : hasK (enc qs) (.inl (q : Int)) = decide (q ∈ qs) := by
  unfold hasK enc
  rw [List.any_map, Bool.eq_iff_iff, List.any_eq_true, decide_eq_true_eq]
  constructor
  · rintro ⟨x, hx, e⟩
    have e := of_decide_eq_true e
    have : x = q := by
      have := Sum.inl.inj e
      omega
    rw [← this]
    exact hx
  · intro h
    exact ⟨q, h, decide_eq_true rfl⟩
theorem put_enc (qs : List Nat) (q : Nat) : putD (enc qs) (.inl (q : Int)) (.bl true) = enc (ins qs q) := by
  unfold putD ins
  rw [hasK_enc]
  by_cases h : q ∈ qs
  · rw [decide_eq_true h, if_pos rfl, if_pos h]
    unfold enc
    rw [List.map_map]
    apply List.map_congr_left
    intro x hx
    simp only [Function.comp]
    split <;> rfl
  · rw [decide_eq_false h, if_neg Bool.false_ne_true, if_neg h]
    unfold enc
    rw [List.map_append]
    rfl
theorem merge_enc : ∀ (rs qs : List Nat), mergeD (enc qs) (enc rs) = enc (rs.foldl ins qs)
  | [], qs => rfl
  | r :: rs, qs => by
    show mergeD (putD (enc qs) (.inl (r : Int)) (.bl true)) (enc rs) = _
    rw [put_enc, merge_enc rs (ins qs r)]
    rfl
theorem ins_mem (qs : List Nat) (q x : Nat) : x ∈ ins qs q ↔ x ∈ qs ∨ x = q := by
  unfold ins
  split
  · rename_i h
    constructor
    · exact .inl
    · rintro (h' | rfl)
      · exact h'
      · exact h
  · rw [List.mem_append, List.mem_singleton]
theorem ins_nodup {qs : List Nat} (h : qs.Nodup) (q : Nat) : (ins qs q).Nodup := by
  unfold ins
  split
  · exact h
  · rename_i hq
    rw [List.nodup_append]
    exact ⟨h, by simp, fun x hx y hy e => hq (by rw [List.mem_singleton] at hy; rw [← hy, ← e]; exact hx)⟩
theorem foldl_ins : ∀ (rs qs : List Nat), qs.Nodup → (rs.foldl ins qs).Nodup ∧ (∀ x, x ∈ rs.foldl ins qs ↔ x ∈ qs ∨ x ∈ rs) ∧ (rs.foldl ins qs).length ≤ qs.length + rs.length
  | [], qs, h => ⟨h, fun x => by simp, Nat.le_refl _⟩
  | r :: rs, qs, h => by
    obtain ⟨h1, h2, h3⟩ := foldl_ins rs (ins qs r) (ins_nodup h r)
    refine ⟨h1, fun x => ?_, ?_⟩
    · show x ∈ rs.foldl ins (ins qs r) ↔ _
      rw [h2, ins_mem, List.mem_cons, or_assoc]
    · show (rs.foldl ins (ins qs r)).length ≤ _
      have : (ins qs r).length ≤ qs.length + 1 := by
        unfold ins
        split
        · omega
        · rw [List.length_append]; exact Nat.le_refl _
      rw [List.length_cons]
      omega
end PD

/-! Q: calls with the deck; small facts. -/
namespace PD
open PySem L2
theorem wds_len (kvs : List (Kd × D)) (l : Tx) (p : Nat) : (wordsFrom kvs l p).length ≤ 12 := words_len (kvs := kvs) (l := l) p
theorem book_len {ds : List D} (h : Book ds) : isPairs ds := book_un h
/-! the road's small steps -/
theorem dict_of {ds : List D} {P : List (Kd × D) → Prop} (h : ds = (ds.map unpair).map pairD) (k : P (ds.map unpair)) : ∃ prs, ds = prs.map pairD ∧ P prs := ⟨_, h, k⟩
theorem merge_dictOf (ds : List D) : mergeD [] (List.map unpair ds) = dictOf ds := rfl
theorem deq_self {x : D} (h : okD x) : deq x x = true := deq_refl h.1
theorem any_int (xs : List Int) (i : Int) : (xs.map D.int).any (fun z => deq z (.int i)) = decide (i ∈ xs) := by
  rw [List.any_map, Bool.eq_iff_iff, List.any_eq_true, decide_eq_true_eq]
  constructor
  · rintro ⟨x, hx, e⟩
    have e : deq (.int x) (.int i) = true := e
    rw [deq_int, decide_eq_true_eq] at e
    rw [← e]
    exact hx
  · intro h
    exact ⟨i, h, by show deq (.int i) (.int i) = true; rw [deq_int, decide_eq_true_eq]⟩
theorem any_str (xs : List Tx) (i : Tx) : (xs.map D.str).any (fun z => deq z (.str i)) = decide (i ∈ xs) := by
  rw [List.any_map, Bool.eq_iff_iff, List.any_eq_true, decide_eq_true_eq]
  constructor
  · rintro ⟨x, hx, e⟩
    have e : deq (.str x) (.str i) = true := e
    rw [deq_str, decide_eq_true_eq] at e
    rw [← e]
    exact hx
  · intro h
    exact ⟨i, h, by show deq (.str i) (.str i) = true; rw [deq_str, decide_eq_true_eq]⟩
theorem okD_int (i : Int) : okD (.int i) := ⟨rfl, Nat.zero_le _⟩
theorem okD_bl (b : Bool) : okD (.bl b) := ⟨rfl, Nat.zero_le _⟩
theorem okD_non : okD .non := ⟨rfl, Nat.zero_le _⟩
theorem okD_sm {l : Tx} (h : small l = true) : okD (.str l) := by
  have := chkx_str (small_okX h)
  exact ⟨this.1, by omega⟩
theorem filter_none {α : Type} (xs : List α) : xs.filter (fun _ => false) = [] := by induction xs <;> simp_all
end PD

/-! PE, seventh part: pop(), reverse(), clear() of an owned list; clear() of an owned dict. -/
namespace PD
open PySem PySem.Spec PyProof.Rows L2
theorem klm0 {X : Cx} {E : WX} {K : PySem.W.Frag} {o : Expr} {name : Str} {id : String} {r : V → List V → Hp → VK → Prop} {lm : LM} {to : TE} {po : PTE} {apos cpos : Pos} (slot : Slot "list" name id) (hty : typeOf (.builtin id) = pure (.type "method_descriptor")) (hm : MtR X id r) (hr : SndL K r lm)
    (ho : DE X E o to po) (hK : X.K = K := by rfl) (hbase : attributeBase o name X.env (eval o X.env) = eval o X.env := by rfl) (hline : (apos.endLine == cpos.line) = true := by rfl) :
    DE X E (.Call (.Attribute o name apos) [] [] cpos) (tBM0 K "list" r to) (pLM lm po pNil) := by
  subst hK
  have hn : DA X E [] tNil pNil := da_nil
  exact ⟨pe_bm0 PySem.F.plainAttrs_list slot hty hm ho.pe hbase hline, sim_lm hr ho.sim hn.sim⟩
def lPop : LM
  | xs, [], P => ∃ d, xs.getLast? = some d ∧ P (.d d) xs.dropLast
  | _, _, _ => False
theorem snd_pop {K : PySem.W.Frag} : SndL K rPop lPop := fun S H a xs args vs ws P Q le h1 h2 h3 b q => by
  unfold lPop at b
  split at b
  · cases h3
    obtain ⟨d, e, b⟩ := b
    rw [List.getLast?_eq_getElem?] at e
    obtain ⟨v, e2, dr⟩ := h2.get' e
    refine ⟨a, vs, v, rfl, rfl, h1, by rw [h2.length]; exact e2, q d v _ _ b dr h2.dropLast⟩
  · exact b.elim
def lReverse : LM
  | xs, [], P => P (.d .non) xs.reverse
  | _, _, _ => False
theorem snd_reverse {K : PySem.W.Frag} : SndL K rReverse lReverse := fun S H a xs args vs ws P Q le h1 h2 h3 b q => by
  unfold lReverse at b
  split at b
  · cases h3
    exact ⟨a, vs, rfl, rfl, h1, q .non _ _ _ b .non h2.reverse⟩
  · exact b.elim
def lClear : LM
  | _, [], P => P (.d .non) []
  | _, _, _ => False
theorem snd_clear {K : PySem.W.Frag} : SndL K rClear lClear := fun S H a xs args vs ws P Q le h1 h2 h3 b q => by
  unfold lClear at b
  split at b
  · cases h3
    exact ⟨a, vs, rfl, rfl, h1, q .non _ _ _ b .non .nil⟩
  · exact b.elim
end PD

/-! x or y where x is no bool; {len(x): (c, c')}. -/
namespace PD
open PySem PySem.Spec PyProof.Rows L2
section
variable {X : Cx} {E : WX} {K : PySem.W.Frag}
theorem tru_of {S H : Hp} {v : V} {x : D} {b : Bool} (dv : DV K S H v x) (eb : truD x = some b) : TruV K v H b := by
  cases x with
  | non => cases dv; cases eb; rfl
  | bl b => cases dv; cases eb; rfl
  | int i => cases dv; cases eb; rfl
  | lst xs =>
    obtain ⟨a, vs, rfl, e1, e2⟩ := dv
    cases eb
    exact .inl ⟨vs, SqL.of e1, by rw [e2.nil_iff]⟩
  | tup xs =>
    obtain ⟨a, vs, rfl, e1, e2⟩ := dv
    cases eb
    exact .inr (.inl ⟨vs, SqT.of e1, by rw [e2.nil_iff]⟩)
  | dic xs => cases eb
  | str l => cases eb
  | dit l => cases eb
  | scr l => cases eb
  | exc l => cases eb
  | fn l => cases eb
def pOrT (pa pb : PTE) : PTE := fun A P Y => pa A (fun y A1 => match y with
  | .d x => (match truD x with
    | some b => if b = true then P (.d x) A1 else pb A1 P Y
    | none => False)
  | _ => False) Y
theorem de_orT {a b : Expr} {rest : List Expr} {pos : Pos} {t u : TE} {p q : PTE} (h : DE X E a t p) (k : DE X E (.BoolOp .Or (b :: rest) pos) u q) (hK : X.K = K := by rfl) : DE X E (.BoolOp .Or (a :: b :: rest) pos) (tOrT K t u) (pOrT p q) := by
  subst hK
  refine ⟨pe_orT h.pe k.pe, fun B σ H A P Y Q rel kk c xq => ?_⟩
  refine h.sim B σ H A _ Y _ rel kk (fun y A1 v H1 p1 r1 => ?_) xq
  split at p1
  · rename_i x
    obtain ⟨t, S, ρ, h, s, k1⟩ := id r1
    have dv := (Now.mk h s).view k1 (x := x) rfl
    cases eb : truD x with
    | none => rw [eb] at p1; exact p1.elim
    | some b =>
      rw [eb] at p1
      refine ⟨b, tru_of dv eb, ?_⟩
      cases b with
      | true => exact c _ A1 v H1 (by simpa using p1) r1
      | false => exact k.sim B σ H1 A1 P Y Q r1.rel (by simpa using p1) c xq
  · exact p1.elim
def pDictLenT (i : Nat) (ds : List D) : PTE := fun A P _ => match A.env[i]? with
  | some (.d (.str l)) => l.length ≤ 16777216 ∧ P (.o (.dic [(.inl l.length, .tup ds)])) A
  | _ => False
theorem kdictLenT {pos : Pos} {ke ve : Expr} {i : Nat} {v1 v2 : V} {d1 d2 : D} {q q2 : PTE} (hk : DE X E ke (tCB (rLenA K) (tCons (tVar i) tNil)) q) (hv : DE X E ve (tTup (tCons (tC v1) (tCons (tC v2) tNil))) q2) (h1 : ∀ S, DR K S v1 d1) (h2 : ∀ S, DR K S v2 d2) (hK : X.K = K := by rfl) : DE X E (.Dict [some ke] [ve] pos) (tDisp [(tCB (rLenA K) (tCons (tVar i) tNil), tTup (tCons (tC v1) (tCons (tC v2) tNil)))]) (pDictLenT i [d1, d2]) := by
  subst hK
  refine ⟨pe_disp (pps_cons hk.pe hv.pe pps_nil) rfl rfl (fun z => nomatch z) (show 1 ≤ 15 by decide), fun B σ H A P Y Q rel p c xq => ?_⟩
  unfold pDictLenT at p
  split at p
  · rename_i l e
    obtain ⟨t, S, r, h, s⟩ := rel
    obtain ⟨w, e1, dr⟩ := s.get e
    intro a ha
    cases DR.str_of dr
    refine ⟨_, e1, .inl ⟨.str (st l), l.length, rfl, ⟨by rw [st_len]; exact p.1, (st_len l).symm⟩, ?_⟩⟩
    refine ⟨by show 2 ≤ 16777216; decide, fun b hb => ?_⟩
    have ne : b ≠ a := fun z => by rw [z, upd_same] at hb; cases hb
    have hb : H b = none := by rw [upd_ne ne] at hb; exact hb
    refine ⟨by rw [upd_ne ne.symm]; exact upd_same, [(kd (.inl (l.length : Int)), .ref b)], rfl, by show 1 ≤ 15; decide, ?_⟩
    have fin : ∃ S' r', Now X.K B t S' r' A σ (upd H b (.tup [v1, v2])) ∧ DR X.K S' (.ref b) (.tup [d1, d2]) := by
      have ex : Ext t S A.M.length t (upd S b (.tup [v1, v2])) A.M.length := ⟨fun x o e => by
        have ne : x ≠ b := fun y => by rw [y, h.of_none hb] at e; cases e
        rw [upd_ne ne]
        exact e, fun _ _ => rfl, Nat.le_refl _⟩
      exact ⟨upd S b (.tup [v1, v2]), r, ⟨h.stable hb _, s.ext ex⟩, .tup upd_same ((DRs.cons (h1 S) (.cons (h2 S) .nil)).mono ex.le)⟩
    obtain ⟨S', r', n, dk⟩ := fin
    have hz := (n.kont (P := fun y => P y A) fun y v H' py ry => c y A v H' py ry).dic a [(kd (.inl (l.length : Int)), .ref b)] _ (by rw [upd_ne ne.symm]; exact ha) p.2 (.cons (k := .inl (l.length : Int)) dk .nil)
    have ea : upd (upd (upd H a (.dK [])) b (.tup [v1, v2])) a (.dK (mergeK [] [(kd (.inl (l.length : Int)), .ref b)])) = upd (upd H b (.tup [v1, v2])) a (.dK [(kd (.inl (l.length : Int)), .ref b)]) := by
      funext x
      by_cases e1 : x = a
      · rw [e1, upd_same, upd_same]; rfl
      · rw [upd_ne e1, upd_ne e1]
        by_cases e2 : x = b
        · rw [e2, upd_same, upd_same]
        · rw [upd_ne e2, upd_ne e2, upd_ne e1]
    rw [ea]
    exact hz
  · exact p.elim
end
end PD

/-! PE, ninth part: loops whose turns leave the state as it was. -/
namespace PD
open PySem L2

section
variable {α : Type} {n : Nat} {it : Nat → D} {C : List (Option O) → Prop} {tg : PTG} {body : PTS} {P : PEnds} {A1 : Abs}
theorem for_c (hC : C A1.M) (hs : ∀ i, i < n → ∃ env', tg (it i) A1.env = some env' ∧ ∀ J Kb : Abs → Prop, J A1 → (∀ A, P.nx A → Kb A) → body { nx := J, rt := P.rt, bk := Kb, ct := J, ex := P.ex } ⟨env', A1.M⟩)
    (hd : P.nx A1) : ForP n it C tg body P A1 := by
  refine for_any (fun _ A => A = A1) rfl (fun _ _ _ e => by rw [e]; exact hC) (fun i A' hi e => ?_) (fun A' e => by rw [e]; exact hd)
  subst e
  obtain ⟨env', h1, h2⟩ := hs i hi
  exact ⟨env', h1, fun J Kb hJ hK => h2 J Kb (hJ _ rfl) hK⟩
theorem for_cR (hC : C A1.M) (hs : ∀ i, i < n → ∃ env', tg (.int (i : Nat)) A1.env = some env' ∧ ∀ J Kb : Abs → Prop, J A1 → (∀ A, P.nx A → Kb A) → body { nx := J, rt := P.rt, bk := Kb, ct := J, ex := P.ex } ⟨env', A1.M⟩)
    (hd : P.nx A1) : ForP n (fun i => .int (i : Nat)) C tg body P A1 := for_c hC hs hd
theorem for_cG {xs : List α} {f : α → D} (hl : n = xs.length) (hit : ∀ i, (h : i < xs.length) → it i = f xs[i]) (hC : C A1.M) (hs : ∀ x ∈ xs, ∃ env', tg (f x) A1.env = some env' ∧ ∀ J Kb : Abs → Prop, J A1 → (∀ A, P.nx A → Kb A) → body { nx := J, rt := P.rt, bk := Kb, ct := J, ex := P.ex } ⟨env', A1.M⟩)
    (hd : P.nx A1) : ForP n it C tg body P A1 := for_c hC (fun i hi => by
  subst hl
  rw [hit i hi]
  exact hs _ (List.getElem_mem hi)) hd
/-- over a list of a kind -/
theorem for_cL {xs : List α} {f : α → D} (hC : C A1.M) (hs : ∀ x ∈ xs, ∃ env', tg (f x) A1.env = some env' ∧ ∀ J Kb : Abs → Prop, J A1 → (∀ A, P.nx A → Kb A) → body { nx := J, rt := P.rt, bk := Kb, ct := J, ex := P.ex } ⟨env', A1.M⟩)
    (hd : P.nx A1) : ForP (xs.map f).length (itL (xs.map f)) C tg body P A1 := for_cG (List.length_map f) (fun i h => itL_map h) hC hs hd
/-- over a list of data -/
theorem for_cD {xs : List D} (hC : C A1.M) (hs : ∀ x ∈ xs, ∃ env', tg x A1.env = some env' ∧ ∀ J Kb : Abs → Prop, J A1 → (∀ A, P.nx A → Kb A) → body { nx := J, rt := P.rt, bk := Kb, ct := J, ex := P.ex } ⟨env', A1.M⟩)
    (hd : P.nx A1) : ForP xs.length (itL xs) C tg body P A1 := for_cG (f := fun x : D => x) rfl (fun i h => by
  show xs.getD i .non = _
  exact getD_of h _) hC hs hd
end
/-- for over the signs of a text -/
theorem then_at {q : PTS} {P : PEnds} {A : Abs} (h : q P A) : Then q P A := h
end PD

/-! QSA: a store, a list of three whole numbers from which is taken. -/
namespace PD
open PySem PySem.Spec PyProof.Rows L2
def StoreAt (f : Addr → Prop) (H : Hp) (a : Addr) : Prop := f a ∧ ∃ g b n : Int, H a = some (.lst [.int g, .int b, .int n])
def storeRP : RP := ⟨fun _ f H a => StoreAt f H a, fun K f H H' a e ⟨h1, g, b, n, h2⟩ => ⟨h1, g, b, n, by rw [e a h1]; exact h2⟩⟩
/-- three whole numbers -/
def tri (g b n : Int) : O := .lst [.int g, .int b, .int n]
theorem tri_res {K : PySem.W.Frag} {Hs : Hp} {f : Addr → Prop} {H : Hp} {a : Addr} {g b n : Int} (h : OOk K Hs f H a (tri g b n)) : OOk K Hs f H a (.res storeRP) := by
  obtain ⟨h1, vs, h2, h3⟩ := h
  have := DRs.ints_of (ns := [g, b, n]) h3
  exact ⟨h1, g, b, n, by rw [h2, this]; rfl⟩
theorem res_tri {K : PySem.W.Frag} {Hs : Hp} {f : Addr → Prop} {H : Hp} {a : Addr} (h : OOk K Hs f H a (.res storeRP)) : ∃ g b n, OOk K Hs f H a (tri g b n) := by
  obtain ⟨h1, g, b, n, h2⟩ := h
  exact ⟨g, b, n, h1, _, h2, DRs.ints (ns := [g, b, n])⟩
/-- an object of a row named otherwise -/
theorem HR.recast {K : PySem.W.Frag} {B : Bas} {t : Nat → Addr} {S : Hp} {r : Addr → Lb} {M M' : List (Option O)} {H : Hp} (h : HR K B t S r M H) (hl : M'.length = M.length)
    (ho : ∀ n o, M'[n]? = some (some o) → OOk K S (fun a => r a = some (some n)) H (t n) o) : HR K B t S r M' H where
  le := h.le
  sep := h.sep
  lab := fun a n e => by rw [hl]; exact h.lab a n e
  obj := ho
  keep := h.keep
  own := h.own
  stb := h.stb
  bas := h.bas
  th := h.th
  nl := by rw [hl]; exact h.nl
theorem SR.len0 {K : PySem.W.Frag} {S : Hp} {t : Nat → Addr} {m m' : Nat} {env : List AV} {σ : L2.St} (h : SR K S t m env σ) (e : m' = m) : SR K S t m' env σ := by
  subst e
  exact h
def pre_take0 : List AR → Prop
  | [.o (.lst [.int _, .int _, .int _]), .d (.int m)] => 0 < m ∧ m < 2 ^ 64
  | _ => False
def con_take0 : Con := ⟨pre_take0, fun ars y os => match ars with
  | [_, .d (.int m)] => ∃ i g b n : Int, y = .d (.int i) ∧ 0 ≤ i ∧ i < m ∧ os = [some (tri g b n)]
  | _ => False⟩
def pre_x__law_take : List AR → Prop
  | [.o (.res r), .d (.int m)] => r = storeRP ∧ 0 < m ∧ m < 2 ^ 64
  | _ => False
def ok_x__law_take : List AR → AR → Prop
  | [_, .d (.int m)], y => ∃ i, y = .d (.int i) ∧ 0 ≤ i ∧ i < m
  | _, _ => False
def pre_x__law_store : List AR → Prop
  | [.d (.int _)] => True
  | _ => False
def con_store0 : Con := ⟨pre_x__law_store, fun _ y os => os = [] ∧ ∃ g b n : Int, y = .o (tri g b n)⟩
def f_x__law_store : List AR → AR := fun _ => .o (.res storeRP)
section
variable {P : Program} {w : World} {K : PySem.W.Frag} {mg : Str → Option Value} {base : Heap}
theorem acal_store {x : Str} {k : Nat} (h : ACal P w K mg base k x con_store0) : ACal P w K mg base k x (conP pre_x__law_store f_x__law_store) := by
  obtain ⟨f, fd, ps, F, hm, kp, b⟩ := h.ex
  refine ⟨f, fd, ps, ?_, hm, kp, b⟩
  have cast : ∀ vs H Q E, spA K (conP pre_x__law_store f_x__law_store).asp vs H Q E → spA K con_store0.asp vs H Q E := fun vs H Q E sp => by
   obtain ⟨t, S, r, ars, h1, h2, h3, h4⟩ := sp
   refine ⟨t, S, r, ars, h1, h2, h3, fun y os hl ho v H' fin => ?_⟩
   obtain ⟨_, g, b, n, rfl⟩ := ho
   have ho : ownsA ars = [] := by
     have h3 : pre_x__law_store ars := h3
     unfold pre_x__law_store at h3
     split at h3
     · rfl
     · exact h3.elim
   obtain ⟨q1, t', S', r', M', g1, g2, g3, g4⟩ := fin
   have := h4 (.o (.res storeRP)) (ownsA ars) rfl ⟨rfl, rfl⟩ v H' ⟨fun n z => (by cases z), t', S', r', M', g1, rfl, fun j hj => by
     have hj : j < (ownsA ars).length := hj
     rw [ho] at hj
     exact absurd hj (Nat.not_lt_zero _), ?_⟩
   · exact this
   · obtain ⟨a, e, o⟩ := g4
     exact ⟨a, e, tri_res o⟩
  exact ⟨fun vs H Q E sp => F.len vs H Q E (cast vs H Q E sp), fun A outer s H args us vs Q E hr e0 hb r hsp => F.run A outer s H args us vs Q E hr e0 hb r (cast vs H Q E hsp)⟩
theorem acal_take {x : Str} {k : Nat} (h : ACal P w K mg base k x con_take0) : ACal P w K mg base k x (conN pre_x__law_take ok_x__law_take) := by
  obtain ⟨f, fd, ps, F, hm, kp, b⟩ := h.ex
  refine ⟨f, fd, ps, ?_, hm, kp, b⟩
  have cast : ∀ vs H Q E, spA K (conN pre_x__law_take ok_x__law_take).asp vs H Q E → spA K con_take0.asp vs H Q E := fun vs H Q E sp => by
    obtain ⟨t, S, r, ars, h1, h2, h3, h4⟩ := sp
    have h3 : pre_x__law_take ars := h3
    unfold pre_x__law_take at h3
    split at h3
    · rename_i m _
      obtain ⟨rfl, m0, m1⟩ := h3
      obtain ⟨g, bb, n, ho⟩ := res_tri (h1.obj 0 (.res storeRP) rfl)
      refine ⟨t, S, r, [.o (tri g bb n), .d (.int m)], ?_, h2, ⟨m0, m1⟩, fun y os hl ho v H' fin => ?_⟩
      · refine HR.recast (M := [some (.res storeRP)]) h1 rfl fun n' o e => ?_
        cases n' with
        | zero =>
          have e : some (some (tri g bb n)) = some (some o) := e
          cases e
          exact ho
        | succ n' => simp [ownsA] at e
      · obtain ⟨i, g', b', n', rfl, i0, i1, rfl⟩ := ho
        refine h4 (.d (.int i)) [some (.res storeRP)] rfl ⟨⟨i, rfl, i0, i1⟩, rfl⟩ v H' ?_
        obtain ⟨q1, t', S', r', M', g1, g2, g3, g4⟩ := fin
        have g0 : M'[0]? = some (some (tri g' b' n')) := g3 0 Nat.zero_lt_one
        have hl : 0 < M'.length := by
          by_cases z : 0 < M'.length
          · exact z
          · rw [List.getElem?_eq_none (by omega)] at g0
            cases g0
        refine ⟨fun n z => (by cases z), t', S', r', M'.set 0 (some (.res storeRP)), ?_, rfl, fun j hj => ?_, ?_⟩
        · refine g1.recast (by rw [List.length_set]) fun n o e => ?_
          by_cases z : n = 0
          · subst z
            rw [List.getElem?_set_self hl] at e
            cases e
            exact tri_res (g1.obj 0 _ g0)
          · rw [List.getElem?_set_ne (by omega)] at e
            exact g1.obj n o e
        · have hj : j < 1 := hj
          have : j = 0 := by omega
          subst this
          rw [List.getElem?_set_self hl]
          rfl
        · rw [List.length_set]
          exact g4
    · exact h3.elim
  exact ⟨fun vs H Q E sp => F.len vs H Q E (cast vs H Q E sp), fun A outer s H args us vs Q E hr e0 hb r hsp => F.run A outer s H args us vs Q E hr e0 hb r (cast vs H Q E hsp)⟩
def callT : List R → Abs → (R → Abs → Prop) → Prop := callN pre_x__law_take ok_x__law_take
theorem reads_T : Reads (conN pre_x__law_take ok_x__law_take) callT := reads_N pre_x__law_take ok_x__law_take
theorem take_iff {n : Nat} {m : Int} {A : Abs} {P : R → Abs → Prop} (h : A.M[n]? = some (some (.res storeRP))) : callT [.p n, .d (.int m)] A P ↔ (0 < m ∧ m < 2 ^ 64 ∧ ∀ i, 0 ≤ i → i < m → P (.d (.int i)) A) := by
  have e : toAR A.M [.p n, .d (.int m)] = some ([.o (.res storeRP), .d (.int m)], [n]) := by
    simp only [toAR, h]
  unfold callT callN
  rw [e]
  constructor
  · rintro ⟨_, ⟨_, h1, h2⟩, k⟩
    exact ⟨h1, h2, fun i h0 hm => k (.d (.int i)) ⟨i, rfl, h0, hm⟩⟩
  · rintro ⟨h1, h2, k⟩
    refine ⟨by simp, ⟨rfl, h1, h2⟩, ?_⟩
    rintro y ⟨i, rfl, h0, hm⟩
    exact k i h0 hm
end
end PD

/-! QSB: rows of what may be begun behind texts, and the walk over all of them. -/
namespace PD
open PySem PySem.Spec PyProof.Rows L2
theorem tx_riseU : ∀ {xs ys : List Tx}, xs.Pairwise (· < ·) → ys.Pairwise (· < ·) → (∀ a, a ∈ xs ↔ a ∈ ys) → xs = ys
  | [], [], _, _, _ => rfl
  | [], b :: r, _, _, h => absurd ((h b).mpr (by simp)) (by simp)
  | a :: r, [], _, _, h => absurd ((h a).mp (by simp)) (by simp)
  | a :: r, b :: t, h1, h2, h => by
    rw [List.pairwise_cons] at h1 h2
    have e : a = b := by
      rcases List.mem_cons.mp ((h a).mp (by simp)) with e | e
      · exact e
      · rcases List.mem_cons.mp ((h b).mpr (by simp)) with e2 | e2
        · exact e2.symm
        · exact (tx_asymm (h1.1 b e2) (h2.1 a e)).elim
    subst e
    congr 1
    refine tx_riseU h1.2 h2.2 fun c => ?_
    constructor
    · intro hc
      rcases List.mem_cons.mp ((h c).mp (by simp [hc])) with e | e
      · subst e
        exact (tx_asymm (h1.1 _ hc) (h1.1 _ hc)).elim
      · exact e
    · intro hc
      rcases List.mem_cons.mp ((h c).mpr (by simp [hc])) with e | e
      · subst e
        exact (tx_asymm (h2.1 _ hc) (h2.1 _ hc)).elim
      · exact e
def dd {α : Type} [DecidableEq α] : List α → List α
  | [] => []
  | x :: r => if x ∈ r then dd r else x :: dd r
theorem dd_mem {α : Type} [DecidableEq α] {a : α} : ∀ {xs : List α}, a ∈ dd xs ↔ a ∈ xs
  | [] => Iff.rfl
  | x :: r => by
    unfold dd
    split
    · rename_i h
      rw [dd_mem, List.mem_cons]
      constructor
      · exact .inr
      · rintro (rfl | h2)
        · exact h
        · exact h2
    · rw [List.mem_cons, List.mem_cons, dd_mem]
theorem dd_nodup {α : Type} [DecidableEq α] : ∀ xs : List α, (dd xs).Nodup
  | [] => List.nodup_nil
  | x :: r => by
    unfold dd
    split
    · exact dd_nodup r
    · rename_i h
      exact List.nodup_cons.mpr ⟨fun z => h (dd_mem.mp z), dd_nodup r⟩
theorem dd_len {α : Type} [DecidableEq α] : ∀ xs : List α, (dd xs).length ≤ xs.length
  | [] => Nat.le_refl _
  | x :: r => by
    unfold dd
    have := dd_len r
    split
    · rw [List.length_cons]; omega
    · rw [List.length_cons, List.length_cons]; omega
/-- the rising row of some texts -/
def setT (xs : List Tx) : List Tx := srtT (dd xs)
theorem setT_mem {xs : List Tx} {a : Tx} : a ∈ setT xs ↔ a ∈ xs := by
  unfold setT
  rw [(srtT_perm _).mem_iff, dd_mem]
theorem setT_rise (xs : List Tx) : (setT xs).Pairwise (· < ·) := srtT_strict (dd_nodup xs)
theorem setT_len (xs : List Tx) : (setT xs).length ≤ xs.length := by
  unfold setT
  rw [(srtT_perm _).length_eq]
  exact dd_len xs
theorem setT_eq {xs ys : List Tx} (h : ys.Pairwise (· < ·)) (hm : ∀ a, a ∈ ys ↔ a ∈ xs) : ys = setT xs := tx_riseU h (setT_rise xs) fun a => by rw [hm, setT_mem]
theorem nodup_lenU {α : Type} [DecidableEq α] : ∀ {zs js : List α}, zs.Nodup → (∀ k ∈ zs, k ∈ js) → zs.length ≤ js.length
  | [], _, _, _ => Nat.zero_le _
  | z :: r, js, hn, h => by
    rw [List.nodup_cons] at hn
    have h1 := nodup_lenU (zs := r) (js := js.erase z) hn.2 fun k hk => (List.mem_erase_of_ne (fun e => hn.1 (by rw [← e]; exact hk))).mpr (h k (by simp [hk]))
    have h2 := List.length_erase_of_mem (h z (by simp))
    have h3 := List.length_pos_of_mem (h z (by simp))
    rw [List.length_cons]
    omega
/-- a text begins a longer word -/
def begun (ws : List Tx) (t : Tx) : Bool := ws.any fun w => decide (w ≠ t) && t.isPrefixOf w
def partsT (ws : List Tx) (t : Tx) : List Tx := (if begun ws t = true then [t] else []) ++ (if t ∈ ws then [[]] else [])
def rowB (ws : List Tx) (row : List Tx) (c : Nat) : List Tx := setT (row.flatMap fun p => partsT ws (p ++ [c]))
abbrev RowT := List Tx × Tx
def bfsIns (ws : List Tx) (row : List Tx) (t : Tx) (F : List RowT) (c : Nat) : List RowT := if rowB ws row c ∈ F.map (·.1) then F else F ++ [(rowB ws row c, t ++ [c])]
def bfsStep (ws : List Tx) (ls : Tx) (F : List RowT) (k : Nat) : List RowT := match F[k]? with
  | some (row, t) => ls.foldl (bfsIns ws row t) F
  | none => F
def bfs (ws : List Tx) (ls : Tx) : Nat → List RowT
  | 0 => [([[]], [])]
  | k + 1 => bfsStep ws ls (bfs ws ls k) k
/-- what a row is: rising, of what is begun -/
def RowOk (ws : List Tx) (row : List Tx) : Prop := row.Pairwise (· < ·) ∧ ∀ t ∈ row, t = [] ∨ begun ws t = true
theorem rowB_ok (ws : List Tx) (row : List Tx) (c : Nat) : RowOk ws (rowB ws row c) := ⟨setT_rise _, fun t ht => by
  have ht := setT_mem.mp ht
  obtain ⟨p, _, hp⟩ := List.mem_flatMap.mp ht
  unfold partsT at hp
  rcases List.mem_append.mp hp with h | h
  · split at h
    · rename_i hb
      rw [List.mem_singleton] at h
      subst h
      exact .inr hb
    · simp at h
  · split at h
    · rw [List.mem_singleton] at h
      exact .inl h
    · simp at h⟩
/-- what has been found: each row once, with a text no longer than its place -/
structure Fnd (ws : List Tx) (ls : Tx) (k : Nat) (F : List RowT) : Prop where
  ne : 1 ≤ F.length
  nd : (F.map (·.1)).Nodup
  ok : ∀ p ∈ F, RowOk ws p.1 ∧ p.2.length ≤ k ∧ ∀ c ∈ p.2, c ∈ ls
theorem Fnd.mono {ws : List Tx} {ls : Tx} {k m : Nat} {F : List RowT} (h : Fnd ws ls k F) (hk : k ≤ m) : Fnd ws ls m F := ⟨h.ne, h.nd, fun p hp => ⟨(h.ok p hp).1, by have := (h.ok p hp).2.1; omega, (h.ok p hp).2.2⟩⟩
theorem Fnd.ins {ws : List Tx} {ls : Tx} {k : Nat} {F : List RowT} (h : Fnd ws ls (k + 1) F) {row : List Tx} {t : Tx} (ht : t.length ≤ k) (hl : ∀ c ∈ t, c ∈ ls) {c : Nat} (hc : c ∈ ls) : Fnd ws ls (k + 1) (bfsIns ws row t F c) := by
  unfold bfsIns
  split
  · exact h
  · rename_i hn
    refine ⟨by rw [List.length_append]; have := h.ne; omega, ?_, fun p hp => ?_⟩
    · rw [List.map_append]
      refine List.nodup_append.mpr ⟨h.nd, List.nodup_cons.mpr ⟨by simp, List.nodup_nil⟩, fun a ha b hb e => ?_⟩
      rw [List.map_cons, List.map_nil, List.mem_singleton] at hb
      rw [e, hb] at ha
      exact hn ha
    · rcases List.mem_append.mp hp with hp | hp
      · exact h.ok p hp
      · rw [List.mem_singleton] at hp
        subst hp
        refine ⟨rowB_ok ws row c, by show (t ++ [c]).length ≤ _; rw [List.length_append, List.length_singleton]; omega, fun x hx => ?_⟩
        rcases List.mem_append.mp hx with hx | hx
        · exact hl x hx
        · rw [List.mem_singleton] at hx
          rw [hx]
          exact hc
theorem bfs_pre {ws : List Tx} {row : List Tx} {t : Tx} : ∀ (cs : Tx) (F : List RowT), ∃ G, cs.foldl (bfsIns ws row t) F = F ++ G
  | [], F => ⟨[], (List.append_nil F).symm⟩
  | c :: cs, F => by
    rw [List.foldl_cons]
    obtain ⟨G, e⟩ := bfs_pre (ws := ws) (row := row) (t := t) cs (bfsIns ws row t F c)
    rw [e]
    unfold bfsIns
    split
    · exact ⟨G, rfl⟩
    · exact ⟨_, List.append_assoc _ _ _⟩
theorem Fnd.fold {ws : List Tx} {ls : Tx} {k : Nat} {row : List Tx} {t : Tx} (ht : t.length ≤ k) (hl : ∀ c ∈ t, c ∈ ls) : ∀ (cs : Tx) (F : List RowT), (∀ c ∈ cs, c ∈ ls) → Fnd ws ls (k + 1) F → Fnd ws ls (k + 1) (cs.foldl (bfsIns ws row t) F)
  | [], F, _, h => h
  | c :: cs, F, hc, h => Fnd.fold ht hl cs _ (fun x hx => hc x (by simp [hx])) (h.ins ht hl (hc c (by simp)))
theorem bfs_fnd (ws : List Tx) (ls : Tx) : ∀ k, Fnd ws ls k (bfs ws ls k)
  | 0 => ⟨Nat.le_refl _, List.nodup_cons.mpr ⟨by simp, List.nodup_nil⟩, fun p hp => by
    have hp : p = ([[]], []) := by simpa [bfs] using hp
    subst hp
    exact ⟨⟨List.Pairwise.cons (by simp) List.Pairwise.nil, fun t ht => .inl (by simpa using ht)⟩, Nat.le_refl _, fun c hc => by simp at hc⟩⟩
  | k + 1 => by
    have h := bfs_fnd ws ls k
    show Fnd ws ls (k + 1) (bfsStep ws ls (bfs ws ls k) k)
    unfold bfsStep
    split
    · rename_i row t e
      obtain ⟨_, h2, h3⟩ := h.ok (row, t) (List.mem_of_getElem? e)
      exact Fnd.fold h2 h3 ls _ (fun c hc => hc) (h.mono (by omega))
    · exact h.mono (by omega)
theorem bfs_grow (ws : List Tx) (ls : Tx) (k : Nat) : ∃ G, bfs ws ls (k + 1) = bfs ws ls k ++ G := by
  show ∃ G, bfsStep ws ls (bfs ws ls k) k = _
  unfold bfsStep
  split
  · exact bfs_pre _ _
  · exact ⟨[], (List.append_nil _).symm⟩
theorem bfs_stop {ws : List Tx} {ls : Tx} {k : Nat} (h : (bfs ws ls k).length ≤ k) : ∀ m, bfs ws ls (k + m) = bfs ws ls k
  | 0 => rfl
  | m + 1 => by
    have ih := bfs_stop h m
    show bfsStep ws ls (bfs ws ls (k + m)) (k + m) = _
    rw [ih]
    unfold bfsStep
    rw [List.getElem?_eq_none (by omega)]
/-! how many rows there are -/
def subs {α : Type} : List α → List (List α)
  | [] => [[]]
  | x :: r => subs r ++ (subs r).map (x :: ·)
theorem subs_len {α : Type} : ∀ xs : List α, (subs xs).length = 2 ^ xs.length
  | [] => rfl
  | x :: r => by
    unfold subs
    rw [List.length_append, List.length_map, subs_len r, List.length_cons, Nat.pow_succ]
    omega
theorem subs_filter {α : Type} (q : α → Bool) : ∀ xs : List α, xs.filter q ∈ subs xs
  | [] => by simp [subs]
  | x :: r => by
    have ih := subs_filter q r
    unfold subs
    rw [List.filter_cons]
    split
    · exact List.mem_append.mpr (.inr (List.mem_map.mpr ⟨_, ih, rfl⟩))
    · exact List.mem_append.mpr (.inl ih)
theorem rows_few {us : List Tx} {rs : List (List Tx)} (hn : rs.Nodup) (hr : ∀ r ∈ rs, r.Pairwise (· < ·) ∧ ∀ t ∈ r, t ∈ us) : rs.length ≤ 2 ^ us.length := by
  have h1 : (rs.map fun r => us.filter fun u => decide (u ∈ r)).Nodup := by
    rw [List.nodup_iff_pairwise_ne, List.pairwise_map]
    refine (List.nodup_iff_pairwise_ne.mp hn).imp_of_mem fun {a b} ha hb h e => h ?_
    refine tx_riseU (hr a ha).1 (hr b hb).1 fun t => ?_
    have m := fun x => congrArg (fun l : List Tx => x ∈ l) e
    have mt := m t
    simp only [List.mem_filter, decide_eq_true_eq] at mt
    constructor
    · intro ht
      exact (mt.mp ⟨(hr a ha).2 t ht, ht⟩).2
    · intro ht
      exact (mt.mpr ⟨(hr b hb).2 t ht, ht⟩).2
  have h2 := nodup_lenU h1 (js := subs us) fun k hk => by
    obtain ⟨r, _, rfl⟩ := List.mem_map.mp hk
    exact subs_filter _ us
  rw [List.length_map, subs_len] at h2
  exact h2
def begs (ws : List Tx) : List Tx := [] :: ws.flatMap fun w => (List.range w.length).map fun k => w.take k
theorem begs_len : ∀ ws : List Tx, (begs ws).length = 1 + (ws.map List.length).sum
  | [] => rfl
  | w :: r => by
    have ih := begs_len r
    unfold begs at ih ⊢
    rw [List.length_cons] at ih ⊢
    rw [List.flatMap_cons, List.length_append, List.length_map, List.length_range, List.map_cons, List.sum_cons]
    omega
theorem begun_iff {ws : List Tx} {t : Tx} : begun ws t = true ↔ ∃ w ∈ ws, w ≠ t ∧ t <+: w := by
  unfold begun
  rw [List.any_eq_true]
  constructor
  · rintro ⟨w, hw, h⟩
    rw [Bool.and_eq_true, decide_eq_true_eq, List.isPrefixOf_iff_prefix] at h
    exact ⟨w, hw, h⟩
  · rintro ⟨w, hw, h⟩
    exact ⟨w, hw, by rw [Bool.and_eq_true, decide_eq_true_eq, List.isPrefixOf_iff_prefix]; exact h⟩
theorem begun_in {ws : List Tx} {t : Tx} (h : begun ws t = true) : t ∈ begs ws := by
  obtain ⟨w, hw, hne, z, e⟩ := begun_iff.mp h
  refine List.mem_cons_of_mem _ (List.mem_flatMap.mpr ⟨w, hw, List.mem_map.mpr ⟨t.length, List.mem_range.mpr ?_, ?_⟩⟩)
  · have hz : z ≠ [] := fun q => hne (by rw [← e, q, List.append_nil])
    have := List.length_pos_iff.mpr hz
    rw [← e, List.length_append]
    omega
  · rw [← e, List.take_left]
theorem rowOk_in {ws row : List Tx} (h : RowOk ws row) : ∀ t ∈ row, t ∈ begs ws := fun t ht => by
  rcases h.2 t ht with rfl | h
  · exact List.mem_cons_self
  · exact begun_in h
theorem bfs_few {ws : List Tx} (ls : Tx) (hs : (ws.map List.length).sum ≤ 16) (k : Nat) : (bfs ws ls k).length ≤ 131072 := by
  have h := bfs_fnd ws ls k
  have h1 := rows_few (us := begs ws) h.nd fun r hr => by
    obtain ⟨p, hp, rfl⟩ := List.mem_map.mp hr
    exact ⟨(h.ok p hp).1.1, rowOk_in (h.ok p hp).1⟩
  rw [List.length_map, begs_len] at h1
  exact Nat.le_trans h1 (Nat.pow_le_pow_right (by decide) (show 1 + (ws.map List.length).sum ≤ 17 by omega))
theorem rowOk_len {ws row : List Tx} (h : RowOk ws row) (hs : (ws.map List.length).sum ≤ 16) : row.length ≤ 17 := by
  have hn : row.Nodup := List.nodup_iff_pairwise_ne.mpr (h.1.imp fun {a b} h e => by rw [e] at h; exact List.lt_irrefl _ h)
  have := nodup_lenU hn (rowOk_in h)
  rw [begs_len] at this
  omega
/-- all rows that texts of some letters lead to -/
def rowsOf (ws : List Tx) (ls : Tx) : List RowT := bfs ws ls 131072
theorem rowsOf_at {ws : List Tx} {ls : Tx} {k : Nat} (hk : k ≤ 131072) (h : (bfs ws ls k).length ≤ k) : rowsOf ws ls = bfs ws ls k := by
  unfold rowsOf
  have := bfs_stop h (131072 - k)
  rwa [show k + (131072 - k) = 131072 by omega] at this
end PD

/-! PF, first part: what is refused: raise, calls that may refuse, try. -/
namespace PD
open PySem PySem.Spec PyProof.Rows L2

abbrev TK (X : Cx) (W : WX) : Prop := ∀ σ, PassesAt (L2.CX X.prog X.w) X σ (WE W σ)
theorem tk_of {X : Cx} {W : WX} (tk : Takes X W) : TK X W := fun σ => passAt tk σ
theorem tk0 {X : Cx} : TK X W0 := fun σ pins H s e s' I z => by
  obtain ⟨_, _, _, _, _, _, _, _, _, _, _, _, z⟩ := z
  exact z.elim
/-- facts of a class whose objects are raised -/
structure ExcR (K : PySem.W.Frag) (mg : Str → Option Value) (e : EN) : Prop where
  ex : ∃ C : Addr, ev K e = .ref C ∧ mg (en e) = some (.ref C) ∧ PySem.W.excIn K C [.type "ValueError", .type "Exception", .type "BaseException", .type "object"] "ValueError.__new__" = true ∧ PySem.W.keepIn K (.ref C) = true ∧
    PySem.W.subIn K (.ref C) (.type "BaseException") = some true ∧ PySem.W.typeIn K (.ref C) = some (.type "type") ∧ ExcC K C
theorem excR_mk {K : PySem.W.Frag} {mg : Str → Option Value} {e : EN} {C : Addr} (h1 : PySem.W.nsIn K mainGlobals (en e) = some (some (.ref C))) (h2 : mg (en e) = some (.ref C))
    (h3 : PySem.W.excIn K C [.type "ValueError", .type "Exception", .type "BaseException", .type "object"] "ValueError.__new__" = true) (h4 : PySem.W.keepIn K (.ref C) = true)
    (h5 : PySem.W.subIn K (.ref C) (.type "BaseException") = some true) (h6 : PySem.W.typeIn K (.ref C) = some (.type "type")) (h7 : ExcC K C) : ExcR K mg e :=
  ⟨C, by unfold ev; rw [h1], h2, h3, h4, h5, h6, h7⟩
def pRaise (e : EN) : PTS := fun P A => P.ex e A
theorem ds_raise {X : Cx} {W : WX} {e : EN} {x m : Str} {j : Nat} {p p2 p3 pos : Pos} (hc : X.calm = true) (tk : Takes X W) (h : ExcR X.K X.mg e) (hx : en e = x) (hg : Gl X x) (hdb : (x == ("__debug__" : Str)) = false := by decide) :
    DS X W (.Raise (some (.Call (.Name x p) [.Constant (.str m) j p2] [] p3)) none pos) (fun _ σ H => W (ev X.K e) none σ H) (pRaise e) := by
  subst hx
  obtain ⟨C, e1, e2, e3, e4, e5, e6, e7⟩ := h.ex
  refine ⟨?_, fun B σ H A P D rel x c => c.ex σ _ _ _ x rel⟩
  rw [e1]
  exact ps_raise hc tk (pmk_own PySem.F.excBase_ValueError e3 e2 e4 (raises_own e5 e6) hg hdb)
/-! ### promises of defs that may refuse -/
structure ConX where
  pre : List AR → Prop
  ok : List AR → AR → List (Option O) → Prop
  ex : List AR → EN → Prop
def ConX.asp (c : ConX) : ASp := fun ars post xp => c.pre ars ∧ (∀ y os, os.length = (ownsA ars).length → c.ok ars y os → post y.toR os) ∧ ∀ e, c.ex ars e → xp e (ownsA ars)
structure XCal (P : Program) (w : World) (K : PySem.W.Frag) (mg : Str → Option Value) (base : Heap) (k : Nat) (x : Str) (c : ConX) : Prop where
  ex : ∃ (f : Addr) (fd : FuncData) (ps : List Str), FnOk P w K mg base (L2.CX P w) k f fd ps (spA K c.asp) ∧ mg x = some (.ref f) ∧ PySem.W.keepIn K (.ref f) = true ∧ Binds K fd ps []
/-- what is wanted behind a def that may refuse -/
def endsX (own : List (Option O)) (ok : AR → List (Option O) → Prop) (ex : EN → Prop) : PEnds := { nx := fun A => ok (.d .non) (A.M.take own.length), rt := retA own.length ok, ex := fun e A => ex e ∧ A.M.take own.length = own }
def LawX (p : PTS) (N : List Str) (m : Nat) (c : ConX) : Prop := ∀ ars, c.pre ars → ars.length = m ∧ p (endsX (ownsA ars) (c.ok ars) (c.ex ars)) (fnAbs N ars)
section
variable {P : Program} {w : World} {K : PySem.W.Frag} {mg : Str → Option Value} {base : Heap}
theorem xcalL {x qual : Str} {st : Stmt} {f : Addr} {fd : FuncData} {N ps : List Str} {k : Nat} {c : ConX} {p : PTS} (F : Fun K x qual st f fd) (hm : mg x = some (.ref f)) (hb : Binds K fd ps []) (Sc : FnScope N ps (defScope st))
    (hbody : ∀ (cdv : Value) (A : Around) (outer : List Env) (s : Shared) (H : Hp) (E : XK), Room k (A.deeper (envOfC qual (defScope st) s.heap.objs.size f cdv)) →
      ∃ t, DSs (cxOf (L2.CX P w) P w K mg base N qual (defScope st) f cdv A outer s H E) (fun C d _ H => E C d H) (defBody st) t p)
    (law : LawX p N ps.length c) : XCal P w K mg base (k + 1) x c := by
  refine ⟨f, fd, ps, F.okX Sc (spA_len fun ars post xp h => (law ars h.1).1) fun cdv A outer s H vs Q E hr ⟨t, S, r, ars, h, sr, a⟩ => ?_, hm, F.kp, hb⟩
  obtain ⟨tt, d⟩ := hbody cdv A outer s H E hr
  refine ⟨tt, d.pe, d.sim (baseOf t S r (ownsA ars).length H) _ H (fnAbs N ars) _ _ ⟨t, S, r, h, start_SR sr⟩ (law ars a.1).2 ?_⟩
  refine { nx := fun A' σ H' q ⟨t', S', r', h', s'⟩ => ?_, rt := fun y A' v σ H' q ⟨t', S', r', h', s', kk⟩ => ?_, bk := fun A' σ H' q _ => q.elim, ct := fun A' σ H' q _ => q.elim, ex := fun σ e A' H' q ⟨t', S', r', h', s'⟩ => ?_ }
  · exact a.2.1 _ _ (take_ok h'.nl).1 q _ _ ⟨fun n z => (by cases z), t', S', r', A'.M, h', (take_ok h'.nl).1, (take_ok h'.nl).2, DR.non⟩
  · cases y with
    | d x => exact a.2.1 _ _ (take_ok h'.nl).1 q _ _ ⟨fun n z => (by cases z), t', S', r', A'.M, h', (take_ok h'.nl).1, (take_ok h'.nl).2, kk⟩
    | o x => exact a.2.1 _ _ (take_ok h'.nl).1 q _ _ ⟨fun n z => (by cases z), t', S', r', A'.M, h', (take_ok h'.nl).1, (take_ok h'.nl).2, kk⟩
    | p n =>
      obtain ⟨rfl, hn⟩ := kk
      obtain ⟨hmn, o, e, q⟩ := q
      obtain ⟨r2, h2, ok⟩ := h'.unname e
      refine a.2.1 _ _ (take_ok h'.nl).1 q _ _ ⟨fun n z => (by cases z), t', S', r2, _, h2, (take_ok h'.nl).1, fun j hj => ?_, t' n, rfl, ok⟩
      have hj : j < (ownsA ars).length := hj
      rw [List.getElem?_set_ne (by omega)]
      exact (take_ok h'.nl).2 j hj
  · have q2 : A'.M.take (ownsA ars).length = ownsA ars := q.2
    refine a.2.2 e q.1 H' ⟨t', S', r', A'.M, h', rfl, fun j hj => ?_⟩
    have hj : j < (ownsA ars).length := hj
    exact ((take_ok h'.nl).2 j hj).trans (congrArg (·[j]?) q2)
end
def callXG (c : ConX) (zs : List R) (A : Abs) (P : R → Abs → Prop) (Y : PX) : Prop := match toAR A.M zs with
  | some (ars, ns) => ns.Nodup ∧ c.pre ars ∧ (∀ y os, os.length = ns.length → c.ok ars y os → P y.toR ⟨A.env, putAll A.M ns os⟩) ∧ ∀ e, c.ex ars e → Y e A
  | none => False
def pCallX (g : List R → Abs → (R → Abs → Prop) → PX → Prop) (q : PTA) : PTE := fun A P Y => q A (fun zs A1 => g zs A1 P Y) Y
def ReadsX (c : ConX) (g : List R → Abs → (R → Abs → Prop) → PX → Prop) : Prop := ∀ zs A P Y, g zs A P Y → callXG c zs A P Y
theorem sim_callX {K : PySem.W.Frag} {E : WX} {c : ConX} {ta : TA} {q : PTA} {g : List R → Abs → (R → Abs → Prop) → PX → Prop} (hg : ReadsX c g) (h : SimA K E ta q) : SimE K E (tCallS (spA K c.asp) (WE E) ta) (pCallX g q) := fun B σ H A P Y Q rel p k xq => by
  refine h B σ H A _ Y _ rel p (fun zs A1 vs H1 p1 ⟨t, S, r, n, rl⟩ => ?_) xq
  refine run_callA (asp := c.asp) (P := P) (Y := Y) n rl (fun ars post post' xp xp' h1 h2 ⟨a1, a2, a3⟩ => ⟨a1, fun y os hl ho => h1 _ _ (toR_no y) hl (a2 y os hl ho), fun e he => h2 _ _ rfl (a3 e he)⟩) ?_ k xq
  have p1 := hg _ _ _ _ p1
  unfold callA
  unfold callXG at p1
  split at p1
  · rename_i ars ns e
    obtain ⟨nd, pr, ok, ex⟩ := p1
    try rw [e]
    exact ⟨nd, pr, fun y os hl ho => ok y os (by rw [hl, (toAR_obj e).1]) ho, fun c he => by
      show Y c ⟨A1.env, putAll A1.M ns (ownsA ars)⟩
      rw [putAll_same nd e]
      exact ex c he⟩
  · exact p1.elim
theorem kcallX {X : Cx} {E : WX} {K : PySem.W.Frag} {k j : Nat} {x : Str} {c : ConX} {g : List R → Abs → (R → Abs → Prop) → PX → Prop} {p pos : Pos} {e : Expr} {es : List Expr} {ta : TA} {q : PTA} (rd : ReadsX c g) (h : XCal X.prog X.w K X.mg X.base k x c) (hr : Room j X.A) (hk : k ≤ j) (tk : TK X E) (hg : Gl X x) (ha : DA X E (e :: es) ta q) (hK : X.K = K := by rfl)
    (hdb : (x == ("__debug__" : Str)) = false := by decide) (he : starEach (e :: es) X.env = (false, eval e X.env) :: starEach es X.env := by rfl) (hpl : (backTo pos (starEach es X.env)).any (·.1) = false := by rfl) :
    DE X E (.Call (.Name x p) (e :: es) [] pos) (tCallS (spA K c.asp) (WE E) ta) (pCallX g q) := by
  subst hK
  obtain ⟨f, fd, ps, F, hm, kp, b⟩ := h.ex
  exact ⟨pe_callS F (hr.mono hk) hg hm kp b tk ha.pe hdb he hpl, sim_callX rd ha.sim⟩
/-- what a def that only reads tells, or refuses -/
def conX (pre : List AR → Prop) (F : List AR → Except EN AR) : ConX := ⟨pre, fun ars y os => F ars = .ok y ∧ os = ownsA ars, fun ars e => F ars = .error e⟩
def callX (pre : List AR → Prop) (F : List AR → Except EN AR) (zs : List R) (A : Abs) (P : R → Abs → Prop) (Y : PX) : Prop := match toAR A.M zs with
  | some (ars, ns) => ns.Nodup ∧ pre ars ∧ (match F ars with
    | .ok y => P y.toR A
    | .error e => Y e A)
  | none => False
theorem reads_X (pre : List AR → Prop) (F : List AR → Except EN AR) : ReadsX (conX pre F) (callX pre F) := fun zs A P Y h => by
  unfold callX at h
  unfold callXG
  split at h
  · rename_i ars ns e
    obtain ⟨nd, h0, h⟩ := h
    refine ⟨nd, h0, fun y os hl ⟨h1, h2⟩ => ?_, fun c hc => ?_⟩
    · rw [h1] at h
      rw [h2, putAll_same nd e]
      exact h
    · have hc : F ars = .error c := hc
      rw [hc] at h
      exact h
  · exact h.elim
/-- what is wanted behind such a def, its answer known -/
def endsR (own : List (Option O)) (r : Except EN AR) : PEnds := { nx := fun A => r = .ok (.d .non) ∧ A.M.take own.length = own, rt := retA own.length (fun y os => r = .ok y ∧ os = own), ex := fun e A => r = .error e ∧ A.M.take own.length = own }
theorem lawX_of {p : PTS} {N : List Str} {m : Nat} {pre : List AR → Prop} {F : List AR → Except EN AR} (h : ∀ ars, pre ars → ars.length = m ∧ p (endsR (ownsA ars) (F ars)) (fnAbs N ars)) : LawX p N m (conX pre F) := h
end PD

/-! PF, second part: what was caught stays. -/
namespace PD
open PySem PySem.Spec PyProof.Rows L2

theorem excHO_ok {P : Program} {w : World} {H : Hp} {h : Heap} {C : Value} {d : Option Addr} {a : Addr} {oe : Obj} {vs : Array Value} (e : h.get? a = some oe) (z : Zc C d oe) (q : oe.data = .fields vs) : ObjOk P w H h a (excHO C d a) :=
  ⟨⟨oe, vs, e, z, q⟩, ⟨oe, e⟩, fun _ _ ⟨o1, v1, e1, z1, q1⟩ k => ⟨o1, v1, k _ e1, z1, q1⟩⟩
/-- what the one clause hands on: the names i (only for a while) and j bear the caught one -/
def wTr (K : PySem.W.Frag) (c : Value) (i j : Nat) (D : Ends) : WX := fun cls d σ H =>
  PySem.W.exmOne K cls c = some true ∧ ∀ a, H a = none → D.nx (((σ.set i (some (.ref a))).set j (some (.ref a))).set i none) (upd H a (excHO cls d a))
section
variable {X : Cx} {pins : List (Addr × Obj)} {σ : L2.St} {H : Hp} {s0 s : Shared} {B : Heap}
/-- landed, and from now on known -/
theorem inv_caught (I : Inv X pins σ H s0) (gr : ∀ b o, s0.heap.get? b = some o → b ∉ frs X.stack → B.get? b = some o) (sub : B.StaysIn s.heap) (up : s0.heap.UpToSlots s.heap) (os : s.os = s0.os) (bare : AllBare s.gens)
    {a : Addr} {cls : Value} {d : Option Addr} {oe : Obj} {vs : Array Value} (hB : B.get? a = none) (nf : a ∉ frs X.stack) (na : H a = none) (e : s.heap.get? a = some oe) (z : Zc cls d oe) (q : oe.data = .fields vs) : Inv X pins σ (upd H a (excHO cls d a)) s := by
  have new0 : s0.heap.get? a = none := by
    cases y : s0.heap.get? a with
    | none => rfl
    | some o =>
      have y2 := gr a o y nf
      rw [hB] at y2
      cases y2
  have old : ∀ b o, s0.heap.get? b = some o → b ≠ a := fun b o y z => by
    rw [z, new0] at y
    cases y
  have frame : ∀ b ∈ frs X.stack, ∀ o, s0.heap.get? b = some o → ∃ sl, s.heap.get? b = some { o with slots := sl } := fun b hb o y => by
    obtain ⟨_, o2, y2, nd⟩ := I.stack.mem hb
    rw [y] at y2
    cases y2
    exact up b o y nd
  have at0 : ∀ b u, H b = some u → b ≠ a := fun b u y z => by
    rw [z, na] at y
    cases y
  have key : HOk X.prog X.w (upd H a (excHO cls d a)) s.heap := fun b u y => by
    by_cases hb : b = a
    · subst hb
      rw [upd_same] at y
      cases y
      exact excHO_ok e z q
    · rw [upd_ne hb] at y
      refine (((I.inGround gr).kept sub) b u y).stay (fun _ _ _ r => r) (fun c r => ?_) (fun c xs r => ?_)
      · rw [upd_ne (at0 c _ r)]
        exact r
      · rw [upd_ne (at0 c _ r)]
        exact r
  have J := I.call (ch := []) (h' := s.heap) (g' := s.gens) (t' := s.toks) (d' := s.drawn) (H' := upd H a (excHO cls d a))
    { keep := fun b o y _ hb _ => sub b o (gr b o y hb)
      slot := fun b o y _ hb _ => frame b hb o y
      free := fun b o y n _ => by
        rw [upd_ne (old b o y)]
        exact n
      there := fun b o y _ => by
        by_cases hb : b ∈ frs X.stack
        · obtain ⟨sl, r⟩ := frame b hb o y
          exact ⟨_, r⟩
        · exact ⟨o, sub b o (gr b o y hb)⟩
      tups := fun b xs y => by
        rw [upd_ne (at0 b _ y)]
        exact y
      frzs := fun b o u y => by
        rw [upd_ne (at0 b _ y)]
        exact y
      tbls := fun b ps y => ⟨#[], by rw [upd_ne (at0 b _ y), y, Array.append_empty]⟩ }
    key bare (fun _ r => nomatch r)
  obtain ⟨f1, f2, f3, f4, f5⟩ := s
  have f : f5 = s0.os := os
  subst f
  exact J
theorem inv_in (I : Inv X pins σ H s) (a : Addr) : Inv (X.suite a (X.pn ++ pins)) [] σ H s :=
  ⟨I.ok.suite _ _, I.os, I.bare, I.base, I.loc, I.cell, I.free, I.freeC, fun p hp => I.pin p (by rwa [List.append_nil] at hp), I.hok, I.len⟩
theorem inv_out {a : Addr} (I : Inv (X.suite a (X.pn ++ pins)) [] σ H s) (ok : X.Ok) : Inv X pins σ H s :=
  ⟨ok, I.os, I.bare, I.base, I.loc, I.cell, I.free, I.freeC, fun p hp => I.pin p (List.mem_append_left _ hp), I.hok, I.len⟩
end
section
variable {X : Cx} {x n m : Str} {c : Value} {i j : Nat} {body : List Stmt} {np n2 mp ap hp pos : Pos} {tb : WX → TS}
/-- try: .. except x as n: m = n -/
theorem ps_tryKeep (hs : X.stack = X.env :: X.outer) (hf : X.env.frame = some X.env.locals) (hN : X.N.Nodup) (hi : X.N[i]? = some n) (hln : X.env.kindOf n = some .local) (hj : X.N[j]? = some m) (hlm : Loc X.env.scope m) (hfm : X.env.scope.names.lookup m = some .local) (hc : Names X x c)
    (hvn : Vis X.env.scope n) (hdn : (n == ("__debug__" : Str)) = false) (hcn : (n == ("__classdict__" : Str)) = false)
    (hb : ∀ (W : WX) (pn : List (Addr × Obj)) (xe : Value → Shared → Prop), Takes (X.tr pn xe) W → PassesOwn (model X.prog X.w) X.A X.env xe → PSs (X.tr pn xe) body (tb W)) :
    PS X (.Try body [.ExceptHandler (some (.Name x np)) (some n) [.Assign [.Name m mp] (.Name n n2) ap] hp] [] [] pos) (fun D σ H => tb (wTr X.K c i j D) D σ H) := by
  refine ⟨fun pins s σ H D I h => wpAny_Try_except ?_⟩
  have ok := I.ok
  have frm : X.A.frames = some (X.env :: X.outer) := ok.frames.trans (congrArg some hs)
  refine wpAny_mono ((hb (wTr X.K c i j D) (X.pn ++ pins) _ (fun u s' air => ?_) PassesOwn.looking).run [] s σ H D (I.toTry _) h) (fun f s1 sp => ?_) (fun _ _ z => z)
  · obtain ⟨a, B, s0, pins', σ', H', cls, d, rfl, J', gr, up, sky, na, os, bare, hx, hgo⟩ := air
    have J : Inv X pins σ' H' s0 := J'.ofTry ok
    have sky : Sky B (X.env :: X.outer) a (Zc cls d) X.env.locals s'.heap := hs ▸ sky
    refine Sky.land (Q := fun _ s3 => wpAny (model X.prog X.w) X.A (handleBy (.ref a) X.env [.ExceptHandler (some (.Name x np)) (some n) [.Assign [.Name m mp] (.Name n n2) ap] hp]) (SP X pins D) X.xe s3) Zc.steady frm hf sky fun h3 fl up3 => ?_
    obtain ⟨o3, v3, e3, z3, q3⟩ := fl.there
    have nf : a ∉ frs X.stack := fun hm => by
      rw [hs] at hm
      obtain ⟨_, o', e', hn⟩ := fl.2.2.1.mem hm
      rw [e3] at e'
      cases e'
      exact hn _ q3
    have J3 := inv_in (inv_caught (s := { s' with heap := h3 }) J gr fl.1 (up.trans up3) os bare fl.2.1 nf na e3 z3 q3) a
    refine wpAny_handleBy_cons (codeAny_handlers_test ?_) (fun z => nomatch z)
    have ty : PySem.W.Looks (model X.prog X.w) h3 (typeOf (.ref a)) cls := fun A Q E s k r => wpAny_typeOf_ref (k _ _ e3) (by rw [z3.1]; exact r)
    have ans := PySem.W.exm_one (M := model X.prog X.w) J3.kIn ty hx
    have name : ∀ {Q E : Value → Shared → Prop}, Q c { s' with heap := h3 } → wpAny (model X.prog X.w) (X.A.mark (some (.ref a))) (eval (.Name x np) X.env) Q E { s' with heap := h3 } := fun {Q E} r => by
      obtain ⟨c1, c2, c3 | ⟨c3, c4, c5⟩⟩ := hc
      · exact ld_glob (X := X.suite a (X.pn ++ pins)) J3 c1 c3 r c2
      · exact ld_blt (X := X.suite a (X.pn ++ pins)) J3 c1 c3 c4 r c5 c2
    refine name (ans.here (codeAny_handlers_suite_as ?_))
    refine HandSPX.lands_againZ fl fun h4 fl4 up4 => ?_
    obtain ⟨o4, v4, e4, z4, q4⟩ := fl4.there
    have J4 := inv_caught (s := { s' with heap := h4 }) J gr fl4.1 ((up.trans up3).trans up4) os bare fl4.2.1 nf na e4 z4 q4
    refine store_ok (X := X.suite a (X.pn ++ pins)) (v := .ref a) (inv_in J4 a) hN hi (.inl hln) rfl (fun s5 J5 => ?_) (.inr hln)
    have su : PSs (X.suite a (X.pn ++ pins)) [.Assign [.Name m mp] (.Name n n2) ap] (tAsg (tVar i) (gName j)) :=
      pss_one (ps_set (X := X.suite a (X.pn ++ pins)) hN hj hlm (pe_var (X := X.suite a (X.pn ++ pins)) hi hvn hdn hcn) (by rfl) (.inr hfm))
    have hlen : i < σ'.length := by
      rw [J.len]
      exact (List.getElem?_eq_some_iff.mp hi).1
    refine wpAny_mono (su.run [] s5 _ _ { nx := fun σ6 H6 => D.nx (σ6.set i none) H6, rt := fun _ _ => False } J5 ⟨.ref a, List.getElem?_set_self hlen, hgo a na⟩) (fun f s6 sp => ?_) (fun _ _ z => z.elim)
    cases f with
    | next =>
      obtain ⟨σ6, H6, J6, q6⟩ := sp
      exact gone_ok (inv_out J6 ok) hN hi hln fun s7 J7 => ⟨_, _, J7, q6⟩
    | brk => obtain ⟨_, _, _, z⟩ := sp; exact z.elim
    | cont => obtain ⟨_, _, _, z⟩ := sp; exact z.elim
    | ret u => obtain ⟨_, _, _, _, _, z⟩ := sp; exact z.elim
  · cases f with
    | next =>
      obtain ⟨σ1, H1, J1, q1⟩ := sp
      exact wpAny_execs_nil ⟨σ1, H1, J1.ofTry ok, q1⟩
    | brk =>
      obtain ⟨σ1, H1, J1, q1⟩ := sp
      exact ⟨σ1, H1, J1.ofTry ok, q1⟩
    | cont =>
      obtain ⟨σ1, H1, J1, q1⟩ := sp
      exact ⟨σ1, H1, J1.ofTry ok, q1⟩
    | ret u =>
      obtain ⟨v1, σ1, H1, J1, r1, q1⟩ := sp
      exact ⟨v1, σ1, H1, J1.ofTry ok, r1, q1⟩
end
end PD

/-! PF, third part: try, isinstance of what was caught. -/
namespace PD
open PySem PySem.Spec PyProof.Rows L2

def pTry (Rs : List EN) (i j : Nat) (p : PTS) : PTS := fun P A => p { P with ex := fun e A' => e ∈ Rs ∧ P.nx ⟨((A'.env.set i (.d (.exc e))).set j (.d (.exc e))).set i .un, A'.M⟩ } A
/-- the class that the clause names -/
structure ExcH (K : PySem.W.Frag) (mg : Str → Option Value) (Rs : List EN) : Prop where
  ex : ∃ C : Addr, mg "CutError" = some (.ref C) ∧ ∀ e ∈ Rs, PySem.W.exmOne K (ev K e) (.ref C) = some true
theorem SR.gone {K : PySem.W.Frag} {S : Hp} {t : Nat → Addr} {m : Nat} {env : List AV} {σ : L2.St} (s : SR K S t m env σ) (i : Nat) : SR K S t m (env.set i .un) (σ.set i none) where
  len := by rw [List.length_set, List.length_set]; exact s.len
  ok := fun k av e => by
    by_cases q : i = k
    · subst q
      have hi : i < env.length := by
        have := (List.getElem?_eq_some_iff.mp e).1
        rwa [List.length_set] at this
      rw [List.getElem?_set_self hi] at e
      cases e
      trivial
    · rw [List.getElem?_set_ne q] at e ⊢
      exact s.ok k av e
/-- a wish that takes all: what is raised is looked at -/
theorem takes_any {X : Cx} (hs : X.stack = X.env :: X.outer) (hf : X.env.frame = some X.env.locals) (pn : List (Addr × Obj)) (W : WX) : Takes (X.tr pn fun e s1 => wpAny (model X.prog X.w) X.A (noteFrame e X.env) (fun _ s2 => wpAny (model X.prog X.w) X.A (setFlight e none) (fun _ _ => True) X.xe s2) X.xe s1) W := fun u s' air => by
  obtain ⟨a, B, s0, pins, σ, H, cls, d, rfl, J, gr, up, sky, _⟩ := air
  have sky : Sky B (X.env :: X.outer) a (Zc cls d) X.env.locals s'.heap := hs ▸ sky
  exact Sky.land (Q := fun _ _ => True) Zc.steady (J.ok.frames.trans (congrArg some hs)) hf sky fun _ _ _ => trivial
theorem ds_try {X : Cx} {E : WX} {K : PySem.W.Frag} {n m : Str} {i j : Nat} {body : List Stmt} {np n2 mp ap hp pos : Pos} {tb : WX → TS} {p : PTS} (Rs : List EN) (h : ExcH K X.mg Rs) (hN : X.N.Nodup) (hgc : Gl X "CutError")
    (hb : ∀ (W : WX) (pn : List (Addr × Obj)) (xe : Value → Shared → Prop), Takes (X.tr pn xe) W → PassesOwn (model X.prog X.w) X.A X.env xe → DSs (X.tr pn xe) W body (tb W) p)
    (hK : X.K = K := by rfl) (hi : X.N[i]? = some n := by rfl) (hj : X.N[j]? = some m := by rfl) (hs : X.stack = X.env :: X.outer := by rfl) (hf : X.env.frame = some X.env.locals := by rfl) (hln : X.env.kindOf n = some .local := by rfl) (hlm : Loc X.env.scope m := by first | exact Or.inl rfl | exact Or.inr rfl) (hfm : X.env.scope.names.lookup m = some .local := by rfl)
    (hvn : Vis X.env.scope n := by first | exact Or.inl rfl | exact Or.inr (Or.inl rfl) | exact Or.inr (Or.inr rfl)) (hdn : (n == ("__debug__" : Str)) = false := by decide) (hcn : (n == ("__classdict__" : Str)) = false := by decide) :
    DS X E (.Try body [.ExceptHandler (some (.Name "CutError" np)) (some n) [.Assign [.Name m mp] (.Name n n2) ap] hp] [] [] pos) (fun D σ H => tb (wTr K (.ref h.ex.choose) i j D) D σ H) (pTry Rs i j p) := by
  subst hK
  have hC := h.ex.choose_spec
  generalize h.ex.choose = C at hC ⊢
  obtain ⟨hm, hx⟩ := hC
  refine ⟨ps_tryKeep (c := .ref C) hs hf hN hi hln hj hlm hfm ⟨hgc, by decide, .inl hm⟩ hvn hdn hcn fun W pn xe tk po => (hb W pn xe tk po).pe, fun B σ H A P D rel x c => ?_⟩
  refine (hb (wTr X.K (.ref C) i j D) [] _ (takes_any hs hf [] _) PassesOwn.looking).sim B σ H A _ D rel x ⟨c.nx, c.rt, c.bk, c.ct, fun σ' e A' H' q r => ?_⟩
  · obtain ⟨he, q⟩ := q
    refine ⟨hx e he, fun a na => c.nx _ _ _ q ?_⟩
    obtain ⟨t, S, ρ, hr, sr⟩ := r
    refine ⟨t, upd S a (excHO (ev X.K e) none a), ρ, hr.stable na _, ?_⟩
    have ex : Ext t S A'.M.length t (upd S a (excHO (ev X.K e) none a)) A'.M.length := ⟨fun b o w => by
      have ne : b ≠ a := fun y => by rw [y, hr.of_none na] at w; cases w
      rw [upd_ne ne]
      exact w, fun _ _ => rfl, Nat.le_refl _⟩
    have dr : DR X.K (upd S a (excHO (ev X.K e) none a)) (.ref a) (.exc e) := .exc upd_same
    exact (((sr.ext ex).set i (av := .d (.exc e)) ⟨_, rfl, dr⟩).set j (av := .d (.exc e)) ⟨_, rfl, dr⟩).gone i
/-! ### isinstance -/
def rIsT (K : PySem.W.Frag) : List V → Hp → VK → Prop := fun xs H Q => ∃ (a D : Addr) (c : V) (cv : Value) (b : Bool), xs = [.ref a, c] ∧ H a = some (excHO (.ref D) none a) ∧ ExcC K D ∧ (∀ u, RelV c u → u = cv) ∧ PySem.W.kitOne K (.ref D) cv = some b ∧ Q (.bl b) H
theorem call_isT {X : Cx} : CallR X (.builtin "isinstance") (rIsT X.K) := fun pins s σ H xs us Q I r h => by
  obtain ⟨a, D, c, cv, b, rfl, ha, C, hcv, e, q⟩ := h
  cases r with
  | cons r1 r =>
    cases r with
    | cons r2 r =>
      cases r
      cases r1
      have := hcv _ r2
      subst this
      obtain ⟨⟨oe, vs, e1, z1, q1⟩, _⟩ := I.hok a _ ha
      have J : PySem.W.InstAt s.heap a oe D none := by
        obtain ⟨o1, o2, o3, o4⟩ := oe
        obtain ⟨z1, z2⟩ := z1
        dsimp only at z1 z2 q1
        subst z1 z2 q1
        exact ⟨e1, rfl, rfl, trivial⟩
      exact PySem.W.kia_one (PySem.W.handS_kitx_exc C.hg C.hk C.hs C.hd C.ha C.hn C.ht C.hm) I.kIn J e (fun z => nomatch z) fun tk => ⟨.bl b, H, I.kept (t' := tk) fun _ _ z => z, rfl, q⟩
/-- the answers of isinstance for what may have been caught -/
structure ExcT (K : PySem.W.Frag) (mg : Str → Option Value) (Rs : List EN) (c : EN) : Prop where
  ex : ∃ C : Addr, mg (en c) = some (.ref C) ∧ ∀ e ∈ Rs, ∃ D : Addr, ev K e = .ref D ∧ ExcC K D ∧ PySem.W.kitOne K (.ref D) (.ref C) = some (decide (e = c))
structure ExcV (K : PySem.W.Frag) (mg : Str → Option Value) (Rs : List EN) : Prop where
  mg : mg "ValueError" = none
  ex : ∀ e ∈ Rs, ∃ D : Addr, ev K e = .ref D ∧ ExcC K D ∧ PySem.W.kitOne K (.ref D) (.type "ValueError") = some true
def pIsX (Rs : List EN) (g : EN → Bool) (p : PTE) : PTE := fun A P Y => p A (fun y A1 => match y with
  | .d (.exc e) => e ∈ Rs ∧ P (.d (.bl (g e))) A1
  | _ => False) Y
section
variable {X : Cx} {E : WX} {K : PySem.W.Frag}
theorem kisX {t : TE} {e : Expr} {p : PTE} {x y : Str} {p1 p2 pos : Pos} (Rs : List EN) (c : EN) (h : DE X E e t p) (T : ExcT K X.mg Rs c) (hy : en c = y) (hg : Gl X x) (hm : X.mg x = none) (hv : bootBuiltins x = some (.builtin "isinstance")) (hg2 : Gl X y) (hK : X.K = K := by rfl)
    (hd2 : (y == ("__debug__" : Str)) = false := by decide)
    (hn : x ≠ "__name__" := by decide) (hdb : (x == ("__debug__" : Str)) = false := by decide) (he : starEach [e, .Name y p2] X.env = (false, eval e X.env) :: starEach [.Name y p2] X.env := by rfl) (hpl : (backTo pos (starEach [.Name y p2] X.env)).any (·.1) = false := by rfl)
    (he2 : starEach [.Name y p2] X.env = (false, eval (.Name y p2) X.env) :: starEach [] X.env := by rfl) : DE X E (.Call (.Name x p1) [e, .Name y p2] [] pos) (tCB (rIsT K) (tCons t (tCons (tC (.ref T.ex.choose)) tNil))) (pIsX Rs (fun e => decide (e = c)) p) := by
  subst hK hy
  have hCR := T.ex.choose_spec
  generalize T.ex.choose = C at hCR ⊢
  obtain ⟨hC, hR⟩ := hCR
  refine ⟨pe_callB call_isT hg hm hv (pa_cons h.pe (pa_cons (pe_glob (v := .ref C) hg2 hC rfl hd2) pa_nil he2) he) hn hdb he hpl, fun B σ H A P Y Q rel x k xq => ?_⟩
  refine h.sim B σ H A _ Y _ rel x (fun y A1 v1 H1 q r1 => ?_) xq
  split at q
  · rename_i e
    obtain ⟨he', q⟩ := q
    obtain ⟨D, d1, d2, d3⟩ := hR e he'
    obtain ⟨tt, S, ρ, h1, s1, k1⟩ := id r1
    have k1 : DR X.K S v1 (.exc e) := k1
    cases k1 with
    | exc w =>
      rename_i a
      rw [d1] at w
      exact ⟨a, D, .ref C, .ref C, _, rfl, h1.le.exc w, d2, fun u r => r, d3, k _ A1 _ H1 q (r1.rel.res fun _ => .bl _)⟩
  · exact q.elim
theorem kisV {t : TE} {e : Expr} {p : PTE} {x : Str} {p1 p2 pos : Pos} (Rs : List EN) (h : DE X E e t p) (T : ExcV K X.mg Rs) (hg : Gl X x) (hm : X.mg x = none) (hv : bootBuiltins x = some (.builtin "isinstance")) (hg2 : Gl X "ValueError") (hK : X.K = K := by rfl)
    (hn : x ≠ "__name__" := by decide) (hdb : (x == ("__debug__" : Str)) = false := by decide) (he : starEach [e, .Name "ValueError" p2] X.env = (false, eval e X.env) :: starEach [.Name "ValueError" p2] X.env := by rfl) (hpl : (backTo pos (starEach [.Name "ValueError" p2] X.env)).any (·.1) = false := by rfl)
    (he2 : starEach [.Name "ValueError" p2] X.env = (false, eval (.Name "ValueError" p2) X.env) :: starEach [] X.env := by rfl) : DE X E (.Call (.Name x p1) [e, .Name "ValueError" p2] [] pos) (tCB (rIsT K) (tCons t (tCons (tC (.ty "ValueError")) tNil))) (pIsX Rs (fun _ => true) p) := by
  subst hK
  refine ⟨pe_callB call_isT hg hm hv (pa_cons h.pe (pa_cons (pe_bltn (v := .ty "ValueError") hg2 T.mg rfl rfl (by decide) (by decide)) pa_nil he2) he) hn hdb he hpl, fun B σ H A P Y Q rel x k xq => ?_⟩
  refine h.sim B σ H A _ Y _ rel x (fun y A1 v1 H1 q r1 => ?_) xq
  split at q
  · rename_i e
    obtain ⟨he', q⟩ := q
    obtain ⟨D, d1, d2, d3⟩ := T.ex e he'
    obtain ⟨tt, S, ρ, h1, s1, k1⟩ := id r1
    have k1 : DR X.K S v1 (.exc e) := k1
    cases k1 with
    | exc w =>
      rename_i a
      rw [d1] at w
      exact ⟨a, D, .ty "ValueError", .type "ValueError", _, rfl, h1.le.exc w, d2, fun u r => r, d3, k _ A1 _ H1 q (r1.rel.res fun _ => .bl _)⟩
  · exact q.elim
end
end PD

/-! PF, fourth part: the facts of the classes, put together. -/
namespace PD
open PySem PySem.Spec PyProof.Rows L2

theorem tk_cx {P : Program} {w : World} {K : PySem.W.Frag} {mg : Str → Option Value} {base : Heap} {N : List Str} {qual : Str} {sc : Scope} {f : Addr} {cdv : Value} {A : Around} {outer : List Env} {s : Shared} {H : Hp} {E : XK} :
    Takes (cxOf (L2.CX P w) P w K mg base N qual sc f cdv A outer s H E) (fun C d _ H => E C d H) := takes_of rfl rfl rfl rfl
theorem po_cx {P : Program} {w : World} {K : PySem.W.Frag} {mg : Str → Option Value} {base : Heap} {N : List Str} {qual : Str} {sc : Scope} {f : Addr} {cdv : Value} {A : Around} {outer : List Env} {s : Shared} {H : Hp} {E : XK} :
    PassesOwn (model P w) (cxOf (L2.CX P w) P w K mg base N qual sc f cdv A outer s H E).A (cxOf (L2.CX P w) P w K mg base N qual sc f cdv A outer s H E).env (cxOf (L2.CX P w) P w K mg base N qual sc f cdv A outer s H E).xe :=
  passes_of (X := cxOf (L2.CX P w) P w K mg base N qual sc f cdv A outer s H E) rfl
section
variable {K : PySem.W.Frag} {mg : Str → Option Value}
open PySem.W
theorem ev_of {e : EN} {C : Addr} (h : nsIn K mainGlobals (en e) = some (some (.ref C))) : ev K e = .ref C := by unfold ev; rw [h]
theorem kit_self (D : Addr) : kitOne K (.ref D) (.ref D) = some true := by
  unfold kitOne
  rw [if_pos (by simp)]
theorem kit_ne {D C : Addr} (h : (D == C) = false) (hd : hasDictIn K C = true) (ty : typeIn K (.ref C) = some (.type "type")) (s : subIn K (.ref D) (.ref C) = some false) : kitOne K (.ref D) (.ref C) = some false := by
  unfold kitOne
  rw [if_neg (by
    intro z
    have z := Value.ref.inj (beq_iff_eq.mp z)
    rw [z] at h
    simp at h)]
  obtain ⟨cd, hc, _⟩ := any_some hd
  show (if ((clsIn K C).isSome && typeIn K (.ref C) == some (.type "type")) = true then subIn K (.ref D) (.ref C) else none) = some false
  rw [if_pos (by rw [hc, ty] <;> rfl)]
  exact s
theorem kit_val {D : Addr} (s : subIn K (.ref D) (.type "ValueError") = some true) : kitOne K (.ref D) (.type "ValueError") = some true := by
  unfold kitOne
  rw [if_neg (by intro z; cases beq_iff_eq.mp z)]
  show (if kitMeta "ValueError" = true then subIn K (.ref D) (.type "ValueError") else none) = some true
  rw [if_pos (by decide +kernel)]
  exact s
end
end PD

/-! PG, first part: more of the built-in things. -/
namespace PD
open PySem PySem.Spec PyProof.Rows L2

section
variable {X : Cx} {E : WX} {K : PySem.W.Frag}
/-! ### list(..) of a text, of a dict -/
theorem chars_Vals {l : Tx} {acc : Array Value} (h : ItemsOf (SignAt (st l)) acc (st l).cps.size) : Vals (l.map fun c => V.str (st [c])) acc.toList := by
  have hs : (st l).cps.size = l.length := st_len l
  have hl : acc.toList.length = l.length := by rw [Array.length_toList, ← hs]; exact h.1
  have go : ∀ (l : Tx) (us : List Value), us.length = l.length → (∀ (i : Nat) (v : Value), us[i]? = some v → ∃ (c : Nat) (u : Tok), l[i]? = some c ∧ v = Value.str ⟨#[c]⟩ u) → Vals (l.map fun c => V.str (st [c])) us := by
    intro l
    induction l with
    | nil =>
      intro us hl _
      cases us with
      | nil => exact .nil
      | cons _ _ => simp at hl
    | cons c l ih =>
      intro us hl h
      cases us with
      | nil => simp at hl
      | cons u us =>
        refine .cons ?_ (ih us (by simpa using hl) fun i v e => by simpa using h (i + 1) v (by simpa using e))
        obtain ⟨c', t, e1, e2⟩ := h 0 u rfl
        have e1 : c = c' := by simpa using e1
        subst e1
        exact ⟨t, e2⟩
  refine go l _ hl fun i v e => ?_
  obtain ⟨c, u, e1, e2⟩ := h.2 i v (by rw [← Array.getElem?_toList]; exact e)
  refine ⟨c, u, ?_, e2⟩
  rw [← Array.getElem?_toList] at e1
  rw [← st_tl l]
  exact e1
def rListS : List V → Hp → VK → Prop := fun xs H Q => ∃ l : Tx, xs = [.str (st l)] ∧ l.length ≤ 16777216 ∧ ∀ p, H p = none → Q (.ref p) (upd H p (.lst (l.map fun c => V.str (st [c]))))
theorem call_listS (hcalm : X.calm = true) : CallR X (.type "list") rListS := fun pins s σ H xs us Q I r h => by
  obtain ⟨l, rfl, hl, q⟩ := h
  cases r with
  | cons r1 r =>
    cases r
    obtain ⟨t, rfl⟩ := r1
    have hz : (st l).cps.size = l.length := st_len l
    refine call_list_str (I.ok.hd hcalm) (st l) t (fun h' tk acc c hk hp hi => ?_) (by rw [hz]; exact hl)
    refine ⟨.ref s.heap.objs.size, upd H s.heap.objs.size (.lst (l.map fun c => V.str (st [c]))), I.laid (t' := tk) hk (Nat.le_refl _) (show ObjOk X.prog X.w _ _ _ (.lst _) from ⟨?_, acc.toList, c, chars_Vals hi, ?_⟩), rfl, q _ (I.hok.fresh (Nat.le_refl _))⟩
    · rw [List.length_map]
      exact hl
    · rw [Array.toArray_toList]
      exact hp
def rListD1 : List V → Hp → VK → Prop := fun xs H Q => ∃ (a : Addr) (kvs : List (Key × V)), xs = [.ref a] ∧ Rd H a (.dK kvs) ∧ ∀ p, H p = none → Q (.ref p) (upd H p (.lst (kvs.map fun kv => kV kv.1)))
def rListB (K : PySem.W.Frag) : List V → Hp → VK → Prop := fun xs H Q => rListA K xs H Q ∨ (rListS xs H Q ∨ rListD1 xs H Q)
theorem call_listB (hcalm : X.calm = true) : CallR X (.type "list") (rListB X.K) := CallR.or call_list_of (CallR.or (call_listS hcalm) (call_listD hcalm))
def cListB : BN
  | [.lst xs], P => P (.o (.lst xs))
  | [.tup xs], P => P (.o (.lst xs))
  | [.str l], P => l.length ≤ 16777216 ∧ P (.o (.lst (l.map fun c => .str [c])))
  | [.dic kvs], P => P (.o (.lst (kvs.map fun p => kD p.1)))
  | _, _ => False
theorem DRs.chars {S : Hp} : ∀ l : Tx, DRs K S (l.map fun c => V.str (st [c])) (l.map fun c => D.str [c])
  | [] => .nil
  | c :: l => .cons (.str [c]) (DRs.chars l)
theorem DRk.keyD {S : Hp} : ∀ {vs : List (Key × V)} {ds : List (Kd × D)}, DRk K S vs ds → DRs K S (vs.map fun kv => kV kv.1) (ds.map fun p => kD p.1)
  | _, _, .nil => .nil
  | _, _, .cons (k := k) h t => .cons (DR.kD k) (DRk.keyD t)
theorem snd_listB : SndN K (rListB K) cListB := fun S H xs vs P Q le dv b k => by
  unfold cListB at b
  split at b
  · obtain ⟨v, rfl, a, ws, rfl, h1, h2⟩ := dv.one
    exact .inl ⟨a, ws, rfl, .inl (SqL.of h1), fun l hl => k.lst l ws _ hl b h2⟩
  · obtain ⟨v, rfl, a, ws, rfl, h1, h2⟩ := dv.one
    exact .inl ⟨a, ws, rfl, .inr (SqT.of h1), fun l hl => k.lst l ws _ hl b h2⟩
  · obtain ⟨v, rfl, rfl⟩ := dv.one
    exact .inr (.inl ⟨_, rfl, b.1, fun l hl => k.lst l _ _ hl b.2 (DRs.chars _)⟩)
  · obtain ⟨v, rfl, a, ws, rfl, h1, h2⟩ := dv.one
    exact .inr (.inr ⟨a, ws, rfl, h1, fun l hl => k.lst l _ _ hl b h2.keyD⟩)
  · exact b.elim
/-! ### tuple(..) -/
def rTuple (K : PySem.W.Frag) : List V → Hp → VK → Prop := fun xs H Q => ∃ p ys, xs = [.ref p] ∧ ((SqL K H p ys ∧ ∀ l, H l = none → Q (.ref l) (upd H l (.tup ys))) ∨ (SqT K H p ys ∧ Q (.ref p) H))
def cTuple : BN
  | [.lst xs], P => P (.d (.tup xs))
  | _, _ => False
theorem snd_tuple : SndN K (rTuple K) cTuple := fun S H xs vs P Q le dv b k => by
  unfold cTuple at b
  split at b
  · obtain ⟨v, rfl, a, ws, rfl, h1, h2⟩ := dv.one
    exact ⟨a, ws, rfl, .inl ⟨SqL.of h1, fun l hl => k.tup l ws _ hl b h2⟩⟩
  · exact b.elim
/-! ### methods of a text without arguments -/
def pM0 (b : Tx → (R → Prop) → Prop) (pa : PTE) : PTE := fun A P Y => pa A (fun y1 A1 => match y1 with
  | .d (.str a) => b a fun z => P z A1
  | _ => False) Y
def Snd0 (K : PySem.W.Frag) (r : V → List V → Hp → VK → Prop) (b : Tx → (R → Prop) → Prop) : Prop := ∀ (S H : Hp) (a : Tx) (P : R → Prop) (Q : VK), Le S H → b a P → Kont K S H P Q → r (.str (st a)) [] H Q
theorem km0 {ta : TE} {id : String} {name : Str} {o : Expr} {pa : PTE} {apos pos : Pos} {r : V → List V → Hp → VK → Prop} {b : Tx → (R → Prop) → Prop} (slot : Slot "str" name id) (ty : typeOf (.builtin id) = pure (.type "method_descriptor")) (rule : MtR X id r) (hr : Snd0 K r b)
    (ha : DE X E o ta pa) (hK : X.K = K := by rfl) (hbase : attributeBase o name X.env (eval o X.env) = eval o X.env := by rfl) (hline : (apos.endLine == pos.line) = true := by rfl) :
    DE X E (.Call (.Attribute o name apos) [] [] pos) (tM0 r ta) (pM0 b pa) := by
  subst hK
  refine ⟨pe_m0 slot ty rule ha.pe hbase hline, fun B σ H A P Y Q rel p q xq => ?_⟩
  refine ha.sim B σ H A _ Y _ rel p (fun y1 A1 v1 H1 p1 res => ?_) xq
  split at p1
  · rename_i a
    obtain ⟨t, S, ρ, h, s, k⟩ := res
    cases DR.str_of k
    exact ⟨⟨_, rfl⟩, hr S H1 a _ Q h.le p1 (Now.kont ⟨h, s⟩ fun z v H' pz rz => q z A1 v H' pz rz)⟩
  · exact p1.elim
def upT (l : Tx) : Tx := l.map up1
def bUpper (a : Tx) (P : R → Prop) : Prop := a.all (fun c => decide (c < 128)) = true ∧ a.length ≤ 5592405 ∧ P (.d (.str (upT a)))
theorem snd_upper : Snd0 K (fun x xs H Q => ∃ a, x = .str a ∧ xs = [] ∧ a.length ≤ 5592405 ∧ Q (.str (Txt.upper a)) H) bUpper := fun S H a P Q le b k => by
  obtain ⟨h1, h2, h3⟩ := b
  refine ⟨_, rfl, rfl, by rw [st_len]; exact h2, ?_⟩
  have e : Txt.upper (st a) = st (upT a) := by
    rw [upper_ascii fun c hc => of_decide_eq_true (List.all_eq_true.mp h1 c (by rw [st_tl] at hc; exact hc))]
    show (⟨(a.toArray).map up1⟩ : Str) = ⟨(a.map up1).toArray⟩
    rw [List.map_toArray]
  rw [e]
  exact k.dat _ _ h3 (.str _)
/-! ### list(range(n)) -/
def pLr1 (pa : PTE) : PTE := fun A P Y => pa A (fun y1 A1 => match y1 with
  | .d (.int j) => RgOk 0 j ∧ P (.o (.lst (rgD 0 j))) A1
  | _ => False) Y
theorem de_lr1 {a : Expr} {ta : TE} {pa : PTE} {p p2 pos pos2 : Pos} (hc : X.calm = true) (hg : Gl X "list") (hm : X.mg "list" = none) (hg2 : Gl X "range") (hm2 : X.mg "range" = none) (ha : DE X E a ta pa)
    (na : starEach [a] X.env = (false, eval a X.env) :: starEach [] X.env := by rfl) (ne : starEach [.Call (.Name "range" p2) [a] [] pos2] X.env = (false, eval (.Call (.Name "range" p2) [a] [] pos2) X.env) :: starEach [] X.env := by rfl) :
    DE X E (.Call (.Name "list" p) [.Call (.Name "range" p2) [a] [] pos2] [] pos) (tLstRg (tRg1 ta)) (pLr1 pa) := by
  refine ⟨pe_listRg hc hg hm (prg_1 hg2 hm2 ha.pe na) ne, fun B σ H A P Y Q rel p q xq => ?_⟩
  refine ha.sim B σ H A _ Y _ rel p (fun y1 A1 v1 H1 p1 res => ?_) xq
  split at p1
  · rename_i j
    obtain ⟨t, S, ρ, h, s, k⟩ := res
    cases DR.int_of k
    obtain ⟨ok, p1⟩ := p1
    exact ⟨j, rfl, ok, fun l hl => (Now.kont ⟨h, s⟩ (P := fun z => P z A1) fun z v H' pz rz => q z A1 v H' pz rz).lst l _ _ hl p1 (rgV_DRs 0 j)⟩
  · exact p1.elim
end
end PD

/-! PH, first part: owned lists lent to what only reads. -/
namespace PD
open PySem PySem.Spec PyProof.Rows L2

def scalD : D → Bool
  | .non => true
  | .bl _ => true
  | .int _ => true
  | .str _ => true
  | _ => false
theorem DR.scal {K : PySem.W.Frag} {S S' : Hp} {v : V} {x : D} (h : DR K S v x) (s : scalD x = true) : DR K S' v x := by
  cases x with
  | non => cases h; exact .non
  | bl b => cases h; exact .bl b
  | int i => cases h; exact .int i
  | str l => cases h; exact .str l
  | _ => cases s
def borE (M : List (Option O)) : AV → AV
  | .p k => (match M[k]? with
    | some (some (.lst xs)) => .d (.lst xs)
    | _ => .un)
  | x => x
open Classical in
/-- the stable data and the owned lists -/
noncomputable def borS (t : Nat → Addr) (S : Hp) (M : List (Option O)) (H : Hp) : Hp := fun a => if ∃ k xs, M[k]? = some (some (.lst xs)) ∧ a = t k then H a else S a
section
variable {K : PySem.W.Frag} {B : Bas} {t : Nat → Addr} {S : Hp} {r : Addr → Lb} {M : List (Option O)} {H : Hp}
theorem borS_lst (h : HR K B t S r M H) {k : Nat} {xs : List D} (e : M[k]? = some (some (.lst xs))) : r (t k) = some (some k) ∧ ∃ vs, H (t k) = some (.lst vs) ∧ borS t S M H (t k) = some (.lst vs) ∧ DRs K S vs xs := by
  obtain ⟨h1, vs, h2, h3⟩ := h.obj k _ e
  refine ⟨h1, vs, h2, ?_, h3⟩
  unfold borS
  rw [if_pos ⟨k, xs, e, rfl⟩]
  exact h2
theorem borS_le (h : HR K B t S r M H) : Le S (borS t S M H) := fun a u e => .inl (by
  unfold borS
  rw [if_neg ?_]
  · exact e
  · rintro ⟨k, xs, e1, rfl⟩
    rw [(h.sep _ _ (borS_lst h e1).1).1] at e
    cases e)
/-- where it differs from S a list stands -/
theorem borS_cases (h : HR K B t S r M H) (a : Addr) : borS t S M H a = S a ∨ ∃ vs, H a = some (.lst vs) ∧ borS t S M H a = some (.lst vs) := by
  unfold borS
  by_cases c : ∃ k xs, M[k]? = some (some (.lst xs)) ∧ a = t k
  · obtain ⟨k, xs, e, rfl⟩ := id c
    obtain ⟨_, vs, h2, _, _⟩ := borS_lst h e
    right
    exact ⟨vs, h2, by rw [if_pos c]; exact h2⟩
  · left
    rw [if_neg c]
def lentB (t : Nat → Addr) (S' : Hp) (H : Hp) : Bas := ⟨H, fun _ => False, S', t, 0⟩
theorem HR.lend (h : HR K B t S r M H) : HR K (lentB t (borS t S M H) H) t (borS t S M H) (fun _ => none) [] H where
  le := fun a u e => by
    rcases borS_cases h a with q | ⟨vs, q1, q2⟩
    · rw [q] at e
      exact h.le a u e
    · rw [q2] at e
      cases e
      exact .inl q1
  sep := fun a l e => by cases e
  lab := fun a n e => by cases e
  obj := fun n o e => by simp at e
  keep := fun a o e _ => .inl e
  own := fun a l e => by cases e
  stb := fun a e => .inl e
  bas := fun a o e => e
  th := fun n hn => rfl
  nl := Nat.le_refl 0
theorem SR.lend {env : List AV} {σ : L2.St} (h : HR K B t S r M H) (s : SR K S t M.length env σ) : SR K (borS t S M H) t 0 (env.map (borE M)) σ where
  len := by rw [List.length_map]; exact s.len
  ok := fun i av e => by
    rw [List.getElem?_map] at e
    obtain ⟨a0, e0, rfl⟩ := Option.map_eq_some_iff.mp e
    have q := s.ok i a0 e0
    cases a0 with
    | un => trivial
    | d x =>
      obtain ⟨v, h1, h2⟩ := q
      exact ⟨v, h1, h2.mono (borS_le h)⟩
    | p k =>
      obtain ⟨h1, h2⟩ := q
      show AVok K _ t 0 (match M[k]? with
        | some (some (.lst xs)) => .d (.lst xs)
        | _ => .un) _
      split
      · rename_i xs ek
        obtain ⟨_, vs, _, h4, h5⟩ := borS_lst h ek
        exact ⟨_, h1, .lst h4 (h5.mono (borS_le h))⟩
      · trivial
/-- back: what was lent stands as it stood -/
theorem HR.given (h : HR K B t S r M H) {t' : Nat → Addr} {S' : Hp} {r' : Addr → Lb} {M' : List (Option O)} {H' : Hp} (h' : HR K (lentB t (borS t S M H) H) t' S' r' M' H') : HR K B t S r M H' := by
  have kp : ∀ a o, H a = some o → H' a = some o ∨ (isD o = true ∧ S a = some o ∧ ∃ od, H' a = some (.frz od o)) := fun a o e => by
    rcases h'.keep a o e (fun z => z) with q | ⟨q1, q2, q3⟩
    · exact .inl q
    · have q2 : borS t S M H a = some o := q2
      rcases borS_cases h a with z | ⟨vs, z1, z2⟩
      · exact .inr ⟨q1, by rw [← z]; exact q2, q3⟩
      · rw [z2] at q2
        cases q2
        cases q1
  have ow : ∀ a l, r a = some l → H' a = H a := fun a l e => by
    obtain ⟨s1, s2⟩ := h.sep a l e
    cases q : H a with
    | none => exact absurd q s2
    | some o =>
      rcases kp a o q with z | ⟨_, z, _⟩
      · exact z
      · rw [s1] at z
        cases z
  exact
    { le := fun a u e => by
        rcases h.le a u e with q | ⟨q1, od, q2⟩
        · rcases kp a u q with z | ⟨z1, _, z3⟩
          · exact .inl z
          · exact .inr ⟨z1, z3⟩
        · rcases kp a _ q2 with z | ⟨z1, _, _⟩
          · exact .inr ⟨q1, od, z⟩
          · cases z1
      sep := fun a l e => ⟨(h.sep a l e).1, by rw [ow a l e]; exact (h.sep a l e).2⟩
      lab := h.lab
      obj := fun n o e => (h.obj n o e).move (Le.refl S) fun b hb => ow b _ hb
      keep := fun a o e nd => by
        rcases h.keep a o e nd with q | ⟨q1, q2, od, q3⟩
        · rcases kp a o q with z | ⟨z1, z2, z3⟩
          · exact .inl z
          · refine .inr ⟨z1, ?_, z3⟩
            rcases h.stb a (by rw [z2]; simp) with w | w | w
            · cases y : B.S a with
              | none => exact absurd y w
              | some o' =>
                have := h.bas a o' y
                rw [z2] at this
                exact this.symm
            · rw [w] at e; cases e
            · exact absurd w nd
        · rcases kp a _ q3 with z | ⟨z1, _, _⟩
          · exact .inr ⟨q1, q2, od, z⟩
          · cases z1
      own := h.own
      stb := h.stb
      bas := h.bas
      th := h.th
      nl := h.nl }
end
/-- while this is asked, the owned lists are data; the answer is a plain one -/
def pBor (p : PTE) : PTE := fun A P Y => p ⟨A.env.map (borE A.M), []⟩ (fun y _ => match y with
  | .d x => scalD x = true ∧ P (.d x) A
  | _ => False) (fun e _ => Y e A)
theorem DE.bor {X : Cx} {E : WX} {e : Expr} {t : TE} {p : PTE} (h : DE X E e t p) : DE X E e t (pBor p) := ⟨h.pe, fun B σ H A P Y Q ⟨t0, S, r, hr, sr⟩ x q xq => by
  refine h.sim (lentB t0 (borS t0 S A.M H) H) σ H _ _ _ Q ⟨t0, _, _, hr.lend, sr.lend hr⟩ x (fun y A' v H' py res => ?_) (fun c A' H' pc rel => ?_)
  · obtain ⟨t', S', r', h', s', k'⟩ := res
    cases y with
    | d x =>
      obtain ⟨hs, py⟩ := py
      exact q (.d x) A v H' py ⟨t0, S, r, hr.given h', sr, DR.scal (K := X.K) (S := S') k' hs⟩
    | p n => exact py.elim
    | o o => exact py.elim
  · obtain ⟨t', S', r', h', s'⟩ := rel
    exact xq c A H' pc ⟨t0, S, r, hr.given h', sr⟩⟩
end PD

/-! PK, ninth part: sorted(set(a list of texts, or of ints)), of any length that the model scans. -/
namespace PD
open PySem PySem.Spec PyProof.Rows L2
section
variable {P : Program} {w : World} {K : Type} [DecidableEq K] {knd : PySem.KeyKind P w K} {kf : Value → K}
def GoodG (knd : PySem.KeyKind P w K) (e : Int × Value) : Prop := (∃ k, knd.is k e.2 = true ∧ e.1 = knd.hash k) ∧ e.2.scannable = true
/-- the set at a: its members' keys are ks, at most m of them; its table rises and can be walked -/
def SetG (knd : PySem.KeyKind P w K) (kf : Value → K) (h : Heap) (a : Addr) (ks : List K) (m : Nat) : Prop :=
  ∃ o es ep t, h.get? a = some o ∧ o.ExactSet ∧ o.data = .set es ep t ∧ (∀ e ∈ es.toList, GoodG knd e) ∧ (es.toList.map fun e => kf e.2).Nodup ∧ (∀ k, k ∈ ks ↔ k ∈ es.toList.map fun e => kf e.2) ∧
    es.size < scanBound ∧ t.fits es.size = true ∧ es.size ≤ m ∧ Ris t.place.toList ∧ (w.params.followText "set-order" = true ∨ t.led = true)
theorem SetG.at {h h' : Heap} {a : Addr} {ks : List K} {m : Nat} (R : SetG knd kf h a ks m) (k : ∀ o, h.get? a = some o → h'.get? a = some o) : SetG knd kf h' a ks m := by
  obtain ⟨o, es, ep, t, ho, r⟩ := R
  exact ⟨o, es, ep, t, k o ho, r⟩
variable (hkf : ∀ k v, knd.is k v = true → kf v = k)
include hkf
theorem goodG_is {e : Int × Value} (g : GoodG knd e) (k : K) : knd.is k e.2 = true ↔ kf e.2 = k := by
  obtain ⟨⟨k0, h1, _⟩, _⟩ := g
  refine ⟨fun h => hkf _ _ h, fun h => ?_⟩
  have := hkf _ _ h1
  rw [← h, this]
  exact h1
theorem goodG_mem {l : List (Int × Value)} (g : ∀ e ∈ l, GoodG knd e) (k : K) : (k ∈ l.map fun e => kf e.2) ↔ ∃ e ∈ l, knd.is k e.2 = true := by
  rw [List.mem_map]
  constructor
  · rintro ⟨e, he, q⟩
    exact ⟨e, he, (goodG_is hkf (g e he) k).2 q⟩
  · rintro ⟨e, he, q⟩
    exact ⟨e, he, (goodG_is hkf (g e he) k).1 q⟩
omit hkf
variable {A : Around} {E : Value → Shared → Prop} {s : Shared} {a : Addr}
theorem setG_tail {g : Bool → Sem Unit} (hg : ∀ (b : Bool) (s₁ : Shared) (Q' : Unit → Shared → Prop), Q' () s₁ → wpAny (model P w) A (g b) Q' E s₁)
    {o : Obj} {es : Array (Int × Value)} {ep : Nat} {t : SetTable} (ho : s.heap.get? a = some o) (hex : o.ExactSet) (hd : o.data = .set es ep t)
    {es1 : Array (Int × Value)} {t2 : SetTable} {ks : List K} {m : Nat} (g1 : ∀ e ∈ es1.toList, GoodG knd e) (nd1 : (es1.toList.map fun e => kf e.2).Nodup) (m1 : ∀ k, k ∈ ks ↔ k ∈ es1.toList.map fun e => kf e.2)
    (hb1 : es1.size < scanBound) (hm : es1.size ≤ m) (hf2 : t2.fits es1.size = true) (hr : Ris t2.place.toList) (hl : w.params.followText "set-order" = true ∨ t2.led = true) {wasDummy : Bool} {R : Option Bool → Shared → Prop}
    (hR : ∀ h', Heap.SameBut a s.heap h' → SetG knd kf h' a ks m → R (some true) { s with heap := h' }) :
    wpAny (model P w) A (do
        storeSet a es1 t2
        if (!wasDummy && t2.tooFull) = true then do
            g (relayAll t2 es1 (SetTable.grown es1.size)).2.2
            storeSet a (relayAll t2 es1 (SetTable.grown es1.size)).1 (relayAll t2 es1 (SetTable.grown es1.size)).2.1
            pure (some true)
          else pure (some true)) R E s := by
  refine wpAny_bind (wpAny_storeSet_of ho hd ?_ (fits_of_scanBound hb1))
  have ho1 := store_at (es' := es1) (t' := t2) ho hd
  have sb1 := Heap.SameBut.update s.heap a (Obj.putSet es1 t2)
  split
  · have pm := relayAll_perm t2 es1 (SetTable.grown es1.size)
    have hf3 := relayAll_fits t2 es1 (SetTable.grown es1.size)
    have hr3 := relayAll_ris t2 es1 (SetTable.grown es1.size)
    have hl3 := relayAll_led t2 es1 (SetTable.grown es1.size)
    generalize relayAll t2 es1 (SetTable.grown es1.size) = Z at pm hf3 hr3 hl3 ⊢
    obtain ⟨es2, t3, gave⟩ := Z
    dsimp only at pm hf3 hr3 hl3 ⊢
    have hsz : es2.size = es1.size := by rw [← Array.length_toList, pm.length_eq, Array.length_toList]
    have hb2 : es2.size < scanBound := by rw [hsz]; exact hb1
    refine wpAny_bind (hg _ _ _ ?_)
    refine wpAny_bind (wpAny_storeSet_of ho1 rfl ?_ (fits_of_scanBound hb2))
    have ho2 := store_at (es' := es2) (t' := t3) ho1 rfl
    refine wpAny_pure (hR _ (sb1.trans (Heap.SameBut.update _ a _)) ?_)
    exact ⟨_, es2, _, t3, ho2, hex, rfl, fun e he => g1 e (pm.mem_iff.mp he), (pm.map fun e => kf e.2).nodup_iff.mpr nd1, fun k => (m1 k).trans (pm.map fun e => kf e.2).mem_iff.symm, hb2, hf3, by omega, hr3,
      hl.imp id fun z => by rw [hl3]; exact z⟩
  · exact wpAny_pure (hR _ sb1 ⟨_, es1, _, t2, ho1, hex, rfl, g1, nd1, m1, hb1, hf2, hm, hr, hl⟩)
include hkf
theorem setG_add {ks : List K} {m : Nat} {k : K} {x : Value} {Q : Bool → Shared → Prop} (R : SetG knd kf s.heap a ks m) (room : m + 1 < scanBound) (hkey : knd.is k x = true) (hsc : x.scannable = true)
    (hQ : ∀ b h', Heap.SameBut a s.heap h' → SetG knd kf h' a (ks ++ [k]) (m + 1) → Q b { s with heap := h' }) :
    wpAny (model P w) A (setAddHashed a x (knd.hash k)) Q E s := by
  obtain ⟨o, es, ep, t, ho, hex, hd, g, nd, hm, hb, hf, hn, hr, hl⟩ := R
  have hel : ElemsOf knd es.toList := fun e he => ⟨(g e he).1, (g e he).2⟩
  unfold setAddHashed setAddHashedIn
  refine wpAny_holding (wpAny_bind (wpAny_setState_of ho hd hf ?_))
  dsimp only
  rw [byScan_of hsc hb hel]
  simp only [↓reduceIte]
  unfold setAddByScan
  refine wpAny_bind ?_
  refine wpAny_bind (wpAny_rule ?_)
  refine wpAny_bind (wpAny_setScan_of hkey ho hd hf hel ?_)
  cases hfi : List.findIdx? (fun e => knd.is k e.2) es.toList with
  | some j =>
    dsimp only
    obtain ⟨hj, pj, _⟩ := List.findIdx?_eq_some_iff_getElem.mp hfi
    have hk : k ∈ es.toList.map fun e => kf e.2 := (goodG_mem hkf g k).2 ⟨es.toList[j], List.getElem_mem hj, pj⟩
    refine wpAny_pure (wpAny_pure ?_)
    exact hQ _ s.heap (Heap.SameBut.refl a s.heap) ⟨o, es, ep, t, ho, hex, hd, g, nd, fun i => by
      rw [List.mem_append, List.mem_singleton, hm i]
      exact ⟨fun z => z.elim id (fun e => e ▸ hk), .inl⟩, hb, hf, by omega, hr, hl⟩
  | none =>
    dsimp only
    have hnk : ¬ (k ∈ es.toList.map fun e => kf e.2) := fun z => by
      obtain ⟨e, he, q⟩ := (goodG_mem hkf g k).1 z
      have c := List.findIdx?_eq_none_iff.mp hfi e he
      rw [q] at c
      cases c
    have hgw : ∀ (b : Bool) {s₁ : Shared} {Q' : Unit → Shared → Prop}, Q' () s₁ → wpAny (model P w) A (match b with | true => rule "set.scan.the-table-gave-way" | false => pure ()) Q' E s₁ :=
      fun b s₁ Q' q => by cases b <;> first | exact wpAny_pure q | exact wpAny_rule q
    have pm := layNew_perm t es (knd.hash k) x
    have hf1 := layNew_fits t es (knd.hash k) x
    have hr1 := layNew_ris t es (knd.hash k) x hr
    have hl1 := layNew_led t es (knd.hash k) x
    generalize layNew t es (knd.hash k) x = Z at pm hf1 hr1 hl1 ⊢
    obtain ⟨es1, t1, wasDummy, gave⟩ := Z
    dsimp only at pm hf1 hr1 hl1 ⊢
    rw [Array.toList_push] at pm
    have pc : es1.toList.Perm ((knd.hash k, x) :: es.toList) := pm.trans (List.perm_append_singleton _ _)
    have ek : kf x = k := hkf _ _ hkey
    have pk : (es1.toList.map fun e => kf e.2).Perm (k :: es.toList.map fun e => kf e.2) := by
      have := pc.map fun e => kf e.2
      rw [List.map_cons] at this
      rw [← ek]
      exact this
    have g1 : ∀ e ∈ es1.toList, GoodG knd e := fun e he => by
      rcases List.mem_cons.mp (pc.mem_iff.mp he) with z | z
      · rw [z]; exact ⟨⟨k, hkey, rfl⟩, hsc⟩
      · exact g e z
    have nd1 : (es1.toList.map fun e => kf e.2).Nodup := pk.nodup_iff.mpr (List.nodup_cons.mpr ⟨hnk, nd⟩)
    have m1 : ∀ i, i ∈ ks ++ [k] ↔ i ∈ es1.toList.map fun e => kf e.2 := fun i => by
      rw [List.mem_append, List.mem_singleton, hm i, pk.mem_iff, List.mem_cons]
      exact Or.comm
    have hsz : es1.size = es.size + 1 := by rw [← Array.length_toList, pc.length_eq, List.length_cons, Array.length_toList]
    have hb1 : es1.size < scanBound := by omega
    have hled : w.params.followText "set-order" = true ∨ t1.led = true := hl.imp id fun z => by rw [hl1]; exact z
    have fin : ∀ h', Heap.SameBut a s.heap h' → SetG knd kf h' a (ks ++ [k]) (m + 1) → Q true { s with heap := h' } := fun h' sb r => hQ _ h' sb r
    refine wpAny_bind (hgw _ ?_)
    split
    · refine wpAny_bind ?_
      rw [hashByValue_scannable 8 hsc]
      refine wpAny_pure ?_
      refine setG_tail (m := m + 1) ?_ ho hex hd g1 nd1 m1 hb1 (by omega) ?_ ?_ ?_ ?_
      · intro b s₁ Q' q; cases b <;> first | exact wpAny_pure q | exact wpAny_rule q
      · first | (split <;> first | exact hf1 | exact SetTable.fits_plain_off hf1) | exact hf1
      · first | (split <;> exact hr1) | exact hr1
      · first | (split <;> exact hled) | exact hled
      · intro h' sb r; dsimp only; exact wpAny_pure (fin h' sb r)
    · refine wpAny_bind (wpAny_pure ?_)
      simp only [↓reduceIte]
      refine setG_tail (m := m + 1) ?_ ho hex hd g1 nd1 m1 hb1 (by omega) hf1 hr1 hled ?_
      · intro b s₁ Q' q; cases b <;> first | exact wpAny_pure q | exact wpAny_rule q
      · intro h' sb r; dsimp only; exact wpAny_pure (fin h' sb r)
end
end PD

/-! PK, tenth part: set(a list), sorted(set(a list)). -/
namespace PD
open PySem PySem.Spec PyProof.Rows L2
section
variable {P : Program} {w : World} {K : Type} [DecidableEq K] {knd : PySem.KeyKind P w K} {kf : Value → K} (hkf : ∀ k v, knd.is k v = true → kf v = k)
variable {A : Around} {E : Value → Shared → Prop} {s : Shared}
theorem setG_new {h : Heap} {a : Addr} {ks : List K} {m : Nat} (hk : ks = []) (ho : h.get? a = some { cls := .type "set", dict := none, data := .set #[] 0 (.fresh 0 0 (!w.params.followText "set-order")) }) : SetG knd kf h a ks m :=
  ⟨_, #[], 0, _, ho, ⟨rfl, rfl, rfl⟩, rfl, (fun e he => by simp at he), (by simp), (fun k => by simp [hk]), (by decide), (by rfl), Nat.zero_le _, List.Pairwise.nil, by
    show _ ∨ (!w.params.followText "set-order") = true
    cases w.params.followText "set-order"
    · exact .inr rfl
    · exact .inl rfl⟩
include hkf
theorem setG_update {I : Addr} {fp wr : List Addr} {G : Array GenState → Array GenState → Prop} {n : Nat} {Pv : Nat → Value → Prop} {St : Nat → Shared → Prop} {R : Result → Shared → Prop}
    (W : WalksS P w A.in1 I fp wr G n Pv St) (S : Addr) (hSf : S ∉ fp) (ns : List K) (hn : n = ns.length) (hb : ns.length + 1 < scanBound) (hval : ∀ i v, Pv i v → ∃ k, ns[i]? = some k ∧ knd.is k v = true ∧ v.scannable = true) :
    ∀ (k i : Nat) (s : Shared), n - i = k → i ≤ n → St i s → SetG knd kf s.heap S (ns.take i) i →
      (∀ s', Moved (S :: wr) G s s' → SetG knd kf s'.heap S ns n → R (.ok (.ret .none)) s') →
      codeAny (model P w) A (.builtin "set.update.loop" ⟨[.ref S, .ref I], []⟩) R s := by
  have hSw : S ∉ wr := fun h => hSf (W.sub _ h)
  have hsub : ∀ b ∈ wr, b ∈ S :: wr := fun b hb => List.mem_cons_of_mem _ hb
  intro k
  induction k with
  | zero =>
    intro i s hk' hi hst hS hR
    have hin : i = n := by omega
    subst hin
    refine codeAny_builtin F.entry_set_update_loop ?_
    rw [Around.under_plainId F.plain_set_update_loop _]
    show wpAny _ A.in1 (pyNext (.ref I) >>= _) _ _ s
    refine wpAny_bind (W.done s _ _ hst fun s' hm => ?_)
    show wpAny _ A.in1 (ret Value.none) _ _ s'
    have e : ns.take i = ns := List.take_of_length_le (by omega)
    rw [e] at hS
    exact wpAny_pure (hR s' (hm.mono hsub) (hS.at fun o e => hm.heap S o hSw e))
  | succ k ih =>
    intro i s hk' hi hst hS hR
    have hlt : i < n := by omega
    refine codeAny_builtin F.entry_set_update_loop ?_
    rw [Around.under_plainId F.plain_set_update_loop _]
    show wpAny _ A.in1 (pyNext (.ref I) >>= _) _ _ s
    refine wpAny_bind (W.item i s _ _ hlt hst fun v s' hP hst' hm => ?_)
    obtain ⟨z, hz, hzk, hsc⟩ := hval i v hP
    have hS' : SetG knd kf s'.heap S (ns.take i) i := hS.at fun o e => hm.heap S o hSw e
    show wpAny _ A.in1 (holding [v] (setAdd S v) >>= _) _ _ s'
    refine wpAny_bind (wpAny_holding ?_)
    unfold setAdd
    refine wpAny_holding ?_
    refine wpAny_bind (knd.pyHash hzk ?_)
    refine setG_add hkf (s := { s' with toks := s'.toks + 1 }) hS' (by omega) hzk hsc fun b h' hsb hS2 => ?_
    have hS3 : SetG knd kf h' S (ns.take (i + 1)) (i + 1) := by
      rw [List.take_add_one, hz]
      exact hS2
    refine wpAny_pure ⟨plainId_quiet F.plain_set_update_loop _, ih (i + 1) _ (by omega) hlt (W.frame _ s' _ _ hst' (Nat.le_succ _) fun b hb o e => ?_) hS3 fun s'' hm'' hS'' => ?_⟩
    · rw [hsb.2 b (fun h : b = S => hSf (by rw [← h]; exact hb))]; exact e
    · refine hR s'' (Moved.trans W.gtrans ((hm.mono hsub).then_heap (Nat.le_succ _) fun b o hb e => ?_) hm'') hS''
      rw [hsb.2 b (fun h : b = S => hb (by rw [h]; exact List.mem_cons_self))]; exact e
theorem call_setG {l : Addr} {items : Array Value} (ns : List K) {Q : Value → Shared → Prop} (hh : A.handled = none) (hl : s.heap.IsList l items) (hit : ∀ (i : Nat) (v : Value), items[i]? = some v → ∃ k, ns[i]? = some k ∧ knd.is k v = true ∧ v.scannable = true) (hisz : items.size = ns.length) (hb : ns.length + 1 < scanBound)
    (h : ∀ (h' : Heap) (tk : Nat), SetG knd kf h' s.heap.objs.size ns ns.length → (∀ b o, s.heap.get? b = some o → h'.get? b = some o) → Q (.ref s.heap.objs.size) { s with heap := h', toks := tk }) :
    wpAny (model P w) A (call (.type "set") [.ref l]) Q E s := by
  obtain ⟨c, tl, hmro⟩ := F.called_set.mro
  have hmade := F.called_set.made
  have hsub := F.called_set.sub
  refine wpAny_call (codeAny_of_tree ?_)
  show wpAny _ _ (callAny (.type "set") _) _ _ _
  refine wpAny_pure ⟨Code.quiet_builtin _ (by decide +kernel), codeAny_builtin F.entry_type_call ?_⟩
  rw [Around.under_plain (weight_type_call_type "set" [.ref l] []) rfl]
  have h1 := F.called_set.notType
  have h2 := F.called_set.canCreate
  have hct := F.typeCall_set_1 (.ref l)
  repeat (any_goals (first | assumption | wp_step))
  refine codeAny_mono (code_set_led1 (.ref l) (E := E) (Q₁ := fun obj s₁ => obj = .ref s.heap.objs.size ∧ s₁ = { s with heap := s.heap.push { cls := .type "set", dict := none, data := .set #[] 0 (.fresh 0 0 (!w.params.followText "set-order")) } }) ⟨rfl, rfl⟩) fun r s₁ hr => ?_
  cases r with
  | error e => exact hr
  | ok fl =>
    cases fl with
    | ret obj =>
      obtain ⟨rfl, rfl⟩ := hr
      have hS : (s.heap.push { cls := .type "set", dict := none, data := .set #[] 0 (.fresh 0 0 (!w.params.followText "set-order")) }).get? s.heap.objs.size = some { cls := .type "set", dict := none, data := .set #[] 0 (.fresh 0 0 (!w.params.followText "set-order")) } := Heap.get?_push_size _ rfl
      have hT : Shared.TypeIs { s with heap := s.heap.push { cls := .type "set", dict := none, data := .set #[] 0 (.fresh 0 0 (!w.params.followText "set-order")) } } (.ref s.heap.objs.size) "set" := ⟨_, hS, rfl⟩
      have hli := F.called_set.init.lookup
      have hbi := F.called_set.init.bind (.ref s.heap.objs.size)
      repeat (any_goals (first | assumption | wp_step))
      refine codeAny_mono (codeAny_call_builtin (R := wants (fun r s₂ => r = .none ∧ ∃ h' tk, s₂ = { s with heap := h', toks := tk } ∧ SetG knd kf h' s.heap.objs.size ns ns.length ∧
          (∀ b o, s.heap.get? b = some o → h'.get? b = some o)) E) F.called_set.init.plain F.entry_set_init (check_set_init_1 hT ?_)) fun r₂ s₂ hr₂ => ?_
      · obtain ⟨ol, hol, hcl, nl, hdl⟩ := hl
        obtain ⟨ocls, odict, odata, oslots⟩ := ol
        simp only at hcl hdl
        subst hcl; subst hdl
        have hol' : (s.heap.push { cls := .type "set", dict := none, data := .set #[] 0 (.fresh 0 0 (!w.params.followText "set-order")) }).get? l = some { cls := .type "list", dict := odict, data := .seq items nl, slots := oslots } := Heap.get?_push_of_some _ hol
        have hsls := F.sub_list_set
        have hslf := F.sub_list_frozenset
        have hne : (Value.type "list" == Value.type "dict") = false := by decide
        have hl1 : (s.heap.push { cls := .type "set", dict := none, data := .set #[] 0 (.fresh 0 0 (!w.params.followText "set-order")) }).IsList l items := ⟨_, hol', rfl, nl, rfl⟩
        unfold Builtin.«set.__init__» noKeywords Builtin.Frozenset.updateFrom
        generalize hPI : pyIter = PI
        wp_walk
        subst hPI
        refine wpAny_pyIter_list hl1 ?_
        refine wpAny_bind (wpAny_runValue ?_)
        have hlS : l < s.heap.objs.size := Heap.lt_size hol
        have hh3 : A.in1.in1.in1.handled = none := by simp [hh]
        have hneI : l ≠ (s.heap.push { cls := .type "set", dict := none, data := .set #[] 0 (.fresh 0 0 (!w.params.followText "set-order")) }).objs.size := by
          rw [Heap.size_push]; exact Nat.ne_of_lt (Nat.lt_succ_of_lt hlS)
        have hSf : s.heap.objs.size ∉ [(s.heap.push { cls := .type "set", dict := none, data := .set #[] 0 (.fresh 0 0 (!w.params.followText "set-order")) }).objs.size, l] := by
          rw [Heap.size_push]; simp only [List.mem_cons, List.mem_singleton, List.not_mem_nil, or_false, not_or]
          exact ⟨Nat.ne_of_lt (Nat.lt_succ_self _), Nat.ne_of_gt hlS⟩
        refine setG_update hkf ((Walks.list hh3 _ l hneI items).toS) s.heap.objs.size
          hSf ns hisz hb hit (items.size - 0) 0 _ (by omega) (Nat.zero_le _)
          ⟨⟨_, Heap.get?_push_size _ rfl, rfl, rfl⟩, (hl1.push _)⟩ ?hS0 ?hR
        case hS0 =>
          have hget : ((s.heap.push { cls := .type "set", dict := none, data := .set #[] 0 (.fresh 0 0 (!w.params.followText "set-order")) }).push { cls := .type "list_iterator", data := .fields #[.ref l, .int 0 0] }).get? s.heap.objs.size
              = some { cls := .type "set", dict := none, data := .set #[] 0 (.fresh 0 0 (!w.params.followText "set-order")) } := Heap.get?_push_of_some _ hS
          exact setG_new rfl hget
        case hR =>
          intro s' hm hS'
          obtain ⟨h', g2, d', tk', os'⟩ := s'
          have eg : g2 = s.gens := hm.gens
          have ed : d' = s.drawn := hm.drawn
          have eo : os' = s.os := hm.os
          subst eg; subst ed; subst eo
          show wpAny _ _ _ _ _ _
          refine wpAny_pure ?_
          show wpAny _ _ (ret Value.none) _ _ _
          rw [hisz] at hS'
          refine wpAny_pure ⟨rfl, h', tk', rfl, hS', fun b o e => ?_⟩
          have hb0 : b < s.heap.objs.size := Heap.lt_size e
          have hb1 : b ≠ s.heap.objs.size := Nat.ne_of_lt hb0
          have hb2 : b ≠ (s.heap.push { cls := .type "set", dict := none, data := .set #[] 0 (.fresh 0 0 (!w.params.followText "set-order")) }).objs.size := by
            rw [Heap.size_push]; exact Nat.ne_of_lt (Nat.lt_succ_of_lt hb0)
          exact hm.heap b o (by simp only [List.mem_cons, List.mem_singleton, List.not_mem_nil, or_false, not_or]; exact ⟨hb1, hb2⟩) (Heap.get?_push_of_some _ (Heap.get?_push_of_some _ e))
      · cases r₂ with
        | error e => exact hr₂
        | ok fl₂ =>
          cases fl₂ with
          | ret r =>
            obtain ⟨rfl, h', tk, rfl, hS', hk'⟩ := hr₂
            repeat (any_goals (first | assumption | wp_step))
            exact h _ _ hS' hk'
          | _ => exact hr₂.elim
    | _ => exact hr.elim
end
end PD

/-! PK, eleventh part: sorted(set(xs)) and zip(xs, ys) in the layer. -/
namespace PD
open PySem PySem.Spec PyProof.Rows L2
def kfM : Value → Key
  | .int i _ => .inl i
  | .str x _ => .inr x
  | _ => .inl 0
theorem kfM_is {P : Program} {w : World} : ∀ k v, (mixKind P w).is k v = true → kfM v = k := fun k v h => by
  rcases keyIs_shape h with ⟨i, t, rfl, rfl⟩ | ⟨x, t, rfl, rfl⟩ <;> rfl
theorem scan_of {k : Key} {v : Value} (h : keyIs k v = true) : v.scannable = true := by
  rcases keyIs_shape h with ⟨i, t, rfl, rfl⟩ | ⟨x, t, rfl, rfl⟩ <;> rfl
theorem keyIs_i (i : Int) (t : Tok) : keyIs (.inl i) (.int i t) = true := by simp [keyIs, Value.isInt]
theorem keyIs_s (x : Str) (t : Tok) : keyIs (.inr x) (.str x t) = true := by simp [keyIs, Value.isStrOf]
theorem keyIs_val {k : Key} {v : Value} (h : RelV (kV k) v) : keyIs k v = true := by
  cases k with
  | inl i => obtain ⟨t, rfl⟩ := h; exact keyIs_i i t
  | inr x => obtain ⟨t, rfl⟩ := h; exact keyIs_s x t
theorem keyIs_rel {k : Key} {v : Value} (h : keyIs k v = true) : RelV (kV k) v := by
  rcases keyIs_shape h with ⟨i, t, rfl, rfl⟩ | ⟨x, t, rfl, rfl⟩
  · exact ⟨t, rfl⟩
  · exact ⟨t, rfl⟩
theorem keys_get : ∀ {ks : List Key} {us : List Value}, Vals (ks.map kV) us → us.length = ks.length ∧ ∀ (i : Nat) (v : Value), us[i]? = some v → ∃ k, ks[i]? = some k ∧ keyIs k v = true
  | [], _, .nil => ⟨rfl, fun i v h => by simp at h⟩
  | k :: r, _, .cons a b => by
    obtain ⟨e, g⟩ := keys_get (ks := r) b
    refine ⟨by simp [e], fun i v h => ?_⟩
    cases i with
    | zero => cases h; exact ⟨k, rfl, keyIs_val a⟩
    | succ i => exact g i v h
theorem kds_of {K : PySem.W.Frag} {S : Hp} : ∀ {js : List Kd} {vs : List V}, DRs K S vs (js.map kD) → vs = (js.map kd).map kV
  | [], _, .nil => rfl
  | j :: r, _, .cons a b => by
    rw [kds_of (js := r) b]
    cases j with
    | inl i => cases a; rfl
    | inr l => cases a; rfl
theorem kds_drs {K : PySem.W.Frag} {S : Hp} : ∀ (js : List Kd), DRs K S ((js.map kd).map kV) (js.map kD)
  | [] => .nil
  | .inl i :: r => .cons (.int i) (kds_drs r)
  | .inr l :: r => .cons (.str l) (kds_drs r)
theorem pick_kds {js : List Kd} : ∀ {out : List Value}, (∀ v ∈ out, ∃ j ∈ js, keyIs (kd j) v = true) → ∃ zs : List Kd, Vals ((zs.map kd).map kV) out ∧ zs.map kd = out.map kfM ∧ ∀ z ∈ zs, z ∈ js
  | [], _ => ⟨[], .nil, rfl, fun z h => by cases h⟩
  | v :: r, h => by
    obtain ⟨zs, a, b, c⟩ := pick_kds (out := r) fun u hu => h u (by simp [hu])
    obtain ⟨j, hj, hk⟩ := h v (by simp)
    refine ⟨j :: zs, .cons (keyIs_rel hk) a, ?_, fun z hz => ?_⟩
    · rw [List.map_cons, List.map_cons, b]
      congr 1
      rcases keyIs_shape hk with ⟨i, t, e, rfl⟩ | ⟨x, t, e, rfl⟩ <;> exact e
    · rcases List.mem_cons.mp hz with rfl | hz
      · exact hj
      · exact c z hz
def tSrtSet (K : PySem.W.Frag) (te : TE) : TE := fun σ H Q => te σ H fun x H1 => ∃ (l : Addr) (js : List Kd), x = .ref l ∧ SqL K H1 l ((js.map kd).map kV) ∧ js.length ≤ 4000 ∧
  ∀ zs : List Kd, zs.Nodup → (∀ k, k ∈ zs ↔ k ∈ js) → srtOk (zs.map kD) ∧ ∀ ws p, H1 p = none → DRs K (fun _ => none) ws (srt (zs.map kD)) → Q (.ref p) (upd H1 p (.lst ws))
theorem pe_srtSet {X : Cx} {a : Expr} {ta : TE} {p p2 q pos : Pos} (hcm : X.calm = true) (hu : X.A.units + 64 < cLine) (hg : Gl X "sorted") (hm : X.mg "sorted" = none) (hg2 : Gl X "set") (hm2 : X.mg "set" = none) (ha : PE X a ta)
    (na : starEach [a] X.env = (false, eval a X.env) :: starEach [] X.env := by rfl) : PE X (.Call (.Name "sorted" p) [.Call (.Name "set" p2) [a] [] q] [] pos) (tSrtSet X.K ta) := by
  refine ⟨fun pins s σ H Q I h => ?_⟩
  refine Call_ (ld_blt I hg hm boot_sorted ?_)
  refine PyProof.Rows.callWith_builtin1 (PyProof.Rows.args_cons ?_ rfl) rfl rfl
  refine Call_ (ld_blt I hg2 hm2 boot_set ?_)
  refine PyProof.Rows.callWith_type1 (PyProof.Rows.args_cons (thn (ha.run pins s σ H _ I h) fun v s1 ⟨x, H1, I1, r1, q1⟩ => PyProof.Rows.args_nil ?_) na) na rfl
  obtain ⟨l, js, rfl, hq, hl, q1⟩ := q1
  cases r1
  obtain ⟨its, r, pl, hz⟩ := I1.list hq
  obtain ⟨hlen, hget⟩ := keys_get r
  rw [List.length_map] at hlen
  refine call_setG (knd := mixKind X.prog X.w) (kf := kfM) kfM_is (js.map kd) (I1.ok.hd hcm) pl.isList (fun i v e => ?_) (by rw [List.size_toArray, List.length_map, hlen]) (by rw [List.length_map]; unfold scanBound; omega) fun h' tk hS hk => ?_
  · obtain ⟨k, e1, e2⟩ := hget i v (by simpa using e)
    exact ⟨k, e1, e2, scan_of e2⟩
  refine PyProof.Rows.args_nil ?_
  have I2 : Inv X pins σ H1 { s1 with heap := h', toks := tk } := I1.kept hk
  obtain ⟨o, es, ep, t, ho, hex, hd, g, nd, hmm, hb, hf, hn, hr, hld⟩ := hS
  refine Calls.call_function_entry PyProof.Rows.kind_sorted PyProof.Rows.plain_sorted PyProof.Rows.entry_sorted (PyProof.Rows.args_sorted1 _) ?_
  unfold Builtin.«sorted»
  refine wpAny_bind (m := checkCount "sorted" 1 1 _) (wpAny_pure ?_)
  refine wpAny_bind (collect_set (s := { s1 with heap := h', toks := tk }) (A := X.A.in1) (I2.ok.hd hcm) ⟨o, ho, hex.1, hd⟩ hf hb hr hld fun s' out k1 hz1 g1 o1 pm => ?_)
  have hkeys : ((es.toList.map fun e => kfM e.2)).Perm (out.map kfM) := by
    have q := pm.map kfM
    rw [List.map_map] at q
    exact q.symm
  obtain ⟨zs, z1, z2, z3⟩ := pick_kds (js := js) (out := out) fun v hv => by
    obtain ⟨e, he, rfl⟩ := List.mem_map.mp (pm.mem_iff.mp hv)
    obtain ⟨⟨k, hk1, _⟩, _⟩ := g e he
    have : k ∈ js.map kd := (hmm k).mpr (List.mem_map.mpr ⟨e, he, kfM_is (P := X.prog) (w := X.w) _ _ hk1⟩)
    obtain ⟨j, hj, rfl⟩ := List.mem_map.mp this
    exact ⟨j, hj, hk1⟩
  have hnd : zs.Nodup := by
    have : (zs.map kd).Nodup := by
      rw [z2]
      exact hkeys.nodup_iff.mp nd
    rw [List.nodup_iff_pairwise_ne, List.pairwise_map] at this
    exact List.nodup_iff_pairwise_ne.mpr (this.imp fun h e => h (by rw [e]))
  have hmem : ∀ k, k ∈ zs ↔ k ∈ js := fun k => by
    refine ⟨fun h => z3 k h, fun h => ?_⟩
    have h1 : kd k ∈ zs.map kd := by
      rw [z2, ← hkeys.mem_iff, ← hmm]
      exact List.mem_map.mpr ⟨k, h, rfl⟩
    obtain ⟨j, hj, e⟩ := List.mem_map.mp h1
    rw [← kd_inj e]
    exact hj
  obtain ⟨ok, q2⟩ := q1 zs hnd hmem
  have hzl : zs.length ≤ 4000 := by
    have e1 : zs.length = out.length := by
      have := congrArg List.length z2
      rw [List.length_map, List.length_map] at this
      exact this
    have e2 : out.length = es.size := by simpa using pm.length_eq
    rw [List.length_map] at hn
    rw [e1, e2]
    exact Nat.le_trans hn hl
  have es' : s' = { s1 with heap := s'.heap, gens := s'.gens, drawn := s'.drawn, toks := s'.toks } := by
    cases s'
    cases s1
    cases o1
    rfl
  have I3 : Inv X pins σ H1 { ({ s1 with heap := h', toks := tk } : Shared) with heap := s'.heap, gens := s'.gens, drawn := s'.drawn, toks := s'.toks } :=
    Inv.call I2 (ch := []) (Un.kept k1) (I2.hok.kept k1) (by rw [g1]; exact I2.bare) (fun _ z => nomatch z)
  have es2 : ({ ({ s1 with heap := h', toks := tk } : Shared) with heap := s'.heap, gens := s'.gens, drawn := s'.drawn, toks := s'.toks } : Shared) = s' := es'.symm
  rw [es2] at I3
  have ho2 : out.length = zs.length := by
    have := congrArg List.length z2
    rw [List.length_map, List.length_map] at this
    exact this.symm
  refine wpAny_bind (wpAny_newList ?_ (by rw [ho2]; unfold sizeLine; omega))
  have I4 : Inv X pins σ H1 { s' with heap := s'.heap, toks := s'.toks } := I3
  refine wpAny_bind (wpAny_holding (wpAny_mono (sort_pushed (Q := Q) (S := fun _ => none) hu I4 (fun b u z => by cases z) z1 (kds_drs zs) ok (by rw [List.length_map, List.length_map]; unfold sizeLine; omega) q2) (fun _ s' x => ?_) fun _ _ e => e))
  exact wpAny_pure ⟨_, rfl, x⟩
/-- sorted(set(xs)): told by what must hold of any row of the members -/
def pSrtSet (p : PTE) : PTE := fun A P Y => p A (fun y A1 => match view A1.M y with
  | some (.lst xs) => ∃ js : List Kd, xs = js.map kD ∧ js.length ≤ 4000 ∧ ∀ zs : List Kd, zs.Nodup → (∀ k, k ∈ zs ↔ k ∈ js) → srtOk (zs.map kD) ∧ P (.o (.lst (srt (zs.map kD)))) A1
  | _ => False) Y
theorem de_srtSet {X : Cx} {E : WX} {K : PySem.W.Frag} {a : Expr} {ta : TE} {pa : PTE} {p p2 q pos : Pos} (hcm : X.calm = true) (hu : X.A.units + 64 < cLine) (hg : Gl X "sorted") (hm : X.mg "sorted" = none) (hg2 : Gl X "set") (hm2 : X.mg "set" = none) (ha : DE X E a ta pa) (hK : X.K = K := by rfl)
    (na : starEach [a] X.env = (false, eval a X.env) :: starEach [] X.env := by rfl) : DE X E (.Call (.Name "sorted" p) [.Call (.Name "set" p2) [a] [] q] [] pos) (tSrtSet K ta) (pSrtSet pa) := by
  subst hK
  obtain ⟨h1, h2⟩ := ha
  refine ⟨pe_srtSet hcm hu hg hm hg2 hm2 h1 na, fun B σ H A P Y Q rel k c xq => ?_⟩
  refine h2 B σ H A _ Y _ rel k (fun y A1 v H1 p1 r1 => ?_) xq
  split at p1
  · rename_i xs ez
    obtain ⟨js, rfl, hl, p1⟩ := p1
    obtain ⟨t, S, ρ, hh, ss, kk⟩ := r1
    obtain ⟨a, vs, rfl, g1, g2⟩ := (Now.mk hh ss).view kk ez
    refine ⟨a, js, rfl, ?_, hl, fun zs z1 z2 => ⟨(p1 zs z1 z2).1, fun ws p hp h => ?_⟩⟩
    · rw [← kds_of g2]
      exact SqL.of g1
    · refine c _ A1 _ _ (p1 zs z1 z2).2 ⟨t, _, _, hh.grow (H1 := upd H1 p (.lst ws)) (T := fun _ => False) (p := p) (fun b o e => ?_) (fun _ z => z.elim) hp (fun z => z) (by rw [upd_same]; simp), ss.ext (hh.grow_le (T := fun _ => False) (fun _ z => z.elim)), p, rfl, tmpT_self, ws, upd_same, ?_⟩
      · have : b ≠ p := fun z => by rw [z, hp] at e; cases e
        rw [upd_ne this]
        exact e
      · exact h.mono fun b u z => by cases z
  · exact p1.elim
/-! ### zip of two lists -/
def itZ (xs ys : List D) (i : Nat) : D := .tup [itL xs i, itL ys i]
theorem src_zip {K : PySem.W.Frag} {Hb : Hp} {t : Nat → Addr} {S : Hp} {m : Nat} {a b : Addr} {vs ws : List V} {xs ys : List D} (h1 : ∀ H, Le S H → SqL K H a vs) (h2 : DRs K S vs xs) (h3 : ∀ H, Le S H → SqL K H b ws) (h4 : DRs K S ws ys) : Src K (Itz K a b) (min xs.length ys.length) (itZ xs ys) yes t S m Hb where
  stop := fun B' t' S' r' M' H' h e _ _ => ⟨vs, ws, h1 _ (e.le.trans h.le), h3 _ (e.le.trans h.le), by rw [h2.length, h4.length]; omega⟩
  go := fun B' t' S' r' M' H' h e _ _ i hi => by
    have q : SqL K H' a vs := h1 _ (e.le.trans h.le)
    have q2 : SqL K H' b ws := h3 _ (e.le.trans h.le)
    obtain ⟨x, ex⟩ : ∃ x, vs[i]? = some x := ⟨vs[i]'(by rw [h2.length]; omega), List.getElem?_eq_getElem _⟩
    obtain ⟨y, ey⟩ : ∃ y, ws[i]? = some y := ⟨ws[i]'(by rw [h4.length]; omega), List.getElem?_eq_getElem _⟩
    refine ⟨⟨vs, ws, x, y, q, q2, ex, ey⟩, fun z H'' hy => ?_⟩
    obtain ⟨T, u, v, rfl, hT, rfl, hu, hv⟩ := hy
    have hu := hu vs q
    have hv := hv ws q2
    rw [ex] at hu
    rw [ey] at hv
    cases hu
    cases hv
    obtain ⟨d, e1, e2⟩ := h2.get ex
    obtain ⟨d', e1', e2'⟩ := h4.get ey
    have e3 : itL xs i = d := by
      unfold itL
      rw [List.getD_eq_getElem?_getD, e1]
      rfl
    have e3' : itL ys i = d' := by
      unfold itL
      rw [List.getD_eq_getElem?_getD, e1']
      rfl
    have ext : Ext t' S' M'.length t' (upd S' T (.tup [x, y])) M'.length := ⟨fun b o z => by
      have ne : b ≠ T := fun y => by rw [y, h.of_none hT] at z; cases z
      rw [upd_ne ne]
      exact z, fun _ _ => rfl, Nat.le_refl _⟩
    refine ⟨fun b o z => ?_, upd S' T (.tup [x, y]), h.stable hT _, ext, ?_⟩
    · have ne : b ≠ T := fun y => by rw [y, hT] at z; cases z
      rw [upd_ne ne]
      exact z
    · unfold itZ
      rw [e3, e3']
      exact .tup upd_same (.cons ((e2.mono e.le).mono ext.le) (.cons ((e2'.mono e.le).mono ext.le) .nil))
def pZip (q : PTA) : PTI := fun A P Y => q A (fun zs A1 => match zs with
  | [.d (.lst xs), .d (.lst ys)] => P (min xs.length ys.length) (itZ xs ys) yes A1
  | _ => False) Y
theorem di_zip {X : Cx} {E : WX} {K : PySem.W.Frag} {elts : List Expr} {kk : Nat} {tpos p pos : Pos} {e e2 : Expr} {ta : TA} {q : PTA} (hg : Gl X "zip") (hm : X.mg "zip" = none) (h : DA X E [e, e2] ta q) (hK : X.K = K := by rfl)
    (hs : starEach [e, e2] X.env = (false, eval e X.env) :: starEach [e2] X.env := by rfl) (hpl : (backTo pos (starEach [e2] X.env)).any (·.1) = false := by rfl) :
    DI X E (.Tuple elts kk tpos) (.Call (.Name "zip" p) [e, e2] [] pos) (RZ.iZipA K ta) (pZip q) := by
  subst hK
  exact ⟨RZ.pi_zipA hg hm h.pe hs hpl, fun B σ H A P Y R rel x k xq => h.sim B σ H A _ _ _ rel x (fun zs A1 vs H1 p1 h1 => by
    split at p1
    · rename_i xs ys
      obtain ⟨t, S, ρ, n, rl⟩ := h1
      obtain ⟨v, ws, rfl, d, rl⟩ := rl.uncons
      obtain ⟨w, rfl, d2⟩ := rl.one
      obtain ⟨a, us, rfl, g1, g2⟩ := DR.lst_of d
      obtain ⟨b, us2, rfl, g3, g4⟩ := DR.lst_of d2
      exact ⟨a, b, us, us2, rfl, .inl ⟨SqL.of (n.1.le.lst g1), SqL.of (n.1.le.lst g3), k _ _ _ _ _ _ p1 ⟨t, S, ρ, n, src_zip (fun H le => SqL.of (le.lst g1)) g2 (fun H le => SqL.of (le.lst g3)) g4⟩⟩⟩
    · exact p1.elim) xq⟩
end PD

/-! PK, twelfth part: the rows that sorted(set(xs)) tells. -/
namespace PD
open PySem PySem.Spec PyProof.Rows L2
/-- two strictly rising rows with the same members are one -/
theorem rise_uniq {α : Type} {lt : α → α → Prop} (irr : ∀ a b, lt a b → lt b a → False) : ∀ {xs ys : List α}, xs.Pairwise lt → ys.Pairwise lt → (∀ a, a ∈ xs ↔ a ∈ ys) → xs = ys
  | [], [], _, _, _ => rfl
  | [], b :: r, _, _, h => absurd ((h b).mpr (by simp)) (by simp)
  | a :: r, [], _, _, h => absurd ((h a).mp (by simp)) (by simp)
  | a :: r, b :: t, h1, h2, h => by
    rw [List.pairwise_cons] at h1 h2
    have e : a = b := by
      rcases List.mem_cons.mp ((h a).mp (by simp)) with e | e
      · exact e
      · rcases List.mem_cons.mp ((h b).mpr (by simp)) with e2 | e2
        · exact e2.symm
        · exact (irr _ _ (h1.1 b e2) (h2.1 a e)).elim
    subst e
    congr 1
    refine rise_uniq irr h1.2 h2.2 fun c => ?_
    constructor
    · intro hc
      rcases List.mem_cons.mp ((h c).mp (by simp [hc])) with e | e
      · subst e
        exact (irr _ _ (h1.1 _ hc) (h1.1 _ hc)).elim
      · exact e
    · intro hc
      rcases List.mem_cons.mp ((h c).mpr (by simp [hc])) with e | e
      · subst e
        exact (irr _ _ (h2.1 _ hc) (h2.1 _ hc)).elim
      · exact e
theorem int_rise : ∀ {xs ys : List Int}, xs.Pairwise (· < ·) → ys.Pairwise (· < ·) → (∀ a, a ∈ xs ↔ a ∈ ys) → xs = ys := fun h1 h2 h => rise_uniq (fun a b p q => by omega) h1 h2 h
theorem tx_rise : ∀ {xs ys : List Tx}, xs.Pairwise (· < ·) → ys.Pairwise (· < ·) → (∀ a, a ∈ xs ↔ a ∈ ys) → xs = ys := fun h1 h2 h => rise_uniq (fun a b p q => tx_asymm p q) h1 h2 h
theorem pick_inl {xs : List Int} : ∀ {zs : List Kd}, (∀ k ∈ zs, k ∈ xs.map Sum.inl) → ∃ is : List Int, zs = is.map Sum.inl
  | [], _ => ⟨[], rfl⟩
  | k :: r, h => by
    obtain ⟨is, e⟩ := pick_inl (zs := r) fun k hk => h k (by simp [hk])
    obtain ⟨i, _, e2⟩ := List.mem_map.mp (h k (by simp))
    exact ⟨i :: is, by rw [e, ← e2]; rfl⟩
theorem pick_inr {xs : List Tx} : ∀ {zs : List Kd}, (∀ k ∈ zs, k ∈ xs.map Sum.inr) → ∃ is : List Tx, zs = is.map Sum.inr
  | [], _ => ⟨[], rfl⟩
  | k :: r, h => by
    obtain ⟨is, e⟩ := pick_inr (zs := r) fun k hk => h k (by simp [hk])
    obtain ⟨i, _, e2⟩ := List.mem_map.mp (h k (by simp))
    exact ⟨i :: is, by rw [e, ← e2]; rfl⟩
theorem nodup_unmap {α β : Type} {f : α → β} {xs : List α} (h : (xs.map f).Nodup) : xs.Nodup := by
  rw [List.nodup_iff_pairwise_ne, List.pairwise_map] at h
  exact List.nodup_iff_pairwise_ne.mpr (h.imp fun h e => h (by rw [e]))
def ile (a b : Int) : Bool := decide (a ≤ b)
def srtI (xs : List Int) : List Int := xs.mergeSort ile
theorem srtI_perm (xs : List Int) : (srtI xs).Perm xs := List.mergeSort_perm xs ile
theorem srtI_strict {xs : List Int} (h : xs.Nodup) : (srtI xs).Pairwise (· < ·) := by
  have h1 : (srtI xs).Pairwise fun a b => ile a b = true := List.pairwise_mergeSort (fun a b c h1 h2 => by unfold ile at *; simp at *; omega) (fun a b => by unfold ile; simp; omega) xs
  have h2 : (srtI xs).Nodup := (srtI_perm xs).nodup_iff.mpr h
  exact h1.imp₂ (fun a b h1 h2 => by unfold ile at h1; have := of_decide_eq_true h1; omega) (List.nodup_iff_pairwise_ne.mp h2)
theorem nodup_len {α : Type} [DecidableEq α] : ∀ {zs js : List α}, zs.Nodup → (∀ k ∈ zs, k ∈ js) → zs.length ≤ js.length
  | [], _, _, _ => Nat.zero_le _
  | z :: r, js, hn, h => by
    rw [List.nodup_cons] at hn
    have h1 := nodup_len (zs := r) (js := js.erase z) hn.2 fun k hk => (List.mem_erase_of_ne (fun e => hn.1 (by rw [← e]; exact hk))).mpr (h k (by simp [hk]))
    have h2 := List.length_erase_of_mem (h z (by simp))
    have h3 := List.length_pos_of_mem (h z (by simp))
    rw [List.length_cons]
    omega
theorem set_len {α : Type} [DecidableEq α] {g : α → Kd} {xs : List α} {zs : List Kd} (hn : zs.Nodup) (hm : ∀ k, k ∈ zs ↔ k ∈ xs.map g) : (srt (zs.map kD)).length ≤ xs.length := by
  rw [srt_len, List.length_map]
  have := nodup_len hn fun k hk => (hm k).mp hk
  rwa [List.length_map] at this
theorem set_ints {xs : List Int} {zs : List Kd} (hn : zs.Nodup) (hm : ∀ k, k ∈ zs ↔ k ∈ xs.map Sum.inl) : srtOk (zs.map kD) ∧ ∃ ys : List Int, srt (zs.map kD) = ys.map D.int ∧ ys.Pairwise (· < ·) ∧ ∀ y, y ∈ ys ↔ y ∈ xs := by
  obtain ⟨is, rfl⟩ := pick_inl fun k hk => (hm k).mp hk
  have e : (is.map Sum.inl).map kD = is.map D.int := by rw [List.map_map]; rfl
  have hnd : is.Nodup := nodup_unmap hn
  rw [e]
  refine ⟨srtOk_ints, srtI is, srt_ints (srtI_perm is) (srtI_strict hnd), srtI_strict hnd, fun y => ?_⟩
  rw [(srtI_perm is).mem_iff]
  have := hm (.inl y)
  simpa using this
theorem set_texts {xs : List Tx} {zs : List Kd} (hx : ∀ x ∈ xs, okX x) (hn : zs.Nodup) (hm : ∀ k, k ∈ zs ↔ k ∈ xs.map Sum.inr) : srtOk (zs.map kD) ∧ ∃ ys : List Tx, srt (zs.map kD) = ys.map D.str ∧ ys.Pairwise (· < ·) ∧ ∀ y, y ∈ ys ↔ y ∈ xs := by
  obtain ⟨is, rfl⟩ := pick_inr fun k hk => (hm k).mp hk
  have e : (is.map Sum.inr).map kD = is.map D.str := by rw [List.map_map]; rfl
  have hnd : is.Nodup := nodup_unmap hn
  have hme : ∀ y, y ∈ is ↔ y ∈ xs := fun y => by
    have := hm (.inr y)
    simpa using this
  rw [e]
  refine ⟨srtOk_strs fun l hl => hx l ((hme l).mp hl), srtT is, srt_texts is, srtT_strict hnd, fun y => ?_⟩
  rw [(srtT_perm is).mem_iff]
  exact hme y
theorem inl_kD (xs : List Int) : xs.map D.int = (xs.map Sum.inl).map kD := by rw [List.map_map]; rfl
theorem inr_kD (xs : List Tx) : xs.map D.str = (xs.map Sum.inr).map kD := by rw [List.map_map]; rfl
end PD

/-! PK, thirteenth part: set(a text), sorted(set(a text)). -/
namespace PD
open PySem PySem.Spec PyProof.Rows L2
section
variable {P : Program} {w : World} {K : Type} [DecidableEq K] {knd : PySem.KeyKind P w K} {kf : Value → K} (hkf : ∀ k v, knd.is k v = true → kf v = k)
variable {A : Around} {E : Value → Shared → Prop} {s : Shared}
include hkf
theorem call_setS {x : Str} {t : Tok} (ns : List K) {Q : Value → Shared → Prop} (hh : A.handled = none) (hit : ∀ (i : Nat) (v : Value), SignAt x i v → ∃ k, ns[i]? = some k ∧ knd.is k v = true ∧ v.scannable = true) (hisz : x.cps.size = ns.length) (hb : ns.length + 1 < scanBound)
    (h : ∀ (h' : Heap) (tk : Nat), SetG knd kf h' s.heap.objs.size ns ns.length → (∀ b o, s.heap.get? b = some o → h'.get? b = some o) → Q (.ref s.heap.objs.size) { s with heap := h', toks := tk }) :
    wpAny (model P w) A (call (.type "set") [.str x t]) Q E s := by
  obtain ⟨c, tl, hmro⟩ := F.called_set.mro
  have hmade := F.called_set.made
  have hsub := F.called_set.sub
  refine wpAny_call (codeAny_of_tree ?_)
  show wpAny _ _ (callAny (.type "set") _) _ _ _
  refine wpAny_pure ⟨Code.quiet_builtin _ (by decide +kernel), codeAny_builtin F.entry_type_call ?_⟩
  rw [Around.under_plain (weight_type_call_type "set" [.str x t] []) rfl]
  have h1 := F.called_set.notType
  have h2 := F.called_set.canCreate
  have hct := F.typeCall_set_1 (.str x t)
  repeat (any_goals (first | assumption | wp_step))
  refine codeAny_mono (code_set_led1 (.str x t) (E := E) (Q₁ := fun obj s₁ => obj = .ref s.heap.objs.size ∧ s₁ = { s with heap := s.heap.push { cls := .type "set", dict := none, data := .set #[] 0 (.fresh 0 0 (!w.params.followText "set-order")) } }) ⟨rfl, rfl⟩) fun r s₁ hr => ?_
  cases r with
  | error e => exact hr
  | ok fl =>
    cases fl with
    | ret obj =>
      obtain ⟨rfl, rfl⟩ := hr
      have hS : (s.heap.push { cls := .type "set", dict := none, data := .set #[] 0 (.fresh 0 0 (!w.params.followText "set-order")) }).get? s.heap.objs.size = some { cls := .type "set", dict := none, data := .set #[] 0 (.fresh 0 0 (!w.params.followText "set-order")) } := Heap.get?_push_size _ rfl
      have hT : Shared.TypeIs { s with heap := s.heap.push { cls := .type "set", dict := none, data := .set #[] 0 (.fresh 0 0 (!w.params.followText "set-order")) } } (.ref s.heap.objs.size) "set" := ⟨_, hS, rfl⟩
      have hli := F.called_set.init.lookup
      have hbi := F.called_set.init.bind (.ref s.heap.objs.size)
      repeat (any_goals (first | assumption | wp_step))
      refine codeAny_mono (codeAny_call_builtin (R := wants (fun r s₂ => r = .none ∧ ∃ h' tk, s₂ = { s with heap := h', toks := tk } ∧ SetG knd kf h' s.heap.objs.size ns ns.length ∧
          (∀ b o, s.heap.get? b = some o → h'.get? b = some o)) E) F.called_set.init.plain F.entry_set_init (check_set_init_1 hT ?_)) fun r₂ s₂ hr₂ => ?_
      · have hsls := F.sub_str_set
        have hslf := F.sub_str_frozenset
        have hne : (Value.type "str" == Value.type "dict") = false := by decide
        unfold Builtin.«set.__init__» noKeywords Builtin.Frozenset.updateFrom
        generalize hPI : pyIter = PI
        wp_walk
        subst hPI
        refine wpAny_pyIter_str fun o St hW hSt => ?_
        refine wpAny_bind (wpAny_runValue ?_)
        have hh3 : A.in1.in1.in1.handled = none := by simp [hh]
        have hSf : s.heap.objs.size ∉ [(s.heap.push { cls := .type "set", dict := none, data := .set #[] 0 (.fresh 0 0 (!w.params.followText "set-order")) }).objs.size] := by
          rw [Heap.size_push]; simp only [List.mem_singleton]
          exact Nat.ne_of_lt (Nat.lt_succ_self _)
        refine setG_update hkf ((hW _ hh3).toS) s.heap.objs.size
          hSf ns hisz hb hit (x.cps.size - 0) 0 _ (by omega) (Nat.zero_le _)
          hSt ?hS0 ?hR
        case hS0 =>
          exact setG_new rfl (Heap.get?_push_of_some _ hS)
        case hR =>
          intro s' hm hS'
          obtain ⟨h', g2, d', tk', os'⟩ := s'
          have eg : g2 = s.gens := hm.gens
          have ed : d' = s.drawn := hm.drawn
          have eo : os' = s.os := hm.os
          subst eg; subst ed; subst eo
          show wpAny _ _ _ _ _ _
          refine wpAny_pure ?_
          show wpAny _ _ (ret Value.none) _ _ _
          rw [hisz] at hS'
          refine wpAny_pure ⟨rfl, h', tk', rfl, hS', fun b o e => ?_⟩
          have hb0 : b < s.heap.objs.size := Heap.lt_size e
          have hb1 : b ≠ s.heap.objs.size := Nat.ne_of_lt hb0
          have hb2 : b ≠ (s.heap.push { cls := .type "set", dict := none, data := .set #[] 0 (.fresh 0 0 (!w.params.followText "set-order")) }).objs.size := by
            rw [Heap.size_push]; exact Nat.ne_of_lt (Nat.lt_succ_of_lt hb0)
          exact hm.heap b o (by simp only [List.mem_cons, List.mem_singleton, List.not_mem_nil, or_false, not_or]; exact ⟨hb1, hb2⟩) (Heap.get?_push_of_some _ (Heap.get?_push_of_some _ e))
      · cases r₂ with
        | error e => exact hr₂
        | ok fl₂ =>
          cases fl₂ with
          | ret r =>
            obtain ⟨rfl, h', tk, rfl, hS', hk'⟩ := hr₂
            repeat (any_goals (first | assumption | wp_step))
            exact h _ _ hS' hk'
          | _ => exact hr₂.elim
    | _ => exact hr.elim
end
def tSrtSetS (K : PySem.W.Frag) (te : TE) : TE := fun σ H Q => te σ H fun x H1 => ∃ (l : Tx), x = .str (st l) ∧ l.length ≤ 4000 ∧ ∀ js : List Kd, js = l.map (fun c => Sum.inr [c]) →
  ∀ zs : List Kd, zs.Nodup → (∀ k, k ∈ zs ↔ k ∈ js) → srtOk (zs.map kD) ∧ ∀ ws p, H1 p = none → DRs K (fun _ => none) ws (srt (zs.map kD)) → Q (.ref p) (upd H1 p (.lst ws))
theorem pe_srtSetS {X : Cx} {a : Expr} {ta : TE} {p p2 q pos : Pos} (hcm : X.calm = true) (hu : X.A.units + 64 < cLine) (hg : Gl X "sorted") (hm : X.mg "sorted" = none) (hg2 : Gl X "set") (hm2 : X.mg "set" = none) (ha : PE X a ta)
    (na : starEach [a] X.env = (false, eval a X.env) :: starEach [] X.env := by rfl) : PE X (.Call (.Name "sorted" p) [.Call (.Name "set" p2) [a] [] q] [] pos) (tSrtSetS X.K ta) := by
  refine ⟨fun pins s σ H Q I h => ?_⟩
  refine Call_ (ld_blt I hg hm boot_sorted ?_)
  refine PyProof.Rows.callWith_builtin1 (PyProof.Rows.args_cons ?_ rfl) rfl rfl
  refine Call_ (ld_blt I hg2 hm2 boot_set ?_)
  refine PyProof.Rows.callWith_type1 (PyProof.Rows.args_cons (thn (ha.run pins s σ H _ I h) fun v s1 ⟨x, H1, I1, r1, q1⟩ => PyProof.Rows.args_nil ?_) na) na rfl
  obtain ⟨l, rfl, hl, q1⟩ := q1
  obtain ⟨t0, rfl⟩ := r1
  have q1 := q1 _ rfl
  have hl : (l.map fun c => (Sum.inr [c] : Kd)).length ≤ 4000 := by rw [List.length_map]; exact hl
  have hjs : (l.map fun c => (Sum.inr [c] : Kd)).length = l.length := List.length_map _
  have hget : ∀ (i : Nat) (v : Value), SignAt (st l) i v → ∃ k, ((l.map fun c => (Sum.inr [c] : Kd)).map kd)[i]? = some k ∧ keyIs k v = true := fun i v ⟨c, u, e1, e2⟩ => by
    have e1 : l[i]? = some c := by simpa [st] using e1
    refine ⟨.inr (st [c]), by rw [List.getElem?_map, List.getElem?_map, e1]; rfl, ?_⟩
    rw [e2]
    exact keyIs_s _ _
  generalize (l.map fun c => (Sum.inr [c] : Kd)) = js at q1 hl hget hjs
  refine call_setS (knd := mixKind X.prog X.w) (kf := kfM) kfM_is (js.map kd) (I1.ok.hd hcm) (fun i v e => ?_) (by rw [List.length_map, hjs]; exact st_len l) (by rw [List.length_map]; unfold scanBound; omega) fun h' tk hS hk => ?_
  · obtain ⟨k, e1, e2⟩ := hget i v e
    exact ⟨k, e1, e2, scan_of e2⟩
  refine PyProof.Rows.args_nil ?_
  have I2 : Inv X pins σ H1 { s1 with heap := h', toks := tk } := I1.kept hk
  obtain ⟨o, es, ep, t, ho, hex, hd, g, nd, hmm, hb, hf, hn, hr, hld⟩ := hS
  refine Calls.call_function_entry PyProof.Rows.kind_sorted PyProof.Rows.plain_sorted PyProof.Rows.entry_sorted (PyProof.Rows.args_sorted1 _) ?_
  unfold Builtin.«sorted»
  refine wpAny_bind (m := checkCount "sorted" 1 1 _) (wpAny_pure ?_)
  refine wpAny_bind (collect_set (s := { s1 with heap := h', toks := tk }) (A := X.A.in1) (I2.ok.hd hcm) ⟨o, ho, hex.1, hd⟩ hf hb hr hld fun s' out k1 hz1 g1 o1 pm => ?_)
  have hkeys : ((es.toList.map fun e => kfM e.2)).Perm (out.map kfM) := by
    have q := pm.map kfM
    rw [List.map_map] at q
    exact q.symm
  obtain ⟨zs, z1, z2, z3⟩ := pick_kds (js := js) (out := out) fun v hv => by
    obtain ⟨e, he, rfl⟩ := List.mem_map.mp (pm.mem_iff.mp hv)
    obtain ⟨⟨k, hk1, _⟩, _⟩ := g e he
    have : k ∈ js.map kd := (hmm k).mpr (List.mem_map.mpr ⟨e, he, kfM_is (P := X.prog) (w := X.w) _ _ hk1⟩)
    obtain ⟨j, hj, rfl⟩ := List.mem_map.mp this
    exact ⟨j, hj, hk1⟩
  have hnd : zs.Nodup := by
    have : (zs.map kd).Nodup := by
      rw [z2]
      exact hkeys.nodup_iff.mp nd
    rw [List.nodup_iff_pairwise_ne, List.pairwise_map] at this
    exact List.nodup_iff_pairwise_ne.mpr (this.imp fun h e => h (by rw [e]))
  have hmem : ∀ k, k ∈ zs ↔ k ∈ js := fun k => by
    refine ⟨fun h => z3 k h, fun h => ?_⟩
    have h1 : kd k ∈ zs.map kd := by
      rw [z2, ← hkeys.mem_iff, ← hmm]
      exact List.mem_map.mpr ⟨k, h, rfl⟩
    obtain ⟨j, hj, e⟩ := List.mem_map.mp h1
    rw [← kd_inj e]
    exact hj
  obtain ⟨ok, q2⟩ := q1 zs hnd hmem
  have hzl : zs.length ≤ 4000 := by
    have e1 : zs.length = out.length := by
      have := congrArg List.length z2
      rw [List.length_map, List.length_map] at this
      exact this
    have e2 : out.length = es.size := by simpa using pm.length_eq
    rw [List.length_map] at hn
    rw [e1, e2]
    exact Nat.le_trans hn hl
  have es' : s' = { s1 with heap := s'.heap, gens := s'.gens, drawn := s'.drawn, toks := s'.toks } := by
    cases s'
    cases s1
    cases o1
    rfl
  have I3 : Inv X pins σ H1 { ({ s1 with heap := h', toks := tk } : Shared) with heap := s'.heap, gens := s'.gens, drawn := s'.drawn, toks := s'.toks } :=
    Inv.call I2 (ch := []) (Un.kept k1) (I2.hok.kept k1) (by rw [g1]; exact I2.bare) (fun _ z => nomatch z)
  have es2 : ({ ({ s1 with heap := h', toks := tk } : Shared) with heap := s'.heap, gens := s'.gens, drawn := s'.drawn, toks := s'.toks } : Shared) = s' := es'.symm
  rw [es2] at I3
  have ho2 : out.length = zs.length := by
    have := congrArg List.length z2
    rw [List.length_map, List.length_map] at this
    exact this.symm
  refine wpAny_bind (wpAny_newList ?_ (by rw [ho2]; unfold sizeLine; omega))
  have I4 : Inv X pins σ H1 { s' with heap := s'.heap, toks := s'.toks } := I3
  refine wpAny_bind (wpAny_holding (wpAny_mono (sort_pushed (Q := Q) (S := fun _ => none) hu I4 (fun b u z => by cases z) z1 (kds_drs zs) ok (by rw [List.length_map, List.length_map]; unfold sizeLine; omega) q2) (fun _ s' x => ?_) fun _ _ e => e))
  exact wpAny_pure ⟨_, rfl, x⟩
/-- sorted(set(a text)) -/
def pSrtSetS (p : PTE) : PTE := fun A P Y => p A (fun y A1 => match y with
  | .d (.str l) => l.length ≤ 4000 ∧ ∀ zs : List Kd, zs.Nodup → (∀ k, k ∈ zs ↔ k ∈ (l.map fun c => [c]).map Sum.inr) → srtOk (zs.map kD) ∧ P (.o (.lst (srt (zs.map kD)))) A1
  | _ => False) Y
theorem de_srtSetS {X : Cx} {E : WX} {K : PySem.W.Frag} {a : Expr} {ta : TE} {pa : PTE} {p p2 q pos : Pos} (hcm : X.calm = true) (hu : X.A.units + 64 < cLine) (hg : Gl X "sorted") (hm : X.mg "sorted" = none) (hg2 : Gl X "set") (hm2 : X.mg "set" = none) (ha : DE X E a ta pa) (hK : X.K = K := by rfl)
    (na : starEach [a] X.env = (false, eval a X.env) :: starEach [] X.env := by rfl) : DE X E (.Call (.Name "sorted" p) [.Call (.Name "set" p2) [a] [] q] [] pos) (tSrtSetS K ta) (pSrtSetS pa) := by
  subst hK
  obtain ⟨h1, h2⟩ := ha
  refine ⟨pe_srtSetS hcm hu hg hm hg2 hm2 h1 na, fun B σ H A P Y Q rel k c xq => ?_⟩
  refine h2 B σ H A _ Y _ rel k (fun y A1 v H1 p1 r1 => ?_) xq
  split at p1
  · rename_i l
    obtain ⟨hl, p1⟩ := p1
    obtain ⟨t, S, ρ, hh, ss, kk⟩ := r1
    have kk : DR X.K S v (.str l) := kk
    rw [kk.str_of]
    refine ⟨l, rfl, hl, fun js ejs zs z1 z2 => ?_⟩
    have e : js = (l.map fun c => [c]).map Sum.inr := by rw [ejs, List.map_map]; rfl
    rw [e] at z2
    refine ⟨(p1 zs z1 z2).1, fun ws p hp h => ?_⟩
    refine c _ A1 _ _ (p1 zs z1 z2).2 ⟨t, _, _, hh.grow (H1 := upd H1 p (.lst ws)) (T := fun _ => False) (p := p) (fun b o e => ?_) (fun _ z => z.elim) hp (fun z => z) (by rw [upd_same]; simp), ss.ext (hh.grow_le (T := fun _ => False) (fun _ z => z.elim)), p, rfl, tmpT_self, ws, upd_same, ?_⟩
    · have : b ≠ p := fun z => by rw [z, hp] at e; cases e
      rw [upd_ne this]
      exact e
    · exact h.mono fun b u z => by cases z
  · exact p1.elim
end PD

/-! PI: a loop that sets a name anew to an object it made. -/
namespace PD
open PySem PySem.Spec PyProof.Rows L2
/-- the owner of a place, object k now being called m, what lies at m or above being let go -/
def mvL (k m : Nat) : Lb → Lb
  | some (some j) => if j = k then some (some m) else if j < m then some (some j) else none
  | x => x
theorem mvL_eq (k m i : Nat) : mvL k m (some (some i)) = if i = k then some (some m) else if i < m then some (some i) else none := rfl
theorem mvL_some {k m : Nat} {x : Lb} {l : Option Nat} (h : mvL k m x = some l) : ∃ l', x = some l' := by
  cases x with
  | none => cases h
  | some y => exact ⟨y, rfl⟩
theorem mvL_lt {k m j : Nat} {x : Lb} (h : mvL k m x = some (some j)) : j < m + 1 := by
  match x with
  | none => cases h
  | some none => cases h
  | some (some i) =>
    rw [mvL_eq] at h
    split at h
    · cases h; omega
    · split at h
      · cases h; omega
      · cases h
theorem mvL_low {k m j : Nat} (hk : m ≤ k) (hj : j < m) (x : Lb) : mvL k m x = some (some j) ↔ x = some (some j) := by
  match x with
  | none => exact ⟨fun h => (by cases h), fun h => (by cases h)⟩
  | some none => exact ⟨fun h => (by cases h), fun h => (by cases h)⟩
  | some (some i) =>
    rw [mvL_eq]
    constructor
    · intro h
      split at h
      · cases h; omega
      · split at h
        · exact h
        · cases h
    · intro h
      cases h
      rw [if_neg (by omega), if_pos hj]
theorem mvL_top {k m : Nat} (x : Lb) : mvL k m x = some (some m) ↔ x = some (some k) := by
  match x with
  | none => exact ⟨fun h => (by cases h), fun h => (by cases h)⟩
  | some none => exact ⟨fun h => (by cases h), fun h => (by cases h)⟩
  | some (some i) =>
    rw [mvL_eq]
    constructor
    · intro h
      split at h
      · rename_i e
        rw [e]
      · split at h
        · cases h; omega
        · cases h
    · intro h
      cases h
      rw [if_pos rfl]
theorem HR.mv {K : PySem.W.Frag} {B : Bas} {t : Nat → Addr} {S : Hp} {r : Addr → Lb} {M : List (Option O)} {H : Hp} (h : HR K B t S r M H) {k m : Nat} {o : O} (hm : B.n ≤ m) (hk : m ≤ k) (e : M[k]? = some (some o)) :
    HR K B (fun j => if j = m then t k else t j) S (fun a => mvL k m (r a)) (M.take m ++ [some o]) H := by
  have hkl : k < M.length := (List.getElem?_eq_some_iff.mp e).1
  have hl : (M.take m).length = m := by rw [List.length_take]; omega
  refine ⟨h.le, fun a l z => ?_, fun a j z => ?_, fun j o' z => ?_, h.keep, fun a l z => ?_, h.stb, h.bas, fun n hn => ?_, ?_⟩
  · obtain ⟨l', e'⟩ := mvL_some z
    exact h.sep a l' e'
  · have := mvL_lt z
    rw [List.length_append, hl, List.length_singleton]
    exact this
  · by_cases hj : j < m
    · rw [List.getElem?_append_left (by omega), List.getElem?_take, if_pos hj] at z
      show OOk K S _ H (if j = m then t k else t j) o'
      rw [if_neg (by omega)]
      exact (h.obj j o' z).iff fun b => (mvL_low hk hj (r b)).symm
    · have hjm : j = m := by
        have := (List.getElem?_eq_some_iff.mp z).1
        rw [List.length_append, hl, List.length_singleton] at this
        omega
      subst hjm
      rw [List.getElem?_append_right (by omega), hl, Nat.sub_self] at z
      have z : o = o' := by simpa using z
      subst z
      show OOk K S _ H (if j = j then t k else t j) o
      rw [if_pos rfl]
      exact (h.obj k o e).iff fun b => (mvL_top (r b)).symm
  · obtain ⟨l', e'⟩ := mvL_some z
    exact h.own a l' e'
  · show (if n = m then t k else t n) = B.t n
    rw [if_neg (by omega)]
    exact h.th n hn
  · rw [List.length_append, hl, List.length_singleton]
    omega
def mvE (k m : Nat) : AV → AV
  | .p j => if j = k then .p m else if j < m then .p j else .un
  | x => x
/-- the object of a slot, made in the turn, takes the place m; what else was made is let go -/
def mvBack (i m : Nat) (A : Abs) : Abs := match A.env[i]? with
  | some (.p k) => if m ≤ k then (match A.M[k]? with
    | some (some o) => ⟨A.env.map (mvE k m), A.M.take m ++ [some o]⟩
    | _ => trunc m A) else trunc m A
  | _ => trunc m A
theorem Rel.mvBack {K : PySem.W.Frag} {B : Bas} {A : Abs} {σ : L2.St} {H : Hp} (rel : Rel K B A σ H) {m : Nat} (hm : B.n ≤ m) (i : Nat) : Rel K B (mvBack i m A) σ H := by
  unfold PD.mvBack
  split
  · rename_i k _
    split
    · rename_i hk
      split
      · rename_i o e
        obtain ⟨t, S, r, h, s⟩ := rel
        have hkl : k < A.M.length := (List.getElem?_eq_some_iff.mp e).1
        have hl : (A.M.take m).length = m := by rw [List.length_take]; omega
        refine ⟨_, S, _, h.mv hm hk e, by show (A.env.map (mvE k m)).length = _; rw [List.length_map]; exact s.len, fun j av q => ?_⟩
        have q : (A.env.map (mvE k m))[j]? = some av := q
        rw [List.getElem?_map] at q
        cases q2 : A.env[j]? with
        | none => rw [q2] at q; cases q
        | some b =>
          rw [q2] at q
          have q3 : mvE k m b = av := by simpa using q
          clear q
          have ok := s.ok j b q2
          cases b with
          | un => subst q3; trivial
          | d x => subst q3; exact ok
          | p n =>
            simp only [mvE] at q3
            split at q3
            · rename_i hn
              subst hn
              subst q3
              refine ⟨?_, ?_⟩
              · show σ[j]? = some (some (V.ref (if m = m then t n else t m)))
                rw [if_pos rfl]
                exact ok.1
              · rw [List.length_append, hl, List.length_singleton]
                omega
            · split at q3
              · rename_i hn
                subst q3
                refine ⟨?_, ?_⟩
                · show σ[j]? = some (some (V.ref (if n = m then t k else t n)))
                  rw [if_neg (by omega)]
                  exact ok.1
                · rw [List.length_append, hl, List.length_singleton]
                  omega
              · subst q3; trivial
      · exact rel.trunc hm
    · exact rel.trunc hm
  · exact rel.trunc hm
def outE (n m : Nat) : AV → AV
  | .p j => if j = n then .p m else .p j
  | x => x
def outL (n m : Nat) : Lb → Lb
  | some (some j) => if j = n then some (some m) else some (some j)
  | x => x
theorem outL_eq (n m i : Nat) : outL n m (some (some i)) = if i = n then some (some m) else some (some i) := rfl
theorem outL_some {n m : Nat} {x : Lb} {l : Option Nat} (h : outL n m x = some l) : ∃ l', x = some l' := by
  cases x with
  | none => cases h
  | some y => exact ⟨y, rfl⟩
theorem outL_iff {n m j : Nat} (hn : n < m) (hj : j < m) (hne : j ≠ n) (x : Lb) : outL n m x = some (some j) ↔ x = some (some j) := by
  match x with
  | none => exact ⟨fun h => (by cases h), fun h => (by cases h)⟩
  | some none => exact ⟨fun h => (by cases h), fun h => (by cases h)⟩
  | some (some i) =>
    rw [outL_eq]
    constructor
    · intro h
      split at h
      · cases h; omega
      · exact h
    · intro h
      cases h
      rw [if_neg hne]
theorem outL_top {n m : Nat} {x : Lb} (hx : ∀ j, x = some (some j) → j < m) : outL n m x = some (some m) ↔ x = some (some n) := by
  match x with
  | none => exact ⟨fun h => (by cases h), fun h => (by cases h)⟩
  | some none => exact ⟨fun h => (by cases h), fun h => (by cases h)⟩
  | some (some i) =>
    rw [outL_eq]
    constructor
    · intro h
      split at h
      · rename_i e
        rw [e]
      · cases h
        exact absurd (hx _ rfl) (by omega)
    · intro h
      cases h
      rw [if_pos rfl]
theorem HR.out {K : PySem.W.Frag} {B : Bas} {t : Nat → Addr} {S : Hp} {r : Addr → Lb} {M : List (Option O)} {H : Hp} (h : HR K B t S r M H) {n : Nat} {o : O} (e : M[n]? = some (some o)) :
    HR K B (fun j => if j = M.length then t n else t j) S (fun a => outL n M.length (r a)) (M.set n none ++ [some o]) H := by
  have hn : n < M.length := (List.getElem?_eq_some_iff.mp e).1
  refine ⟨h.le, fun a l z => ?_, fun a j z => ?_, fun j o' z => ?_, h.keep, fun a l z => ?_, h.stb, h.bas, fun k hk => ?_, ?_⟩
  · obtain ⟨l', e'⟩ := outL_some z
    exact h.sep a l' e'
  · rw [List.length_append, List.length_set, List.length_singleton]
    obtain ⟨l', e'⟩ := outL_some z
    rw [e'] at z
    match l', e', z with
    | none, _, z => cases z
    | some i, e', z =>
      have := h.lab a i e'
      rw [outL_eq] at z
      split at z
      · cases z; omega
      · cases z; omega
  · by_cases hj : j < M.length
    · rw [List.getElem?_append_left (by rw [List.length_set]; exact hj)] at z
      by_cases hne : j = n
      · subst hne
        rw [List.getElem?_set_self hj] at z
        cases z
      · rw [List.getElem?_set_ne (fun q => hne q.symm)] at z
        show OOk K S _ H (if j = M.length then t n else t j) o'
        rw [if_neg (by omega)]
        exact (h.obj j o' z).iff fun b => (outL_iff hn hj hne (r b)).symm
    · have hjm : j = M.length := by
        have := (List.getElem?_eq_some_iff.mp z).1
        rw [List.length_append, List.length_set, List.length_singleton] at this
        omega
      subst hjm
      rw [List.getElem?_append_right (by rw [List.length_set]; exact Nat.le_refl _), List.length_set, Nat.sub_self] at z
      have z : o = o' := by simpa using z
      subst z
      show OOk K S _ H (if M.length = M.length then t n else t M.length) o
      rw [if_pos rfl]
      exact (h.obj n o e).iff fun b => (outL_top fun j hj => h.lab b j hj).symm
  · obtain ⟨l', e'⟩ := outL_some z
    exact h.own a l' e'
  · have := h.nl
    show (if k = M.length then t n else t k) = B.t k
    rw [if_neg (by omega)]
    exact h.th k hk
  · have := h.nl
    rw [List.length_append, List.length_set]
    omega
/-- the object of a slot takes a new place, ahead of a loop -/
def mvOut (i : Nat) (A : Abs) : Abs := match A.env[i]? with
  | some (.p n) => (match A.M[n]? with
    | some (some o) => ⟨A.env.map (outE n A.M.length), A.M.set n none ++ [some o]⟩
    | _ => A)
  | _ => A
theorem Rel.mvOut {K : PySem.W.Frag} {B : Bas} {A : Abs} {σ : L2.St} {H : Hp} (rel : Rel K B A σ H) (i : Nat) : Rel K B (mvOut i A) σ H := by
  unfold PD.mvOut
  split
  · rename_i n _
    split
    · rename_i o e
      obtain ⟨t, S, r, h, s⟩ := rel
      have hn : n < A.M.length := (List.getElem?_eq_some_iff.mp e).1
      refine ⟨_, S, _, h.out e, by show (A.env.map (outE n A.M.length)).length = _; rw [List.length_map]; exact s.len, fun j av q => ?_⟩
      have q : (A.env.map (outE n A.M.length))[j]? = some av := q
      rw [List.getElem?_map] at q
      cases q2 : A.env[j]? with
      | none => rw [q2] at q; cases q
      | some b =>
        rw [q2] at q
        have q3 : outE n A.M.length b = av := by simpa using q
        clear q
        have ok := s.ok j b q2
        cases b with
        | un => subst q3; trivial
        | d x => subst q3; exact ok
        | p k =>
          have hlen : (A.M.set n none ++ [some o]).length = A.M.length + 1 := by rw [List.length_append, List.length_set, List.length_singleton]
          simp only [outE] at q3
          split at q3
          · rename_i hk
            subst hk
            subst q3
            refine ⟨?_, by rw [hlen]; omega⟩
            show σ[j]? = some (some (V.ref (if A.M.length = A.M.length then t k else t A.M.length)))
            rw [if_pos rfl]
            exact ok.1
          · subst q3
            have h2 := ok.2
            refine ⟨?_, by rw [hlen]; omega⟩
            show σ[j]? = some (some (V.ref (if k = A.M.length then t n else t k)))
            rw [if_neg (by omega)]
            exact ok.1
    · exact rel
  · exact rel
/-- while, slot i being set anew in the body -/
def pWhileM (i : Nat) (t : PTT) (body : PTS) : PTS := fun P A => ∃ W : Nat → Abs → Prop, (∃ m, W m (mvOut i A)) ∧ ∀ m A', W m A' → t A' (fun b A1 => if b = true then body { P with nx := fun A2 => ∃ m', m' < m ∧ W m' (mvBack i A.M.length A2), ct := fun A2 => ∃ m', m' < m ∧ W m' (mvBack i A.M.length A2), bk := P.nx } A1 else P.nx A1) P.ex
theorem sim_whileM {K : PySem.W.Frag} {E : WX} {t : TT} {pt : PTT} {tb : TS} {pb : PTS} (i : Nat) (ht : SimT K E t pt) (hb : SimS K E tb pb) : SimS K E (tWhile t tb) (pWhileM i pt pb) := fun B σ H A P D rel x c => by
  obtain ⟨W, ⟨m0, w0⟩, ws⟩ := x
  have hm : B.n ≤ A.M.length := by
    obtain ⟨t, S, r, h, s⟩ := rel
    exact h.nl
  refine ⟨fun m σ' H' => ∃ A', W m A' ∧ Rel K B A' σ' H', ⟨m0, _, w0, rel.mvOut i⟩, fun m σ' H' ⟨A', wA, r'⟩ => ?_⟩
  refine ht B σ' H' A' _ _ _ r' (ws m A' wA) (fun b A1 H1 p1 r1 => ?_) (c.ex _)
  cases b with
  | false => exact c.nx A1 σ' H1 (by simpa using p1) r1
  | true =>
    refine ⟨fun σ2 H2 => ∃ A2, (∃ m', m' < m ∧ W m' A2) ∧ Rel K B A2 σ2 H2, fun σ2 H2 ⟨A2, ⟨m', hm, w2⟩, r2⟩ => ⟨m', hm, A2, w2, r2⟩, ?_⟩
    exact hb B σ' H1 A1 { P with nx := fun A2 => ∃ m', m' < m ∧ W m' (PD.mvBack i A.M.length A2), ct := fun A2 => ∃ m', m' < m ∧ W m' (PD.mvBack i A.M.length A2), bk := P.nx } _ r1 (by simpa using p1) ⟨fun A2 σ2 H2 p2 r2 => ⟨_, p2, r2.mvBack hm i⟩, c.rt, c.nx, fun A2 σ2 H2 p2 r2 => ⟨_, p2, r2.mvBack hm i⟩, c.ex⟩
section
variable {X : Cx} {E : WX}
theorem ds_whileM {c : Expr} {body : List Stmt} {t : TT} {pt : PTT} {tb : TS} {pb : PTS} {pos : Pos} (i : Nat) (hp : PassesOwn (model X.prog X.w) X.A X.env X.xe) (hc : DT X E c t pt) (hb : DSs X E body tb pb) : DS X E (.While c body [] pos) (tWhile t tb) (pWhileM i pt pb) := ⟨ps_while hp hc.pe hb.pe, sim_whileM i hc.sim hb.sim⟩
/-- slots forgotten at the end, objects kept -/
def pGx (ws wb : List Nat) (p : PTS) : PTS := fun P A => p { P with nx := fun A' => P.nx (wipeS ws A'), ct := fun A' => P.ct (wipeS ws A'), bk := fun A' => P.bk (wipeS wb A') } A
theorem DSs.gx {e : List Stmt} {t : TS} {p : PTS} {ws wb : List Nat} (h : DSs X E e t p) : DSs X E e t (pGx ws wb p) := ⟨h.pe, fun B σ H A P D rel x c =>
  h.sim B σ H A _ D rel x { nx := fun A' σ' H' q r => c.nx _ σ' H' q (r.wipes ws), rt := c.rt, bk := fun A' σ' H' q r => c.bk _ σ' H' q (r.wipes wb), ct := fun A' σ' H' q r => c.ct _ σ' H' q (r.wipes ws), ex := c.ex }⟩
end
end PD

/-! PIb: for, a slot being set anew in the body to an object made there. -/
namespace PD
open PySem PySem.Spec PyProof.Rows L2
def ForMP (i0 : Nat) (n : Nat) (it : Nat → D) (C : List (Option O) → Prop) (tg : PTG) (body : PTS) (P : PEnds) (A1 : Abs) : Prop := ∃ Inv : Nat → Abs → Prop, Inv 0 (mvOut i0 A1) ∧ (∀ i A', i ≤ n → Inv i A' → C A'.M) ∧
  (∀ i A', i < n → Inv i A' → ∃ env', tg (it i) A'.env = some env' ∧ body { P with nx := fun A2 => Inv (i + 1) (mvBack i0 A1.M.length A2), ct := fun A2 => Inv (i + 1) (mvBack i0 A1.M.length A2), bk := P.nx } ⟨env', A'.M⟩) ∧ (∀ A', Inv n A' → P.nx A')
def pForM (i0 : Nat) (ps : PTI) (tg : PTG) (body : PTS) : PTS := fun P A => ps A (fun n it C A1 => ForMP i0 n it C tg body P A1) P.ex
theorem pForM_eq (i0 : Nat) (ps : PTI) (tg : PTG) (body : PTS) (P : PEnds) (A : Abs) : pForM i0 ps tg body P A = ps A (fun n it C A1 => ForMP i0 n it C tg body P A1) P.ex := rfl
theorem sim_forM {K : PySem.W.Frag} {E : WX} {wi : TI} {ps : PTI} {g : TG} {tg : PTG} {ix : List Nat} {tb : TS} {pb : PTS} (i0 : Nat) (hi : SimI K E wi ps) (hg : SimG K g tg ix) (hb : SimS K E tb pb) : SimS K E (tFor wi g tb) (pForM i0 ps tg pb) := fun B σ H A P D rel x c => by
  refine hi B σ H A _ _ _ rel x (fun n it C A1 J H1 p1 ⟨t, S, ρ, nw, src⟩ => ?_) (c.ex _)
  obtain ⟨Inv, w0, iC, iS, iD⟩ := p1
  have rel0 : Rel K (baseOf t S ρ A1.M.length H1) A1 σ H1 := ⟨t, S, _, nw.h.rebase, nw.s⟩
  refine ⟨fun i m σ' H' => i + m = n ∧ ∃ A', Inv i A' ∧ Rel K (baseOf t S ρ A1.M.length H1) A' σ' H', ⟨n, by omega, mvOut i0 A1, w0, rel0.mvOut i0⟩, fun i m σ' H' ⟨em, A', iA, t', S', ρ', h', s'⟩ => ?_⟩
  have cb := c.back nw.h
  cases m with
  | zero =>
    have e : i = n := by omega
    subst e
    exact .inl ⟨src.stop _ _ _ _ _ _ h' h'.ext (nw.h.kf h') (iC _ _ (Nat.le_refl _) iA), cb.nx A' σ' H' (iD A' iA) ⟨t', S', ρ', h', s'⟩⟩
  | succ m =>
    have hlt : i < n := by omega
    obtain ⟨g1, g2⟩ := src.go _ _ _ _ _ _ h' h'.ext (nw.h.kf h') (iC _ _ (by omega) iA) i hlt
    refine .inr ⟨g1, fun σ2 H2 => ∃ A2, Inv (i + 1) A2 ∧ Rel K (baseOf t S ρ A1.M.length H1) A2 σ2 H2, fun σ2 H2 ⟨A2, i2, r2⟩ => ⟨m, by omega, by omega, A2, i2, r2⟩, fun v H2 y => ?_⟩
    obtain ⟨_, S2, h2, e2, d2⟩ := g2 v H2 y
    obtain ⟨env', e3, pb⟩ := iS i A' hlt iA
    refine hg S2 H2 t' _ _ v _ env' σ' _ h2.le (s'.ext e2) d2 e3 fun σ2 s2 _ => ?_
    refine hb (baseOf t S ρ A1.M.length H1) σ2 H2 ⟨env', A'.M⟩ _ _ ⟨t', S2, ρ', h2, s2⟩ pb ⟨fun A3 σ3 H3 p3 r3 => ⟨_, p3, r3.mvBack (Nat.le_refl _) i0⟩, cb.rt, cb.nx, fun A3 σ3 H3 p3 r3 => ⟨_, p3, r3.mvBack (Nat.le_refl _) i0⟩, cb.ex⟩
section
variable {X : Cx} {E : WX}
theorem ds_forM {iter tg : Expr} {body : List Stmt} {wi : TI} {ps : PTI} {g : TG} {pg : PTG} {ix : List Nat} {tb : TS} {pb : PTS} {pos : Pos} (i0 : Nat) (hp : PassesOwn (model X.prog X.w) X.A X.env X.xe) (hc : X.calm = true) (hi : DI X E tg iter wi ps) (hg : DG X tg g pg ix) (hb : DSs X E body tb pb)
    (hs : ∀ x, foldedSetIterable iter X.env x = pure x := by intro _; rfl) : DS X E (.For tg iter body [] pos) (tFor wi g tb) (pForM i0 ps pg pb) := ⟨ps_for hp hc hi.pi hg.pg hb.pe hs, sim_forM i0 hi.sim hg.sim hb.sim⟩
end
section
variable {α : Type} {n i0 : Nat} {it : Nat → D} {C : List (Option O) → Prop} {tg : PTG} {body : PTS} {P : PEnds} {A1 : Abs}
theorem forM_any (Inv : Nat → Abs → Prop) (h0 : Inv 0 (mvOut i0 A1)) (hC : ∀ i A', i ≤ n → Inv i A' → C A'.M)
    (hs : ∀ i A', i < n → Inv i A' → ∃ env', tg (it i) A'.env = some env' ∧ ∀ J Kb : Abs → Prop, (∀ A, Inv (i + 1) (mvBack i0 A1.M.length A) → J A) → (∀ A, P.nx A → Kb A) → body { nx := J, rt := P.rt, bk := Kb, ct := J, ex := P.ex } ⟨env', A'.M⟩)
    (hd : ∀ A', Inv n A' → P.nx A') : ForMP i0 n it C tg body P A1 :=
  ⟨Inv, h0, hC, fun i A' hi hA => by
    obtain ⟨e, h1, h2⟩ := hs i A' hi hA
    exact ⟨e, h1, h2 _ _ (fun _ h => h) (fun _ h => h)⟩, hd⟩
theorem forM_gen {xs : List α} {f : α → D} (hl : n = xs.length) (hit : ∀ i, (h : i < xs.length) → it i = f xs[i]) (Inv : List α → Abs → Prop) (h0 : Inv [] (mvOut i0 A1)) (hC : ∀ pre A', Inv pre A' → C A'.M)
    (hs : ∀ pre x post A', xs = pre ++ x :: post → Inv pre A' → ∃ env', tg (f x) A'.env = some env' ∧ ∀ J Kb : Abs → Prop, (∀ A, Inv (pre ++ [x]) (mvBack i0 A1.M.length A) → J A) → (∀ A, P.nx A → Kb A) → body { nx := J, rt := P.rt, bk := Kb, ct := J, ex := P.ex } ⟨env', A'.M⟩)
    (hd : ∀ A', Inv xs A' → P.nx A') : ForMP i0 n it C tg body P A1 := by
  subst hl
  refine forM_any (fun i A => Inv (xs.take i) A) h0 (fun i A' _ h => hC _ A' h) (fun i A' hi hA => ?_) fun A' h => hd A' (by have h : Inv (xs.take xs.length) A' := h; rw [List.take_length] at h; exact h)
  have e : xs = xs.take i ++ xs[i] :: xs.drop (i + 1) := by
    conv => lhs; rw [← List.take_append_drop i xs]
    rw [List.drop_eq_getElem_cons hi]
  obtain ⟨env', e1, k⟩ := hs _ _ _ A' e hA
  refine ⟨env', by rw [hit i hi]; exact e1, fun J Kb hJ hK => k J Kb (fun A h => hJ A ?_) hK⟩
  have : xs.take (i + 1) = xs.take i ++ [xs[i]] := by
    rw [List.take_add_one, List.getElem?_eq_getElem hi]
    rfl
  show Inv (xs.take (i + 1)) _
  rw [this]
  exact h
end
end PD

set_option pp.maxSteps 1500
namespace PD
open PySem PySem.Spec PyProof.Rows L2
theorem deq_nilU (xs : List D) : deq (.lst xs) (.lst []) = xs.isEmpty := by cases xs <;> rfl
theorem joinL_flat : ∀ xs : List Tx, TL.joinL [] xs = xs.flatten
  | [] => rfl
  | [x] => by simp [TL.joinL]
  | x :: y :: r => by
    have ih := joinL_flat (y :: r)
    simp only [TL.joinL, ih, List.flatten_cons, List.nil_append]
/-- words, each once -/
def Wds (ws : List Tx) (n : Nat) : Prop := (∀ w ∈ ws, isWord w) ∧ ws.Nodup ∧ (ws.map List.length).sum ≤ n
theorem Wds.len {ws : List Tx} {n : Nat} (h : Wds ws n) : ws.length ≤ n := by
  have : ∀ xs : List Tx, (∀ x ∈ xs, 1 ≤ x.length) → xs.length ≤ (xs.map List.length).sum := fun xs => by
    induction xs with
    | nil => intro _; exact Nat.le_refl _
    | cons a r ih =>
      intro h
      have h1 := ih fun x hx => h x (by simp [hx])
      have h2 := h a (by simp)
      rw [List.length_cons, List.map_cons, List.sum_cons]
      omega
  have := this ws fun x hx => (h.1 x hx).2.1
  have := h.2.2
  omega
def pre_x__law_cell : List AR → Prop
  | [.d (.scr ns), .d (.int k)] => 0 ≤ k ∧ k ≤ 100 ∧ ns.length ≤ 63
  | _ => False
def ok_x__law_cell : List AR → AR → Prop := fun _ y => ∃ i, y = .d (.int i)
def pre_x__law_kept_word : List AR → Prop
  | [.o (.res r), .o (.lst xs), .d (.str s)] => r = storeRP ∧ small s = true ∧ 1 ≤ s.length ∧ s.length ≤ 26 ∧ ∃ ws : List Tx, xs = ws.map .str ∧ (∀ w ∈ ws, isWord w) ∧ ws.length ≤ 100
  | [.o (.res r), .d (.lst xs), .d (.str s)] => r = storeRP ∧ small s = true ∧ 1 ≤ s.length ∧ s.length ≤ 26 ∧ ∃ ws : List Tx, xs = ws.map .str ∧ (∀ w ∈ ws, isWord w) ∧ ws.length ≤ 100
  | _ => False
def ok_x__law_kept_word : List AR → AR → Prop := fun _ y => ∃ l, y = .d (.str l) ∧ isWord l
def pre_store : List AR → Prop
  | [.o (.res r)] => r = storeRP
  | _ => False
abbrev pre_x__law_words := pre_store
abbrev pre_x__law_split_words := pre_store
abbrev pre_x__law_some_words := pre_store
abbrev pre_x__law_letters := pre_store
def ok_words : List AR → AR → Prop := fun _ y => ∃ ws : List Tx, y = .o (.lst (ws.map .str)) ∧ Wds ws 16 ∧ ws.Pairwise (· < ·)
abbrev ok_x__law_words := ok_words
abbrev ok_x__law_split_words := ok_words
def ok_x__law_some_words : List AR → AR → Prop := fun _ y => ∃ ws : List Tx, y = .d (.lst (ws.map .str)) ∧ Wds ws 16 ∧ ws.Pairwise (· < ·)
def pre_x__law_book : List AR → Prop
  | [.o (.res r), .d (.lst xs)] => r = storeRP ∧ ∃ ws : List Tx, xs = ws.map .str ∧ ws.length ≤ 100
  | _ => False
def ok_x__law_book : List AR → AR → Prop
  | [_, .d (.lst xs)], y => ∃ ps : List (Tx × Int), y = .o (.lst (ps.map fun p => pairD (.inr p.1, .int p.2))) ∧ xs = (ps.map (·.1)).map .str
  | _, _ => False
/-- some letters, rising -/
def Lets (s : Tx) : Prop := small s = true ∧ 1 ≤ s.length ∧ s.length ≤ 4 ∧ s.Pairwise (· < ·)
def ok_x__law_letters : List AR → AR → Prop := fun _ y => ∃ s, y = .d (.str s) ∧ Lets s
def txo (xs : List D) : List Tx := xs.filterMap fun x => match x with
  | .str l => some l
  | _ => none
theorem txo_map (ws : List Tx) : txo (ws.map D.str) = ws := by
  unfold txo
  induction ws with
  | nil => rfl
  | cons a r ih => simp [ih]
def pre_is_begun : List AR → Prop
  | [.d (.lst xs), .d (.str t)] => t.length ≤ 1000000 ∧ ∃ ws : List Tx, xs = ws.map .str ∧ Wds ws 16
  | _ => False
def f_is_begun : List AR → AR
  | [.d (.lst xs), .d (.str t)] => .d (.bl (begun (txo xs) t))
  | _ => .d .non
abbrev pre_x__law_is_begun := pre_is_begun
abbrev f_x__law_is_begun := f_is_begun
def pre_x__law_parts : List AR → Prop
  | [.d (.lst xs), .d (.str p), .d (.str c)] => p.length + c.length ≤ 1000000 ∧ small p = true ∧ small c = true ∧ ∃ ws : List Tx, xs = ws.map .str ∧ Wds ws 16
  | _ => False
def f_x__law_parts : List AR → AR
  | [.d (.lst xs), .d (.str p), .d (.str c)] => .o (.lst ((partsT (txo xs) (p ++ c)).map .str))
  | _ => .d .non
/-- a row that may come of words -/
def RowS (row : List Tx) : Prop := row.length ≤ 1000 ∧ ∀ t ∈ row, small t = true ∧ t.length ≤ 1000
def pre_row_behind : List AR → Prop
  | [.d (.lst xs), .d (.lst rs), .d (.str c)] => (∃ x, c = [x] ∧ x ∈ abc) ∧ (∃ ws : List Tx, xs = ws.map .str ∧ Wds ws 16) ∧ ∃ row : List Tx, rs = row.map .str ∧ RowS row
  | _ => False
def f_row_behind : List AR → AR
  | [.d (.lst xs), .d (.lst rs), .d (.str [x])] => .o (.lst ((rowB (txo xs) (txo rs) x).map .str))
  | _ => .d .non
abbrev pre_x__law_row_behind := pre_row_behind
abbrev f_x__law_row_behind := f_row_behind
def rowD (row : List Tx) : D := .lst (row.map .str)
def rowTD (p : RowT) : D := .tup [rowD p.1, .str p.2]
def pre_x__law_rows : List AR → Prop
  | [.d (.lst xs), .d (.str s)] => Lets s ∧ ∃ ws : List Tx, xs = ws.map .str ∧ Wds ws 16
  | _ => False
def f_x__law_rows : List AR → AR
  | [.d (.lst xs), .d (.str s)] => .o (.lst ((rowsOf (txo xs) s).map rowTD))
  | _ => .d .non
/-- the words of a book's rows -/
def keysT (ds : List D) : List Tx := ds.filterMap fun x => match x with
  | .tup [.str l, _] => some l
  | _ => none
theorem keysT_map (ps : List (Tx × Int)) : keysT (ps.map fun p => pairD (.inr p.1, .int p.2)) = ps.map (·.1) := by
  unfold keysT
  induction ps with
  | nil => rfl
  | cons a r ih => rw [List.map_cons, List.filterMap_cons, ih]; rfl
def pre_rows_from : List AR → Prop
  | [.d (.lst ds), .d (.str s)] => Lets s ∧ ∃ ps : List (Tx × Int), ds = ps.map (fun p => pairD (.inr p.1, .int p.2)) ∧ Wds (ps.map (·.1)) 16
  | _ => False
def f_rows_from : List AR → AR
  | [.d (.lst ds), .d (.str s)] => .o (.lst ((rowsOf (keysT ds) s).map rowTD))
  | _ => .d .non
def uncut (ws : List Tx) (s : Tx) : D := match (rowsOf ws s).find? fun p => decide ([] ∉ p.1) with
  | some p => .str p.2
  | none => .non
abbrev pre_x__law_uncut := pre_x__law_rows
def f_x__law_uncut : List AR → AR
  | [.d (.lst xs), .d (.str s)] => .d (uncut (txo xs) s)
  | _ => .d .non
def pre_need_letters : List AR → Prop
  | [.d (.str s)] => Lets s
  | _ => False
def f_need_letters : List AR → AR := fun _ => .d .non
abbrev pre_least_uncut := pre_rows_from
def f_least_uncut : List AR → AR
  | [.d (.lst ds), .d (.str s)] => .d (uncut (keysT ds) s)
  | _ => .d .non
def p_need_letters : PTS :=
  (pSeq (pIf (pOr (pNot (pTest (pIsiP "str" (pVar 0)))) (pNot (pTest (pChain (fun i j => decide (i < j)) (fun i j => decide (i < j)) (fun i j => decide (i ≤ j)) (fun i j => !decide (j < i)) (pC (.int 0)) (pCall cLen (pCons (pVar 0) pNil)) (pC (.int 4)))))) pNever
  pNext)
  (pIf (pOr (pTest (pOp2 (bEq not) (pLc (pItS (pVar 0)) (tgN 1) (pTest (pOp2 (bIn not) (pVar 1) (pC (.str abc)))) (pVar 1) [1]) (pLst pNil))) (pTest (pOp2 (bEq not) (pSrtSetS (pVar 0)) (pCall cListB (pCons (pVar 0) pNil))))) pNever
  pNext))
abbrev N_need_letters : List Str := ["thing", "sign"]
def p_is_begun : PTS :=
  (pRet (pOp2 (bEq not) (pLc (pItL (pVar 0)) (tgN 2) (pAnd (pTest (pOp2 (bEq not) (pVar 2) (pVar 1))) (pTru (pM1 bStarts (pVar 2) (pVar 1)))) (pVar 2) [2]) (pLst pNil)))
abbrev N_is_begun : List Str := ["words", "text", "word"]
def p_row_behind : PTS :=
  (pSeq (pSet 3 pDict0)
  (pSeq (pWip [4, 5] (pFor (pItL (pVar 1)) (tgN 4) (pGw [4, 5] [4, 5] (pSeq (pSetD 5 (pOp2 bAdd (pVar 4) (pVar 2)))
  (pSeq (pIf (pTest (pOp2 (bIn id) (pVar 5) (pVar 0))) (pSetIx (pVar 3) (pC (.str [])) (pC (.bl true)))
  pNext)
  (pIf (pTest (pCalls (callP pre_is_begun f_is_begun) (pCons (pVar 0) (pCons (pVar 5) pNil)))) (pSetIx (pVar 3) (pVar 5) (pC (.bl true)))
  pNext))))))
  (pRet (pCall cSorted (pCons (pVar 3) pNil)))))
abbrev N_row_behind : List Str := ["words", "row", "letter", "found", "text", "longer"]
def p_rows_from : PTS :=
  (pSeq (pSetD 2 (pLc (pItL (pVar 0)) (tgT [9, 10]) pYes (pVar 9) [9, 10]))
  (pSeq (pSet 3 (pLst (pCons (pTup (pCons (pLst (pCons (pC (.str [])) pNil)) (pCons (pC (.str [])) pNil))) pNil)))
  (pSeq (pSet 4 (pC (.int 0)))
  (pSeq (pWip [5, 6, 7, 8] (pWhile (pTest (pOp2 bLt (pVar 4) (pCall cLen (pCons (pVar 3) pNil)))) (pGw [5, 6, 7, 8] [4, 5, 6, 7, 8] (pSeq (pAsg (pOp2 bIx (pVar 3) (pVar 4)) (tgT [5, 6]))
  (pSeq (pWip [7, 8] (pFor (pItS (pVar 1)) (tgN 7) (pGw [7, 8] [7, 8] (pSeq (pSetD 8 (pCalls (callP pre_row_behind f_row_behind) (pCons (pVar 2) (pCons (pVar 5) (pCons (pVar 7) pNil)))))
  (pIf (pTest (pOp2 (bIn not) (pVar 8) (pLc (pItL (pVar 3)) (tgT [11, 12]) pYes (pVar 11) [11, 12]))) (pDrop (pLM lAppend (pVar 3) (pCons (pTup (pCons (pVar 8) (pCons (pOp2 bAdd (pVar 6) (pVar 7)) pNil))) pNil)))
  pNext)))))
  (pAug 4 (fun i j => i + j) (pC (.int 1))))))))
  (pRet (pVar 3))))))
abbrev N_rows_from : List Str := ["book", "letters", "words", "found", "at", "row", "text", "letter", "later", "word", "weight", "one", "begun"]
def p_least_uncut : PTS :=
  (pSeq (pDrop (pCalls (callP pre_need_letters f_need_letters) (pCons (pVar 1) pNil)))
  (pSeq (pWip [2, 3] (pFor (pItL (pCalls (callP pre_rows_from f_rows_from) (pCons (pVar 0) (pCons (pVar 1) pNil)))) (tgT [2, 3]) (pGw [2, 3] [2, 3] (pIf (pTest (pOp2 (bIn not) (pC (.str [])) (pVar 2))) (pRet (pVar 3))
  pNext))))
  (pRet (pC .non))))
abbrev N_least_uncut : List Str := ["book", "letters", "row", "text"]
def p_x__law_cell : PTS :=
  (pSeq (pIf (pTest (pOp2 bLt (pVar 1) (pCall cLen (pCons (pVar 0) pNil)))) (pRet (pOp2 bIx (pVar 0) (pVar 1)))
  pNext)
  (pRet (pOp2 bAdd (pOp2 bAdd (pOp2 bMul (pOp2 bMul (pC (.int 7)) (pVar 1)) (pVar 1)) (pOp2 bMul (pC (.int 3)) (pVar 1))) (pC (.int 11)))))
abbrev N_x__law_cell : List Str := ["script", "k"]
def p_x__law_store : PTS :=
  (pSeq (pSet 1 (pC (.int 0)))
  (pSeq (pIf (pTest (pOp2 bGe (pVar 0) (pOp2 bPow (pC (.int 10)) (pC (.int 18))))) (pSet 1 (pVar 0))
  pNext)
  (pRet (pLst (pCons (pVar 1) (pCons (pOp2 bMod (pVar 0) (pC (.int 2147483629))) (pCons (pC (.int 1)) pNil)))))))
abbrev N_x__law_store : List Str := ["cell", "great"]
def p_x__law_take : PTS :=
  (pSeq (pIf (pTest (pOp2 bGt (pOp2 bIx (pVar 0) (pC (.int 0))) (pC (.int 0)))) (pSeq (pSet 2 (pOp2 bMod (pOp2 bIx (pVar 0) (pC (.int 0))) (pVar 1)))
  (pSeq (pSetIx (pVar 0) (pC (.int 0)) (pOp2 bDiv (pOp2 bIx (pVar 0) (pC (.int 0))) (pVar 1)))
  (pRet (pVar 2))))
  pNext)
  (pSeq (pSetIx (pVar 0) (pC (.int 2)) (pOp2 bAdd (pOp2 bIx (pVar 0) (pC (.int 2))) (pC (.int 1))))
  (pSeq (pSetD 3 (pOp2 bMod (pOp2 bMul (pOp2 bAdd (pOp2 bIx (pVar 0) (pC (.int 1))) (pOp2 bMul (pC (.int 7919)) (pOp2 bIx (pVar 0) (pC (.int 2))))) (pC (.int 48271))) (pC (.int 2147483647))))
  (pSeq (pSetD 3 (pOp2 bMod (pOp2 bMul (pVar 3) (pVar 3)) (pC (.int 2147483629))))
  (pSeq (pSetD 3 (pOp2 bMod (pOp2 bMul (pOp2 bAdd (pVar 3) (pOp2 bMul (pC (.int 40692)) (pOp2 bIx (pVar 0) (pC (.int 2))))) (pC (.int 69621))) (pC (.int 2147483587))))
  (pRet (pOp2 bMod (pOp2 bDiv (pVar 3) (pC (.int 8))) (pVar 1))))))))
abbrev N_x__law_take : List Str := ["store", "many", "told", "one"]
def p_x__law_kept_word : PTS :=
  (pSeq (pSetD 3 (pOp2 bAdd (pC (.int 1)) (pCalls callT (pCons (pVar 0) (pCons (pOp2 bIx (pLst (pCons (pC (.int 2)) (pCons (pC (.int 3)) (pCons (pC (.int 5)) (pCons (pC (.int 12)) pNil))))) (pCalls callT (pCons (pVar 0) (pCons (pC (.int 4)) pNil)))) pNil)))))
  (pSeq (pSet 4 (pM1 bJoin (pC (.str [])) (pLc (pRng1 (pCons (pVar 3) pNil)) (tgN 6) pYes (pOp2 bIx (pVar 2) (pCalls callT (pCons (pVar 0) (pCons (pCall cLen (pCons (pVar 2) pNil)) pNil)))) [6])))
  (pSeq (pSetD 5 (pCalls callT (pCons (pVar 0) (pCons (pC (.int 4)) pNil))))
  (pSeq (pIf (pAnd (pTest (pOp2 (bEq not) (pVar 1) (pLst pNil))) (pTest (pOp2 (bEq id) (pVar 5) (pC (.int 1))))) (pSet 4 (pOp2 bAdd (pOp2 bIx (pVar 1) (pCalls callT (pCons (pVar 0) (pCons (pCall cLen (pCons (pVar 1) pNil)) pNil)))) (pVar 4)))
  pNext)
  (pSeq (pIf (pAnd (pTest (pOp2 (bEq not) (pVar 1) (pLst pNil))) (pTest (pOp2 (bEq id) (pVar 5) (pC (.int 2))))) (pSet 4 (pOp2 bAdd (pOp2 bIx (pVar 1) (pCalls callT (pCons (pVar 0) (pCons (pCall cLen (pCons (pVar 1) pNil)) pNil)))) (pOp2 bIx (pVar 1) (pCalls callT (pCons (pVar 0) (pCons (pCall cLen (pCons (pVar 1) pNil)) pNil))))))
  pNext)
  (pSeq (pIf (pAnd (pTest (pOp2 (bEq not) (pVar 1) (pLst pNil))) (pTest (pOp2 (bEq id) (pVar 5) (pC (.int 3))))) (pSet 4 (pOp2 bAdd (pVar 4) (pOp2 bIx (pVar 1) (pCalls callT (pCons (pVar 0) (pCons (pCall cLen (pCons (pVar 1) pNil)) pNil))))))
  pNext)
  (pRet (pSl (pVar 4) pNo (pPart (pC (.int 12)))))))))))
abbrev N_x__law_kept_word : List Str := ["store", "words", "letters", "size", "word", "kind", "k"]
def p_x__law_words : PTS :=
  (pSeq (pSetD 1 (pOp2 bIx (pLst (pCons (pC (.str [97, 98])) (pCons (pC (.str [97, 98])) (pCons (pC (.str [97, 98, 99])) (pCons (pC (.str [97])) (pCons (pC (.str [98, 122])) (pCons (pC (.str [97, 98, 99, 100])) pNil))))))) (pCalls callT (pCons (pVar 0) (pCons (pC (.int 6)) pNil)))))
  (pSeq (pSet 2 (pLst pNil))
  (pSeq (pWip [3, 4] (pFor (pRng1 (pCons (pCalls callT (pCons (pVar 0) (pCons (pC (.int 12)) pNil))) pNil)) (tgN 3) (pGw [3, 4] [3, 4] (pSeq (pSetD 4 (pCalls (callN pre_x__law_kept_word ok_x__law_kept_word) (pCons (pVar 0) (pCons (pVar 2) (pCons (pVar 1) pNil)))))
  (pIf (pAnd (pTest (pOp2 (bIn not) (pVar 4) (pVar 2))) (pTest (pOp2 bLt (pOp2 bAdd (pCall cLen (pCons (pM1 bJoin (pC (.str [])) (pVar 2)) pNil)) (pCall cLen (pCons (pVar 4) pNil))) (pC (.int 17))))) (pDrop (pLM lAppend (pVar 2) (pCons (pVar 4) pNil)))
  pNext)))))
  (pRet (pCall cSorted (pCons (pVar 2) pNil))))))
abbrev N_x__law_words : List Str := ["store", "letters", "words", "k", "word"]
def p_x__law_book : PTS :=
  (pSeq (pSetD 2 (pOp2 bIx (pLst (pCons (pC (.int 1)) (pCons (pC (.int 1)) (pCons (pC (.int 1)) (pCons (pOp2 bPow (pC (.int 10)) (pC (.int 4))) (pCons (pOp2 bPow (pC (.int 10)) (pC (.int 9))) (pCons (pOp2 bPow (pC (.int 10)) (pC (.int 28))) pNil))))))) (pCalls callT (pCons (pVar 0) (pCons (pC (.int 6)) pNil)))))
  (pRet (pLc (pItL (pVar 1)) (tgN 3) pYes (pTup (pCons (pVar 3) (pCons (pOp2 bMul (pOp2 bSub (pCalls callT (pCons (pVar 0) (pCons (pC (.int 9)) pNil))) (pC (.int 3))) (pVar 2)) pNil))) [3])))
abbrev N_x__law_book : List Str := ["store", "words", "great", "word"]
def p_x__law_is_begun : PTS :=
  (pRet (pOp2 (bEq not) (pLc (pItL (pVar 0)) (tgN 2) (pAnd (pTest (pOp2 bGt (pCall cLen (pCons (pVar 2) pNil)) (pCall cLen (pCons (pVar 1) pNil)))) (pTest (pOp2 (bEq id) (pSl (pVar 2) pNo (pPart (pCall cLen (pCons (pVar 1) pNil)))) (pVar 1)))) (pVar 2) [2]) (pLst pNil)))
abbrev N_x__law_is_begun : List Str := ["words", "text", "word"]
def p_x__law_parts : PTS :=
  (pSeq (pSet 3 (pLst pNil))
  (pSeq (pIf (pTest (pCalls (callP pre_x__law_is_begun f_x__law_is_begun) (pCons (pVar 0) (pCons (pOp2 bAdd (pVar 1) (pVar 2)) pNil)))) (pDrop (pLM lAppend (pVar 3) (pCons (pOp2 bAdd (pVar 1) (pVar 2)) pNil)))
  pNext)
  (pSeq (pIf (pTest (pOp2 (bIn id) (pOp2 bAdd (pVar 1) (pVar 2)) (pVar 0))) (pDrop (pLM lAppend (pVar 3) (pCons (pC (.str [])) pNil)))
  pNext)
  (pRet (pVar 3)))))
abbrev N_x__law_parts : List Str := ["words", "part", "letter", "found"]
def p_x__law_split_words : PTS :=
  (pSeq (pSetD 1 (pOp2 bIx (pLst (pCons (pC (.str [97, 98])) (pCons (pC (.str [97, 98])) (pCons (pC (.str [97])) (pCons (pC (.str [97, 98, 99])) (pCons (pC (.str [98, 122])) pNil)))))) (pCalls callT (pCons (pVar 0) (pCons (pC (.int 5)) pNil)))))
  (pSeq (pSet 2 (pCall cListB (pCons (pVar 1) pNil)))
  (pSeq (pWip [3, 4, 5] (pForM 2 (pRng1 (pCons (pCalls callT (pCons (pVar 0) (pCons (pC (.int 5)) pNil))) pNil)) (tgN 3) (pGx [3, 4, 5] [3, 4, 5] (pSeq (pSetD 4 (pOp2 bIx (pVar 2) (pCalls callT (pCons (pVar 0) (pCons (pCall cLen (pCons (pVar 2) pNil)) pNil)))))
  (pSeq (pSet 5 (pOp2 bAdd (pLc (pItL (pVar 2)) (tgN 6) (pTest (pOp2 (bEq not) (pVar 6) (pVar 4))) (pVar 6) [6]) (pLc (pItS (pVar 1)) (tgN 7) pYes (pOp2 bAdd (pVar 4) (pVar 7)) [7])))
  (pIf (pTest (pOp2 bLt (pCall cLen (pCons (pM1 bJoin (pC (.str [])) (pVar 5)) pNil)) (pC (.int 17)))) (pSet 2 (pVar 5))
  pNext))))))
  (pSeq (pIf (pAnd (pTest (pOp2 (bEq id) (pCalls callT (pCons (pVar 0) (pCons (pC (.int 3)) pNil))) (pC (.int 0)))) (pTest (pOp2 bGt (pCall cLen (pCons (pVar 2) pNil)) (pC (.int 1))))) (pDrop (pLM lPopAt (pVar 2) (pCons (pCalls callT (pCons (pVar 0) (pCons (pCall cLen (pCons (pVar 2) pNil)) pNil))) pNil)))
  pNext)
  (pSeq (pWip [3, 4] (pFor (pRng1 (pCons (pCalls callT (pCons (pVar 0) (pCons (pC (.int 3)) pNil))) pNil)) (tgN 3) (pGw [3, 4] [3, 4] (pSeq (pSetD 4 (pCalls (callN pre_x__law_kept_word ok_x__law_kept_word) (pCons (pVar 0) (pCons (pVar 2) (pCons (pVar 1) pNil)))))
  (pIf (pAnd (pTest (pOp2 (bIn not) (pVar 4) (pVar 2))) (pTest (pOp2 bLt (pOp2 bAdd (pCall cLen (pCons (pM1 bJoin (pC (.str [])) (pVar 2)) pNil)) (pCall cLen (pCons (pVar 4) pNil))) (pC (.int 17))))) (pDrop (pLM lAppend (pVar 2) (pCons (pVar 4) pNil)))
  pNext)))))
  (pRet (pCall cSorted (pCons (pVar 2) pNil))))))))
abbrev N_x__law_split_words : List Str := ["store", "letters", "words", "k", "word", "split", "one", "letter"]
def p_x__law_some_words : PTS :=
  (pRet (pOp2 bIx (pLst (pCons (pCalls (callN pre_x__law_words ok_x__law_words) (pCons (pVar 0) pNil)) (pCons (pCalls (callN pre_x__law_split_words ok_x__law_split_words) (pCons (pVar 0) pNil)) pNil))) (pCalls callT (pCons (pVar 0) (pCons (pC (.int 2)) pNil)))))
abbrev N_x__law_some_words : List Str := ["store"]
def p_x__law_row_behind : PTS :=
  (pSeq (pSetD 3 (pLst pNil))
  (pSeq (pWip [4] (pFor (pItL (pVar 1)) (tgN 4) (pGw [4] [4] (pSetD 3 (pOp2 bAdd (pVar 3) (pCalls (callP pre_x__law_parts f_x__law_parts) (pCons (pVar 0) (pCons (pVar 4) (pCons (pVar 2) pNil)))))))))
  (pRet (pSrtSet (pVar 3)))))
abbrev N_x__law_row_behind : List Str := ["words", "row", "letter", "found", "part"]
def p_x__law_rows : PTS :=
  (pSeq (pSet 2 (pLst (pCons (pTup (pCons (pLst (pCons (pC (.str [])) pNil)) (pCons (pC (.str [])) pNil))) pNil)))
  (pSeq (pSet 3 (pLst (pCons (pLst (pCons (pC (.str [])) pNil)) pNil)))
  (pSeq (pSet 4 (pC (.int 0)))
  (pSeq (pWip [5, 6, 7, 8] (pWhile (pTest (pOp2 bLt (pVar 4) (pCall cLen (pCons (pVar 2) pNil)))) (pGw [5, 6, 7, 8] [4, 5, 6, 7, 8] (pSeq (pAsg (pOp2 bIx (pVar 2) (pVar 4)) (tgT [5, 6]))
  (pSeq (pSet 4 (pOp2 bAdd (pVar 4) (pC (.int 1))))
  (pWip [7, 8] (pFor (pItS (pVar 1)) (tgN 7) (pGw [7, 8] [7, 8] (pSeq (pSetD 8 (pCalls (callP pre_x__law_row_behind f_x__law_row_behind) (pCons (pVar 0) (pCons (pVar 5) (pCons (pVar 7) pNil)))))
  (pIf (pTest (pOp2 (bIn not) (pVar 8) (pVar 3))) (pSeq (pDrop (pLM lAppend (pVar 3) (pCons (pVar 8) pNil)))
  (pDrop (pLM lAppend (pVar 2) (pCons (pTup (pCons (pVar 8) (pCons (pOp2 bAdd (pVar 6) (pVar 7)) pNil))) pNil))))
  pNext))))))))))
  (pRet (pVar 2))))))
abbrev N_x__law_rows : List Str := ["words", "letters", "found", "met", "at", "row", "text", "letter", "later"]
def p_x__law_uncut : PTS :=
  (pSeq (pSetD 2 (pLc (pItL (pCalls (callP pre_x__law_rows f_x__law_rows) (pCons (pVar 0) (pCons (pVar 1) pNil)))) (tgT [3, 4]) (pTest (pOp2 (bIn not) (pC (.str [])) (pVar 3))) (pVar 4) [3, 4]))
  (pRet (pOp2 bIx (pOp2 bAdd (pVar 2) (pLst (pCons (pC .non) pNil))) (pC (.int 0)))))
abbrev N_x__law_uncut : List Str := ["words", "letters", "some", "row", "text"]
def p_x__law_letters : PTS :=
  (pSeq (pSetD 1 (pLst (pCons (pC (.str [97, 98])) (pCons (pC (.str [97])) (pCons (pC (.str [98])) (pCons (pC (.str [97, 98, 99])) (pCons (pC (.str [98, 122])) (pCons (pC (.str [97, 98, 99, 100])) (pCons (pC (.str [122])) (pCons (pC (.str [97, 99])) (pCons (pC (.str [97, 98, 122])) pNil)))))))))))
  (pRet (pOp2 bIx (pVar 1) (pOp2 bIx (pLst (pCons (pC (.int 0)) (pCons (pC (.int 0)) (pCons (pC (.int 0)) (pCons (pC (.int 1)) (pCons (pC (.int 2)) (pCons (pC (.int 3)) (pCons (pC (.int 4)) (pCons (pC (.int 5)) (pCons (pC (.int 6)) (pCons (pC (.int 7)) (pCons (pC (.int 8)) pNil)))))))))))) (pCalls callT (pCons (pVar 0) (pCons (pC (.int 11)) pNil)))))))
abbrev N_x__law_letters : List Str := ["store", "some"]
local macro_rules | `(tactic| walk_at "rd") => `(tactic| simp (config := { decide := true }) only [pSeq_then, pNext, pNever, pBreak, pCont, pDrop, pRet, pRetN, pIf, pSet, pSetD, setD, setP, setO, pVar, pC, pOp2, pTest, pAnd, pOr, pNot, pAndV, pOrV, pNotV, pIfE, pNil, pCons, pLst, pTup, pDict0, pDictC, pDM, dUpdate, pCall, pIsiP, pM1, bJoin, pNo, pPart, pSl, pSortI, pLM, lAppend, lInsert, lExtend, lPopAt, lPop, lReverse, lClear, pLc_eq, pFor_eq, pWhile_eq, pWip, pGw, wipeS, trunc, truncE, pItL, pItS, pRng1, pRng2, pRng3, pVarF, pAug, pDictLen, pLr3, pNeg, pCalls, callP, pEnum, pStepS, pRevL, bStarts, bEnds, pAugK, pItK, pFz, pRaise, pCallX, callX, pTry, pIsX, pLr1, pM0, bUpper, cListB, cTuple, pOrT, pDictLenT, pBor, borE, scalD, pPickL, cSum, cAbs, pre_need_letters, f_need_letters, pre_is_begun, f_is_begun, pre_row_behind, f_row_behind, pre_rows_from, f_rows_from, pre_least_uncut, f_least_uncut, pre_x__law_cell, pre_x__law_store, f_x__law_store, pre_x__law_kept_word, pre_x__law_words, pre_x__law_book, pre_x__law_is_begun, f_x__law_is_begun, pre_x__law_parts, f_x__law_parts, pre_x__law_split_words, pre_x__law_some_words, pre_x__law_row_behind, f_x__law_row_behind, pre_x__law_rows, f_x__law_rows, pre_x__law_uncut, f_x__law_uncut, pre_x__law_letters,  merge_dictOf, filter_none, take_iff, callN, txo_map, deq_nilU, map_isEmpty, toAR, R.fz, view, views, dats, O.toD, AR.toR, bAdd, bSub, bMul, bDiv, bMod, bPow, bEq,  pSrtSet, pSrtSetS, pForM_eq, pGx, bCmp, bIn, bIs, bIx, bSl, cLen, cMin2, cMax2, cInt, cList, cDict, cSorted, plainD, isiB, tyn, pAsg, tgT, tgU, setsA, pSetIx, storeO, kdOf, pChain, cmpD, pYes, pTru, truD, Hand, tgN, wipeA, fnAbs, envA, ownsA, retA, conP, conN, List.set, List.set_cons_zero, List.set_cons_succ, List.set_nil, List.getElem?_cons_zero, List.getElem?_cons_succ, List.getElem?_nil, List.length_cons, List.length_nil, List.cons_append, List.nil_append, List.append_nil, List.replicate, Nat.reduceSub, Nat.reduceAdd, Nat.zero_add, Int.zero_add, true_and, and_true, reduceIte, Bool.false_eq_true, id, Bool.not_true, Bool.not_false, decide_true, decide_false, List.nodup_nil, List.nodup_cons, List.not_mem_nil, not_false_eq_true, List.take_zero, List.take_succ_cons, List.take_nil, List.map_cons, List.map_nil])
local macro_rules | `(tactic| walk_at "sc") => `(tactic| first | with_reducible assumption | omega | assumption | with_reducible rfl | with_reducible exact True.intro | with_reducible exact okD_ints | with_reducible exact okD_nil | with_reducible exact okD_int _ | with_reducible exact okD_bl _ | with_reducible exact okD_non | with_reducible exact okD_sm (by assumption) | with_reducible exact cmulR (by omega) (by omega) | with_reducible exact cmulL (by omega) (by omega) | with_reducible exact cdivw (by omega) (by omega) | (with_reducible refine smallI_of ?_ ?_ <;> first | omega | (simp only [List.length_map, List.length_append, List.length_range, List.length_replicate, List.length_cons, List.length_nil, List.length_take, List.length_drop]; omega)) | (unfold CPow; decide) | (simp only [List.length_map, List.length_append, List.length_range, List.length_replicate, List.length_cons, List.length_nil, List.length_take, List.length_drop]; omega) | (refine ⟨?_, ?_⟩ <;> walk_at "sc"))
local macro_rules | `(tactic| walk_at "go") => `(tactic| repeat (first | walk_at "rd" | with_reducible refine then_go ?_ | (refine And.intro (by walk_at "sc") ?_) | (refine dict_of (by assumption) ?_) | rw [deq_self (by walk_at "sc")] | walk_at "sc"))
local macro_rules | `(tactic| walk_at "rt") => `(tactic| try walk_at "rd")
local macro_rules | `(tactic| walk_at "nx") => `(tactic| ((try dsimp only); rw [then_eq]; walk_at "rd"))
theorem r_x__law_cell : Law p_x__law_cell N_x__law_cell 2 (conN pre_x__law_cell ok_x__law_cell) := fun ars h => by
  have h : pre_x__law_cell ars := h
  unfold pre_x__law_cell at h
  split at h
  · rename_i ns k _
    obtain ⟨h1, h2, h3⟩ := h
    refine ⟨rfl, ?_⟩
    unfold p_x__law_cell endsA
    walk_at "go"
    by_cases hk : k < (ns.length : Int)
    · rw [if_pos (decide_eq_true hk)]
      have hl : k.toNat < ns.length := by omega
      have e := atI_nat hl
      rw [Int.toNat_of_nonneg h1] at e
      exact ⟨_, e, _, rfl⟩
    · rw [if_neg (fun z => hk (of_decide_eq_true z))]
      walk_at "go"
      exact ⟨_, rfl⟩
  · exact h.elim
theorem r_x__law_store : Law p_x__law_store N_x__law_store 1 con_store0 := fun ars h => by
  have h : pre_x__law_store ars := h
  unfold pre_x__law_store at h
  split at h
  · rename_i c _
    refine ⟨rfl, ?_⟩
    unfold p_x__law_store endsA con_store0
    walk_at "go"
    split
    · walk_at "go"
      exact ⟨_, _, _, rfl⟩
    · walk_at "go"
      exact ⟨_, _, _, rfl⟩
  · exact h.elim
theorem r_x__law_take : Law p_x__law_take N_x__law_take 2 con_take0 := fun ars h => by
  have h : pre_take0 ars := h
  unfold pre_take0 at h
  split at h
  · rename_i g b n m _
    obtain ⟨h1, h2⟩ := h
    refine ⟨rfl, ?_⟩
    unfold p_x__law_take endsA con_take0
    walk_at "go"
    refine ⟨_, rfl, ?_⟩
    walk_at "go"
    split
    · refine ⟨_, rfl, ?_⟩
      walk_at "go"
      refine ⟨_, rfl, ?_⟩
      walk_at "rd"
      refine ⟨cdivw (by omega) h2, 0, rfl, ?_⟩
      walk_at "go"
      exact ⟨_, _, _, _, rfl, Int.emod_nonneg _ (by omega), Int.emod_lt_of_pos _ h1, rfl⟩
    · walk_at "go"
      refine ⟨_, rfl, 2, rfl, ?_⟩
      walk_at "go"
      refine ⟨_, rfl, _, rfl, ?_⟩
      walk_at "go"
      have g0 := Int.emod_nonneg ((b + 7919 * (n + 1)) * 48271) (b := 2147483647) (by decide)
      have g1 := Int.emod_lt_of_pos ((b + 7919 * (n + 1)) * 48271) (b := 2147483647) (by decide)
      generalize ((b + 7919 * (n + 1)) * 48271) % 2147483647 = x1 at g0 g1 ⊢
      walk_at "go"
      refine ⟨_, rfl, ?_⟩
      walk_at "go"
      have k0 := Int.emod_nonneg ((x1 * x1 % 2147483629 + 40692 * (n + 1)) * 69621) (b := 2147483587) (by decide)
      generalize ((x1 * x1 % 2147483629 + 40692 * (n + 1)) * 69621) % 2147483587 = x2 at k0 ⊢
      exact ⟨_, _, _, _, rfl, Int.emod_nonneg _ (by omega), Int.emod_lt_of_pos _ h1, rfl⟩
  · exact h.elim
theorem onesS {s : Tx} (hs : small s = true) : ∀ {ds : List D}, (∀ d ∈ ds, ∃ c ∈ s, d = .str [c]) → ∃ vs : List Tx, ds = vs.map D.str ∧ ∀ l ∈ vs, small l = true ∧ l.length = 1
  | [], _ => ⟨[], rfl, fun l h => by simp at h⟩
  | x :: r, h => by
    obtain ⟨vs, e, h2⟩ := onesS hs (ds := r) fun d hd => h d (by simp [hd])
    obtain ⟨c, hc, rfl⟩ := h x (by simp)
    refine ⟨[c] :: vs, by rw [e]; rfl, fun l hl => ?_⟩
    rcases List.mem_cons.mp hl with rfl | hl
    · refine ⟨?_, rfl⟩
      unfold small at hs ⊢
      rw [List.all_eq_true] at hs ⊢
      intro x hx
      rw [List.mem_singleton] at hx
      rw [hx]
      exact hs c hc
    · exact h2 l hl
theorem onesS_len : ∀ xs : List Tx, (∀ l ∈ xs, small l = true ∧ l.length = 1) → (xs.map List.length).sum = xs.length ∧ xs.flatten.length = xs.length
  | [], _ => ⟨rfl, rfl⟩
  | x :: r, hx => by
    have := onesS_len r fun l hl => hx l (by simp [hl])
    have h1 := (hx x (by simp)).2
    simp only [List.map_cons, List.sum_cons, List.flatten_cons, List.length_append, List.length_cons]
    omega
theorem r_x__law_kept_word : Law p_x__law_kept_word N_x__law_kept_word 3 (conN pre_x__law_kept_word ok_x__law_kept_word) := fun ars h => by
  have h : pre_x__law_kept_word ars := h
  unfold pre_x__law_kept_word at h
  split at h
  · rename_i s _
    obtain ⟨rfl, hs, hs1, hs2, ws, rfl, hw, hl⟩ := h
    refine ⟨rfl, ?_⟩
    unfold p_x__law_kept_word endsA
    walk_at "rd"
    refine fun i i0 i1 => at_ex i0 i1 fun d hd => ?_
    obtain ⟨m, rfl, m0, m1⟩ : ∃ m : Int, d = .int m ∧ 1 ≤ m ∧ m ≤ 12 := by
      simp only [List.mem_cons, List.not_mem_nil, or_false] at hd
      rcases hd with rfl | rfl | rfl | rfl <;> exact ⟨_, rfl, by decide, by decide⟩
    walk_at "rd"
    refine ⟨by omega, by omega, fun a a0 a1 => ?_⟩
    rw [then_eq]
    walk_at "rd"
    refine ⟨by unfold smallI; omega, ?_⟩
    refine lc_any (fun d => ∃ c ∈ s, d = .str [c]) trivial (by omega) (fun i hi => ⟨_, rfl, fun J hJ => ?_⟩) fun ds hl2 hds => ?_
    · walk_at "rd"
      refine ⟨by omega, by omega, by omega, fun c c0 c1 => ⟨by omega, at_ex c0 c1 fun x hx => hJ _ ⟨x, hx, rfl⟩⟩⟩
    · obtain ⟨vs, rfl, hvs⟩ := onesS hs hds
      rw [List.length_map] at hl2
      walk_at "rd"
      refine ⟨vs, rfl, by rw [(onesS_len vs hvs).1]; omega, ?_⟩
      rw [joinL_flat]
      have s1 : small vs.flatten = true := join_small (a := []) fun l hl => (hvs l hl).1
      have s2 := (onesS_len vs hvs).2
      rw [hl2] at s2
      generalize vs.flatten = word at s1 s2 ⊢
      clear hvs hl2 hds vs
      walk_at "nx"
      refine fun k k0 k1 => ?_
      have okw : okD (.lst (ws.map D.str)) := okD_strS fun l hl => (hw l hl).1
      have hwl : word.length ≤ 12 := by omega
      have fin : ∀ l : Tx, small l = true → 1 ≤ l.length → l.length ≤ 24 → (∃ y, AR.d (D.str (cutL l none (some 12))) = AR.d (D.str y) ∧ isWord y) := fun l h1 h2 h3 => by
        rw [cut_b (by decide)]
        exact ⟨_, rfl, small_take h1 _, by rw [List.length_take]; show 1 ≤ min 12 _; omega, by rw [List.length_take]; exact Nat.min_le_left _ _⟩
      walk_at "go"
      have hin : ∀ d ∈ ws.map D.str, ∃ v, d = .str v ∧ isWord v := fun d hd => by
        obtain ⟨v, hv, rfl⟩ := List.mem_map.mp hd
        exact ⟨v, rfl, hw v hv⟩
      have hm4 : k = 0 ∨ k = 1 ∨ k = 2 ∨ k = 3 := by omega
      have hll : ((ws.map D.str).length : Int) < 2 ^ 64 := by rw [List.length_map]; omega
      cases hz : ws.isEmpty with
      | true =>
        walk_at "go"
        rw [hz]
        walk_at "go"
        rw [hz]
        walk_at "go"
        exact fin word s1 (by omega) (by omega)
      | false =>
        have hlp : 0 < ((ws.map D.str).length : Int) := by
          cases ws with
          | nil => cases hz
          | cons _ _ => rw [List.length_map, List.length_cons]; omega
        rcases hm4 with rfl | rfl | rfl | rfl
        · walk_at "go"
          rw [hz]
          walk_at "go"
          rw [hz]
          walk_at "go"
          exact fin word s1 (by omega) (by omega)
        · walk_at "go"
          refine fun i i0 i1 => at_ex i0 i1 fun d hd => ?_
          obtain ⟨v, rfl, hv1, hv2, hv3⟩ := hin d hd
          walk_at "go"
          rw [hz]
          walk_at "go"
          rw [hz]
          walk_at "go"
          exact fin _ (small_append hv1 s1) (by rw [List.length_append]; omega) (by rw [List.length_append]; omega)
        · walk_at "go"
          rw [hz]
          walk_at "go"
          refine fun i i0 i1 => at_ex i0 i1 fun d hd => ?_
          obtain ⟨v, rfl, hv1, hv2, hv3⟩ := hin d hd
          walk_at "go"
          refine fun i i0 i1 => at_ex i0 i1 fun d hd => ?_
          obtain ⟨u, rfl, hu1, hu2, hu3⟩ := hin d hd
          walk_at "go"
          rw [hz]
          walk_at "go"
          exact fin _ (small_append hv1 hu1) (by rw [List.length_append]; omega) (by rw [List.length_append]; omega)
        · walk_at "go"
          rw [hz]
          walk_at "go"
          rw [hz]
          walk_at "go"
          refine fun i i0 i1 => at_ex i0 i1 fun d hd => ?_
          obtain ⟨v, rfl, hv1, hv2, hv3⟩ := hin d hd
          walk_at "go"
          exact fin _ (small_append s1 hv1) (by rw [List.length_append]; omega) (by rw [List.length_append]; omega)
  · rename_i s _
    obtain ⟨rfl, hs, hs1, hs2, ws, rfl, hw, hl⟩ := h
    refine ⟨rfl, ?_⟩
    unfold p_x__law_kept_word endsA
    walk_at "rd"
    refine fun i i0 i1 => at_ex i0 i1 fun d hd => ?_
    obtain ⟨m, rfl, m0, m1⟩ : ∃ m : Int, d = .int m ∧ 1 ≤ m ∧ m ≤ 12 := by
      simp only [List.mem_cons, List.not_mem_nil, or_false] at hd
      rcases hd with rfl | rfl | rfl | rfl <;> exact ⟨_, rfl, by decide, by decide⟩
    walk_at "rd"
    refine ⟨by omega, by omega, fun a a0 a1 => ?_⟩
    rw [then_eq]
    walk_at "rd"
    refine ⟨by unfold smallI; omega, ?_⟩
    refine lc_any (fun d => ∃ c ∈ s, d = .str [c]) trivial (by omega) (fun i hi => ⟨_, rfl, fun J hJ => ?_⟩) fun ds hl2 hds => ?_
    · walk_at "rd"
      refine ⟨by omega, by omega, by omega, fun c c0 c1 => ⟨by omega, at_ex c0 c1 fun x hx => hJ _ ⟨x, hx, rfl⟩⟩⟩
    · obtain ⟨vs, rfl, hvs⟩ := onesS hs hds
      rw [List.length_map] at hl2
      walk_at "rd"
      refine ⟨vs, rfl, by rw [(onesS_len vs hvs).1]; omega, ?_⟩
      rw [joinL_flat]
      have s1 : small vs.flatten = true := join_small (a := []) fun l hl => (hvs l hl).1
      have s2 := (onesS_len vs hvs).2
      rw [hl2] at s2
      generalize vs.flatten = word at s1 s2 ⊢
      clear hvs hl2 hds vs
      walk_at "nx"
      refine fun k k0 k1 => ?_
      have okw : okD (.lst (ws.map D.str)) := okD_strS fun l hl => (hw l hl).1
      have hwl : word.length ≤ 12 := by omega
      have fin : ∀ l : Tx, small l = true → 1 ≤ l.length → l.length ≤ 24 → (∃ y, AR.d (D.str (cutL l none (some 12))) = AR.d (D.str y) ∧ isWord y) := fun l h1 h2 h3 => by
        rw [cut_b (by decide)]
        exact ⟨_, rfl, small_take h1 _, by rw [List.length_take]; show 1 ≤ min 12 _; omega, by rw [List.length_take]; exact Nat.min_le_left _ _⟩
      walk_at "go"
      have hin : ∀ d ∈ ws.map D.str, ∃ v, d = .str v ∧ isWord v := fun d hd => by
        obtain ⟨v, hv, rfl⟩ := List.mem_map.mp hd
        exact ⟨v, rfl, hw v hv⟩
      have hm4 : k = 0 ∨ k = 1 ∨ k = 2 ∨ k = 3 := by omega
      have hll : ((ws.map D.str).length : Int) < 2 ^ 64 := by rw [List.length_map]; omega
      cases hz : ws.isEmpty with
      | true =>
        walk_at "go"
        rw [hz]
        walk_at "go"
        rw [hz]
        walk_at "go"
        exact fin word s1 (by omega) (by omega)
      | false =>
        have hlp : 0 < ((ws.map D.str).length : Int) := by
          cases ws with
          | nil => cases hz
          | cons _ _ => rw [List.length_map, List.length_cons]; omega
        rcases hm4 with rfl | rfl | rfl | rfl
        · walk_at "go"
          rw [hz]
          walk_at "go"
          rw [hz]
          walk_at "go"
          exact fin word s1 (by omega) (by omega)
        · walk_at "go"
          refine fun i i0 i1 => at_ex i0 i1 fun d hd => ?_
          obtain ⟨v, rfl, hv1, hv2, hv3⟩ := hin d hd
          walk_at "go"
          rw [hz]
          walk_at "go"
          rw [hz]
          walk_at "go"
          exact fin _ (small_append hv1 s1) (by rw [List.length_append]; omega) (by rw [List.length_append]; omega)
        · walk_at "go"
          rw [hz]
          walk_at "go"
          refine fun i i0 i1 => at_ex i0 i1 fun d hd => ?_
          obtain ⟨v, rfl, hv1, hv2, hv3⟩ := hin d hd
          walk_at "go"
          refine fun i i0 i1 => at_ex i0 i1 fun d hd => ?_
          obtain ⟨u, rfl, hu1, hu2, hu3⟩ := hin d hd
          walk_at "go"
          rw [hz]
          walk_at "go"
          exact fin _ (small_append hv1 hu1) (by rw [List.length_append]; omega) (by rw [List.length_append]; omega)
        · walk_at "go"
          rw [hz]
          walk_at "go"
          rw [hz]
          walk_at "go"
          refine fun i i0 i1 => at_ex i0 i1 fun d hd => ?_
          obtain ⟨v, rfl, hv1, hv2, hv3⟩ := hin d hd
          walk_at "go"
          exact fin _ (small_append s1 hv1) (by rw [List.length_append]; omega) (by rw [List.length_append]; omega)
  · exact h.elim
end PD

set_option pp.maxSteps 1500
namespace PD
open PySem PySem.Spec PyProof.Rows L2
local macro_rules | `(tactic| walk_at "rd") => `(tactic| simp (config := { decide := true }) only [pSeq_then, pNext, pNever, pBreak, pCont, pDrop, pRet, pRetN, pIf, pSet, pSetD, setD, setP, setO, pVar, pC, pOp2, pTest, pAnd, pOr, pNot, pAndV, pOrV, pNotV, pIfE, pNil, pCons, pLst, pTup, pDict0, pDictC, pDM, dUpdate, pCall, pIsiP, pM1, bJoin, pNo, pPart, pSl, pSortI, pLM, lAppend, lInsert, lExtend, lPopAt, lPop, lReverse, lClear, pLc_eq, pFor_eq, pWhile_eq, pWip, pGw, wipeS, trunc, truncE, pItL, pItS, pRng1, pRng2, pRng3, pVarF, pAug, pDictLen, pLr3, pNeg, pCalls, callP, pEnum, pStepS, pRevL, bStarts, bEnds, pAugK, pItK, pFz, pRaise, pCallX, callX, pTry, pIsX, pLr1, pM0, bUpper, cListB, cTuple, pOrT, pDictLenT, pBor, borE, scalD, pPickL, cSum, cAbs, pItS, pre_need_letters, f_need_letters, pre_is_begun, f_is_begun, pre_row_behind, f_row_behind, pre_rows_from, f_rows_from, pre_least_uncut, f_least_uncut, pre_x__law_cell, pre_x__law_store, f_x__law_store, pre_x__law_kept_word, pre_x__law_words, pre_x__law_book, pre_x__law_is_begun, f_x__law_is_begun, pre_x__law_parts, f_x__law_parts, pre_x__law_split_words, pre_x__law_some_words, pre_x__law_row_behind, f_x__law_row_behind, pre_x__law_rows, f_x__law_rows, pre_x__law_uncut, f_x__law_uncut, pre_x__law_letters,  merge_dictOf, filter_none, take_iff, callN, txo_map, deq_nilU, map_isEmpty, toAR, R.fz, view, views, dats, O.toD, AR.toR, bAdd, bSub, bMul, bDiv, bMod, bPow, bEq,  pSrtSet, pSrtSetS, pForM_eq, pGx, bCmp, bIn, bIs, bIx, bSl, cLen, cMin2, cMax2, cInt, cList, cDict, cSorted, plainD, isiB, tyn, pAsg, tgT, tgU, setsA, pSetIx, storeO, kdOf, pChain, cmpD, pYes, pTru, truD, Hand, tgN, wipeA, fnAbs, envA, ownsA, retA, conP, conN, List.set, List.set_cons_zero, List.set_cons_succ, List.set_nil, List.getElem?_cons_zero, List.getElem?_cons_succ, List.getElem?_nil, List.length_cons, List.length_nil, List.cons_append, List.nil_append, List.append_nil, List.replicate, Nat.reduceSub, Nat.reduceAdd, Nat.zero_add, Int.zero_add, true_and, and_true, reduceIte, Bool.false_eq_true, id, Bool.not_true, Bool.not_false, decide_true, decide_false, List.nodup_nil, List.nodup_cons, List.not_mem_nil, not_false_eq_true, List.take_zero, List.take_succ_cons, List.take_nil, List.map_cons, List.map_nil])
local macro_rules | `(tactic| walk_at "sc") => `(tactic| first | with_reducible assumption | omega | assumption | with_reducible rfl | with_reducible exact True.intro | with_reducible exact okD_ints | with_reducible exact okD_nil | with_reducible exact okD_int _ | with_reducible exact okD_bl _ | with_reducible exact okD_non | with_reducible exact okD_sm (by assumption) | with_reducible exact cmulR (by omega) (by omega) | with_reducible exact cmulL (by omega) (by omega) | with_reducible exact cdivw (by omega) (by omega) | (with_reducible refine smallI_of ?_ ?_ <;> first | omega | (simp only [List.length_map, List.length_append, List.length_range, List.length_replicate, List.length_cons, List.length_nil, List.length_take, List.length_drop]; omega)) | (unfold CPow; decide) | (simp only [List.length_map, List.length_append, List.length_range, List.length_replicate, List.length_cons, List.length_nil, List.length_take, List.length_drop]; omega) | (refine ⟨?_, ?_⟩ <;> walk_at "sc"))
local macro_rules | `(tactic| walk_at "go") => `(tactic| repeat (first | walk_at "rd" | with_reducible refine then_go ?_ | (refine And.intro (by walk_at "sc") ?_) | (refine dict_of (by assumption) ?_) | rw [deq_self (by walk_at "sc")] | walk_at "sc"))
local macro_rules | `(tactic| walk_at "rt") => `(tactic| try walk_at "rd")
local macro_rules | `(tactic| walk_at "nx") => `(tactic| ((try dsimp only); rw [then_eq]; walk_at "rd"))
theorem wds_add {ws : List Tx} {w : Tx} (h : Wds ws 16) (hw : isWord w) (hn : w ∉ ws) (hl : ws.flatten.length + w.length < 17) : Wds (ws ++ [w]) 16 := by
  refine ⟨fun v hv => ?_, List.nodup_append.mpr ⟨h.2.1, List.nodup_cons.mpr ⟨by simp, List.nodup_nil⟩, fun a ha b hb e => ?_⟩, ?_⟩
  · rcases List.mem_append.mp hv with hv | hv
    · exact h.1 v hv
    · rw [List.mem_singleton] at hv
      rw [hv]
      exact hw
  · rw [List.mem_singleton] at hb
    rw [e, hb] at ha
    exact hn ha
  · rw [List.length_flatten] at hl
    rw [List.map_append, List.sum_append]
    show _ + ([w.length] : List Nat).sum ≤ 16
    rw [List.sum_singleton]
    omega
theorem wds_sorted {ws : List Tx} (h : Wds ws 16) : srtOk (ws.map D.str) ∧ srt (ws.map D.str) = (srtT ws).map .str ∧ Wds (srtT ws) 16 ∧ (srtT ws).Pairwise (· < ·) := by
  refine ⟨srtOk_strs fun l hl => small_okX (h.1 l hl).1, srt_texts ws, ⟨fun w hw => h.1 w ((srtT_perm ws).mem_iff.mp hw), (srtT_perm ws).nodup_iff.mpr h.2.1, ?_⟩, srtT_strict h.2.1⟩
  rw [((srtT_perm ws).map List.length).sum_nat]
  exact h.2.2
/-- a word more, where it fits -/
theorem add_word {P : PEnds} {E : List AV} {j : Nat} {w : Tx} {ws : List Tx} {i k : Nat} {M : List (Option O)} (hw : isWord w) (h : Wds ws 16) (e1 : E[i]? = some (.d (.str w))) (e2 : E[j]? = some (.p k)) (e3 : M[k]? = some (some (.lst (ws.map .str))))
    (hP : ∀ vs : List Tx, Wds vs 16 → P.nx ⟨E, M.set k (some (.lst (vs.map .str)))⟩) :
    pIf (pAnd (pTest (pOp2 (bIn not) (pVar i) (pVar j))) (pTest (pOp2 bLt (pOp2 bAdd (pCall cLen (pCons (pM1 bJoin (pC (.str [])) (pVar j)) pNil)) (pCall cLen (pCons (pVar i) pNil))) (pC (.int 17))))) (pDrop (pLM lAppend (pVar j) (pCons (pVar i) pNil))) pNext P ⟨E, M⟩ := by
  have hl := h.len
  have hM : M.set k (some (.lst (ws.map .str))) = M := by
    apply List.ext_getElem?
    intro n
    by_cases hn : k = n
    · subst hn
      rw [List.getElem?_set_self (List.getElem?_eq_some_iff.mp e3).1, e3]
    · rw [List.getElem?_set_ne hn]
  have hkeep : P.nx ⟨E, M⟩ := by
    have := hP ws h
    rwa [hM] at this
  walk_at "rd"
  rw [e1, e2]
  walk_at "rd"
  rw [e3]
  walk_at "rd"
  refine ⟨okD_sm hw.1, okD_strS fun l hl => (h.1 l hl).1, ?_⟩
  rw [any_str]
  by_cases hm : w ∈ ws
  · rw [decide_eq_true hm]
    exact hkeep
  · rw [decide_eq_false hm]
    have hf : (ws.map List.length).sum ≤ 16 := h.2.2
    refine ⟨ws, rfl, by omega, ?_⟩
    rw [joinL_flat]
    have hfl : ws.flatten.length ≤ 16 := by rw [List.length_flatten]; exact hf
    have hw3 := hw.2.2
    refine ⟨by omega, by omega, ?_⟩
    by_cases hlt : ((ws.flatten.length : Int) + (w.length : Int) < 17)
    · rw [if_pos (decide_eq_true hlt)]
      refine ⟨by rw [List.length_map]; omega, ?_⟩
      have := hP (ws ++ [w]) (wds_add h hw hm (by omega))
      rw [List.map_append] at this
      exact this
    · rw [if_neg (fun z => hlt (of_decide_eq_true z))]
      exact hkeep
theorem seq_at {i : Int} {n : Nat} (h0 : 0 ≤ i) (h1 : i < n) : seqIndex? i n = some i.toNat := by
  unfold seqIndex?
  simp only [h0, h1]
  simp
  try omega
theorem sub_sum {a b : List Tx} (h : a.Sublist b) : (a.map List.length).sum ≤ (b.map List.length).sum := by
  induction h with
  | slnil => exact Nat.le_refl _
  | cons x _ ih => rw [List.map_cons, List.sum_cons]; omega
  | cons_cons x _ ih => rw [List.map_cons, List.map_cons, List.sum_cons, List.sum_cons]; omega
theorem map_erase {α β : Type} (f : α → β) : ∀ (xs : List α) (k : Nat), (xs.map f).eraseIdx k = (xs.eraseIdx k).map f
  | [], _ => rfl
  | x :: r, 0 => rfl
  | x :: r, k + 1 => by
    show f x :: (r.map f).eraseIdx k = f x :: (r.eraseIdx k).map f
    rw [map_erase f r k]
theorem lc_idx {n : Nat} {it : Nat → D} {C : List (Option O) → Prop} {tg : PTG} {tt : PTT} {pe : PTE} {vs : List Nat} {A1 : Abs} {P : R → Abs → Prop} {Y : PX} (G : Nat → D → Prop) (hC : C A1.M) (hn : n ≤ 16777216)
    (hs : ∀ i, i < n → ∃ env', tg (it i) (wipeA A1.env vs) = some env' ∧ ∀ J : Option D → List (Option O) → Prop, (∀ d, G i d → J (some d) A1.M) → tt ⟨env', A1.M⟩ (Hand J pe Y) Y) (hp : ∀ ds : List D, ds.length = n → (∀ i, (h : i < ds.length) → G i ds[i]) → P (.o (.lst ds)) A1) : LcP n it C tg tt pe vs A1 P Y := by
  refine ⟨fun i acc M => M = A1.M ∧ acc.length = i ∧ ∀ j, (h : j < acc.length) → G j acc[j], ⟨rfl, rfl, fun j h => absurd h (Nat.not_lt_zero _)⟩, fun i acc M _ ⟨h, _⟩ => by rw [h]; exact hC, fun i acc M hi ⟨h1, h2, h3⟩ => ?_, fun acc M ⟨h1, h2, h3⟩ => by rw [h1]; exact hp acc h2 h3⟩
  obtain ⟨env', e, k⟩ := hs i hi
  refine ⟨env', e, ?_⟩
  rw [h1]
  refine k (fun x M => match x with
    | some d => acc.length < 16777216 ∧ M = A1.M ∧ (acc ++ [d]).length = i + 1 ∧ ∀ j, (h : j < (acc ++ [d]).length) → G j (acc ++ [d])[j]
    | none => M = A1.M ∧ acc.length = i + 1 ∧ ∀ j, (h : j < acc.length) → G j acc[j]) fun d hd => ⟨by omega, rfl, by simp [h2], fun j hj => ?_⟩
  by_cases q : j < acc.length
  · rw [List.getElem_append_left q]
    exact h3 j q
  · have : j = acc.length := by rw [List.length_append, List.length_singleton] at hj; omega
    subst this
    rw [List.getElem_append_right (Nat.le_refl _)]
    simp only [Nat.sub_self, List.getElem_cons_zero]
    rw [h2]
    exact hd
theorem pairs_of : ∀ {ws : List Tx} {ds : List D}, ds.length = ws.length → (∀ i, (h : i < ds.length) → ∃ j : Int, ds[i] = pairD (.inr (ws.getD i []), .int j)) → ∃ ps : List (Tx × Int), ds = ps.map (fun p => pairD (.inr p.1, .int p.2)) ∧ ps.map (·.1) = ws
  | [], [], _, _ => ⟨[], rfl, rfl⟩
  | w :: ws, d :: ds, hl, h => by
    obtain ⟨ps, e1, e2⟩ := pairs_of (ws := ws) (ds := ds) (by simpa using hl) fun i hi => by
      obtain ⟨j, e⟩ := h (i + 1) (by simpa using hi)
      exact ⟨j, by simpa using e⟩
    obtain ⟨j, e⟩ := h 0 (by simp)
    exact ⟨(w, j) :: ps, by rw [e1]; rw [List.map_cons]; congr 1, by rw [List.map_cons, e2]⟩
  | [], _ :: _, hl, _ => by simp at hl
  | _ :: _, [], hl, _ => by simp at hl
/-- none begins with another -/
def PF (ws : List Tx) : Prop := ws.Nodup ∧ ∀ a ∈ ws, ∀ b ∈ ws, a <+: b → a = b
theorem pf_split {ws : List Tx} {s w : Tx} (h : PF ws) (hs : s.Nodup) (hw : w ∈ ws) : PF (ws.filter (fun v => !decide (v = w)) ++ s.map fun c => w ++ [c]) := by
  have hf : ∀ {v}, v ∈ ws.filter (fun v => !decide (v = w)) → v ∈ ws ∧ v ≠ w := fun {v} hv => by
    have := List.mem_filter.mp hv
    exact ⟨this.1, by simpa using this.2⟩
  have n1 : ∀ a c, a ∈ ws → a ≠ w → ¬ a <+: w ++ [c] := fun a c ha hne hp => by
    rcases List.prefix_concat_iff.mp (by simpa using hp) with e | hp
    · exact hne (h.2 w hw a ha ⟨[c], by rw [e]⟩).symm
    · exact hne (h.2 a ha w hw hp)
  have n2 : ∀ a c, a ∈ ws → a ≠ w → ¬ w ++ [c] <+: a := fun a c ha hne hp => hne (h.2 w hw a ha (List.IsPrefix.trans ⟨[c], rfl⟩ hp)).symm
  refine ⟨List.nodup_append.mpr ⟨h.1.filter _, ?_, fun a ha b hb e => ?_⟩, fun a ha b hb hp => ?_⟩
  · rw [List.nodup_iff_pairwise_ne, List.pairwise_map]
    exact (List.nodup_iff_pairwise_ne.mp hs).imp fun h e => h (by simpa using e)
  · obtain ⟨c, _, rfl⟩ := List.mem_map.mp hb
    have := hf ha
    exact n1 a c this.1 this.2 ⟨[], by rw [List.append_nil]; exact e⟩
  · rcases List.mem_append.mp ha with ha | ha
    · rcases List.mem_append.mp hb with hb | hb
      · exact h.2 a (hf ha).1 b (hf hb).1 hp
      · obtain ⟨c, _, rfl⟩ := List.mem_map.mp hb
        exact absurd hp (n1 a c (hf ha).1 (hf ha).2)
    · obtain ⟨c, _, rfl⟩ := List.mem_map.mp ha
      rcases List.mem_append.mp hb with hb | hb
      · exact absurd hp (n2 b c (hf hb).1 (hf hb).2)
      · obtain ⟨d, _, rfl⟩ := List.mem_map.mp hb
        exact hp.eq_of_length (by simp)
theorem r_x__law_words : Law p_x__law_words N_x__law_words 1 (conN pre_x__law_words ok_x__law_words) := fun ars h => by
  have h : pre_store ars := h
  unfold pre_store at h
  split at h
  · subst h
    refine ⟨rfl, ?_⟩
    unfold p_x__law_words endsA
    walk_at "rd"
    refine fun i i0 i1 => at_ex i0 i1 fun d hd => ?_
    obtain ⟨s, rfl, hs, hs1, hs2⟩ : ∃ s : Tx, d = .str s ∧ small s = true ∧ 1 ≤ s.length ∧ s.length ≤ 26 := by
      simp only [List.mem_cons, List.not_mem_nil, or_false] at hd
      rcases hd with rfl | rfl | rfl | rfl | rfl | rfl <;> exact ⟨_, rfl, by decide, by decide, by decide⟩
    clear hd
    walk_at "go"
    refine fun n n0 n1 => ?_
    walk_at "go"
    refine for_rng0 (fun i A => ∃ ws : List Tx, A = ⟨[AV.p 0, .d (.str s), .p 1, .un, .un], [some (.res storeRP), some (.lst (ws.map .str))]⟩ ∧ Wds ws 16) ⟨[], rfl, by simp, List.nodup_nil, by simp⟩ (by intros; trivial) ?_ ?_
    · rintro i A hi ⟨ws, rfl, hW⟩
      have hl := hW.len
      refine ⟨_, rfl, fun J Kb hJ hK => ?_⟩
      walk_at "rd"
      refine ⟨⟨hs, hs1, hs2, ws, rfl, hW.1, by omega⟩, ?_⟩
      rintro y ⟨w, rfl, hw⟩
      walk_at "rt"
      rw [then_eq]
      refine add_word hw hW rfl rfl rfl fun vs hv => ?_
      walk_at "rt"
      exact hJ _ ⟨vs, rfl, hv⟩
    · rintro A ⟨ws, rfl, hW⟩
      obtain ⟨w1, w2, w3, w4⟩ := wds_sorted hW
      walk_at "nx"
      refine ⟨w1, ?_⟩
      rw [w2]
      exact ⟨_, rfl, w3, w4⟩
  · exact h.elim
theorem r_x__law_book : Law p_x__law_book N_x__law_book 2 (conN pre_x__law_book ok_x__law_book) := fun ars h => by
  have h : pre_x__law_book ars := h
  unfold pre_x__law_book at h
  split at h
  · obtain ⟨rfl, ws, rfl, hl⟩ := h
    refine ⟨rfl, ?_⟩
    unfold p_x__law_book endsA
    walk_at "go"
    refine fun i i0 i1 => at_ex i0 i1 fun d hd => ?_
    obtain ⟨g, rfl⟩ : ∃ g : Int, d = .int g := by
      simp only [List.mem_cons, List.not_mem_nil, or_false] at hd
      rcases hd with rfl | rfl | rfl | rfl | rfl | rfl <;> exact ⟨_, rfl⟩
    walk_at "nx"
    refine lc_idx (fun i d => ∃ j : Int, d = pairD (.inr (ws.getD i []), .int j)) trivial (by rw [List.length_map]; omega) (fun i hi => ⟨_, rfl, fun J hJ => ?_⟩) fun ds hl2 hds => ?_
    · rw [List.length_map] at hi
      rw [itL_map hi]
      walk_at "go"
      refine fun t t0 t1 => ?_
      walk_at "go"
      exact hJ _ ⟨(t - 3) * g, by rw [getD_of hi]; rfl⟩
    · rw [List.length_map] at hl2
      obtain ⟨ps, e1, e2⟩ := pairs_of hl2 hds
      walk_at "go"
      exact ⟨ps, by rw [e1], by rw [e2]⟩
  · exact h.elim
theorem r_x__law_letters : Law p_x__law_letters N_x__law_letters 1 (conN pre_x__law_letters ok_x__law_letters) := fun ars h => by
  have h : pre_store ars := h
  unfold pre_store at h
  split at h
  · subst h
    refine ⟨rfl, ?_⟩
    unfold p_x__law_letters endsA
    walk_at "go"
    refine fun i i0 i1 => at_ex i0 i1 fun d hd => ?_
    obtain ⟨k, rfl, k0, k1⟩ : ∃ k : Int, d = .int k ∧ 0 ≤ k ∧ k < 9 := by
      simp only [List.mem_cons, List.not_mem_nil, or_false] at hd
      rcases hd with rfl | rfl | rfl | rfl | rfl | rfl | rfl | rfl | rfl | rfl | rfl <;> exact ⟨_, rfl, by decide, by decide⟩
    walk_at "go"
    refine at_ex k0 k1 fun d hd => ?_
    simp only [List.mem_cons, List.not_mem_nil, or_false] at hd
    rcases hd with rfl | rfl | rfl | rfl | rfl | rfl | rfl | rfl | rfl
    all_goals exact ⟨_, rfl, by decide, by decide, by decide, by decide⟩
  · exact h.elim
theorem r_x__law_split_words : Law p_x__law_split_words N_x__law_split_words 1 (conN pre_x__law_split_words ok_x__law_split_words) := fun ars h => by
  have h : pre_store ars := h
  unfold pre_store at h
  split at h
  · subst h
    refine ⟨rfl, ?_⟩
    unfold p_x__law_split_words endsA
    walk_at "rd"
    refine fun i i0 i1 => at_ex i0 i1 fun d hd => ?_
    obtain ⟨s, rfl, hs, hs1, hs2, hs3⟩ : ∃ s : Tx, d = .str s ∧ small s = true ∧ 1 ≤ s.length ∧ s.length ≤ 3 ∧ s.Nodup := by
      simp only [List.mem_cons, List.not_mem_nil, or_false] at hd
      rcases hd with rfl | rfl | rfl | rfl | rfl <;> exact ⟨_, rfl, by decide, by decide, by decide, by decide⟩
    clear hd
    walk_at "go"
    refine fun n n0 n1 => ?_
    walk_at "go"
    have hone : ∀ v ∈ s.map (fun c => [c]), small v = true ∧ v.length = 1 := fun v hv => by
      obtain ⟨c, hc, rfl⟩ := List.mem_map.mp hv
      exact ⟨small_one hs hc, rfl⟩
    have hW0 : PF (s.map fun c => [c]) := by
      refine ⟨?_, fun a ha b hb hp => ?_⟩
      · rw [List.nodup_iff_pairwise_ne, List.pairwise_map]
        exact (List.nodup_iff_pairwise_ne.mp hs3).imp fun h e => h (by simpa using e)
      · exact hp.eq_of_length (by rw [(hone a ha).2, (hone b hb).2])
    have hS0 : ((s.map fun c => [c]).map List.length).sum ≤ 16 := by
      have : (s.map fun c => [c]).map List.length = s.map fun _ => 1 := by rw [List.map_map]; rfl
      rw [this, List.map_const', List.sum_replicate_nat]
      omega
    refine forM_any (fun i A => ∃ ws : List Tx, A = ⟨[AV.p 0, .d (.str s), .p 2, .un, .un, .un, .un, .un], [some (.res storeRP), none, some (.lst (ws.map .str))]⟩ ∧ PF ws ∧ (ws.map List.length).sum ≤ 16 ∧ 1 ≤ ws.length ∧ ∀ w ∈ ws, small w = true ∧ 1 ≤ w.length ∧ w.length ≤ 1 + i)
      ⟨s.map fun c => [c], by rw [List.map_map]; rfl, hW0, hS0, by rw [List.length_map]; exact hs1, fun w hw => ⟨(hone w hw).1, by rw [(hone w hw).2]; exact Nat.le_refl _, by rw [(hone w hw).2]; exact Nat.le_refl _⟩⟩ (by intros; trivial) ?_ ?_
    · rintro i A hi ⟨ws, rfl, hP, hsum, hne, hw⟩
      have hi4 : i < 4 := by omega
      have hwl : ws.length ≤ 16 := by
        have : ∀ xs : List Tx, (∀ x ∈ xs, 1 ≤ x.length) → xs.length ≤ (xs.map List.length).sum := fun xs => by
          induction xs with
          | nil => intro _; exact Nat.le_refl _
          | cons a r ih =>
            intro h
            have h1 := ih fun x hx => h x (by simp [hx])
            have h2 := h a (by simp)
            rw [List.length_cons, List.map_cons, List.sum_cons]
            omega
        have := this ws fun x hx => (hw x hx).2.1
        omega
      refine ⟨_, rfl, fun J Kb hJ hK => ?_⟩
      walk_at "rd"
      refine ⟨by rw [List.length_map]; omega, by rw [List.length_map]; omega, fun a a0 a1 => ?_⟩
      refine at_ex a0 a1 fun d hd => ?_
      obtain ⟨w, hww, rfl⟩ := List.mem_map.mp hd
      walk_at "go"
      refine lc_over (xs := ws) (f := D.str) (fun v => !decide (v = w)) .str rfl (by omega) (fun v hv => ⟨_, rfl, fun J2 hJ2 => ?_⟩) ?_
      · walk_at "go"
      · walk_at "go"
        refine lc_strA (fun c => .str (w ++ [c])) trivial (by omega) (fun c hc => ⟨_, rfl, fun J2 hJ2 => ?_⟩) ?_
        · have := hw w hww
          walk_at "go"
        · obtain ⟨vs, hvs⟩ : ∃ vs, vs = ws.filter (fun v => !decide (v = w)) ++ s.map fun c => w ++ [c] := ⟨_, rfl⟩
          have e1 : (ws.filter fun v => !decide (v = w)).map D.str ++ s.map (fun c => D.str (w ++ [c])) = vs.map D.str := by
            rw [hvs, List.map_append, List.map_map]
            rfl
          have hvP : PF vs := by rw [hvs]; exact pf_split hP hs3 hww
          have hv1 : 1 ≤ vs.length := by rw [hvs, List.length_append, List.length_map]; omega
          have hvw : ∀ v ∈ vs, small v = true ∧ 1 ≤ v.length ∧ v.length ≤ 1 + (i + 1) := fun v hv => by
            rw [hvs] at hv
            rcases List.mem_append.mp hv with hv | hv
            · have := hw v (List.mem_filter.mp hv).1
              exact ⟨this.1, this.2.1, by omega⟩
            · obtain ⟨c, hc, rfl⟩ := List.mem_map.mp hv
              have := hw w hww
              exact ⟨small_append this.1 (small_one hs hc), by rw [List.length_append]; omega, by rw [List.length_append, List.length_singleton]; omega⟩
          have hvl : vs.length ≤ 20 := by
            have := List.length_filter_le (fun v => !decide (v = w)) ws
            rw [hvs, List.length_append, List.length_map]
            omega
          have hvs2 : (vs.map List.length).sum ≤ 1000 := by
            have : ∀ xs : List Tx, (∀ x ∈ xs, x.length ≤ 50) → (xs.map List.length).sum ≤ 50 * xs.length := fun xs => by
              induction xs with
              | nil => intro _; exact Nat.zero_le _
              | cons a r ih =>
                intro h
                have h1 := ih fun x hx => h x (by simp [hx])
                have h2 := h a (by simp)
                rw [List.length_cons, List.map_cons, List.sum_cons]
                omega
            have := this vs fun v hv => by have := (hvw v hv).2.2; omega
            omega
          have hvf : vs.flatten.length = (vs.map List.length).sum := List.length_flatten
          walk_at "go"
          rw [e1]
          clear hvs e1
          refine ⟨by rw [List.length_map, List.length_map]; have := List.length_filter_le (fun v => !decide (v = w)) ws; omega, ?_⟩
          walk_at "nx"
          refine ⟨vs, rfl, by omega, ?_⟩
          rw [joinL_flat]
          refine ⟨by omega, ?_⟩
          by_cases hlt : ((vs.flatten.length : Int) < 17)
          · rw [if_pos (decide_eq_true hlt)]
            exact hJ _ ⟨vs, rfl, hvP, by omega, hv1, hvw⟩
          · rw [if_neg (fun z => hlt (of_decide_eq_true z))]
            exact hJ _ ⟨ws, rfl, hP, hsum, hne, fun v hv => by have := hw v hv; exact ⟨this.1, this.2.1, by omega⟩⟩
    · rintro A ⟨ws, rfl, hP, hsum, hne, hw⟩
      have hW : Wds ws 16 := ⟨fun w h => ⟨(hw w h).1, (hw w h).2.1, by have := (hw w h).2.2; omega⟩, hP.1, hsum⟩
      have hwl := hW.len
      have hws : ∀ (vs : List Tx), Wds vs 16 → Then
          (pSeq (pWip [3, 4] (pFor (pRng1 (pCons (pCalls callT (pCons (pVar 0) (pCons (pC (D.int 3)) pNil))) pNil)) (tgN 3)
                  (pGw [3, 4] [3, 4]
                    (pSeq
                      (pSetD 4
                        (pCalls (callN pre_x__law_kept_word ok_x__law_kept_word)
                          (pCons (pVar 0) (pCons (pVar 2) (pCons (pVar 1) pNil)))))
                      (pIf
                        (pAnd (pTest (pOp2 (bIn not) (pVar 4) (pVar 2)))
                          (pTest
                            (pOp2 bLt
                              (pOp2 bAdd (pCall cLen (pCons (pM1 bJoin (pC (D.str [])) (pVar 2)) pNil))
                                (pCall cLen (pCons (pVar 4) pNil)))
                              (pC (D.int 17)))))
                        (pDrop (pLM lAppend (pVar 2) (pCons (pVar 4) pNil))) pNext)))))
              (pRet (pCall cSorted (pCons (pVar 2) pNil))))
          (endsA 1 ((conN pre_store ok_words).ok [AR.o (O.res storeRP)]))
          ⟨[AV.p 0, .d (.str s), .p 2, .un, .un, .un, .un, .un], [some (.res storeRP), none, some (.lst (vs.map .str))]⟩ := fun vs hV => by
        unfold endsA
        walk_at "nx"
        refine fun n n0 n1 => ⟨by unfold smallI; omega, ?_⟩
        refine for_rng0 (fun i A => ∃ ws : List Tx, A = ⟨[AV.p 0, .d (.str s), .p 2, .un, .un, .un, .un, .un], [some (.res storeRP), none, some (.lst (ws.map .str))]⟩ ∧ Wds ws 16) ⟨vs, rfl, hV⟩ (by intros; trivial) ?_ ?_
        · rintro i A hi ⟨ws, rfl, hW⟩
          have hl := hW.len
          refine ⟨_, rfl, fun J Kb hJ hK => ?_⟩
          walk_at "rd"
          refine ⟨⟨hs, hs1, by omega, ws, rfl, hW.1, by omega⟩, ?_⟩
          rintro y ⟨w, rfl, hw⟩
          walk_at "rt"
          rw [then_eq]
          refine add_word hw hW rfl rfl rfl fun vs hv => ?_
          walk_at "rt"
          exact hJ _ ⟨vs, rfl, hv⟩
        · rintro A ⟨ws, rfl, hW⟩
          obtain ⟨w1, w2, w3, w4⟩ := wds_sorted hW
          walk_at "nx"
          refine ⟨w1, ?_⟩
          rw [w2]
          exact ⟨_, rfl, w3, w4⟩
      walk_at "nx"
      refine fun t t0 t1 => ?_
      by_cases ht : t = 0
      · rw [if_pos (decide_eq_true ht)]
        by_cases hl1 : (1 : Int) < ((ws.map D.str).length : Int)
        · rw [if_pos (decide_eq_true hl1)]
          rw [List.length_map] at hl1 ⊢
          refine ⟨by omega, by omega, fun i i0 i1 => ⟨by omega, by omega, i.toNat, _, seq_at i0 i1, List.getElem?_eq_getElem (by rw [List.length_map]; omega), ?_⟩⟩
          rw [map_erase]
          refine hws _ ⟨fun w h => hW.1 w ((List.eraseIdx_sublist ws _).mem h), hW.2.1.sublist (List.eraseIdx_sublist ws _), ?_⟩
          have := sub_sum (List.eraseIdx_sublist ws i.toNat)
          omega
        · rw [if_neg (fun z => hl1 (of_decide_eq_true z))]
          exact hws ws hW
      · rw [if_neg (fun z => ht (of_decide_eq_true z))]
        exact hws ws hW
  · exact h.elim
theorem r_x__law_some_words : Law p_x__law_some_words N_x__law_some_words 1 (conN pre_x__law_some_words ok_x__law_some_words) := fun ars h => by
  have h : pre_store ars := h
  unfold pre_store at h
  split at h
  · subst h
    refine ⟨rfl, ?_⟩
    unfold p_x__law_some_words endsA
    walk_at "rd"
    refine ⟨rfl, ?_⟩
    rintro y ⟨ws, rfl, w1, w2⟩
    walk_at "rd"
    refine ⟨rfl, ?_⟩
    rintro y ⟨vs, rfl, v1, v2⟩
    walk_at "go"
    refine fun i i0 i1 => at_ex i0 i1 fun d hd => ?_
    simp only [List.mem_cons, List.not_mem_nil, or_false] at hd
    rcases hd with rfl | rfl
    · exact ⟨ws, rfl, w1, w2⟩
    · exact ⟨vs, rfl, v1, v2⟩
  · exact h.elim
end PD

set_option pp.maxSteps 1500
namespace PD
open PySem PySem.Spec PyProof.Rows L2
local macro_rules | `(tactic| walk_at "rd") => `(tactic| simp (config := { decide := true }) only [pSeq_then, pNext, pNever, pBreak, pCont, pDrop, pRet, pRetN, pIf, pSet, pSetD, setD, setP, setO, pVar, pC, pOp2, pTest, pAnd, pOr, pNot, pAndV, pOrV, pNotV, pIfE, pNil, pCons, pLst, pTup, pDict0, pDictC, pDM, dUpdate, pCall, pIsiP, pM1, bJoin, pNo, pPart, pSl, pSortI, pLM, lAppend, lInsert, lExtend, lPopAt, lPop, lReverse, lClear, pLc_eq, pFor_eq, pWhile_eq, pWip, pGw, wipeS, trunc, truncE, pItL, pItS, pRng1, pRng2, pRng3, pVarF, pAug, pDictLen, pLr3, pNeg, pCalls, callP, pEnum, pStepS, pRevL, bStarts, bEnds, pAugK, pItK, pFz, pRaise, pCallX, callX, pTry, pIsX, pLr1, pM0, bUpper, cListB, cTuple, pOrT, pDictLenT, pBor, borE, scalD, pPickL, cSum, cAbs, pItS, pre_need_letters, f_need_letters, pre_is_begun, f_is_begun, pre_row_behind, f_row_behind, pre_rows_from, f_rows_from, pre_least_uncut, f_least_uncut, pre_x__law_cell, pre_x__law_store, f_x__law_store, pre_x__law_kept_word, pre_x__law_words, pre_x__law_book, pre_x__law_is_begun, f_x__law_is_begun, pre_x__law_parts, f_x__law_parts, pre_x__law_split_words, pre_x__law_some_words, pre_x__law_row_behind, f_x__law_row_behind, pre_x__law_rows, f_x__law_rows, pre_x__law_uncut, f_x__law_uncut, pre_x__law_letters,  merge_dictOf, filter_none, take_iff, callN, txo_map, deq_nilU, map_isEmpty, toAR, R.fz, view, views, dats, O.toD, AR.toR, bAdd, bSub, bMul, bDiv, bMod, bPow, bEq,  pSrtSet, pSrtSetS, pForM_eq, pGx, bCmp, bIn, bIs, bIx, bSl, cLen, cMin2, cMax2, cInt, cList, cDict, cSorted, plainD, isiB, tyn, pAsg, tgT, tgU, setsA, pSetIx, storeO, kdOf, pChain, cmpD, pYes, pTru, truD, Hand, tgN, wipeA, fnAbs, envA, ownsA, retA, conP, conN, List.set, List.set_cons_zero, List.set_cons_succ, List.set_nil, List.getElem?_cons_zero, List.getElem?_cons_succ, List.getElem?_nil, List.length_cons, List.length_nil, List.cons_append, List.nil_append, List.append_nil, List.replicate, Nat.reduceSub, Nat.reduceAdd, Nat.zero_add, Int.zero_add, true_and, and_true, reduceIte, Bool.false_eq_true, id, Bool.not_true, Bool.not_false, decide_true, decide_false, List.nodup_nil, List.nodup_cons, List.not_mem_nil, not_false_eq_true, List.take_zero, List.take_succ_cons, List.take_nil, List.map_cons, List.map_nil])
local macro_rules | `(tactic| walk_at "sc") => `(tactic| first | with_reducible assumption | omega | assumption | with_reducible rfl | with_reducible exact True.intro | with_reducible exact okD_ints | with_reducible exact okD_nil | with_reducible exact okD_int _ | with_reducible exact okD_bl _ | with_reducible exact okD_non | with_reducible exact okD_sm (by assumption) | with_reducible exact cmulR (by omega) (by omega) | with_reducible exact cmulL (by omega) (by omega) | with_reducible exact cdivw (by omega) (by omega) | (with_reducible refine smallI_of ?_ ?_ <;> first | omega | (simp only [List.length_map, List.length_append, List.length_range, List.length_replicate, List.length_cons, List.length_nil, List.length_take, List.length_drop]; omega)) | (unfold CPow; decide) | (simp only [List.length_map, List.length_append, List.length_range, List.length_replicate, List.length_cons, List.length_nil, List.length_take, List.length_drop]; omega) | (refine ⟨?_, ?_⟩ <;> walk_at "sc"))
local macro_rules | `(tactic| walk_at "go") => `(tactic| repeat (first | walk_at "rd" | with_reducible refine then_go ?_ | (refine And.intro (by walk_at "sc") ?_) | (refine dict_of (by assumption) ?_) | rw [deq_self (by walk_at "sc")] | walk_at "sc"))
local macro_rules | `(tactic| walk_at "rt") => `(tactic| try walk_at "rd")
local macro_rules | `(tactic| walk_at "nx") => `(tactic| ((try dsimp only); rw [then_eq]; walk_at "rd"))
theorem begun_filter (ws : List Tx) (t : Tx) : (!(ws.filter fun w => decide (w ≠ t) && t.isPrefixOf w).isEmpty) = begun ws t := by
  unfold begun
  induction ws with
  | nil => rfl
  | cons w r ih =>
    rw [List.filter_cons, List.any_cons, ← ih]
    cases (decide (w ≠ t) && t.isPrefixOf w) <;> simp
theorem r_is_begun : Law p_is_begun N_is_begun 2 (conP pre_is_begun f_is_begun) := fun ars h => by
  have h : pre_is_begun ars := h
  unfold pre_is_begun at h
  split at h
  · rename_i xs t _
    obtain ⟨ht, ws, rfl, hW⟩ := h
    have hl := hW.len
    refine ⟨rfl, ?_⟩
    unfold p_is_begun endsA
    walk_at "go"
    refine lc_over (xs := ws) (f := D.str) (fun w => decide (w ≠ t) && t.isPrefixOf w) .str trivial (by omega) (fun w hw => ⟨_, rfl, fun J hJ => ?_⟩) ?_
    · walk_at "go"
      by_cases hw1 : w = t
      · rw [if_neg (by simp [hw1])] at hJ
        rw [if_neg (by simp [hw1])]
        exact hJ
      · rw [if_pos (by simp [hw1])]
        by_cases hp : t <+: w
        · rw [if_pos (by rw [decide_eq_true (show w ≠ t from hw1), Bool.true_and, List.isPrefixOf_iff_prefix]; exact hp)] at hJ
          rw [if_pos (decide_eq_true hp)]
          exact hJ
        · rw [if_neg (by rw [decide_eq_true (show w ≠ t from hw1), Bool.true_and, List.isPrefixOf_iff_prefix]; exact hp)] at hJ
          rw [if_neg (fun z => hp (of_decide_eq_true z))]
          exact hJ
    · walk_at "go"
      refine ⟨okD_strS fun l hl => (hW.1 l (List.mem_filter.mp hl).1).1, okD_nil, ?_⟩
      rw [begun_filter]
  · exact h.elim
theorem r_x__law_is_begun : Law p_x__law_is_begun N_x__law_is_begun 2 (conP pre_x__law_is_begun f_x__law_is_begun) := fun ars h => by
  have h : pre_is_begun ars := h
  unfold pre_is_begun at h
  split at h
  · rename_i xs t _
    obtain ⟨ht, ws, rfl, hW⟩ := h
    have hl := hW.len
    refine ⟨rfl, ?_⟩
    unfold p_x__law_is_begun endsA
    walk_at "go"
    refine lc_over (xs := ws) (f := D.str) (fun w => decide (w ≠ t) && t.isPrefixOf w) .str trivial (by omega) (fun w hw => ⟨_, rfl, fun J hJ => ?_⟩) ?_
    · have hw3 := (hW.1 w hw).2.2
      walk_at "go"
      have key : (decide (w ≠ t) && t.isPrefixOf w) = true ↔ t.length < w.length ∧ w.take t.length = t := by
        rw [Bool.and_eq_true, decide_eq_true_eq, List.isPrefixOf_iff_prefix]
        constructor
        · rintro ⟨h1, z, rfl⟩
          refine ⟨?_, List.take_left⟩
          have hz : z ≠ [] := fun q => h1 (by rw [q, List.append_nil])
          have := List.length_pos_iff.mpr hz
          rw [List.length_append]
          omega
        · rintro ⟨h1, h2⟩
          refine ⟨fun q => by rw [q] at h1; omega, w.drop t.length, ?_⟩
          have e := List.take_append_drop t.length w
          rw [h2] at e
          exact e
      rw [cut_b (by omega), Int.toNat_natCast]
      by_cases h1 : t.length < w.length
      · rw [if_pos (decide_eq_true (show (t.length : Int) < w.length by omega))]
        refine ⟨by omega, by omega, ?_⟩
        by_cases h2 : w.take t.length = t
        · rw [if_pos (key.mpr ⟨h1, h2⟩)] at hJ
          rw [if_pos (decide_eq_true h2)]
          exact hJ
        · rw [if_neg (fun z => h2 (key.mp z).2)] at hJ
          rw [if_neg (fun z => h2 (of_decide_eq_true z))]
          exact hJ
      · rw [if_neg (fun z => h1 (key.mp z).1)] at hJ
        rw [if_neg (fun z => by have := of_decide_eq_true z; omega)]
        exact hJ
    · walk_at "go"
      refine ⟨okD_strS fun l hl => (hW.1 l (List.mem_filter.mp hl).1).1, okD_nil, ?_⟩
      rw [begun_filter]
  · exact h.elim
theorem r_x__law_parts : Law p_x__law_parts N_x__law_parts 3 (conP pre_x__law_parts f_x__law_parts) := fun ars h => by
  have h : pre_x__law_parts ars := h
  unfold pre_x__law_parts at h
  split at h
  · rename_i xs p c _
    obtain ⟨ht, hp, hc, ws, rfl, hW⟩ := h
    have hl := hW.len
    have okP := okD_sm (small_append hp hc)
    have okW : okD (.lst (ws.map D.str)) := okD_strS fun l hl => (hW.1 l hl).1
    refine ⟨rfl, ?_⟩
    unfold p_x__law_parts endsA
    walk_at "go"
    by_cases hb : begun ws (p ++ c) = true
    · rw [if_pos hb]
      refine ⟨by omega, ?_⟩
      walk_at "nx"
      refine ⟨by omega, okP, okW, ?_⟩
      rw [any_str]
      by_cases hm : p ++ c ∈ ws
      · rw [if_pos (decide_eq_true hm)]
        walk_at "go"
        unfold partsT
        rw [if_pos hb, if_pos hm]
        exact ⟨_, rfl, rfl⟩
      · rw [if_neg (fun z => hm (of_decide_eq_true z))]
        walk_at "go"
        unfold partsT
        rw [if_pos hb, if_neg hm]
        exact ⟨_, rfl, rfl⟩
    · rw [if_neg hb]
      walk_at "nx"
      refine ⟨by omega, okP, okW, ?_⟩
      rw [any_str]
      by_cases hm : p ++ c ∈ ws
      · rw [if_pos (decide_eq_true hm)]
        walk_at "go"
        unfold partsT
        rw [if_neg hb, if_pos hm]
        exact ⟨_, rfl, rfl⟩
      · rw [if_neg (fun z => hm (of_decide_eq_true z))]
        walk_at "go"
        unfold partsT
        rw [if_neg hb, if_neg hm]
        exact ⟨_, rfl, rfl⟩
  · exact h.elim
theorem small_sub {ws : List Tx} (hW : ∀ w ∈ ws, isWord w) {t : Tx} (h : t = [] ∨ begun ws t = true) : small t = true ∧ t.length ≤ 12 := by
  rcases h with rfl | h
  · exact ⟨rfl, Nat.zero_le _⟩
  · obtain ⟨w, hw, _, z, e⟩ := begun_iff.mp h
    have := hW w hw
    rw [← e] at this
    refine ⟨?_, ?_⟩
    · have h1 := this.1
      unfold small at h1 ⊢
      rw [List.all_append, Bool.and_eq_true] at h1
      exact h1.1
    · have h1 := this.2.2
      rw [List.length_append] at h1
      omega
theorem rowB_S {ws row : List Tx} {c : Nat} (hW : Wds ws 16) : RowS (rowB ws row c) := ⟨by have := rowOk_len (rowB_ok ws row c) hW.2.2; omega, fun t ht => by have := small_sub hW.1 ((rowB_ok ws row c).2 t ht); exact ⟨this.1, by omega⟩⟩
def kb (ks : List Tx) : List (Kd × D) := ks.map fun k => (.inr k, .bl true)
theorem kb_has (ks : List Tx) (k : Tx) : hasK (kb ks) (.inr k) = decide (k ∈ ks) := by
  unfold hasK kb
  rw [List.any_map, Bool.eq_iff_iff, List.any_eq_true, decide_eq_true_eq]
  constructor
  · rintro ⟨a, ha, e⟩
    have e : (Sum.inr a : Kd) = .inr k := of_decide_eq_true e
    rw [← Sum.inr.inj e]
    exact ha
  · intro h
    exact ⟨k, h, decide_eq_true rfl⟩
theorem kb_put (ks : List Tx) (k : Tx) : putD (kb ks) (.inr k) (.bl true) = kb (if k ∈ ks then ks else ks ++ [k]) := by
  unfold putD
  rw [kb_has]
  by_cases h : k ∈ ks
  · rw [if_pos (decide_eq_true h), if_pos h]
    unfold kb
    rw [List.map_map]
    refine List.map_congr_left fun a _ => ?_
    simp only [Function.comp]
    split <;> rfl
  · rw [if_neg (fun z => h (of_decide_eq_true z)), if_neg h]
    unfold kb
    rw [List.map_append]
    rfl
theorem kb_keys (ks : List Tx) : (kb ks).map (fun p => kD p.1) = ks.map .str := by
  unfold kb
  rw [List.map_map]
  rfl
theorem kb_len (ks : List Tx) : (kb ks).length = ks.length := by unfold kb; rw [List.length_map]
theorem kins_nodup {ks : List Tx} {k : Tx} (h : ks.Nodup) : (if k ∈ ks then ks else ks ++ [k]).Nodup := by
  split
  · exact h
  · rename_i hn
    refine List.nodup_append.mpr ⟨h, List.nodup_cons.mpr ⟨by simp, List.nodup_nil⟩, fun a ha b hb e => ?_⟩
    rw [List.mem_singleton] at hb
    rw [e, hb] at ha
    exact hn ha
theorem kins_mem {ks : List Tx} {k a : Tx} : a ∈ (if k ∈ ks then ks else ks ++ [k]) ↔ a ∈ ks ∨ a = k := by
  split
  · rename_i h
    constructor
    · exact .inl
    · rintro (q | rfl)
      · exact q
      · exact h
  · rw [List.mem_append, List.mem_singleton]
theorem kins_len {ks : List Tx} {k : Tx} : (if k ∈ ks then ks else ks ++ [k]).length ≤ ks.length + 1 := by
  split
  · omega
  · rw [List.length_append, List.length_singleton]; exact Nat.le_refl _
theorem parts_len (ws : List Tx) (t : Tx) : (partsT ws t).length ≤ 2 := by
  unfold partsT
  rw [List.length_append]
  have h1 : (if begun ws t = true then [t] else [] : List Tx).length ≤ 1 := by split <;> simp
  have h2 : (if t ∈ ws then [[]] else [] : List Tx).length ≤ 1 := by split <;> simp
  omega
theorem parts_mem {ws : List Tx} {t a : Tx} : a ∈ partsT ws t ↔ (a = t ∧ begun ws t = true) ∨ (a = [] ∧ t ∈ ws) := by
  unfold partsT
  rw [List.mem_append]
  by_cases h1 : begun ws t = true
  · rw [if_pos h1]
    by_cases h2 : t ∈ ws
    · rw [if_pos h2]; simp [h1, h2]
    · rw [if_neg h2]; simp [h1, h2]
  · rw [if_neg h1]
    by_cases h2 : t ∈ ws
    · rw [if_pos h2]; simp [h1, h2]
    · rw [if_neg h2]; simp [h1, h2]
theorem r_row_behind : Law p_row_behind N_row_behind 3 (conP pre_row_behind f_row_behind) := fun ars h => by
  have h : pre_row_behind ars := h
  unfold pre_row_behind at h
  split at h
  · rename_i xs rs c _
    obtain ⟨⟨x, rfl, hx⟩, ⟨ws, rfl, hW⟩, row, rfl, hr1, hr2⟩ := h
    have hl := hW.len
    have okW : okD (.lst (ws.map D.str)) := okD_strS fun l hl => (hW.1 l hl).1
    refine ⟨rfl, ?_⟩
    unfold p_row_behind endsA
    walk_at "go"
    refine for_over (xs := row) (f := D.str) (fun pre A => ∃ ks : List Tx, A = ⟨[AV.d (.lst (ws.map .str)), .d (.lst (row.map .str)), .d (.str [x]), .p 0, .un, .un], [some (.dic (kb ks))]⟩ ∧ ks.Nodup ∧ ks.length ≤ 2 * pre.length ∧ ∀ a, a ∈ ks ↔ a ∈ pre.flatMap fun p => partsT ws (p ++ [x]))
      ⟨[], rfl, List.nodup_nil, Nat.zero_le _, fun a => by simp⟩ (by intros; trivial) ?_ ?_
    · rintro pre t post A e ⟨ks, rfl, k1, k2, k3⟩
      have ht := hr2 t (by rw [e]; simp)
      have hpl : pre.length ≤ 1000 := by rw [e, List.length_append] at hr1; omega
      have okP := okD_sm (small_append ht.1 (small_one (show small abc = true by decide) hx))
      refine ⟨_, rfl, fun J Kb hJ hK => ?_⟩
      have hpre : ∀ a, a ∈ (pre ++ [t]).flatMap (fun p => partsT ws (p ++ [x])) ↔ a ∈ ks ∨ ((a = t ++ [x] ∧ begun ws (t ++ [x]) = true) ∨ (a = [] ∧ t ++ [x] ∈ ws)) := fun a => by
        rw [List.flatMap_append, List.mem_append, ← k3]
        simp only [List.flatMap_cons, List.flatMap_nil, List.append_nil]
        rw [parts_mem]
      have fin : ∀ (ls : List Tx), ls.Nodup → ls.length ≤ 2 * pre.length + 1 → (∀ a, a ∈ ls ↔ a ∈ ks ∨ (a = [] ∧ t ++ [x] ∈ ws)) → Then (pIf (pTest (pCalls (callP pre_is_begun f_is_begun) (pCons (pVar 0) (pCons (pVar 5) pNil)))) (pSetIx (pVar 3) (pVar 5) (pC (.bl true))) pNext)
          { nx := fun A' => J (wipeS [4, 5] (trunc 1 A')), rt := retA 0 fun y os => y = AR.o (O.lst (List.map D.str (rowB ws row x))) ∧ os = [], bk := fun A' => Kb (wipeS [4, 5] (trunc 1 A')), ct := fun A' => J (wipeS [4, 5] (trunc 1 A')) }
          ⟨[AV.d (.lst (ws.map .str)), .d (.lst (row.map .str)), .d (.str [x]), .p 0, .d (.str t), .d (.str (t ++ [x]))], [some (.dic (kb ls))]⟩ := fun ls l1 l2 l3 => by
        have hkl := kb_len ls
        walk_at "nx"
        refine ⟨⟨by rw [List.length_append, List.length_singleton]; omega, ws, rfl, hW⟩, ?_⟩
        by_cases hb : begun ws (t ++ [x]) = true
        · rw [if_pos hb]
          refine ⟨by omega, ?_⟩
          rw [kb_put]
          have l4 := kins_len (ks := ls) (k := t ++ [x])
          refine hJ _ ⟨_, rfl, kins_nodup l1, by rw [List.length_append, List.length_singleton]; omega, fun a => ?_⟩
          rw [kins_mem, hpre, l3]
          constructor
          · rintro ((q | q) | q)
            · exact .inl q
            · exact .inr (.inr q)
            · exact .inr (.inl ⟨q, hb⟩)
          · rintro (q | q | q)
            · exact .inl (.inl q)
            · exact .inr q.1
            · exact .inl (.inr q)
        · rw [if_neg hb]
          refine hJ _ ⟨_, rfl, l1, by rw [List.length_append, List.length_singleton]; omega, fun a => ?_⟩
          rw [hpre, l3]
          constructor
          · rintro (q | q)
            · exact .inl q
            · exact .inr (.inr q)
          · rintro (q | q | q)
            · exact .inl q
            · exact absurd q.2 hb
            · exact .inr q
      have hkl := kb_len ks
      walk_at "go"
      rw [any_str]
      by_cases hm : t ++ [x] ∈ ws
      · rw [if_pos (decide_eq_true hm)]
        refine ⟨by omega, ?_⟩
        rw [kb_put]
        have l4 := kins_len (ks := ks) (k := [])
        refine fin _ (kins_nodup k1) (by omega) fun a => ?_
        rw [kins_mem]
        simp [hm]
      · rw [if_neg (fun z => hm (of_decide_eq_true z))]
        refine fin ks k1 (by omega) fun a => ?_
        simp [hm]
    · rintro A ⟨ks, rfl, k1, k2, k3⟩
      have hks : ∀ k ∈ ks, small k = true := fun k hk => by
        have hk := (k3 k).mp hk
        obtain ⟨p, _, hp⟩ := List.mem_flatMap.mp hk
        rcases parts_mem.mp hp with ⟨rfl, hb⟩ | ⟨rfl, _⟩
        · exact (small_sub hW.1 (.inr hb)).1
        · rfl
      walk_at "nx"
      rw [kb_keys, srt_texts]
      refine ⟨srtOk_strs fun l hl => small_okX (hks l hl), ?_⟩
      rw [setT_eq (xs := row.flatMap fun p => partsT ws (p ++ [x])) (srtT_strict k1) fun a => by rw [(srtT_perm ks).mem_iff, k3]]
      rfl
  · exact h.elim
theorem r_x__law_row_behind : Law p_x__law_row_behind N_x__law_row_behind 3 (conP pre_x__law_row_behind f_x__law_row_behind) := fun ars h => by
  have h : pre_row_behind ars := h
  unfold pre_row_behind at h
  split at h
  · rename_i xs rs c _
    obtain ⟨⟨x, rfl, hx⟩, ⟨ws, rfl, hW⟩, row, rfl, hr1, hr2⟩ := h
    have hl := hW.len
    refine ⟨rfl, ?_⟩
    unfold p_x__law_row_behind endsA
    walk_at "go"
    refine for_over (xs := row) (f := D.str) (fun pre A => A = ⟨[AV.d (.lst (ws.map .str)), .d (.lst (row.map .str)), .d (.str [x]), .d (.lst ((pre.flatMap fun p => partsT ws (p ++ [x])).map .str)), .un], []⟩) rfl (by intros; trivial) ?_ ?_
    · rintro pre t post A e rfl
      have ht := hr2 t (by rw [e]; simp)
      have hpl : pre.length ≤ 1000 := by rw [e, List.length_append] at hr1; omega
      refine ⟨_, rfl, fun J Kb hJ hK => ?_⟩
      walk_at "go"
      refine ⟨⟨by omega, ht.1, small_one (show small abc = true by decide) hx, ws, rfl, hW⟩, ?_⟩
      have hpl2 : ∀ us : List Tx, (us.flatMap fun p => partsT ws (p ++ [x])).length ≤ 2 * us.length := fun us => by
        induction us with
        | nil => exact Nat.le_refl _
        | cons a r ih =>
          have := parts_len ws (a ++ [x])
          rw [List.flatMap_cons, List.length_append, List.length_cons]
          omega
      have h2 := hpl2 pre
      have h3 := parts_len ws (t ++ [x])
      refine ⟨by rw [List.length_map, List.length_map]; omega, hJ _ ?_⟩
      rw [List.flatMap_append, List.map_append]
      simp only [List.flatMap_cons, List.flatMap_nil, List.append_nil]
    · rintro A rfl
      have hpl2 : ∀ us : List Tx, (us.flatMap fun p => partsT ws (p ++ [x])).length ≤ 2 * us.length := fun us => by
        induction us with
        | nil => exact Nat.le_refl _
        | cons a r ih =>
          have := parts_len ws (a ++ [x])
          rw [List.flatMap_cons, List.length_append, List.length_cons]
          omega
      have h2 := hpl2 row
      walk_at "nx"
      refine ⟨_, inr_kD _, by rw [List.length_map]; omega, fun zs zn zm => ?_⟩
      obtain ⟨z1, ys, z2, z3, z4⟩ := set_texts (fun a ha => by
        obtain ⟨p, _, hp⟩ := List.mem_flatMap.mp ha
        rcases parts_mem.mp hp with ⟨rfl, hb⟩ | ⟨rfl, _⟩
        · exact small_okX (small_sub hW.1 (.inr hb)).1
        · rfl) zn zm
      refine ⟨z1, ?_⟩
      rw [z2, setT_eq z3 z4]
      rfl
  · exact h.elim
end PD

set_option pp.maxSteps 1500
namespace PD
open PySem PySem.Spec PyProof.Rows L2
local macro_rules | `(tactic| walk_at "rd") => `(tactic| simp (config := { decide := true }) only [pSeq_then, pNext, pNever, pBreak, pCont, pDrop, pRet, pRetN, pIf, pSet, pSetD, setD, setP, setO, pVar, pC, pOp2, pTest, pAnd, pOr, pNot, pAndV, pOrV, pNotV, pIfE, pNil, pCons, pLst, pTup, pDict0, pDictC, pDM, dUpdate, pCall, pIsiP, pM1, bJoin, pNo, pPart, pSl, pSortI, pLM, lAppend, lInsert, lExtend, lPopAt, lPop, lReverse, lClear, pLc_eq, pFor_eq, pWhile_eq, pWip, pGw, wipeS, trunc, truncE, pItL, pItS, pRng1, pRng2, pRng3, pVarF, pAug, pDictLen, pLr3, pNeg, pCalls, callP, pEnum, pStepS, pRevL, bStarts, bEnds, pAugK, pItK, pFz, pRaise, pCallX, callX, pTry, pIsX, pLr1, pM0, bUpper, cListB, cTuple, pOrT, pDictLenT, pBor, borE, scalD, pPickL, cSum, cAbs, pItS, pre_need_letters, f_need_letters, pre_is_begun, f_is_begun, pre_row_behind, f_row_behind, pre_rows_from, f_rows_from, pre_least_uncut, f_least_uncut, pre_x__law_cell, pre_x__law_store, f_x__law_store, pre_x__law_kept_word, pre_x__law_words, pre_x__law_book, pre_x__law_is_begun, f_x__law_is_begun, pre_x__law_parts, f_x__law_parts, pre_x__law_split_words, pre_x__law_some_words, pre_x__law_row_behind, f_x__law_row_behind, pre_x__law_rows, f_x__law_rows, pre_x__law_uncut, f_x__law_uncut, pre_x__law_letters,  merge_dictOf, filter_none, take_iff, callN, txo_map, deq_nilU, map_isEmpty, toAR, R.fz, view, views, dats, O.toD, AR.toR, bAdd, bSub, bMul, bDiv, bMod, bPow, bEq,  pSrtSet, pSrtSetS, pForM_eq, pGx, bCmp, bIn, bIs, bIx, bSl, cLen, cMin2, cMax2, cInt, cList, cDict, cSorted, plainD, isiB, tyn, pAsg, tgT, tgU, setsA, pSetIx, storeO, kdOf, pChain, cmpD, pYes, pTru, truD, Hand, tgN, wipeA, fnAbs, envA, ownsA, retA, conP, conN, List.set, List.set_cons_zero, List.set_cons_succ, List.set_nil, List.getElem?_cons_zero, List.getElem?_cons_succ, List.getElem?_nil, List.length_cons, List.length_nil, List.cons_append, List.nil_append, List.append_nil, List.replicate, Nat.reduceSub, Nat.reduceAdd, Nat.zero_add, Int.zero_add, true_and, and_true, reduceIte, Bool.false_eq_true, id, Bool.not_true, Bool.not_false, decide_true, decide_false, List.nodup_nil, List.nodup_cons, List.not_mem_nil, not_false_eq_true, List.take_zero, List.take_succ_cons, List.take_nil, List.map_cons, List.map_nil])
local macro_rules | `(tactic| walk_at "sc") => `(tactic| first | with_reducible assumption | omega | assumption | with_reducible rfl | with_reducible exact True.intro | with_reducible exact okD_ints | with_reducible exact okD_nil | with_reducible exact okD_int _ | with_reducible exact okD_bl _ | with_reducible exact okD_non | with_reducible exact okD_sm (by assumption) | with_reducible exact cmulR (by omega) (by omega) | with_reducible exact cmulL (by omega) (by omega) | with_reducible exact cdivw (by omega) (by omega) | (with_reducible refine smallI_of ?_ ?_ <;> first | omega | (simp only [List.length_map, List.length_append, List.length_range, List.length_replicate, List.length_cons, List.length_nil, List.length_take, List.length_drop]; omega)) | (unfold CPow; decide) | (simp only [List.length_map, List.length_append, List.length_range, List.length_replicate, List.length_cons, List.length_nil, List.length_take, List.length_drop]; omega) | (refine ⟨?_, ?_⟩ <;> walk_at "sc"))
local macro_rules | `(tactic| walk_at "go") => `(tactic| repeat (first | walk_at "rd" | with_reducible refine then_go ?_ | (refine And.intro (by walk_at "sc") ?_) | (refine dict_of (by assumption) ?_) | rw [deq_self (by walk_at "sc")] | walk_at "sc"))
local macro_rules | `(tactic| walk_at "rt") => `(tactic| try walk_at "rd")
local macro_rules | `(tactic| walk_at "nx") => `(tactic| ((try dsimp only); rw [then_eq]; walk_at "rd"))
theorem rowD_ok {row : List Tx} (h : ∀ t ∈ row, small t = true) : chk (rowD row) = true ∧ dep (rowD row) ≤ 1 := by
  have h1 := okD_strS h
  refine ⟨h1.1, ?_⟩
  unfold rowD
  simp only [dep]
  have := deps_le (m := 0) (row.map D.str) fun x hx => by
    obtain ⟨t, _, rfl⟩ := List.mem_map.mp hx
    exact Nat.le_refl _
  omega
theorem rowD_deq (a b : List Tx) : deq (rowD a) (rowD b) = decide (a = b) := by
  unfold rowD
  rw [deq_lst]
  exact deqs_map D.str (fun x y => deq_str x y) a b
theorem any_row (xs : List (List Tx)) (r : List Tx) : (xs.map rowD).any (fun z => deq z (rowD r)) = decide (r ∈ xs) := by
  rw [List.any_map, Bool.eq_iff_iff, List.any_eq_true, decide_eq_true_eq]
  constructor
  · rintro ⟨x, hx, e⟩
    have e : deq (rowD x) (rowD r) = true := e
    rw [rowD_deq, decide_eq_true_eq] at e
    rw [← e]
    exact hx
  · intro h
    exact ⟨r, h, by show deq (rowD r) (rowD r) = true; rw [rowD_deq, decide_eq_true_eq]⟩
theorem okD_rows {xs : List (List Tx)} (h : ∀ r ∈ xs, ∀ t ∈ r, small t = true) : okD (.lst (xs.map rowD)) := okD_map (m := 1) (by decide) fun r hr => rowD_ok (h r hr)
theorem okD_row {r : List Tx} (h : ∀ t ∈ r, small t = true) : okD (rowD r) := ⟨(rowD_ok h).1, by have := (rowD_ok h).2; omega⟩
theorem r_x__law_rows : Law p_x__law_rows N_x__law_rows 2 (conP pre_x__law_rows f_x__law_rows) := fun ars h => by
  have h : pre_x__law_rows ars := h
  unfold pre_x__law_rows at h
  split at h
  · rename_i xs s _
    obtain ⟨⟨hs, hs1, hs2, hs3⟩, ws, rfl, hW⟩ := h
    have hl := hW.len
    have hfew := bfs_few s hW.2.2
    refine ⟨rfl, ?_⟩
    unfold p_x__law_rows endsA
    walk_at "go"
    refine while_run (fun m A => ∃ k, m + k = 131073 ∧ k ≤ (bfs ws s k).length ∧ A = ⟨[AV.d (.lst (ws.map .str)), .d (.str s), .p 0, .p 1, .d (.int k), .un, .un, .un, .un], [some (.lst ((bfs ws s k).map rowTD)), some (.lst ((bfs ws s k).map fun p => rowD p.1))]⟩) 131073 ⟨0, rfl, Nat.zero_le _, rfl⟩ ?_
    rintro m A ⟨k, hmk, hk, rfl⟩ J Kb hJ hK
    have hF := hfew k
    have hFk := bfs_fnd ws s k
    by_cases hlt : k < (bfs ws s k).length
    · obtain ⟨⟨row, t⟩, hrt⟩ : ∃ p, (bfs ws s k)[k]? = some p := ⟨_, List.getElem?_eq_getElem hlt⟩
      have hat : atI ((bfs ws s k).map rowTD) (k : Int) = some (rowTD (row, t)) := by
        have e := atI_nat (xs := (bfs ws s k).map rowTD) (m := k) (by rw [List.length_map]; exact hlt)
        rw [e, List.getElem_map, (List.getElem?_eq_some_iff.mp hrt).2]
      obtain ⟨hro, htl, hts⟩ := hFk.ok (row, t) (List.mem_of_getElem? hrt)
      have hrl := rowOk_len hro hW.2.2
      have hrs : ∀ x ∈ row, small x = true ∧ x.length ≤ 12 := fun x hx => small_sub hW.1 (hro.2 x hx)
      have htl : t.length ≤ k := htl
      have estep : bfs ws s (k + 1) = s.foldl (bfsIns ws row t) (bfs ws s k) := by
        show bfsStep ws s (bfs ws s k) k = _
        unfold bfsStep
        rw [hrt]
      have hpart : ∀ pre c post, s = pre ++ c :: post → (pre.foldl (bfsIns ws row t) (bfs ws s k)).length ≤ 131072 ∧ Fnd ws s (k + 1) (pre.foldl (bfsIns ws row t) (bfs ws s k)) := fun pre c post e => by
        have h1 := hfew (k + 1)
        obtain ⟨G, hG⟩ := bfs_pre (ws := ws) (row := row) (t := t) (c :: post) (pre.foldl (bfsIns ws row t) (bfs ws s k))
        rw [estep] at h1
        rw [show s.foldl (bfsIns ws row t) (bfs ws s k) = (c :: post).foldl (bfsIns ws row t) (pre.foldl (bfsIns ws row t) (bfs ws s k)) by rw [← List.foldl_append, ← e], hG, List.length_append] at h1
        exact ⟨by omega, Fnd.fold htl hts pre _ (fun x hx => by rw [e]; simp [hx]) (hFk.mono (by omega))⟩
      walk_at "rd"
      rw [List.length_map, if_pos (decide_eq_true (show (k : Int) < ((bfs ws s k).length : Int) by omega))]
      refine ⟨_, hat, ?_⟩
      rw [show rowTD (row, t) = .tup [rowD row, .str t] from rfl]
      walk_at "rd"
      walk_at "nx"
      walk_at "nx"
      refine for_strs (l := s) (fun pre A => A = ⟨[AV.d (.lst (ws.map .str)), .d (.str s), .p 0, .p 1, .d (.int (k + 1)), .d (rowD row), .d (.str t), .un, .un], [some (.lst ((pre.foldl (bfsIns ws row t) (bfs ws s k)).map rowTD)), some (.lst ((pre.foldl (bfsIns ws row t) (bfs ws s k)).map fun p => rowD p.1))]⟩) rfl (by intros; trivial) ?_ ?_
      · rintro pre c post A e rfl
        obtain ⟨hp1, hp2⟩ := hpart pre c post e
        have hc : c ∈ s := by rw [e]; simp
        have hca : c ∈ abc := by
          have := List.all_eq_true.mp hs c hc
          exact of_decide_eq_true this
        refine ⟨_, rfl, fun J2 Kb2 hJ2 hK2 => ?_⟩
        have hB := rowB_S (ws := ws) (row := row) (c := c) hW
        have efold : (pre ++ [c]).foldl (bfsIns ws row t) (bfs ws s k) = bfsIns ws row t (pre.foldl (bfsIns ws row t) (bfs ws s k)) c := by rw [List.foldl_append]; rfl
        generalize pre.foldl (bfsIns ws row t) (bfs ws s k) = F at hp1 hp2 efold ⊢
        rw [show rowD row = D.lst (row.map .str) from rfl]
        walk_at "go"
        rw [show D.lst (List.map D.str (rowB ws row c)) = rowD (rowB ws row c) from rfl]
        refine ⟨⟨⟨c, rfl, hca⟩, ⟨ws, rfl, hW⟩, row, rfl, Nat.le_trans hrl (by decide), fun x hx => ⟨(hrs x hx).1, by have := (hrs x hx).2; omega⟩⟩, ?_⟩
        walk_at "nx"
        have em : F.map (fun p => rowD p.1) = (F.map (·.1)).map rowD := by rw [List.map_map]; rfl
        have hFs : ∀ r ∈ F.map (·.1), ∀ t ∈ r, small t = true := fun r hr t ht => by
          obtain ⟨p, hp, rfl⟩ := List.mem_map.mp hr
          exact (small_sub hW.1 ((hp2.ok p hp).1.2 t ht)).1
        refine ⟨okD_row fun t ht => (hB.2 t ht).1, by rw [em]; exact okD_rows hFs, ?_⟩
        rw [em, any_row, ← em]
        have efin : J2 ⟨[AV.d (.lst (ws.map .str)), .d (.str s), .p 0, .p 1, .d (.int (k + 1)), .d (rowD row), .d (.str t), .un, .un], [some (.lst ((bfsIns ws row t F c).map rowTD)), some (.lst ((bfsIns ws row t F c).map fun p => rowD p.1))]⟩ := hJ2 _ (by rw [efold])
        by_cases hm : rowB ws row c ∈ F.map (·.1)
        · rw [if_neg (by rw [decide_eq_true hm]; simp)]
          unfold bfsIns at efin
          rw [if_pos hm] at efin
          exact efin
        · rw [if_pos (by rw [decide_eq_false hm]; simp)]
          unfold bfsIns at efin
          rw [if_neg hm, List.map_append, List.map_append] at efin
          have htl2 : t.length ≤ 131072 := by omega
          walk_at "go"
      · rintro A rfl
        rw [← estep]
        exact hJ (m - 1) _ (by omega) ⟨k + 1, by omega, by obtain ⟨G, e⟩ := bfs_grow ws s k; rw [e, List.length_append]; omega, rfl⟩
    · walk_at "rd"
      rw [List.length_map, if_neg (fun z => by have := of_decide_eq_true z; omega)]
      walk_at "nx"
      rw [rowsOf_at (k := k) (by omega) (by omega)]
      exact ⟨_, rfl, rfl⟩
  · exact h.elim
theorem r_rows_from : Law p_rows_from N_rows_from 2 (conP pre_rows_from f_rows_from) := fun ars h => by
  have h : pre_rows_from ars := h
  unfold pre_rows_from at h
  split at h
  · rename_i ds s _
    obtain ⟨⟨hs, hs1, hs2, hs3⟩, ps, rfl, hW⟩ := h
    have hl := hW.len
    have hfew := bfs_few s hW.2.2
    refine ⟨rfl, ?_⟩
    unfold p_rows_from endsA
    walk_at "go"
    rw [keysT_map]
    have hpl : ps.length ≤ 16 := by have := hW.len; rwa [List.length_map] at this
    refine lc_each (xs := ps) (f := fun p => pairD (.inr p.1, .int p.2)) (fun p => .str p.1) trivial (by omega) (fun p hp => ⟨_, rfl, fun J hJ => ?_⟩) ?_
    · walk_at "go"
    have ews : ps.map (fun p => D.str p.1) = (ps.map (·.1)).map .str := by rw [List.map_map]; rfl
    rw [ews]
    generalize ps.map (·.1) = ws at hW hl hfew ⊢
    walk_at "go"
    refine while_run (fun m A => ∃ k, m + k = 131073 ∧ k ≤ (bfs ws s k).length ∧ A = ⟨[AV.d (.lst (ps.map fun p => pairD (.inr p.1, .int p.2))), .d (.str s), .d (.lst (ws.map .str)), .p 0, .d (.int k), .un, .un, .un, .un, .un, .un, .un, .un], [some (.lst ((bfs ws s k).map rowTD))]⟩) 131073 ⟨0, rfl, Nat.zero_le _, rfl⟩ ?_
    rintro m A ⟨k, hmk, hk, rfl⟩ J Kb hJ hK
    have hF := hfew k
    have hFk := bfs_fnd ws s k
    by_cases hlt : k < (bfs ws s k).length
    · obtain ⟨⟨row, t⟩, hrt⟩ : ∃ p, (bfs ws s k)[k]? = some p := ⟨_, List.getElem?_eq_getElem hlt⟩
      have hat : atI ((bfs ws s k).map rowTD) (k : Int) = some (rowTD (row, t)) := by
        have e := atI_nat (xs := (bfs ws s k).map rowTD) (m := k) (by rw [List.length_map]; exact hlt)
        rw [e, List.getElem_map, (List.getElem?_eq_some_iff.mp hrt).2]
      obtain ⟨hro, htl, hts⟩ := hFk.ok (row, t) (List.mem_of_getElem? hrt)
      have hrl := rowOk_len hro hW.2.2
      have hrs : ∀ x ∈ row, small x = true ∧ x.length ≤ 12 := fun x hx => small_sub hW.1 (hro.2 x hx)
      have htl : t.length ≤ k := htl
      have estep : bfs ws s (k + 1) = s.foldl (bfsIns ws row t) (bfs ws s k) := by
        show bfsStep ws s (bfs ws s k) k = _
        unfold bfsStep
        rw [hrt]
      have hpart : ∀ pre c post, s = pre ++ c :: post → (pre.foldl (bfsIns ws row t) (bfs ws s k)).length ≤ 131072 ∧ Fnd ws s (k + 1) (pre.foldl (bfsIns ws row t) (bfs ws s k)) := fun pre c post e => by
        have h1 := hfew (k + 1)
        obtain ⟨G, hG⟩ := bfs_pre (ws := ws) (row := row) (t := t) (c :: post) (pre.foldl (bfsIns ws row t) (bfs ws s k))
        rw [estep] at h1
        rw [show s.foldl (bfsIns ws row t) (bfs ws s k) = (c :: post).foldl (bfsIns ws row t) (pre.foldl (bfsIns ws row t) (bfs ws s k)) by rw [← List.foldl_append, ← e], hG, List.length_append] at h1
        exact ⟨by omega, Fnd.fold htl hts pre _ (fun x hx => by rw [e]; simp [hx]) (hFk.mono (by omega))⟩
      walk_at "rd"
      rw [List.length_map, if_pos (decide_eq_true (show (k : Int) < ((bfs ws s k).length : Int) by omega))]
      refine ⟨_, hat, ?_⟩
      rw [show rowTD (row, t) = .tup [rowD row, .str t] from rfl]
      walk_at "rd"
      walk_at "nx"
      refine for_strs (l := s) (fun pre A => A = ⟨[AV.d (.lst (ps.map fun p => pairD (.inr p.1, .int p.2))), .d (.str s), .d (.lst (ws.map .str)), .p 0, .d (.int k), .d (rowD row), .d (.str t), .un, .un, .un, .un, .un, .un], [some (.lst ((pre.foldl (bfsIns ws row t) (bfs ws s k)).map rowTD))]⟩) rfl (by intros; trivial) ?_ ?_
      · rintro pre c post A e rfl
        obtain ⟨hp1, hp2⟩ := hpart pre c post e
        have hc : c ∈ s := by rw [e]; simp
        have hca : c ∈ abc := by
          have := List.all_eq_true.mp hs c hc
          exact of_decide_eq_true this
        refine ⟨_, rfl, fun J2 Kb2 hJ2 hK2 => ?_⟩
        have hB := rowB_S (ws := ws) (row := row) (c := c) hW
        have efold : (pre ++ [c]).foldl (bfsIns ws row t) (bfs ws s k) = bfsIns ws row t (pre.foldl (bfsIns ws row t) (bfs ws s k)) c := by rw [List.foldl_append]; rfl
        generalize pre.foldl (bfsIns ws row t) (bfs ws s k) = F at hp1 hp2 efold ⊢
        rw [show rowD row = D.lst (row.map .str) from rfl]
        walk_at "go"
        rw [show D.lst (List.map D.str (rowB ws row c)) = rowD (rowB ws row c) from rfl]
        refine ⟨⟨⟨c, rfl, hca⟩, ⟨ws, rfl, hW⟩, row, rfl, Nat.le_trans hrl (by decide), fun x hx => ⟨(hrs x hx).1, by have := (hrs x hx).2; omega⟩⟩, ?_⟩
        walk_at "nx"
        have em : F.map (fun p => rowD p.1) = (F.map (·.1)).map rowD := by rw [List.map_map]; rfl
        have hFs : ∀ r ∈ F.map (·.1), ∀ t ∈ r, small t = true := fun r hr t ht => by
          obtain ⟨p, hp, rfl⟩ := List.mem_map.mp hr
          exact (small_sub hW.1 ((hp2.ok p hp).1.2 t ht)).1
        have efin : J2 ⟨[AV.d (.lst (ps.map fun p => pairD (.inr p.1, .int p.2))), .d (.str s), .d (.lst (ws.map .str)), .p 0, .d (.int k), .d (rowD row), .d (.str t), .un, .un, .un, .un, .un, .un], [some (.lst ((bfsIns ws row t F c).map rowTD))]⟩ := hJ2 _ (by rw [efold])
        refine lc_each (xs := F) (f := rowTD) (fun p => rowD p.1) rfl (by omega) (fun p hp => ⟨_, rfl, fun J hJ => ?_⟩) ?_
        · walk_at "go"
        walk_at "rd"
        refine ⟨okD_row fun t ht => (hB.2 t ht).1, by rw [em]; exact okD_rows hFs, ?_⟩
        rw [em, any_row]
        by_cases hm : rowB ws row c ∈ F.map (·.1)
        · rw [if_neg (by rw [decide_eq_true hm]; simp)]
          unfold bfsIns at efin
          rw [if_pos hm] at efin
          exact efin
        · rw [if_pos (by rw [decide_eq_false hm]; simp)]
          unfold bfsIns at efin
          rw [if_neg hm, List.map_append] at efin
          have htl2 : t.length ≤ 131072 := by omega
          walk_at "go"
      · rintro A rfl
        rw [← estep]
        walk_at "nx"
        exact hJ (m - 1) _ (by omega) ⟨k + 1, by omega, by obtain ⟨G, e⟩ := bfs_grow ws s k; rw [e, List.length_append]; omega, rfl⟩
    · walk_at "rd"
      rw [List.length_map, if_neg (fun z => by have := of_decide_eq_true z; omega)]
      walk_at "nx"
      rw [rowsOf_at (k := k) (by omega) (by omega)]
      exact ⟨_, rfl, rfl⟩
  · exact h.elim
end PD

set_option pp.maxSteps 1500
namespace PD
open PySem PySem.Spec PyProof.Rows L2
local macro_rules | `(tactic| walk_at "rd") => `(tactic| simp (config := { decide := true }) only [pSeq_then, pNext, pNever, pBreak, pCont, pDrop, pRet, pRetN, pIf, pSet, pSetD, setD, setP, setO, pVar, pC, pOp2, pTest, pAnd, pOr, pNot, pAndV, pOrV, pNotV, pIfE, pNil, pCons, pLst, pTup, pDict0, pDictC, pDM, dUpdate, pCall, pIsiP, pM1, bJoin, pNo, pPart, pSl, pSortI, pLM, lAppend, lInsert, lExtend, lPopAt, lPop, lReverse, lClear, pLc_eq, pFor_eq, pWhile_eq, pWip, pGw, wipeS, trunc, truncE, pItL, pItS, pRng1, pRng2, pRng3, pVarF, pAug, pDictLen, pLr3, pNeg, pCalls, callP, pEnum, pStepS, pRevL, bStarts, bEnds, pAugK, pItK, pFz, pRaise, pCallX, callX, pTry, pIsX, pLr1, pM0, bUpper, cListB, cTuple, pOrT, pDictLenT, pBor, borE, scalD, pPickL, cSum, cAbs, pItS, pre_need_letters, f_need_letters, pre_is_begun, f_is_begun, pre_row_behind, f_row_behind, pre_rows_from, f_rows_from, pre_least_uncut, f_least_uncut, pre_x__law_cell, pre_x__law_store, f_x__law_store, pre_x__law_kept_word, pre_x__law_words, pre_x__law_book, pre_x__law_is_begun, f_x__law_is_begun, pre_x__law_parts, f_x__law_parts, pre_x__law_split_words, pre_x__law_some_words, pre_x__law_row_behind, f_x__law_row_behind, pre_x__law_rows, f_x__law_rows, pre_x__law_uncut, f_x__law_uncut, pre_x__law_letters,  merge_dictOf, filter_none, take_iff, callN, txo_map, deq_nilU, map_isEmpty,keysT_map, toAR, R.fz, view, views, dats, O.toD, AR.toR, bAdd, bSub, bMul, bDiv, bMod, bPow, bEq,  pSrtSet, pSrtSetS, pForM_eq, pGx, bCmp, bIn, bIs, bIx, bSl, cLen, cMin2, cMax2, cInt, cList, cDict, cSorted, plainD, isiB, tyn, pAsg, tgT, tgU, setsA, pSetIx, storeO, kdOf, pChain, cmpD, pYes, pTru, truD, Hand, tgN, wipeA, fnAbs, envA, ownsA, retA, conP, conN, List.set, List.set_cons_zero, List.set_cons_succ, List.set_nil, List.getElem?_cons_zero, List.getElem?_cons_succ, List.getElem?_nil, List.length_cons, List.length_nil, List.cons_append, List.nil_append, List.append_nil, List.replicate, Nat.reduceSub, Nat.reduceAdd, Nat.zero_add, Int.zero_add, true_and, and_true, reduceIte, Bool.false_eq_true, id, Bool.not_true, Bool.not_false, decide_true, decide_false, List.nodup_nil, List.nodup_cons, List.not_mem_nil, not_false_eq_true, List.take_zero, List.take_succ_cons, List.take_nil, List.map_cons, List.map_nil])
local macro_rules | `(tactic| walk_at "sc") => `(tactic| first | with_reducible assumption | omega | assumption | with_reducible rfl | with_reducible exact True.intro | with_reducible exact okD_ints | with_reducible exact okD_nil | with_reducible exact okD_int _ | with_reducible exact okD_bl _ | with_reducible exact okD_non | with_reducible exact okD_sm (by assumption) | with_reducible exact cmulR (by omega) (by omega) | with_reducible exact cmulL (by omega) (by omega) | with_reducible exact cdivw (by omega) (by omega) | (with_reducible refine smallI_of ?_ ?_ <;> first | omega | (simp only [List.length_map, List.length_append, List.length_range, List.length_replicate, List.length_cons, List.length_nil, List.length_take, List.length_drop]; omega)) | (unfold CPow; decide) | (simp only [List.length_map, List.length_append, List.length_range, List.length_replicate, List.length_cons, List.length_nil, List.length_take, List.length_drop]; omega) | (refine ⟨?_, ?_⟩ <;> walk_at "sc"))
local macro_rules | `(tactic| walk_at "go") => `(tactic| repeat (first | walk_at "rd" | with_reducible refine then_go ?_ | (refine And.intro (by walk_at "sc") ?_) | (refine dict_of (by assumption) ?_) | rw [deq_self (by walk_at "sc")] | walk_at "sc"))
local macro_rules | `(tactic| walk_at "rt") => `(tactic| try walk_at "rd")
local macro_rules | `(tactic| walk_at "nx") => `(tactic| ((try dsimp only); rw [then_eq]; walk_at "rd"))
theorem any_nil (row : List Tx) : (row.map D.str).any (fun z => deq z (.str [])) = decide ([] ∈ row) := any_str row []
theorem rows_ok {ws : List Tx} {s : Tx} (hW : Wds ws 16) : ∀ p ∈ rowsOf ws s, (∀ t ∈ p.1, small t = true) ∧ p.1.length ≤ 17 ∧ p.2.length ≤ 131072 ∧ ∀ c ∈ p.2, c ∈ s := fun p hp => by
  obtain ⟨h1, h2, h3⟩ := (bfs_fnd ws s 131072).ok p hp
  exact ⟨fun t ht => (small_sub hW.1 (h1.2 t ht)).1, rowOk_len h1 hW.2.2, h2, h3⟩
theorem r_x__law_uncut : Law p_x__law_uncut N_x__law_uncut 2 (conP pre_x__law_uncut f_x__law_uncut) := fun ars h => by
  have h : pre_x__law_rows ars := h
  unfold pre_x__law_rows at h
  split at h
  · rename_i xs s _
    obtain ⟨hs, ws, rfl, hW⟩ := h
    have hro := rows_ok (s := s) hW
    have hfew : (rowsOf ws s).length ≤ 131072 := bfs_few s hW.2.2 131072
    refine ⟨rfl, ?_⟩
    unfold p_x__law_uncut endsA
    walk_at "go"
    unfold uncut
    generalize rowsOf ws s = R at hro hfew ⊢
    refine lc_over (xs := R) (f := rowTD) (fun p => decide ([] ∉ p.1)) (fun p => .str p.2) trivial (by omega) (fun p hp => ⟨_, rfl, fun J hJ => ?_⟩) ?_
    · obtain ⟨p1, p2, p3, p4⟩ := hro p hp
      have okr := okD_row p1
      walk_at "rd"
      rw [show rowD p.1 = .lst (p.1.map .str) from rfl] at okr ⊢
      walk_at "go"
      rw [any_nil]
      refine ⟨okD_sm rfl, okr, ?_⟩
      by_cases hm : ([] : Tx) ∈ p.1
      · rw [if_neg (by rw [decide_eq_true hm]; simp)]
        rw [if_neg (by simp [hm])] at hJ
        exact hJ
      · rw [if_pos (by rw [decide_eq_false hm]; simp)]
        rw [if_pos (by simp [hm])] at hJ
        exact hJ
    · have hfl := List.length_filter_le (fun p => decide ([] ∉ p.1)) R
      walk_at "go"
      rw [← List.head?_filter]
      cases hf : R.filter (fun p => decide ([] ∉ p.1)) with
      | nil =>
        exact ⟨_, rfl, rfl⟩
      | cons p r => exact ⟨.str p.2, by rw [show (0 : Int) = ((0 : Nat) : Int) from rfl, atI_nat (by simp)]; rfl, rfl⟩
  · exact h.elim
theorem r_need_letters : Law p_need_letters N_need_letters 1 (conP pre_need_letters f_need_letters) := fun ars h => by
  have h : pre_need_letters ars := h
  unfold pre_need_letters at h
  split at h
  · rename_i s _
    obtain ⟨hs, hs1, hs2, hs3⟩ := h
    refine ⟨rfl, ?_⟩
    unfold p_need_letters endsA
    walk_at "go"
    rw [if_pos (decide_eq_true (show (0 : Int) < (s.length : Int) by omega)), if_neg (by rw [decide_eq_true (show (s.length : Int) ≤ 4 by omega)]; decide)]
    walk_at "nx"
    refine lc_str (fun _ => false) (fun c => .str [c]) trivial (by omega) (fun c hc => ⟨_, rfl, fun J hJ => ?_⟩) ?_
    · have hca : c ∈ abc := of_decide_eq_true (List.all_eq_true.mp hs c hc)
      walk_at "go"
      rw [if_neg (by rw [decide_eq_true hca]; simp)]
      exact hJ
    · walk_at "go"
      refine fun zs zn zm => ?_
      obtain ⟨z1, ys, z2, z3, z4⟩ := set_texts (fun a ha => by
        obtain ⟨c, hc, rfl⟩ := List.mem_map.mp ha
        exact small_okX (small_one hs hc)) zn zm
      have hr : (s.map fun c => ([c] : Tx)).Pairwise (· < ·) := by
        rw [List.pairwise_map]
        exact hs3.imp fun h => List.cons_lt_cons_iff.mpr (.inl h)
      have e : ys = s.map fun c => [c] := tx_rise z3 hr z4
      rw [z2, e, List.map_map]
      have okl : okD (.lst (s.map (D.str ∘ fun c => [c]))) := by
        rw [← List.map_map]
        exact okD_strS fun l hl => by
          obtain ⟨c, hc, rfl⟩ := List.mem_map.mp hl
          exact small_one hs hc
      refine ⟨z1, by omega, okl, okl, ?_⟩
      rw [if_neg (by rw [show D.lst (s.map fun c => D.str [c]) = D.lst (s.map (D.str ∘ fun c => [c])) from rfl, deq_self okl]; simp)]
      trivial
  · exact h.elim
theorem r_least_uncut : Law p_least_uncut N_least_uncut 2 (conP pre_least_uncut f_least_uncut) := fun ars h => by
  have h : pre_rows_from ars := h
  unfold pre_rows_from at h
  split at h
  · rename_i ds s _
    obtain ⟨hs, ps, rfl, hW⟩ := h
    have hro := rows_ok (s := s) hW
    have hfew : (rowsOf (ps.map (·.1)) s).length ≤ 131072 := bfs_few s hW.2.2 131072
    refine ⟨rfl, ?_⟩
    unfold p_least_uncut endsA
    walk_at "go"
    unfold uncut
    generalize rowsOf (ps.map (·.1)) s = R at hro hfew ⊢
    refine for_over (xs := R) (f := rowTD) (fun pre A => A = ⟨[AV.d (.lst (ps.map fun p => pairD (.inr p.1, .int p.2))), .d (.str s), .un, .un], []⟩ ∧ ∀ p ∈ pre, [] ∈ p.1) ⟨rfl, by simp⟩ (by intros; trivial) ?_ ?_
    · rintro pre p post A e ⟨rfl, hpre⟩
      obtain ⟨p1, p2, p3, p4⟩ := hro p (by rw [e]; simp)
      have okr := okD_row p1
      refine ⟨_, rfl, fun J Kb hJ hK => ?_⟩
      rw [show rowD p.1 = .lst (p.1.map .str) from rfl] at okr ⊢
      walk_at "go"
      rw [any_nil]
      refine ⟨okD_sm rfl, okr, ?_⟩
      by_cases hm : ([] : Tx) ∈ p.1
      · rw [if_neg (by rw [decide_eq_true hm]; simp)]
        refine hJ _ ⟨rfl, fun q hq => ?_⟩
        rcases List.mem_append.mp hq with hq | hq
        · exact hpre q hq
        · rw [List.mem_singleton] at hq
          rw [hq]
          exact hm
      · rw [if_pos (by rw [decide_eq_false hm]; simp)]
        have : R.find? (fun p => decide ([] ∉ p.1)) = some p := by
          rw [e, List.find?_append, List.find?_eq_none.mpr fun q hq => by simp [hpre q hq], List.find?_cons_of_pos (by simp [hm])]
          rfl
        rw [this]
    · rintro A ⟨rfl, hpre⟩
      walk_at "nx"
      rw [List.find?_eq_none.mpr fun q hq => by simp [hpre q hq]]
  · exact h.elim
end PD

/-! QSH: rows and cuts; the walk over rows tells the first text to each. -/
namespace PD
open PySem PySem.Spec PyProof.Rows L2
/-! shorter, or as long and ahead -/
def slt (a b : Tx) : Prop := a.length < b.length ∨ (a.length = b.length ∧ a < b)
theorem slt_irr (a : Tx) : ¬ slt a a := by
  rintro (h | ⟨_, h⟩)
  · omega
  · exact List.lt_irrefl _ h
theorem slt_trans {a b c : Tx} (h1 : slt a b) (h2 : slt b c) : slt a c := by
  rcases h1 with h1 | ⟨h1, h3⟩
  · rcases h2 with h2 | ⟨h2, h4⟩
    · exact .inl (by omega)
    · exact .inl (by omega)
  · rcases h2 with h2 | ⟨h2, h4⟩
    · exact .inl (by omega)
    · exact .inr ⟨by omega, List.lt_trans h3 h4⟩
theorem slt_tot (a b : Tx) : a = b ∨ slt a b ∨ slt b a := by
  by_cases h1 : a.length < b.length
  · exact .inr (.inl (.inl h1))
  · by_cases h2 : b.length < a.length
    · exact .inr (.inr (.inl h2))
    · by_cases h3 : a < b
      · exact .inr (.inl (.inr ⟨by omega, h3⟩))
      · by_cases h4 : b < a
        · exact .inr (.inr (.inr ⟨by omega, h4⟩))
        · exact .inl (tx_total h3 h4)
theorem lt_snoc : ∀ {a b : Tx}, a.length = b.length → a < b → ∀ c d, a ++ [c] < b ++ [d]
  | [], [], _, h, _, _ => absurd h (List.lt_irrefl _)
  | x :: a, y :: b, hl, h, c, d => by
    rw [List.cons_append, List.cons_append]
    rcases List.cons_lt_cons_iff.mp h with h | ⟨e, h⟩
    · exact List.cons_lt_cons_iff.mpr (.inl h)
    · exact List.cons_lt_cons_iff.mpr (.inr ⟨e, lt_snoc (by simpa using hl) h c d⟩)
  | [], _ :: _, hl, _, _, _ => by simp at hl
  | _ :: _, [], hl, _, _, _ => by simp at hl
theorem lt_snoc2 : ∀ (a : Tx) {c d : Nat}, c < d → a ++ [c] < a ++ [d]
  | [], c, d, h => List.cons_lt_cons_iff.mpr (.inl h)
  | x :: a, c, d, h => by
    rw [List.cons_append, List.cons_append]
    exact List.cons_lt_cons_iff.mpr (.inr ⟨rfl, lt_snoc2 a h⟩)
theorem slt_snoc {a b : Tx} (h : slt a b) (c d : Nat) : slt (a ++ [c]) (b ++ [d]) := by
  rcases h with h | ⟨h1, h2⟩
  · exact .inl (by rw [List.length_append, List.length_append]; simpa using h)
  · exact .inr ⟨by rw [List.length_append, List.length_append]; simpa using h1, lt_snoc h1 h2 c d⟩
theorem slt_snoc2 (a : Tx) {c d : Nat} (h : c < d) : slt (a ++ [c]) (a ++ [d]) := .inr ⟨by simp, lt_snoc2 a h⟩
theorem slt_nil (c : Nat) (a : Tx) : slt [] (a ++ [c]) := .inl (by simp)
/-! the row of a text -/
def rowAt (ws : List Tx) (t : Tx) : List Tx := t.foldl (fun r c => rowB ws r c) [[]]
theorem rowAt_snoc (ws : List Tx) (t : Tx) (c : Nat) : rowAt ws (t ++ [c]) = rowB ws (rowAt ws t) c := by unfold rowAt; rw [List.foldl_append]; rfl
def Cuts (ws : List Tx) (t : Tx) : Prop := ∃ us : List Tx, (∀ u ∈ us, u ∈ ws) ∧ us.flatten = t
theorem mem_rowB {ws row : List Tx} {c : Nat} {q : Tx} : q ∈ rowB ws row c ↔ ∃ p ∈ row, (q = p ++ [c] ∧ begun ws (p ++ [c]) = true) ∨ (q = [] ∧ p ++ [c] ∈ ws) := by
  unfold rowB
  rw [setT_mem, List.mem_flatMap]
  constructor
  · rintro ⟨p, hp, h⟩
    refine ⟨p, hp, ?_⟩
    unfold partsT at h
    rcases List.mem_append.mp h with h | h
    · split at h
      · rename_i hb
        rw [List.mem_singleton] at h
        exact .inl ⟨h, hb⟩
      · simp at h
    · split at h
      · rename_i hm
        rw [List.mem_singleton] at h
        exact .inr ⟨h, hm⟩
      · simp at h
  · rintro ⟨p, hp, h⟩
    refine ⟨p, hp, ?_⟩
    unfold partsT
    rcases h with ⟨h, hb⟩ | ⟨h, hm⟩
    · rw [if_pos hb]
      exact List.mem_append_left _ (by rw [List.mem_singleton]; exact h)
    · rw [if_pos hm]
      exact List.mem_append_right _ (by rw [List.mem_singleton]; exact h)
theorem begun_pre {ws : List Tx} {p : Tx} {c : Nat} (h : begun ws (p ++ [c]) = true) : begun ws p = true := by
  obtain ⟨w, hw, hne, z, e⟩ := begun_iff.mp h
  refine begun_iff.mpr ⟨w, hw, fun q => ?_, [c] ++ z, by rw [← List.append_assoc]; exact e⟩
  have := congrArg List.length e
  rw [q, List.length_append, List.length_append, List.length_singleton] at this
  omega
theorem word_pre {ws : List Tx} {p : Tx} {c : Nat} (h : p ++ [c] ∈ ws) : begun ws p = true := begun_iff.mpr ⟨_, h, fun q => by have := congrArg List.length q; simp at this, [c], rfl⟩
theorem snoc_inj {a b : Tx} {x y : Nat} (h : a ++ [x] = b ++ [y]) : a = b ∧ x = y := by
  have := List.append_inj' h rfl
  exact ⟨this.1, by simpa using this.2⟩
/-- what a row holds: what is left open of a text behind some words -/
theorem mem_rowAt {ws : List Tx} (hw : ∀ w ∈ ws, 1 ≤ w.length) : ∀ (n : Nat) (t : Tx), t.length = n → ∀ q, q ∈ rowAt ws t ↔ (q = [] ∨ begun ws q = true) ∧ ∃ us : List Tx, (∀ u ∈ us, u ∈ ws) ∧ us.flatten ++ q = t
  | 0, t, hn, q => by
    have : t = [] := List.eq_nil_of_length_eq_zero hn
    subst this
    show q ∈ [[]] ↔ _
    rw [List.mem_singleton]
    constructor
    · rintro rfl
      exact ⟨.inl rfl, [], by simp, rfl⟩
    · rintro ⟨_, us, _, e⟩
      exact (List.append_eq_nil_iff.mp e).2
  | n + 1, t, hn, q => by
    obtain ⟨u, c, rfl⟩ : ∃ u c, t = u ++ [c] := by
      rcases List.eq_nil_or_concat t with e | ⟨l, b, e⟩
      · rw [e] at hn; cases hn
      · exact ⟨l, b, by rw [e]; simp⟩
    have hu : u.length = n := by rw [List.length_append, List.length_singleton] at hn; omega
    rw [rowAt_snoc, mem_rowB]
    constructor
    · rintro ⟨p, hp, h⟩
      obtain ⟨h1, us, h2, h3⟩ := (mem_rowAt hw n u hu p).mp hp
      rcases h with ⟨rfl, hb⟩ | ⟨rfl, hm⟩
      · exact ⟨.inr hb, us, h2, by rw [← List.append_assoc, h3]⟩
      · refine ⟨.inl rfl, us ++ [p ++ [c]], fun v hv => ?_, ?_⟩
        · rcases List.mem_append.mp hv with hv | hv
          · exact h2 v hv
          · rw [List.mem_singleton] at hv
            rw [hv]
            exact hm
        · rw [List.append_nil, List.flatten_append, List.flatten_singleton, ← List.append_assoc, h3]
    · rintro ⟨h1, us, h2, h3⟩
      rcases List.eq_nil_or_concat q with e | ⟨p, d, e⟩
      · subst e
        rw [List.append_nil] at h3
        rcases List.eq_nil_or_concat us with e | ⟨vs, w, e⟩
        · subst e
          have := (List.append_eq_nil_iff.mp h3.symm).2
          cases this
        · have e : us = vs ++ [w] := by rw [e]; simp
          subst e
          have hwm := h2 w (by simp)
          obtain ⟨p, d, rfl⟩ : ∃ p d, w = p ++ [d] := by
            rcases List.eq_nil_or_concat w with e | ⟨l, b, e⟩
            · have := hw w hwm
              rw [e] at this
              cases this
            · exact ⟨l, b, by rw [e]; simp⟩
          rw [List.flatten_append, List.flatten_singleton, ← List.append_assoc] at h3
          obtain ⟨e1, e2⟩ := snoc_inj h3
          subst e2
          exact ⟨p, (mem_rowAt hw n u hu p).mpr ⟨.inr (word_pre hwm), vs, fun v hv => h2 v (by simp [hv]), e1⟩, .inr ⟨rfl, hwm⟩⟩
      · have e : q = p ++ [d] := by rw [e]; simp
        subst e
        have hb : begun ws (p ++ [d]) = true := by
          rcases h1 with h1 | h1
          · simp at h1
          · exact h1
        rw [← List.append_assoc] at h3
        obtain ⟨e1, e2⟩ := snoc_inj h3
        subst e2
        exact ⟨p, (mem_rowAt hw n u hu p).mpr ⟨.inr (begun_pre hb), us, h2, e1⟩, .inl ⟨rfl, hb⟩⟩
theorem cut_row {ws : List Tx} (hw : ∀ w ∈ ws, 1 ≤ w.length) (t : Tx) : [] ∈ rowAt ws t ↔ Cuts ws t := by
  rw [mem_rowAt hw t.length t rfl]
  constructor
  · rintro ⟨_, us, h1, h2⟩
    exact ⟨us, h1, by rw [← h2, List.append_nil]⟩
  · rintro ⟨us, h1, h2⟩
    exact ⟨.inl rfl, us, h1, by rw [List.append_nil, h2]⟩
/-! the walk -/
theorem fold_spec {ws row : List Tx} {t : Tx} : ∀ (cs : Tx) (F : List RowT), F.Pairwise (fun p q => slt p.2 q.2) → (∀ q ∈ F, ∀ c ∈ cs, slt q.2 (t ++ [c])) → cs.Pairwise (· < ·) →
    (cs.foldl (bfsIns ws row t) F).Pairwise (fun p q => slt p.2 q.2) ∧ (∀ q ∈ cs.foldl (bfsIns ws row t) F, q ∈ F ∨ ∃ c ∈ cs, q = (rowB ws row c, t ++ [c])) ∧ ∀ c ∈ cs, ∃ v ∈ cs.foldl (bfsIns ws row t) F, v.1 = rowB ws row c ∧ (v.2 = t ++ [c] ∨ slt v.2 (t ++ [c]))
  | [], F, h1, _, _ => ⟨h1, fun q hq => .inl hq, fun c hc => by simp at hc⟩
  | c :: cs, F, h1, h2, h3 => by
    rw [List.pairwise_cons] at h3
    rw [List.foldl_cons]
    have s1 : (bfsIns ws row t F c).Pairwise (fun p q => slt p.2 q.2) := by
      unfold bfsIns
      split
      · exact h1
      · refine List.pairwise_append.mpr ⟨h1, List.pairwise_singleton _ _, fun p hp q hq => ?_⟩
        rw [List.mem_singleton] at hq
        rw [hq]
        exact h2 p hp c (by simp)
    have s2 : ∀ q ∈ bfsIns ws row t F c, q ∈ F ∨ q = (rowB ws row c, t ++ [c]) := fun q hq => by
      unfold bfsIns at hq
      split at hq
      · exact .inl hq
      · rcases List.mem_append.mp hq with hq | hq
        · exact .inl hq
        · rw [List.mem_singleton] at hq
          exact .inr hq
    have s3 : ∃ v ∈ bfsIns ws row t F c, v.1 = rowB ws row c ∧ (v.2 = t ++ [c] ∨ slt v.2 (t ++ [c])) := by
      unfold bfsIns
      split
      · rename_i hm
        obtain ⟨v, hv, e⟩ := List.mem_map.mp hm
        exact ⟨v, hv, e, .inr (h2 v hv c (by simp))⟩
      · exact ⟨(rowB ws row c, t ++ [c]), by simp, rfl, .inl rfl⟩
    obtain ⟨r1, r2, r3⟩ := fold_spec cs (bfsIns ws row t F c) s1 (fun q hq d hd => by
      rcases s2 q hq with hq | rfl
      · exact h2 q hq d (by simp [hd])
      · exact slt_snoc2 t (h3.1 d hd)) h3.2
    refine ⟨r1, fun q hq => ?_, fun d hd => ?_⟩
    · rcases r2 q hq with hq | ⟨d, hd, e⟩
      · rcases s2 q hq with hq | e
        · exact .inl hq
        · exact .inr ⟨c, by simp, e⟩
      · exact .inr ⟨d, by simp [hd], e⟩
    · rcases List.mem_cons.mp hd with rfl | hd
      · obtain ⟨v, hv, e⟩ := s3
        obtain ⟨G, hG⟩ := bfs_pre (ws := ws) (row := row) (t := t) cs (bfsIns ws row t F d)
        exact ⟨v, by rw [hG]; exact List.mem_append_left _ hv, e⟩
      · exact r3 d hd
structure Gd (ws : List Tx) (ls : Tx) (k : Nat) (F : List RowT) : Prop where
  so : F.Pairwise (fun p q => slt p.2 q.2)
  bd : ∀ p, F[k]? = some p → ∀ q ∈ F, ∀ d, slt q.2 (p.2 ++ [d])
  ro : ∀ p ∈ F, p.1 = rowAt ws p.2
  cl : ∀ j p, j < k → F[j]? = some p → ∀ c ∈ ls, ∃ v ∈ F, v.1 = rowB ws p.1 c ∧ (v.2 = p.2 ++ [c] ∨ slt v.2 (p.2 ++ [c]))
theorem bfs_gd (ws : List Tx) {ls : Tx} (hls : ls.Pairwise (· < ·)) : ∀ k, Gd ws ls k (bfs ws ls k)
  | 0 => by
    refine ⟨List.pairwise_singleton _ _, fun p hp q hq d => ?_, fun p hp => ?_, fun j p hj => absurd hj (Nat.not_lt_zero _)⟩
    · have hq : q = ([[]], []) := by simpa [bfs] using hq
      have hp : ([[]], []) = p := by simpa [bfs] using hp
      subst hq hp
      exact slt_nil d []
    · have hp : p = ([[]], []) := by simpa [bfs] using hp
      subst hp
      rfl
  | k + 1 => by
    have h := bfs_gd ws hls k
    show Gd ws ls (k + 1) (bfsStep ws ls (bfs ws ls k) k)
    unfold bfsStep
    split
    · rename_i row t e
      obtain ⟨f1, f2, f3⟩ := fold_spec (ws := ws) (row := row) (t := t) ls (bfs ws ls k) h.so (fun q hq c _ => h.bd _ e q hq c) hls
      obtain ⟨G, hG⟩ := bfs_pre (ws := ws) (row := row) (t := t) ls (bfs ws ls k)
      have hk : k < (bfs ws ls k).length := (List.getElem?_eq_some_iff.mp e).1
      have hrow : row = rowAt ws t := h.ro _ (List.mem_of_getElem? e)
      have e2 : (ls.foldl (bfsIns ws row t) (bfs ws ls k))[k]? = some (row, t) := by rw [hG, List.getElem?_append_left hk, e]
      refine ⟨f1, fun p hp q hq d => ?_, fun p hp => ?_, fun j p hj hp c hc => ?_⟩
      · have hlt : slt t p.2 := by
          obtain ⟨a1, a2⟩ := List.getElem?_eq_some_iff.mp e2
          obtain ⟨b1, b2⟩ := List.getElem?_eq_some_iff.mp hp
          have := List.pairwise_iff_getElem.mp f1 k (k + 1) a1 b1 (by omega)
          rw [a2, b2] at this
          exact this
        rcases f2 q hq with hq | ⟨c, _, rfl⟩
        · exact slt_trans (h.bd _ e q hq d) (slt_snoc hlt d d)
        · exact slt_snoc hlt c d
      · rcases f2 p hp with hp | ⟨c, _, rfl⟩
        · exact h.ro p hp
        · show rowB ws row c = rowAt ws (t ++ [c])
          rw [rowAt_snoc, ← hrow]
      · by_cases hjk : j = k
        · subst hjk
          rw [e2] at hp
          cases hp
          exact f3 c hc
        · have hjl : j < (bfs ws ls k).length := by omega
          rw [hG, List.getElem?_append_left hjl] at hp
          obtain ⟨v, hv, q⟩ := h.cl j p (by omega) hp c hc
          exact ⟨v, by rw [hG]; exact List.mem_append_left _ hv, q⟩
    · rename_i e
      have hk : (bfs ws ls k).length ≤ k := List.getElem?_eq_none_iff.mp e
      refine ⟨h.so, fun p hp => ?_, h.ro, fun j p hj hp c hc => ?_⟩
      · rw [List.getElem?_eq_none (by omega)] at hp
        cases hp
      · have hjl := (List.getElem?_eq_some_iff.mp hp).1
        exact h.cl j p (by omega) hp c hc
theorem rows_gd {ws : List Tx} {ls : Tx} (hls : ls.Pairwise (· < ·)) (hs : (ws.map List.length).sum ≤ 16) : (rowsOf ws ls).Pairwise (fun p q => slt p.2 q.2) ∧ (∀ p ∈ rowsOf ws ls, p.1 = rowAt ws p.2) ∧ ∀ p ∈ rowsOf ws ls, ∀ c ∈ ls, ∃ v ∈ rowsOf ws ls, v.1 = rowB ws p.1 c ∧ (v.2 = p.2 ++ [c] ∨ slt v.2 (p.2 ++ [c])) := by
  have h := bfs_gd ws hls 131072
  refine ⟨h.so, h.ro, fun p hp c hc => ?_⟩
  obtain ⟨j, hj, e⟩ := List.mem_iff_getElem.mp hp
  have hf := bfs_few ls hs 131072
  exact h.cl j p (by have hj : j < (bfs ws ls 131072).length := hj; omega) (List.getElem?_eq_some_iff.mpr ⟨hj, e⟩) c hc
theorem rows_all {ws : List Tx} {ls : Tx} (hls : ls.Pairwise (· < ·)) (hs : (ws.map List.length).sum ≤ 16) : ∀ (n : Nat) (t : Tx), t.length = n → (∀ c ∈ t, c ∈ ls) → ∃ v ∈ rowsOf ws ls, v.1 = rowAt ws t ∧ (v.2 = t ∨ slt v.2 t)
  | 0, t, hn, _ => by
    have : t = [] := List.eq_nil_of_length_eq_zero hn
    subst this
    have h0 : ∀ k, ([[]], []) ∈ bfs ws ls k := fun k => by
      induction k with
      | zero => exact List.mem_singleton.mpr rfl
      | succ k ih =>
        obtain ⟨G, hG⟩ := bfs_grow ws ls k
        rw [hG]
        exact List.mem_append_left _ ih
    exact ⟨([[]], []), h0 131072, rfl, .inl rfl⟩
  | n + 1, t, hn, ht => by
    obtain ⟨u, c, rfl⟩ : ∃ u c, t = u ++ [c] := by
      rcases List.eq_nil_or_concat t with e | ⟨l, b, e⟩
      · rw [e] at hn; cases hn
      · exact ⟨l, b, by rw [e]; simp⟩
    obtain ⟨v, hv, v1, v2⟩ := rows_all hls hs n u (by rw [List.length_append, List.length_singleton] at hn; omega) fun d hd => ht d (by simp [hd])
    obtain ⟨x, hx, x1, x2⟩ := (rows_gd hls hs).2.2 v hv c (ht c (by simp))
    refine ⟨x, hx, by rw [x1, v1, rowAt_snoc], ?_⟩
    rcases v2 with v2 | v2
    · rw [v2] at x2
      exact x2
    · rcases x2 with x2 | x2
      · exact .inr (by rw [x2]; exact slt_snoc v2 c c)
      · exact .inr (slt_trans x2 (slt_snoc v2 c c))
end PD

/-! PL, first part: lists and tuples compared by their order; rows of rows sorted. -/
namespace PD
open PySem PySem.Spec PyProof.Rows L2
def alikeD (x y : D) : Prop := PySem.W.alike (py x) (py y) = true
section
variable {X : Cx}
theorem op_ordD {op : CmpOp} {f : Bool → Bool → Bool} (hop : ∀ {s : Shared} {A : Around} {E : Value → Shared → Prop} {a b : Value} {da db : PyData} {as bs : List Addr} {Q : Value → Shared → Prop}, PySem.Reads s.heap a da as → PySem.Reads s.heap b db bs → PySem.W.alike da db = true → da ≠ .none → A.units + min da.depth db.depth < cLine → Q (.bool (f (PySem.W.dataLt da db) (PySem.W.dataLt db da))) s → wpAny (model X.prog X.w) A (compareOp op a b) Q E s)
    (hu : X.A.units + 64 < cLine) : OpR X (compareOp op) (fun x y H Q => ∃ d e, Dp X.K H x d ∧ Dp X.K H y e ∧ PySem.W.alike d e = true ∧ d ≠ .none ∧ d.depth ≤ 60 ∧ Q (.bl (f (PySem.W.dataLt d e) (PySem.W.dataLt e d))) H) := fun pins s σ H x y v u Q I rx ry h => by
  obtain ⟨d, e, hd, he, ha, hn, hp, q⟩ := h
  obtain ⟨as, r1⟩ := Dp.reads I d x v hd rx
  obtain ⟨bs, r2⟩ := Dp.reads I e y u he ry
  exact hop r1 r2 ha hn (by omega) ⟨.bl _, H, I, rfl, q⟩
end
/-- comparisons of ints, of texts, of lists and tuples alike -/
def bOrd (f : Int → Int → Bool) (g : Tx → Tx → Bool) (h : Bool → Bool → Bool) : B2
  | .int i, .int j, P => P (.d (.bl (f i j)))
  | .str i, .str j, P => P (.d (.bl (g i j)))
  | x, y, P => okD x ∧ okD y ∧ alikeD x y ∧ py x ≠ .none ∧ P (.d (.bl (h (dlt x y) (dlt y x))))
def rOrd (K : PySem.W.Frag) (f : Int → Int → Bool) (g : Tx → Tx → Bool) (h : Bool → Bool → Bool) : R2 := fun x y H Q => rCmpA f g x y H Q ∨ ∃ d e, Dp K H x d ∧ Dp K H y e ∧ PySem.W.alike d e = true ∧ d ≠ .none ∧ d.depth ≤ 60 ∧ Q (.bl (h (PySem.W.dataLt d e) (PySem.W.dataLt e d))) H
theorem snd_ord {K : PySem.W.Frag} (f : Int → Int → Bool) (g : Tx → Tx → Bool) (h : Bool → Bool → Bool) : Snd2 K (rOrd K f g h) (bOrd f g h) := fun S H x y v w P Q le dv dw b k => by
  unfold bOrd at b
  split at b
  · exact .inl (snd_cmp f g S H _ _ v w P Q le dv dw b k)
  · exact .inl (snd_cmp f g S H _ _ v w P Q le dv dw b k)
  · obtain ⟨b1, b2, b3, b4, b5⟩ := b
    exact .inr ⟨_, _, (dv.dr le).dp b1.1, (dw.dr le).dp b2.1, b3, b4, Nat.le_trans (py_dep _) b1.2, k.dat _ _ b5 (.bl _)⟩
section
variable {X : Cx}
theorem op_ltO (hu : X.A.units + 64 < cLine) : OpR X (compareOp .Lt) (rOrd X.K (fun i j => decide (i < j)) (fun i j => decide (i < j)) fun a _ => a) := OpR.or op_ltA (op_ordD (f := fun a _ => a) (fun ra rb h hn hu hq => PySem.W.lt_data ra rb h hn hu hq) hu)
theorem op_leO (hu : X.A.units + 64 < cLine) : OpR X (compareOp .LtE) (rOrd X.K (fun i j => decide (i ≤ j)) (fun i j => !decide (j < i)) fun _ b => !b) := OpR.or op_leA (op_ordD (f := fun _ b => !b) (fun ra rb h hn hu hq => PySem.W.le_data ra rb h hn hu hq) hu)
theorem op_gtO (hu : X.A.units + 64 < cLine) : OpR X (compareOp .Gt) (rOrd X.K (fun i j => decide (j < i)) (fun i j => decide (j < i)) fun _ b => b) := OpR.or op_gtA (op_ordD (f := fun _ b => b) (fun ra rb h hn hu hq => PySem.W.gt_data ra rb h hn hu hq) hu)
theorem op_geO (hu : X.A.units + 64 < cLine) : OpR X (compareOp .GtE) (rOrd X.K (fun i j => decide (j ≤ i)) (fun i j => !decide (i < j)) fun a _ => !a) := OpR.or op_geA (op_ordD (f := fun a _ => !a) (fun ra rb h hn hu hq => PySem.W.ge_data ra rb h hn hu hq) hu)
end
abbrev oLt : B2 := bOrd (fun i j => decide (i < j)) (fun i j => decide (i < j)) fun a _ => a
abbrev oLe : B2 := bOrd (fun i j => decide (i ≤ j)) (fun i j => !decide (j < i)) fun _ b => !b
abbrev oGt : B2 := bOrd (fun i j => decide (j < i)) (fun i j => decide (j < i)) fun _ b => b
abbrev oGe : B2 := bOrd (fun i j => decide (j ≤ i)) (fun i j => !decide (i < j)) fun a _ => !a
/-! rows of rows -/
theorem alike_strs : ∀ (a b : List Tx), PySem.W.alikeAll (pys (a.map D.str)) (pys (b.map D.str)) = true
  | [], _ => by simp [pys, PySem.W.alikeAll]
  | _ :: _, [] => by simp [pys, PySem.W.alikeAll]
  | x :: r, y :: t => by
    have := alike_strs r t
    simp only [List.map_cons, pys, PySem.W.alikeAll, Bool.and_eq_true]
    exact ⟨by simp [py, PySem.W.alike], this⟩
theorem alike_rows (a b : List Tx) : alikeD (.lst (a.map .str)) (.lst (b.map .str)) := by
  unfold alikeD
  simp only [py, PySem.W.alike]
  exact alike_strs a b
theorem srtOk_rows {ls : List (List Tx)} (h : ∀ r ∈ ls, okD (.lst (r.map D.str))) : srtOk (ls.map fun r => D.lst (r.map .str)) := by
  refine ⟨?_, ?_, fun x hx => ?_⟩
  · intro d hd e he
    rw [List.map_map] at hd he
    obtain ⟨r, _, rfl⟩ := List.mem_map.mp hd
    obtain ⟨t, _, rfl⟩ := List.mem_map.mp he
    exact alike_rows r t
  · refine .inr fun d hd => ?_
    rw [List.map_map] at hd
    obtain ⟨r, _, rfl⟩ := List.mem_map.mp hd
    exact ⟨fun z => by simp [py] at z, fun xs z => by simp [py] at z⟩
  · obtain ⟨r, hr, rfl⟩ := List.mem_map.mp hx
    exact h r hr
end PD

set_option pp.maxSteps 1500
namespace PD
open PySem PySem.Spec PyProof.Rows L2
def isRow (ws row : List Tx) : Bool := decide (row = setT row) && row.all fun t => decide (t = []) || begun ws t
def riseR (rs : List (List Tx)) : Bool := (List.range (rs.length - 1)).all fun k => dlt (rowD (rs.getD k [])) (rowD (rs.getD (k + 1) []))
def fullS (ws : List Tx) (s : Tx) (rs : List (List Tx)) : Bool := decide ([[]] ∈ rs) && (rs.all fun r => decide ([] ∈ r) && isRow ws r) && riseR rs && rs.all fun r => s.all fun c => decide (rowB ws r c ∈ rs)
def unrow : D → List Tx
  | .lst xs => txo xs
  | _ => []
theorem unrow_row (r : List Tx) : unrow (rowD r) = r := txo_map r
theorem unrows (rs : List (List Tx)) : (rs.map rowD).map unrow = rs := by
  rw [List.map_map]
  conv => rhs; rw [← List.map_id rs]
  exact List.map_congr_left fun r _ => unrow_row r
def pre_is_row : List AR → Prop
  | [.d (.lst xs), .d (.lst rs)] => (∃ ws : List Tx, xs = ws.map .str ∧ Wds ws 16) ∧ ∃ row : List Tx, rs = row.map .str ∧ RowS row
  | _ => False
def f_is_row : List AR → AR
  | [.d (.lst xs), .d (.lst rs)] => .d (.bl (isRow (txo xs) (txo rs)))
  | _ => .d .non
def pre_full_shows : List AR → Prop
  | [.d (.lst ds), .d (.str s), .d (.lst rs)] => Lets s ∧ (∃ ps : List (Tx × Int), ds = ps.map (fun p => pairD (.inr p.1, .int p.2)) ∧ Wds (ps.map (·.1)) 16) ∧ ∃ rows : List (List Tx), rs = rows.map rowD ∧ rows.length ≤ 300000 ∧ ∀ r ∈ rows, RowS r
  | _ => False
def f_full_shows : List AR → AR
  | [.d (.lst ds), .d (.str s), .d (.lst rs)] => .d (.bl (fullS (keysT ds) s (rs.map unrow)))
  | _ => .d .non
abbrev pre_full_paper := pre_rows_from
def paperOf (U : D) (R : List RowT) : AR := match U with
  | .non => .o (.lst (srt (R.map fun p => rowD p.1)))
  | _ => .d .non
def f_full_paper : List AR → AR
  | [.d (.lst ds), .d (.str s)] => paperOf (uncut (keysT ds) s) (rowsOf (keysT ds) s)
  | _ => .d .non
def p_is_row : PTS :=
  (pSeq (pIf (pTest (pOp2 (bEq not) (pVar 1) (pSrtSet (pVar 1)))) (pRet (pC (.bl false)))
  pNext)
  (pRet (pOp2 (bEq id) (pLc (pItL (pVar 1)) (tgN 2) (pAnd (pTest (pOp2 (bEq not) (pVar 2) (pC (.str [])))) (pNot (pTest (pCalls (callP pre_is_begun f_is_begun) (pCons (pVar 0) (pCons (pVar 2) pNil)))))) (pVar 2) [2]) (pLst pNil))))
abbrev N_is_row : List Str := ["words", "row", "text"]
def p_full_paper : PTS :=
  (pSeq (pIf (pTest (pOp2 (bIs not) (pCalls (callP pre_least_uncut f_least_uncut) (pCons (pVar 0) (pCons (pVar 1) pNil))) (pC .non))) (pRet (pC .non))
  pNext)
  (pRet (pCall cSorted (pCons (pLc (pItL (pCalls (callP pre_rows_from f_rows_from) (pCons (pVar 0) (pCons (pVar 1) pNil)))) (tgT [2, 3]) pYes (pVar 2) [2, 3]) pNil))))
abbrev N_full_paper : List Str := ["book", "letters", "row", "text"]
def p_full_shows : PTS :=
  (pSeq (pDrop (pCalls (callP pre_need_letters f_need_letters) (pCons (pVar 1) pNil)))
  (pSeq (pSetD 3 (pLc (pItL (pVar 0)) (tgT [6, 7]) pYes (pVar 6) [6, 7]))
  (pSeq (pIf (pOr (pTest (pOp2 (bIn not) (pLst (pCons (pC (.str [])) pNil)) (pVar 2))) (pTest (pOp2 (bEq not) (pLc (pItL (pVar 2)) (tgN 5) (pOr (pTest (pOp2 (bIn not) (pC (.str [])) (pVar 5))) (pNot (pTest (pCalls (callP pre_is_row f_is_row) (pCons (pVar 3) (pCons (pVar 5) pNil)))))) (pVar 5) [5]) (pLst pNil)))) (pRet (pC (.bl false)))
  pNext)
  (pSeq (pWip [4] (pFor (pRng2 (pCons (pC (.int 1)) (pCons (pCall cLen (pCons (pVar 2) pNil)) pNil))) (tgN 4) (pGw [4] [4] (pIf (pTest (pOp2 oGe (pOp2 bIx (pVar 2) (pOp2 bSub (pVar 4) (pC (.int 1)))) (pOp2 bIx (pVar 2) (pVar 4)))) (pRet (pC (.bl false)))
  pNext))))
  (pSeq (pWip [5] (pFor (pItL (pVar 2)) (tgN 5) (pGw [5] [5] (pIf (pTest (pOp2 (bEq not) (pLc (pItS (pVar 1)) (tgN 8) (pTest (pOp2 (bIn not) (pCalls (callP pre_row_behind f_row_behind) (pCons (pVar 3) (pCons (pVar 5) (pCons (pVar 8) pNil)))) (pVar 2))) (pVar 8) [8]) (pLst pNil))) (pRet (pC (.bl false)))
  pNext))))
  (pRet (pC (.bl true))))))))
abbrev N_full_shows : List Str := ["book", "letters", "paper", "words", "at", "row", "word", "weight", "letter"]
local macro_rules | `(tactic| walk_at "rd") => `(tactic| simp (config := { decide := true }) only [pSeq_then, pNext, pNever, pBreak, pCont, pDrop, pRet, pRetN, pIf, pSet, pSetD, setD, setP, setO, pVar, pC, pOp2, pTest, pAnd, pOr, pNot, pAndV, pOrV, pNotV, pIfE, pNil, pCons, pLst, pTup, pDict0, pDictC, pDM, dUpdate, pCall, pIsiP, pM1, bJoin, pNo, pPart, pSl, pSortI, pLM, lAppend, lInsert, lExtend, lPopAt, lPop, lReverse, lClear, pLc_eq, pFor_eq, pWhile_eq, pWip, pGw, wipeS, trunc, truncE, pItL, pItS, pRng1, pRng2, pRng3, pVarF, pAug, pDictLen, pLr3, pNeg, pCalls, callP, pEnum, pStepS, pRevL, bStarts, bEnds, pAugK, pItK, pFz, pRaise, pCallX, callX, pTry, pIsX, pLr1, pM0, bUpper, cListB, cTuple, pOrT, pDictLenT, pBor, borE, scalD, pPickL, cSum, cAbs, bOrd, pre_need_letters, f_need_letters, pre_is_begun, f_is_begun, pre_row_behind, f_row_behind, pre_is_row, f_is_row, pre_rows_from, f_rows_from, pre_least_uncut, f_least_uncut, pre_full_paper, f_full_paper, pre_full_shows, f_full_shows, merge_dictOf, filter_none, take_iff, callN, txo_map, deq_nilU, map_isEmpty, keysT_map, pItS, toAR, R.fz, view, views, dats, O.toD, AR.toR, bAdd, bSub, bMul, bDiv, bMod, bPow, bEq,  pSrtSet, pSrtSetS, pForM_eq, pGx, bCmp, bIn, bIs, bIx, bSl, cLen, cMin2, cMax2, cInt, cList, cDict, cSorted, plainD, isiB, tyn, pAsg, tgT, tgU, setsA, pSetIx, storeO, kdOf, pChain, cmpD, pYes, pTru, truD, Hand, tgN, wipeA, fnAbs, envA, ownsA, retA, conP, conN, List.set, List.set_cons_zero, List.set_cons_succ, List.set_nil, List.getElem?_cons_zero, List.getElem?_cons_succ, List.getElem?_nil, List.length_cons, List.length_nil, List.cons_append, List.nil_append, List.append_nil, List.replicate, Nat.reduceSub, Nat.reduceAdd, Nat.zero_add, Int.zero_add, true_and, and_true, reduceIte, Bool.false_eq_true, id, Bool.not_true, Bool.not_false, decide_true, decide_false, List.nodup_nil, List.nodup_cons, List.not_mem_nil, not_false_eq_true, List.take_zero, List.take_succ_cons, List.take_nil, List.map_cons, List.map_nil])
local macro_rules | `(tactic| walk_at "sc") => `(tactic| first | with_reducible assumption | omega | with_reducible rfl | with_reducible exact True.intro | with_reducible exact okD_ints | with_reducible exact okD_nil | with_reducible exact okD_int _ | with_reducible exact okD_bl _ | with_reducible exact okD_non | with_reducible exact okD_sm (by assumption) | with_reducible exact cmulR (by omega) (by omega) | with_reducible exact cmulL (by omega) (by omega) | with_reducible exact cdivw (by omega) (by omega) | (with_reducible refine smallI_of ?_ ?_ <;> first | omega | (simp only [List.length_map, List.length_append, List.length_range, List.length_replicate, List.length_cons, List.length_nil, List.length_take, List.length_drop]; omega)) | (unfold CPow; decide) | (simp only [List.length_map, List.length_append, List.length_range, List.length_replicate, List.length_cons, List.length_nil, List.length_take, List.length_drop]; omega) | (refine ⟨?_, ?_⟩ <;> walk_at "sc"))
local macro_rules | `(tactic| walk_at "go") => `(tactic| repeat (first | walk_at "rd" | with_reducible refine then_go ?_ | (refine And.intro (by walk_at "sc") ?_) | (with_reducible refine dict_of (by assumption) ?_) | rw [deq_self (by walk_at "sc")] | walk_at "sc"))
local macro_rules | `(tactic| walk_at "rt") => `(tactic| try walk_at "rd")
local macro_rules | `(tactic| walk_at "nx") => `(tactic| ((try dsimp only); rw [then_eq]; walk_at "rd"))
theorem cutU_sub {α : Type} (xs : List α) (lo hi : Option Int) : (cutL xs lo hi).Sublist xs := by
  unfold cutL
  exact (List.take_sublist _ _).trans (List.drop_sublist _ _)
theorem cutU_len {α : Type} (xs : List α) (lo hi : Option Int) : (cutL xs lo hi).length ≤ xs.length := (cutU_sub xs lo hi).length_le
theorem cutU_mem {α : Type} {xs : List α} {lo hi : Option Int} {x : α} (h : x ∈ cutL xs lo hi) : x ∈ xs := (cutU_sub xs lo hi).mem h
theorem set_T {xs : List Tx} {zs : List Kd} (hx : ∀ x ∈ xs, small x = true) (hn : zs.Nodup) (hm : ∀ k, k ∈ zs ↔ k ∈ xs.map Sum.inr) : srtOk (zs.map kD) ∧ srt (zs.map kD) = (setT xs).map D.str := by
  obtain ⟨z1, ys, z2, z3, z4⟩ := set_texts (fun a ha => small_okX (hx a ha)) hn hm
  exact ⟨z1, by rw [z2, setT_eq z3 z4]⟩
theorem deq_strs (a b : List Tx) : deq (.lst (a.map D.str)) (.lst (b.map D.str)) = decide (a = b) := rowD_deq a b
theorem isRow_filter (ws row : List Tx) : (row.filter fun t => decide (t ≠ []) && !begun ws t).isEmpty = row.all fun t => decide (t = []) || begun ws t := by
  induction row with
  | nil => rfl
  | cons t r ih =>
    rw [List.filter_cons, List.all_cons, ← ih]
    by_cases h : t = [] <;> cases begun ws t <;> simp [h]
theorem r_is_row : Law p_is_row N_is_row 2 (conP pre_is_row f_is_row) := fun ars h => by
  have h : pre_is_row ars := h
  unfold pre_is_row at h
  split at h
  · obtain ⟨⟨ws, rfl, hW⟩, row, rfl, hr1, hr2⟩ := h
    refine ⟨rfl, ?_⟩
    unfold p_is_row endsA
    have okr : okD (.lst (row.map D.str)) := okD_strS fun t ht => (hr2 t ht).1
    walk_at "go"
    refine ⟨_, inr_kD _, by rw [List.length_map]; omega, fun zs zn zm => ?_⟩
    obtain ⟨z1, z2⟩ := set_T (fun t ht => (hr2 t ht).1) zn zm
    refine ⟨z1, okr, ?_⟩
    rw [z2, deq_strs]
    refine ⟨okD_strS fun t ht => (hr2 t (setT_mem.mp ht)).1, ?_⟩
    by_cases he : row = setT row
    · rw [if_neg (by rw [decide_eq_true he]; simp)]
      walk_at "nx"
      refine lc_over (xs := row) (f := D.str) (fun t => decide (t ≠ []) && !begun ws t) .str trivial (by omega) (fun t ht => ⟨_, rfl, fun J hJ => ?_⟩) ?_
      · have ht2 := hr2 t ht
        walk_at "go"
        by_cases hn : t = []
        · rw [if_neg (by simp [hn])]
          rw [if_neg (by simp [hn])] at hJ
          exact hJ
        · rw [if_pos (by simp [hn])]
          refine ⟨⟨by omega, ws, rfl, hW⟩, ?_⟩
          cases hb : begun ws t
          · rw [if_pos (by simp [hn, hb])] at hJ
            exact hJ
          · rw [if_neg (by simp [hn, hb])] at hJ
            exact hJ
      · walk_at "go"
        refine ⟨okD_strS fun t ht => (hr2 t (List.mem_filter.mp ht).1).1, okD_nil, ?_⟩
        rw [isRow_filter]
        unfold isRow
        rw [decide_eq_true he, Bool.true_and]
    · rw [if_pos (by rw [decide_eq_false he]; simp)]
      unfold isRow
      rw [decide_eq_false he, Bool.false_and]
  · exact h.elim
theorem pickR {xs : List (List Tx)} : ∀ {ys : List D}, (∀ z ∈ ys, z ∈ xs.map rowD) → ∃ us : List (List Tx), ys = us.map rowD ∧ ∀ t ∈ us, t ∈ xs
  | [], _ => ⟨[], rfl, fun t h => by simp at h⟩
  | y :: r, h => by
    obtain ⟨us, e, hu⟩ := pickR (ys := r) fun z hz => h z (by simp [hz])
    obtain ⟨t, ht, e2⟩ := List.mem_map.mp (h y (by simp))
    refine ⟨t :: us, by rw [e, ← e2]; rfl, fun z hz => ?_⟩
    rcases List.mem_cons.mp hz with rfl | hz
    · exact ht
    · exact hu z hz
theorem sort_rows {rs : List (List Tx)} (h : ∀ r ∈ rs, ∀ t ∈ r, small t = true) : srtOk (rs.map rowD) ∧ ∃ us : List (List Tx), srt (rs.map rowD) = us.map rowD ∧ us.length = rs.length ∧ ∀ t ∈ us, t ∈ rs := by
  refine ⟨srtOk_rows fun r hr => okD_row (h r hr), ?_⟩
  obtain ⟨us, e, hu⟩ := pickR (xs := rs) fun z hz => srt_mem.mp hz
  refine ⟨us, e, ?_, hu⟩
  have := congrArg List.length e
  rw [srt_len, List.length_map, List.length_map] at this
  exact this.symm
theorem rise_iff {rs : List (List Tx)} : riseR rs = true ↔ ∀ k, k + 1 < rs.length → dlt (rowD (rs.getD k [])) (rowD (rs.getD (k + 1) [])) = true := by
  unfold riseR
  rw [List.all_eq_true]
  constructor
  · exact fun h k hk => h k (List.mem_range.mpr (by omega))
  · exact fun h k hk => h k (by have := List.mem_range.mp hk; omega)
theorem fullS_iff {ws : List Tx} {s : Tx} {rs : List (List Tx)} : fullS ws s rs = true ↔ [[]] ∈ rs ∧ (∀ r ∈ rs, [] ∈ r ∧ isRow ws r = true) ∧ riseR rs = true ∧ ∀ r ∈ rs, ∀ c ∈ s, rowB ws r c ∈ rs := by
  unfold fullS
  simp only [Bool.and_eq_true, List.all_eq_true, decide_eq_true_eq, and_assoc]
theorem fullS_no {ws : List Tx} {s : Tx} {rs : List (List Tx)} (h : ¬ ([[]] ∈ rs ∧ (∀ r ∈ rs, [] ∈ r ∧ isRow ws r = true) ∧ riseR rs = true ∧ ∀ r ∈ rs, ∀ c ∈ s, rowB ws r c ∈ rs)) : fullS ws s rs = false := by
  cases e : fullS ws s rs with
  | false => rfl
  | true => exact absurd (fullS_iff.mp e) h
theorem filt_ne {α : Type} {xs : List α} {q : α → Bool} : (xs.filter q).isEmpty = true ↔ ∀ x ∈ xs, q x = false := by
  rw [List.isEmpty_iff, List.filter_eq_nil_iff]
  constructor
  · intro h x hx
    have := h x hx
    simpa using this
  · intro h x hx
    rw [h x hx]
    decide
theorem RowS.sm {row : List Tx} (h : RowS row) : ∀ t ∈ row, small t = true := fun t ht => (h.2 t ht).1
theorem okD_strX1 {s : Tx} {q : Nat → Bool} (h : small s = true) : okD (.lst ((s.filter q).map fun c => D.str [c])) := by
  have : (s.filter q).map (fun c => D.str [c]) = ((s.filter q).map fun c => ([c] : Tx)).map D.str := by rw [List.map_map]; rfl
  rw [this]
  exact okD_strS fun l hl => by
    obtain ⟨c, hc, rfl⟩ := List.mem_map.mp hl
    exact small_one h (List.mem_filter.mp hc).1
theorem row_py (r : List Tx) : py (rowD r) ≠ .none := fun z => by simp [rowD, py] at z
theorem oGe_rows {a b : List Tx} {P : R → Prop} (h1 : okD (rowD a)) (h2 : okD (rowD b)) (h : P (.d (.bl (!dlt (rowD a) (rowD b))))) : oGe (rowD a) (rowD b) P := ⟨h1, h2, alike_rows _ _, row_py _, h⟩
theorem r_full_shows : Law p_full_shows N_full_shows 3 (conP pre_full_shows f_full_shows) := fun ars h => by
  have h : pre_full_shows ars := h
  unfold pre_full_shows at h
  split at h
  · rename_i ds s rs _
    obtain ⟨⟨hs, hs1, hs2, hs3⟩, ⟨ps, rfl, hW⟩, rows, rfl, hr1, hr2⟩ := h
    have hpl : ps.length ≤ 16 := by have := hW.len; rwa [List.length_map] at this
    have hsm : ∀ r ∈ rows, ∀ t ∈ r, small t = true := fun r hr => (hr2 r hr).sm
    have okR := okD_rows hsm
    refine ⟨rfl, ?_⟩
    unfold p_full_shows endsA
    walk_at "rd"
    refine ⟨⟨hs, hs1, hs2, hs3⟩, ?_⟩
    walk_at "nx"
    rw [unrows]
    refine lc_each (xs := ps) (f := fun p => pairD (.inr p.1, .int p.2)) (fun p => .str p.1) trivial (by omega) (fun p hp => ⟨_, rfl, fun J hJ => ?_⟩) ?_
    · walk_at "go"
      exact hJ
    have ews : ps.map (fun p => D.str p.1) = (ps.map (·.1)).map .str := by rw [List.map_map]; rfl
    rw [ews]
    generalize ps.map (·.1) = ws at hW ⊢
    walk_at "rd"
    walk_at "nx"
    rw [show D.lst [D.str []] = rowD [[]] from rfl]
    refine ⟨okD_row (r := [[]]) fun t ht => by rw [List.mem_singleton] at ht; rw [ht]; rfl, okR, ?_⟩
    rw [any_row]
    by_cases hA : [[]] ∈ rows
    · rw [if_neg (by rw [decide_eq_true hA]; simp)]
      refine lc_over (xs := rows) (f := rowD) (fun r => !(decide ([] ∈ r) && isRow ws r)) rowD trivial (by omega) (fun r hr => ⟨_, rfl, fun J hJ => ?_⟩) ?_
      · rw [show rowD r = .lst (r.map .str) from rfl] at hJ ⊢
        have okr := okD_row (hsm r hr)
        rw [show rowD r = .lst (r.map .str) from rfl] at okr
        walk_at "rd"
        refine ⟨okD_sm rfl, okr, ?_⟩
        rw [any_nil]
        by_cases hm : ([] : Tx) ∈ r
        · rw [if_neg (by rw [decide_eq_true hm]; simp)]
          refine ⟨⟨⟨ws, rfl, hW⟩, r, rfl, hr2 r hr⟩, ?_⟩
          cases hi : isRow ws r
          · rw [if_pos (by rw [hi]; simp)] at hJ
            exact hJ
          · rw [if_neg (by rw [hi, decide_eq_true hm]; simp)] at hJ
            exact hJ
        · rw [if_pos (by rw [decide_eq_false hm]; simp)]
          rw [if_pos (by rw [decide_eq_false hm]; simp)] at hJ
          exact hJ
      · walk_at "rd"
        refine ⟨okD_rows fun r hr => hsm r (List.mem_filter.mp hr).1, okD_nil, ?_⟩
        cases hB : (rows.filter fun r => !(decide ([] ∈ r) && isRow ws r)).isEmpty with
        | false =>
          walk_at "rd"
          rw [fullS_no fun z => by
            rw [filt_ne.mpr fun r hr => by rw [decide_eq_true (z.2.1 r hr).1, (z.2.1 r hr).2]; rfl] at hB
            cases hB]
        | true =>
          have hB2 : ∀ r ∈ rows, [] ∈ r ∧ isRow ws r = true := fun r hr => by
            have := filt_ne.mp hB r hr
            simpa using this
          walk_at "rd"
          walk_at "nx"
          rw [List.length_map]
          have enx : ((rows.length : Int) - 1).toNat = rows.length - 1 := by omega
          rw [enx]
          refine ⟨by unfold smallI; omega, by unfold smallI; omega, ?_⟩
          refine for_rng (fun k A => A = ⟨[AV.d (.lst (ps.map fun p => pairD (.inr p.1, .int p.2))), .d (.str s), .d (.lst (rows.map rowD)), .d (.lst (ws.map .str)), .un, .un, .un, .un, .un], []⟩ ∧ ∀ j, j < k → dlt (rowD (rows.getD j [])) (rowD (rows.getD (j + 1) [])) = true) ⟨rfl, fun j hj => absurd hj (Nat.not_lt_zero _)⟩ (by intros; trivial) ?_ ?_
          · rintro k A hk ⟨rfl, hd⟩
            have a1 := atI_of (xs := rows) (f := rowD) (i := 1 + (k : Int) - 1) [] (by omega) (by omega)
            have a2 := atI_of (xs := rows) (f := rowD) (i := 1 + (k : Int)) [] (by omega) (by omega)
            rw [show (1 + (k : Int) - 1).toNat = k by omega] at a1
            rw [show (1 + (k : Int)).toNat = k + 1 by omega] at a2
            have m1 : rows.getD k [] ∈ rows := by rw [getD_of (by omega)]; exact List.getElem_mem _
            have m2 : rows.getD (k + 1) [] ∈ rows := by rw [getD_of (by omega)]; exact List.getElem_mem _
            refine ⟨_, rfl, fun J Kb hJ hK => ?_⟩
            walk_at "rd"
            refine ⟨_, a1, _, a2, ?_⟩
            have o1 := okD_row (hsm _ m1)
            have o2 := okD_row (hsm _ m2)
            have al : alikeD (rowD (rows.getD k [])) (rowD (rows.getD (k + 1) [])) := alike_rows _ _
            have np := row_py (rows.getD k [])
            cases hdl : dlt (rowD (rows.getD k [])) (rowD (rows.getD (k + 1) [])) with
            | true =>
              have efin := hJ _ ⟨rfl, fun j hj => by
                by_cases q : j = k
                · rw [q]; exact hdl
                · exact hd j (by omega)⟩
              refine oGe_rows o1 o2 ?_
              rw [hdl]
              exact efin
            | false =>
              have eno : fullS ws s rows = false := fullS_no fun z => by
                have := rise_iff.mp z.2.2.1 k (by omega)
                rw [hdl] at this
                cases this
              refine oGe_rows o1 o2 ?_
              rw [hdl, eno]
              rfl
          · rintro A ⟨rfl, hd⟩
            have hC : riseR rows = true := rise_iff.mpr fun k hk => hd k (by omega)
            walk_at "nx"
            refine for_over (xs := rows) (f := rowD) (fun pre A => A = ⟨[AV.d (.lst (ps.map fun p => pairD (.inr p.1, .int p.2))), .d (.str s), .d (.lst (rows.map rowD)), .d (.lst (ws.map .str)), .un, .un, .un, .un, .un], []⟩ ∧ ∀ r ∈ pre, ∀ c ∈ s, rowB ws r c ∈ rows) ⟨rfl, by simp⟩ (by intros; trivial) ?_ ?_
            · rintro pre r post A e ⟨rfl, hpre⟩
              have hrr : r ∈ rows := by rw [e]; simp
              refine ⟨_, rfl, fun J Kb hJ hK => ?_⟩
              rw [show rowD r = .lst (r.map .str) from rfl]
              walk_at "rd"
              refine lc_str (fun c => !decide (rowB ws r c ∈ rows)) (fun c => .str [c]) trivial (by omega) (fun c hc => ⟨_, rfl, fun J2 hJ2 => ?_⟩) ?_
              · have hca : c ∈ abc := of_decide_eq_true (List.all_eq_true.mp hs c hc)
                have hB := rowB_S (ws := ws) (row := r) (c := c) hW
                walk_at "rd"
                refine ⟨⟨⟨c, rfl, hca⟩, ⟨ws, rfl, hW⟩, r, rfl, hr2 r hrr⟩, ?_⟩
                rw [show D.lst (List.map D.str (rowB ws r c)) = rowD (rowB ws r c) from rfl]
                refine ⟨okD_row hB.sm, okR, ?_⟩
                rw [any_row]
                exact hJ2
              · walk_at "rd"
                refine ⟨okD_strX1 hs, okD_nil, ?_⟩
                cases hD : (s.filter fun c => !decide (rowB ws r c ∈ rows)).isEmpty with
                | false =>
                  walk_at "rd"
                  rw [fullS_no fun z => by
                    rw [filt_ne.mpr fun c hc => by rw [decide_eq_true (z.2.2.2 r hrr c hc)]; rfl] at hD
                    cases hD]
                | true =>
                  walk_at "rd"
                  refine hJ _ ⟨rfl, fun q hq => ?_⟩
                  rcases List.mem_append.mp hq with hq | hq
                  · exact hpre q hq
                  · rw [List.mem_singleton] at hq
                    rw [hq]
                    intro c hc
                    have := filt_ne.mp hD c hc
                    simpa using this
            · rintro A ⟨rfl, hpre⟩
              walk_at "nx"
              rw [fullS_iff.mpr ⟨hA, hB2, hC, hpre⟩]
    · rw [if_pos (by rw [decide_eq_false hA]; simp)]
      rw [fullS_no fun z => hA z.1]
  · exact h.elim
theorem strs_inj : ∀ {xs ys : List Tx}, xs.map D.str = ys.map D.str → xs = ys
  | [], [], _ => rfl
  | x :: xs, y :: ys, h => by
    rw [List.map_cons, List.map_cons] at h
    obtain ⟨h1, h2⟩ := List.cons.inj h
    rw [D.str.inj h1, strs_inj h2]
  | [], _ :: _, h => by simp at h
  | _ :: _, [], h => by simp at h
theorem rows_pairs_ok {ps : List (Tx × Int)} (h : ∀ p ∈ ps, small p.1 = true) : okD (.lst (ps.map fun p => pairD (.inr p.1, .int p.2))) := okD_map (m := 1) (by decide) fun p hp => by
  have h1 := chkx_str (small_okX (h p hp))
  refine ⟨?_, ?_⟩
  · simp only [pairD, kD, chk, chks, Bool.and_true]
    exact h1.1
  · simp only [pairD, kD, dep, deps]
    omega
theorem uncut_kind (ws : List Tx) (s : Tx) : uncut ws s = .non ∨ ∃ l, uncut ws s = .str l := by
  unfold uncut
  split
  · exact .inr ⟨_, rfl⟩
  · exact .inl rfl
/-- rows in order -/
def ltR : List Tx → List Tx → Bool
  | [], [] => false
  | [], _ :: _ => true
  | _ :: _, [] => false
  | x :: r, y :: t => if x = y then ltR r t else decide (x < y)
theorem lex_rows : ∀ a b : List Tx, PyProof.Rows.lexLt PyProof.Rows.itemOrd (PySem.W.keyToksAll (pys (a.map D.str))) (PySem.W.keyToksAll (pys (b.map D.str))) = ltR a b
  | [], [] => rfl
  | [], _ :: _ => rfl
  | _ :: _, [] => rfl
  | x :: r, y :: t => by
    have ih := lex_rows r t
    show PyProof.Rows.lexLt PyProof.Rows.itemOrd (Sum.inl 1 :: Sum.inr (st x).cps.toList :: PySem.W.keyToksAll (pys (r.map D.str))) (Sum.inl 1 :: Sum.inr (st y).cps.toList :: PySem.W.keyToksAll (pys (t.map D.str))) = _
    rw [lex_pre, st_tl, st_tl]
    unfold ltR
    by_cases e : x = y
    · rw [if_pos e, e, lex_pre, ih]
    · rw [if_neg e, PyProof.Rows.lex_diff (fun q => e (Sum.inr.inj q))]
      rfl
theorem dlt_rows (a b : List Tx) : dlt (rowD a) (rowD b) = ltR a b := by
  unfold dlt rowD
  simp only [py, PySem.W.keyToks]
  exact lex_rows a b
theorem ltR_tot : ∀ {a b : List Tx}, ltR a b = false → ltR b a = false → a = b
  | [], [], _, _ => rfl
  | [], _ :: _, h, _ => by cases h
  | _ :: _, [], _, h => by cases h
  | x :: r, y :: t, h1, h2 => by
    unfold ltR at h1 h2
    by_cases e : x = y
    · rw [if_pos e] at h1
      rw [if_pos e.symm] at h2
      rw [e, ltR_tot h1 h2]
    · rw [if_neg e] at h1
      rw [if_neg (fun q => e q.symm)] at h2
      exact absurd (tx_total (of_decide_eq_false h1) (of_decide_eq_false h2)) e
theorem rowD_inj {a b : List Tx} (h : rowD a = rowD b) : a = b := strs_inj (D.lst.inj h)
/-- rows, each once, sorted rise -/
theorem sorted_rise {rs us : List (List Tx)} (hn : rs.Nodup) (h : srt (rs.map rowD) = us.map rowD) : riseR us = true ∧ ∀ r, r ∈ us ↔ r ∈ rs := by
  have hp : (us.map rowD).Perm (rs.map rowD) := by rw [← h]; exact srt_perm _
  have hm : ∀ r, r ∈ us ↔ r ∈ rs := fun r => by
    have := hp.mem_iff (a := rowD r)
    rw [List.mem_map, List.mem_map] at this
    constructor
    · intro hr
      obtain ⟨x, hx, e⟩ := this.mp ⟨r, hr, rfl⟩
      rw [← rowD_inj e]
      exact hx
    · intro hr
      obtain ⟨x, hx, e⟩ := this.mpr ⟨r, hr, rfl⟩
      rw [← rowD_inj e]
      exact hx
  refine ⟨rise_iff.mpr fun k hk => ?_, hm⟩
  have hnd : (us.map rowD).Nodup := hp.nodup_iff.mpr (by
    rw [List.nodup_iff_pairwise_ne, List.pairwise_map]
    exact (List.nodup_iff_pairwise_ne.mp hn).imp fun h e => h (rowD_inj e))
  have hs : (us.map rowD).Pairwise (fun a b => leD a b = true) := by rw [← h]; exact srt_sorted _
  have l1 : k < (us.map rowD).length := by rw [List.length_map]; omega
  have l2 : k + 1 < (us.map rowD).length := by rw [List.length_map]; omega
  have h1 := List.pairwise_iff_getElem.mp hs k (k + 1) l1 l2 (by omega)
  have h2 := List.pairwise_iff_getElem.mp (List.nodup_iff_pairwise_ne.mp hnd) k (k + 1) l1 l2 (by omega)
  rw [List.getElem_map, List.getElem_map] at h1 h2
  rw [getD_of (by omega), getD_of (by omega), dlt_rows]
  rw [leD_dlt, dlt_rows] at h1
  cases e : ltR us[k] us[k + 1] with
  | true => rfl
  | false =>
    have e2 : ltR us[k + 1] us[k] = false := by simpa using h1
    exact absurd (by rw [ltR_tot e e2]) h2
theorem r_full_paper : Law p_full_paper N_full_paper 2 (conP pre_full_paper f_full_paper) := fun ars h => by
  have h : pre_rows_from ars := h
  unfold pre_rows_from at h
  split at h
  · rename_i ds s _
    obtain ⟨hs, ps, rfl, hW⟩ := h
    have hro := rows_ok (s := s) hW
    have hfew : (rowsOf (ps.map (·.1)) s).length ≤ 131072 := bfs_few s hW.2.2 131072
    have hk := uncut_kind (ps.map (·.1)) s
    obtain ⟨U, hU⟩ : ∃ U, uncut (ps.map (·.1)) s = U := ⟨_, rfl⟩
    rw [hU] at hk
    refine ⟨rfl, ?_⟩
    unfold p_full_paper endsA
    rcases hk with rfl | ⟨l, rfl⟩
    · walk_at "rd"
      refine ⟨⟨hs, ps, rfl, hW⟩, ?_⟩
      rw [hU]
      walk_at "rd"
      walk_at "nx"
      refine ⟨⟨hs, ps, rfl, hW⟩, ?_⟩
      generalize rowsOf (ps.map (·.1)) s = R at hro hfew ⊢
      refine lc_each (xs := R) (f := rowTD) (fun p => rowD p.1) trivial (by omega) (fun p hp => ⟨_, rfl, fun J hJ => ?_⟩) ?_
      · walk_at "go"
      walk_at "rd"
      have em : R.map (fun p => rowD p.1) = (R.map (·.1)).map rowD := by rw [List.map_map]; rfl
      rw [em]
      refine ⟨(sort_rows fun r hr => by
        obtain ⟨p, hp, rfl⟩ := List.mem_map.mp hr
        exact (hro p hp).1).1, ?_⟩
      unfold paperOf
      rw [em]
    · walk_at "rd"
      refine ⟨⟨hs, ps, rfl, hW⟩, ?_⟩
      rw [hU]
      walk_at "rd"
      rfl
  · exact h.elim
/-- the told text and the rows -/
theorem uncut_str {ws : List Tx} {s t : Tx} (hw : ∀ w ∈ ws, 1 ≤ w.length) (hls : s.Pairwise (· < ·)) (hs : (ws.map List.length).sum ≤ 16) (h : uncut ws s = .str t) : (∀ c ∈ t, c ∈ s) ∧ ¬ Cuts ws t ∧ ∀ u : Tx, (∀ c ∈ u, c ∈ s) → slt u t → Cuts ws u := by
  have hg := rows_gd (ws := ws) (ls := s) hls hs
  have hf := bfs_fnd ws s 131072
  unfold uncut at h
  split at h
  · rename_i p hp
    have e : p.2 = t := D.str.inj h
    obtain ⟨h1, pre, post, h2, h3⟩ := List.find?_eq_some_iff_append.mp hp
    have hpm : p ∈ rowsOf ws s := by rw [h2]; simp
    have hn : [] ∉ p.1 := of_decide_eq_true h1
    refine ⟨?_, ?_, fun u hu hut => ?_⟩
    · rw [← e]
      exact (hf.ok p hpm).2.2
    · rw [← e, ← cut_row hw, ← hg.2.1 p hpm]
      exact hn
    · obtain ⟨v, hv, v1, v2⟩ := rows_all hls hs u.length u rfl hu
      have hvp : slt v.2 p.2 := by
        rw [e]
        rcases v2 with v2 | v2
        · rw [v2]; exact hut
        · exact slt_trans v2 hut
      have so := hg.1
      rw [h2] at hv so
      rcases List.mem_append.mp hv with hv | hv
      · have := h3 v hv
        rw [← cut_row hw, ← v1]
        simpa using this
      · rcases List.mem_cons.mp hv with rfl | hv
        · exact absurd hvp (slt_irr _)
        · have := (List.pairwise_cons.mp (List.pairwise_append.mp so).2.1).1 v hv
          exact absurd (slt_trans this hvp) (slt_irr _)
  · cases h
theorem uncut_non {ws : List Tx} {s : Tx} (hw : ∀ w ∈ ws, 1 ≤ w.length) (hls : s.Pairwise (· < ·)) (hs : (ws.map List.length).sum ≤ 16) (h : uncut ws s = .non) : (∀ u : Tx, (∀ c ∈ u, c ∈ s) → Cuts ws u) ∧ ∀ p ∈ rowsOf ws s, [] ∈ p.1 := by
  have hr : ∀ p ∈ rowsOf ws s, [] ∈ p.1 := fun p hp => by
    unfold uncut at h
    split at h
    · cases h
    · rename_i hn
      have := List.find?_eq_none.mp hn p hp
      simpa using this
  refine ⟨fun u hu => ?_, hr⟩
  obtain ⟨v, hv, v1, v2⟩ := rows_all hls hs u.length u rfl hu
  rw [← cut_row hw, ← v1]
  exact hr v hv
/-- the sorted rows show -/
theorem paper_shows {ws : List Tx} {s : Tx} {us : List (List Tx)} (hls : s.Pairwise (· < ·)) (hs : (ws.map List.length).sum ≤ 16) (hr : ∀ p ∈ rowsOf ws s, [] ∈ p.1) (h : srt ((rowsOf ws s).map fun p => rowD p.1) = us.map rowD) : fullS ws s us = true ∧ ∀ r ∈ us, ∃ p ∈ rowsOf ws s, p.1 = r := by
  have hg := rows_gd (ws := ws) (ls := s) hls hs
  have hf := bfs_fnd ws s 131072
  have em : (rowsOf ws s).map (fun p => rowD p.1) = ((rowsOf ws s).map (·.1)).map rowD := by rw [List.map_map]; rfl
  rw [em] at h
  obtain ⟨h1, h2⟩ := sorted_rise hf.nd h
  have hin : ∀ r ∈ us, ∃ p ∈ rowsOf ws s, p.1 = r := fun r hr => by
    obtain ⟨p, hp, e⟩ := List.mem_map.mp ((h2 r).mp hr)
    exact ⟨p, hp, e⟩
  refine ⟨fullS_iff.mpr ⟨?_, fun r hr2 => ?_, h1, fun r hr2 c hc => ?_⟩, hin⟩
  · obtain ⟨v, hv, v1, _⟩ := rows_all hls hs 0 [] rfl (by simp)
    exact (h2 _).mpr (List.mem_map.mpr ⟨v, hv, v1⟩)
  · obtain ⟨p, hp, rfl⟩ := hin r hr2
    refine ⟨hr p hp, ?_⟩
    obtain ⟨o1, o2⟩ := (hf.ok p hp).1
    unfold isRow
    rw [Bool.and_eq_true, List.all_eq_true]
    refine ⟨decide_eq_true (setT_eq o1 fun a => Iff.rfl), fun t ht => ?_⟩
    rcases o2 t ht with e | e
    · rw [decide_eq_true e]; rfl
    · rw [e, Bool.or_true]
  · obtain ⟨p, hp, rfl⟩ := hin r hr2
    obtain ⟨v, hv, v1, _⟩ := hg.2.2 p hp c hc
    exact (h2 _).mpr (List.mem_map.mpr ⟨v, hv, v1⟩)
end PD

/-! QVA: a book of sixteen signs leads to at most 4096 rows; a walk over all that texts lead to. -/
namespace PD
open PySem PySem.Spec PyProof.Rows L2
/-- what a row of a text holds -/
def InRow (ws : List Tx) (t q : Tx) : Prop := (q = [] ∨ begun ws q = true) ∧ ∃ us : List Tx, (∀ u ∈ us, u ∈ ws) ∧ us.flatten ++ q = t
theorem rep_suf {c : Nat} {v u : Tx} {n : Nat} (h : v <:+ u ++ List.replicate n c) (hl : v.length ≤ n) : v = List.replicate v.length c := by
  have h2 : v <:+ List.replicate n c := List.suffix_of_suffix_length_le h (List.suffix_append _ _) (by rw [List.length_replicate]; exact hl)
  obtain ⟨z, e⟩ := h2
  exact (List.eq_replicate_iff.mpr ⟨rfl, fun b hb => (List.eq_replicate_iff.mp e).2 b (List.mem_append_right _ hb)⟩)
theorem last_word {ws : List Tx} {t : Tx} (h : Cuts ws t) (hn : t ≠ []) : ∃ w ∈ ws, ∃ s, Cuts ws s ∧ s ++ w = t := by
  obtain ⟨us, h1, h2⟩ := h
  rcases List.eq_nil_or_concat us with e | ⟨vs, w, e⟩
  · rw [e] at h2
    exact absurd h2.symm hn
  · have e : us = vs ++ [w] := by rw [e]; simp
    subst e
    refine ⟨w, h1 w (by simp), vs.flatten, ⟨vs, fun v hv => h1 v (by simp [hv]), rfl⟩, ?_⟩
    rw [← h2, List.flatten_append, List.flatten_singleton]
/-- a long word that is one letter twelve times or nothing, no short one of this letter alone -/
structure Lone (ws : List Tx) (c : Nat) : Prop where
  long : ∀ w ∈ ws, w.length ≤ 4 ∨ ∃ x, w = List.replicate 11 c ++ [x]
  no : ∀ w ∈ ws, w.length ≤ 4 → w ≠ List.replicate w.length c
theorem rep_app (c : Nat) (a b : Nat) : List.replicate (a + b) c = List.replicate a c ++ List.replicate b c := by rw [List.replicate_append_replicate]
theorem Lone.last {ws : List Tx} {c : Nat} (h : Lone ws c) {u : Tx} {n : Nat} (hn : 4 ≤ n) (hc : Cuts ws (u ++ List.replicate n c)) : ∃ s, Cuts ws s ∧ s ++ List.replicate 12 c = u ++ List.replicate n c := by
  have hne : u ++ List.replicate n c ≠ [] := fun e => by
    have := congrArg List.length e
    rw [List.length_append, List.length_replicate] at this
    simp at this
    omega
  obtain ⟨w, hw, s, hs, e⟩ := last_word hc hne
  rcases h.long w hw with hl | ⟨x, rfl⟩
  · exact absurd (rep_suf ⟨s, e⟩ (by omega)) (h.no w hw hl)
  · refine ⟨s, hs, ?_⟩
    have hx : x = c := by
      have h1 : u ++ List.replicate n c = (u ++ List.replicate (n - 1) c) ++ [c] := by
        rw [List.append_assoc, show n = (n - 1) + 1 by omega, List.replicate_succ']
        rfl
      rw [h1, ← List.append_assoc] at e
      have := (List.append_inj' e rfl).2
      simpa using this
    subst hx
    rw [← e, show (12 : Nat) = 11 + 1 by rfl, List.replicate_succ']
theorem Lone.step {ws : List Tx} {c : Nat} (h : Lone ws c) {u : Tx} (hc : Cuts ws (u ++ List.replicate 11 c)) : ∃ s, Cuts ws s ∧ u = s ++ [c] := by
  obtain ⟨s, hs, e⟩ := h.last (by omega) hc
  refine ⟨s, hs, ?_⟩
  have : s ++ List.replicate 12 c = (s ++ [c]) ++ List.replicate 11 c := by rw [List.append_assoc]; rfl
  rw [this] at e
  exact (List.append_inj' e rfl).1.symm
theorem Lone.five {ws : List Tx} {c : Nat} (h : Lone ws c) : ∀ (n : Nat) (z : Tx), z.length ≤ n → (∀ k, k ≤ 4 → Cuts ws (z ++ List.replicate k c)) → False := fun n => by
  induction n using Nat.strongRecOn with
  | _ n ih =>
    intro z hz hk
    obtain ⟨y, hy, e⟩ := h.last (Nat.le_refl 4) (hk 4 (Nat.le_refl 4))
    have ez : z = y ++ List.replicate 8 c := by
      have : y ++ List.replicate 12 c = (y ++ List.replicate 8 c) ++ List.replicate 4 c := by rw [List.append_assoc, ← rep_app]
      rw [this] at e
      exact (List.append_inj' e rfl).1.symm
    subst ez
    have k3 := hk 3 (by omega)
    rw [List.append_assoc, ← rep_app] at k3
    obtain ⟨y1, c1, rfl⟩ := h.step k3
    have k2 := hk 2 (by omega)
    rw [List.append_assoc, ← rep_app, List.append_assoc] at k2
    obtain ⟨y2, c2, rfl⟩ := h.step (u := y1) k2
    have k1 := hk 1 (by omega)
    rw [List.append_assoc, ← rep_app, List.append_assoc, List.append_assoc] at k1
    obtain ⟨y3, c3, rfl⟩ := h.step (u := y2) k1
    have k0 := hk 0 (by omega)
    rw [List.append_assoc, ← rep_app, List.append_assoc, List.append_assoc, List.append_assoc] at k0
    obtain ⟨y4, c4, rfl⟩ := h.step (u := y3) k0
    refine ih y4.length ?_ y4 (Nat.le_refl _) fun k hk4 => ?_
    · simp only [List.length_append, List.length_replicate, List.length_singleton] at hz
      omega
    · rcases (by omega : k = 0 ∨ k = 1 ∨ k = 2 ∨ k = 3 ∨ k = 4) with rfl | rfl | rfl | rfl | rfl
      · rw [List.replicate_zero, List.append_nil]; exact c4
      · exact c3
      · have : y4 ++ List.replicate 2 c = y4 ++ [c] ++ [c] := by rw [List.append_assoc]; rfl
        rw [this]; exact c2
      · have : y4 ++ List.replicate 3 c = y4 ++ [c] ++ [c] ++ [c] := by simp [List.replicate]
        rw [this]; exact c1
      · have : y4 ++ List.replicate 4 c = y4 ++ [c] ++ [c] ++ [c] ++ [c] := by simp [List.replicate]
        rw [this]; exact hy

theorem tail_rep {c : Nat} : ∀ {m : Tx}, m <+: c :: m → m = List.replicate m.length c
  | [], _ => rfl
  | d :: m, h => by
    obtain ⟨z, e⟩ := h
    rw [List.cons_append] at e
    injection e with e1 e2
    subst e1
    have := tail_rep (m := m) ⟨z, e2⟩
    rw [List.length_cons, List.replicate_succ, ← this]
theorem sum_mem {ws : List Tx} {w : Tx} (h : w ∈ ws) : w.length ≤ (ws.map List.length).sum := by
  induction ws with
  | nil => simp at h
  | cons a r ih =>
    rw [List.map_cons, List.sum_cons]
    rcases List.mem_cons.mp h with rfl | h
    · omega
    · have := ih h; omega
theorem sumV_two {ws : List Tx} {w v : Tx} (h : w ∈ ws) (hv : v ∈ ws) (hn : v ≠ w) : w.length + v.length ≤ (ws.map List.length).sum := by
  induction ws with
  | nil => simp at h
  | cons a r ih =>
    rw [List.map_cons, List.sum_cons]
    rcases List.mem_cons.mp h with rfl | h
    · rcases List.mem_cons.mp hv with rfl | hv
      · exact absurd rfl hn
      · have := sum_mem hv; omega
    · rcases List.mem_cons.mp hv with e | hv
      · have := sum_mem h; rw [e]; omega
      · have := ih h hv; omega
/-- words: of one to twelve letters, sixteen in all -/
structure Few (ws : List Tx) : Prop where
  one : ∀ w ∈ ws, 1 ≤ w.length ∧ w.length ≤ 12
  all : (ws.map List.length).sum ≤ 16
theorem begun_rep {ws : List Tx} {c x : Nat} (h : List.replicate 11 c ++ [x] ∈ ws) {j : Nat} (hj : j ≤ 11) : begun ws (List.replicate j c) = true := by
  refine begun_iff.mpr ⟨_, h, fun e => ?_, ?_⟩
  · have := congrArg List.length e
    simp at this
    omega
  · refine ⟨List.replicate (11 - j) c ++ [x], ?_⟩
    rw [← List.append_assoc, ← rep_app, show j + (11 - j) = 11 by omega]
theorem top_no {ws : List Tx} (hW : Few ws) {t l : Tx} (hl : l.length = 11) (hb : begun ws l = true) {i : Nat} (i4 : 4 ≤ i) (i7 : i ≤ 7)
    (hs : ∀ j, i ≤ j → j ≤ 11 → InRow ws t (l.drop (11 - j))) (hu : ∀ j, i ≤ j + 4 → j < i → ¬ InRow ws t (l.drop (11 - j))) : False := by
  obtain ⟨W, hWm, hne, z, ez⟩ := begun_iff.mp hb
  have hWl := hW.one W hWm
  have hzl : z.length = 1 := by
    have h1 := congrArg List.length ez
    rw [List.length_append] at h1
    have h2 : z ≠ [] := fun e => hne (by rw [← ez, e, List.append_nil])
    have := List.length_pos_iff.mpr h2
    omega
  obtain ⟨x, rfl⟩ : ∃ x, z = [x] := by
    match z, hzl with
    | [x], _ => exact ⟨x, rfl⟩
  have hW12 : W.length = 12 := by rw [← ez, List.length_append, hl]; rfl
  have hsh : ∀ v ∈ ws, v ≠ W → v.length ≤ 4 := fun v hv hn => by
    have := sumV_two hWm hv hn
    have := hW.all
    omega
  obtain ⟨c, m, rfl⟩ : ∃ c m, l = c :: m := by
    match l, hl with
    | c :: m, _ => exact ⟨c, m, rfl⟩
  have hm : m.length = 10 := by simpa using hl
  have h10 := hs 10 (by omega) (by omega)
  have e10 : (c :: m).drop (11 - 10) = m := rfl
  rw [e10] at h10
  have hmr : m = List.replicate 10 c := by
    rcases h10.1 with e | hb2
    · rw [e] at hm; cases hm
    · obtain ⟨v, hv, hvn, hp⟩ := begun_iff.mp hb2
      have hvl := hp.length_le
      have hvW : v = W := by
        by_cases q : v = W
        · exact q
        · have := hsh v hv q; omega
      subst hvW
      have hp2 : m <+: c :: m := List.prefix_of_prefix_length_le hp ⟨[x], ez⟩ (by simp)
      have := tail_rep hp2
      rw [hm] at this
      exact this
  have hlr : c :: m = List.replicate 11 c := by rw [hmr]; rfl
  rw [hlr] at hs hu ez
  have hdr : ∀ j, j ≤ 11 → (List.replicate 11 c).drop (11 - j) = List.replicate j c := fun j hj => by rw [List.drop_replicate, show 11 - (11 - j) = j by omega]
  subst ez
  by_cases hk : ∃ v ∈ ws, v.length ≤ 4 ∧ v = List.replicate v.length c
  · obtain ⟨v, hv, hv4, hvr⟩ := hk
    have hv1 := (hW.one v hv).1
    refine hu (i - v.length) (by omega) (by omega) ?_
    obtain ⟨_, us, h1, h2⟩ := hs i (by omega) (by omega)
    rw [hdr i (by omega)] at h2
    rw [hdr (i - v.length) (by omega)]
    refine ⟨.inr (begun_rep hWm (by omega)), us ++ [v], fun y hy => ?_, ?_⟩
    · rcases List.mem_append.mp hy with hy | hy
      · exact h1 y hy
      · rw [List.mem_singleton] at hy; rw [hy]; exact hv
    · rw [← h2, List.flatten_append, List.flatten_singleton, List.append_assoc]
      congr 1
      conv => lhs; rw [hvr]
      rw [List.length_replicate, ← rep_app]
      congr 1
      omega
  · have hL : Lone ws c := ⟨fun w hw => by
      by_cases q : w = List.replicate 11 c ++ [x]
      · exact .inr ⟨x, q⟩
      · exact .inl (hsh w hw q), fun w hw h4 e => hk ⟨w, hw, h4, e⟩⟩
    obtain ⟨_, us, h1, h2⟩ := hs 11 (by omega) (Nat.le_refl _)
    rw [hdr 11 (Nat.le_refl _)] at h2
    refine hL.five us.flatten.length us.flatten (Nat.le_refl _) fun k hk4 => ?_
    obtain ⟨_, vs, h3, h4⟩ := hs (11 - k) (by omega) (by omega)
    rw [hdr (11 - k) (by omega), ← h2] at h4
    refine ⟨vs, h3, ?_⟩
    have : List.replicate 11 c = List.replicate k c ++ List.replicate (11 - k) c := by rw [← rep_app]; congr 1; omega
    rw [this, ← List.append_assoc] at h4
    exact (List.append_inj' h4 rfl).1
/-! codes of rows -/
def bvs : Nat → List (List Bool)
  | 0 => [[]]
  | n + 1 => (bvs n).map (false :: ·) ++ (bvs n).map (true :: ·)
theorem bvs_mem : ∀ b : List Bool, b ∈ bvs b.length
  | [] => by simp [bvs]
  | x :: b => by
    have := bvs_mem b
    unfold bvs
    cases x
    · exact List.mem_append_left _ (List.mem_map.mpr ⟨b, this, rfl⟩)
    · exact List.mem_append_right _ (List.mem_map.mpr ⟨b, this, rfl⟩)
theorem bvs_len : ∀ n, (bvs n).length = 2 ^ n
  | 0 => rfl
  | n + 1 => by
    unfold bvs
    rw [List.length_append, List.length_map, List.length_map, bvs_len n, Nat.pow_succ]
    omega
/-- the upper ones from i on are set, the four ahead are not -/
def runB (b : List Bool) (i : Nat) : Bool := (List.range 11).all fun j => if i ≤ j then b.getD j false else if i ≤ j + 4 then !b.getD j false else true
def badB (b : List Bool) : Bool := runB b 4 || runB b 5 || runB b 6 || runB b 7
def goodV (n : Nat) : List (List Bool) := if n = 11 then (bvs 11).filter fun b => !badB b else bvs n
def cntV (n : Nat) : Nat := if n = 11 then 2033 else 2 ^ n
theorem goodV12 : ((bvs 11).filter fun b => !badB b).length = 2033 := by decide +kernel
theorem goodV_len (n : Nat) : (goodV n).length = cntV n := by
  unfold goodV cntV
  split
  · exact goodV12
  · exact bvs_len n
def pres (ws : List Tx) : List Tx := [] :: ws.flatMap fun w => (List.range (w.length - 1)).map fun k => w.take (k + 1)
theorem pres_mem {ws : List Tx} {q : Tx} (h : q = [] ∨ begun ws q = true) : q ∈ pres ws := by
  by_cases e : q = []
  · rw [e]; exact List.mem_cons_self
  · have h : begun ws q = true := h.resolve_left e
    obtain ⟨w, hw, hne, z, ez⟩ := begun_iff.mp h
    have hz : z ≠ [] := fun q2 => hne (by rw [← ez, q2, List.append_nil])
    have h1 := List.length_pos_iff.mpr hz
    have h2 := List.length_pos_iff.mpr e
    have h3 := congrArg List.length ez
    rw [List.length_append] at h3
    refine List.mem_cons_of_mem _ (List.mem_flatMap.mpr ⟨w, hw, List.mem_map.mpr ⟨q.length - 1, List.mem_range.mpr (by omega), ?_⟩⟩)
    rw [show q.length - 1 + 1 = q.length by omega, ← ez, List.take_left]
def GG (m : Nat) : Nat := ((List.range (m - 1)).map fun k => cntV (k + 1)).sum
theorem GG4 : ∀ m, m ≤ 4 → 2 * GG m ≤ 7 * m := by decide
theorem GG11 : ∀ m, m ≤ 11 → GG m ≤ 186 * m := by decide
theorem GG12 : GG 12 = 4079 := by decide
theorem sumV_le {f g : Tx → Nat} : ∀ {ws : List Tx}, (∀ w ∈ ws, f w ≤ g w) → (ws.map f).sum ≤ (ws.map g).sum
  | [], _ => Nat.le_refl _
  | a :: r, h => by
    rw [List.map_cons, List.map_cons, List.sum_cons, List.sum_cons]
    have := h a (by simp)
    have := sumV_le (f := f) (g := g) (ws := r) fun w hw => h w (by simp [hw])
    omega
theorem sum_mul (k : Nat) : ∀ ws : List Tx, (ws.map fun w => k * w.length).sum = k * (ws.map List.length).sum
  | [] => rfl
  | a :: r => by
    rw [List.map_cons, List.map_cons, List.sum_cons, List.sum_cons, sum_mul k r, Nat.mul_add]
theorem GG_sum {ws : List Tx} (h : Few ws) : (ws.map fun w => GG w.length).sum ≤ 4093 := by
  by_cases q : ∃ w ∈ ws, w.length = 12
  · obtain ⟨w, hw, hl⟩ := q
    obtain ⟨a, b, rfl⟩ := List.append_of_mem hw
    have hs := h.all
    rw [List.map_append, List.map_cons, List.sum_append, List.sum_cons] at hs ⊢
    rw [hl] at hs ⊢
    rw [GG12]
    have h4 : ∀ v, v ∈ a ∨ v ∈ b → v.length ≤ 4 := fun v hv => by
      rcases hv with hv | hv <;> (have := sum_mem hv; omega)
    have ga : (a.map fun w => 2 * GG w.length).sum ≤ (a.map fun w => 7 * w.length).sum := sumV_le fun v hv => GG4 _ (h4 v (.inl hv))
    have gb : (b.map fun w => 2 * GG w.length).sum ≤ (b.map fun w => 7 * w.length).sum := sumV_le fun v hv => GG4 _ (h4 v (.inr hv))
    have m2 : ∀ xs : List Tx, (xs.map fun w => 2 * GG w.length).sum = 2 * (xs.map fun w => GG w.length).sum := fun xs => by
      induction xs with
      | nil => rfl
      | cons x r ih => rw [List.map_cons, List.map_cons, List.sum_cons, List.sum_cons, ih, Nat.mul_add]
    rw [m2, sum_mul] at ga gb
    omega
  · have : (ws.map fun w => GG w.length).sum ≤ (ws.map fun w => 186 * w.length).sum := sumV_le fun w hw => GG11 _ (by
      have := (h.one w hw).2
      have : w.length ≠ 12 := fun e => q ⟨w, hw, e⟩
      omega)
    rw [sum_mul] at this
    have := h.all
    omega
def univ (ws : List Tx) : List ((Tx × List Bool) × Bool) := (([], []), true) :: (pres ws).flatMap fun l => (goodV l.length).map fun b => ((l, b), false)
theorem univ_len {ws : List Tx} (h : Few ws) : (univ ws).length ≤ 4096 := by
  have e1 : ∀ xs : List Tx, (xs.flatMap fun l => (goodV l.length).map fun b => ((l, b), false)).length = (xs.map fun l => cntV l.length).sum := fun xs => by
    induction xs with
    | nil => rfl
    | cons x r ih => rw [List.flatMap_cons, List.length_append, List.length_map, goodV_len, ih, List.map_cons, List.sum_cons]
  have e2 : ∀ xs : List Tx, (∀ w ∈ xs, 1 ≤ w.length) → ((xs.flatMap fun w => (List.range (w.length - 1)).map fun k => w.take (k + 1)).map fun l => cntV l.length).sum = (xs.map fun w => GG w.length).sum := fun xs hx => by
    induction xs with
    | nil => rfl
    | cons x r ih =>
      rw [List.flatMap_cons, List.map_append, List.sum_append, ih (fun w hw => hx w (by simp [hw])), List.map_cons, List.sum_cons]
      congr 1
      rw [List.map_map]
      unfold GG
      congr 1
      refine List.map_congr_left fun k hk => ?_
      have hk := List.mem_range.mp hk
      show cntV (x.take (k + 1)).length = _
      rw [List.length_take, Nat.min_eq_left (by omega)]
  have := GG_sum h
  unfold univ
  rw [List.length_cons, e1]
  unfold pres
  rw [List.map_cons, List.sum_cons, e2 ws fun w hw => (h.one w hw).1]
  have : cntV ([] : Tx).length = 1 := rfl
  omega
def longest (r : List Tx) : Tx := r.foldl (fun a b => if a.length < b.length then b else a) []
theorem longest_go : ∀ (r : List Tx) (a : Tx), (r.foldl (fun a b => if a.length < b.length then b else a) a ∈ a :: r) ∧ ∀ q ∈ a :: r, q.length ≤ (r.foldl (fun a b => if a.length < b.length then b else a) a).length
  | [], a => ⟨by simp, fun q hq => by simp at hq; rw [hq]; exact Nat.le_refl _⟩
  | b :: r, a => by
    rw [List.foldl_cons]
    obtain ⟨h1, h2⟩ := longest_go r (if a.length < b.length then b else a)
    refine ⟨?_, fun q hq => ?_⟩
    · rcases List.mem_cons.mp h1 with h1 | h1
      · rw [h1]
        split <;> simp
      · simp [h1]
    · have h3 := h2 _ List.mem_cons_self
      have h4 : a.length ≤ (if a.length < b.length then b else a).length ∧ b.length ≤ (if a.length < b.length then b else a).length := by split <;> omega
      rcases List.mem_cons.mp hq with rfl | hq
      · exact Nat.le_trans h4.1 h3
      · rcases List.mem_cons.mp hq with rfl | hq
        · exact Nat.le_trans h4.2 h3
        · exact h2 q (List.mem_cons_of_mem _ hq)
theorem longest_in {r : List Tx} (h : r ≠ []) : longest r ∈ r ∧ ∀ q ∈ r, q.length ≤ (longest r).length := by
  obtain ⟨h1, h2⟩ := longest_go r []
  refine ⟨?_, fun q hq => h2 q (List.mem_cons_of_mem _ hq)⟩
  rcases List.mem_cons.mp h1 with e | h1
  · obtain ⟨q, hq⟩ := List.exists_mem_of_ne_nil r h
    have h3 := h2 q (List.mem_cons_of_mem _ hq)
    rw [e] at h3
    have : q = [] := List.eq_nil_of_length_eq_zero (by simpa using h3)
    rw [this] at hq
    show (r.foldl (fun a b => if a.length < b.length then b else a) []) ∈ r
    rw [e]; exact hq
  · exact h1
def bitsOf (r : List Tx) : List Bool := (List.range (longest r).length).map fun j => decide ((longest r).drop ((longest r).length - j) ∈ r)
def codeR (r : List Tx) : (Tx × List Bool) × Bool := if r = [] then (([], []), true) else ((longest r, bitsOf r), false)
theorem suf_drop {q l : Tx} (h : q <:+ l) : q = l.drop (l.length - q.length) := by
  obtain ⟨z, rfl⟩ := h
  rw [List.length_append, show z.length + q.length - q.length = z.length by omega, List.drop_left]
/-- a row that some text leads to -/
def RowLike (ws : List Tx) (r : List Tx) : Prop := ∃ t, ∀ q, q ∈ r ↔ InRow ws t q
theorem RowLike.suf {ws r : List Tx} (h : RowLike ws r) {q l : Tx} (hq : q ∈ r) (hl : l ∈ r) (hle : q.length ≤ l.length) : q <:+ l := by
  obtain ⟨t, ht⟩ := h
  obtain ⟨_, us, _, e1⟩ := (ht q).mp hq
  obtain ⟨_, vs, _, e2⟩ := (ht l).mp hl
  exact List.suffix_of_suffix_length_le ⟨us.flatten, e1⟩ ⟨vs.flatten, e2⟩ hle
theorem code_same {ws a b : List Tx} (ha : RowLike ws a) (e : codeR a = codeR b) : ∀ q ∈ a, q ∈ b := fun q hq => by
  unfold codeR at e
  have hane : a ≠ [] := fun z => by rw [z] at hq; cases hq
  rw [if_neg hane] at e
  split at e
  · injection e with e1 e2; cases e2
  · rename_i hb
    injection e with e1 _
    injection e1 with e1 e2
    obtain ⟨h1, h2⟩ := longest_in hane
    obtain ⟨h3, h4⟩ := longest_in hb
    have hs := ha.suf hq h1 (h2 q hq)
    by_cases hl : q.length = (longest a).length
    · have : q = longest a := hs.eq_of_length hl
      rw [this, e1]
      exact h3
    · have hlt : q.length < (longest a).length := by have := h2 q hq; omega
      have hd := suf_drop hs
      unfold bitsOf at e2
      rw [e1] at e2
      have hlt2 : q.length < (longest b).length := by rw [← e1]; exact hlt
      have e3 := congrArg (fun l : List Bool => l[q.length]?) e2
      simp only [List.getElem?_map, List.getElem?_range hlt2, Option.map_some] at e3
      injection e3 with e3
      rw [e1] at hd
      rw [← hd] at e3
      simpa [hq] using e3
theorem code_in {ws r : List Tx} (hW : Few ws) (h : RowLike ws r) : codeR r ∈ univ ws := by
  unfold codeR univ
  split
  · exact List.mem_cons_self
  · rename_i hne
    obtain ⟨h1, h2⟩ := longest_in hne
    obtain ⟨t, ht⟩ := h
    have hl := (ht _).mp h1
    refine List.mem_cons_of_mem _ (List.mem_flatMap.mpr ⟨longest r, pres_mem hl.1, List.mem_map.mpr ⟨bitsOf r, ?_, rfl⟩⟩)
    have hbl : (bitsOf r).length = (longest r).length := by unfold bitsOf; simp
    unfold goodV
    split
    · rename_i h11
      refine List.mem_filter.mpr ⟨by rw [← h11, ← hbl]; exact bvs_mem _, ?_⟩
      rw [Bool.not_eq_true']
      have hbit : ∀ j, j < 11 → (bitsOf r).getD j false = decide ((longest r).drop (11 - j) ∈ r) := fun j hj => by
        unfold bitsOf
        rw [List.getD_eq_getElem?_getD, List.getElem?_map, h11, List.getElem?_range hj]
        rfl
      have key : ∀ i, 4 ≤ i → i ≤ 7 → runB (bitsOf r) i = false := fun i i4 i7 => by
        rw [Bool.eq_false_iff]
        intro hr
        have hr := List.all_eq_true.mp hr
        have hlb : begun ws (longest r) = true := hl.1.resolve_left fun e => by rw [e] at h11; cases h11
        refine top_no hW h11 hlb i4 i7 (t := t) (fun j hj hj2 => ?_) (fun j hj hj2 => ?_)
        · by_cases e : j = 11
          · subst e
            rw [Nat.sub_self, List.drop_zero]
            exact hl
          · have := hr j (List.mem_range.mpr (by omega))
            rw [if_pos hj, hbit j (by omega), decide_eq_true_eq] at this
            exact (ht _).mp this
        · have := hr j (List.mem_range.mpr (by omega))
          rw [if_neg (by omega), if_pos hj, hbit j (by omega), Bool.not_eq_true', decide_eq_false_iff_not] at this
          exact fun z => this ((ht _).mpr z)
      unfold badB
      rw [key 4 (by omega) (by omega), key 5 (by omega) (by omega), key 6 (by omega) (by omega), key 7 (by omega) (by omega)]
      rfl
    · rw [← hbl]; exact bvs_mem _
theorem rows_4096 {ws : List Tx} (hW : Few ws) {rs : List (List Tx)} (hn : rs.Nodup) (hr : ∀ r ∈ rs, RowLike ws r) (hx : ∀ a ∈ rs, ∀ b ∈ rs, (∀ q, q ∈ a ↔ q ∈ b) → a = b) : rs.length ≤ 4096 := by
  have h1 : (rs.map codeR).Nodup := by
    rw [List.nodup_iff_pairwise_ne, List.pairwise_map]
    refine (List.nodup_iff_pairwise_ne.mp hn).imp_of_mem fun {a b} ha hb h e => h ?_
    exact hx a ha b hb fun q => ⟨code_same (hr a ha) e q, code_same (hr b hb) e.symm q⟩
  have h2 := nodup_lenU h1 (js := univ ws) fun k hk => by
    obtain ⟨r, h, rfl⟩ := List.mem_map.mp hk
    exact code_in hW (hr r h)
  rw [List.length_map] at h2
  exact Nat.le_trans h2 (univ_len hW)
/-! a walk over all that texts lead to -/
section
variable {α : Type} [DecidableEq α] (st : α → Nat → α) (a0 : α)
def run (t : Tx) : α := t.foldl st a0
theorem run_snoc (t : Tx) (c : Nat) : run st a0 (t ++ [c]) = st (run st a0 t) c := by unfold run; rw [List.foldl_append]; rfl
def wIns (r : α) (t : Tx) (F : List (α × Tx)) (c : Nat) : List (α × Tx) := if st r c ∈ F.map (·.1) then F else F ++ [(st r c, t ++ [c])]
def wStep (ls : Tx) (F : List (α × Tx)) (k : Nat) : List (α × Tx) := match F[k]? with
  | some (r, t) => ls.foldl (wIns st r t) F
  | none => F
def wlk (ls : Tx) : Nat → List (α × Tx)
  | 0 => [(a0, [])]
  | k + 1 => wStep st ls (wlk ls k) k
theorem w_pre {r : α} {t : Tx} : ∀ (cs : Tx) (F : List (α × Tx)), ∃ G, cs.foldl (wIns st r t) F = F ++ G
  | [], F => ⟨[], (List.append_nil F).symm⟩
  | c :: cs, F => by
    rw [List.foldl_cons]
    obtain ⟨G, e⟩ := w_pre (r := r) (t := t) cs (wIns st r t F c)
    rw [e]
    unfold wIns
    split
    · exact ⟨G, rfl⟩
    · exact ⟨_, List.append_assoc _ _ _⟩
/-- what has been found: each state once, with a text no longer than its place -/
structure Wnd (ls : Tx) (k : Nat) (F : List (α × Tx)) : Prop where
  ne : 1 ≤ F.length
  nd : (F.map (·.1)).Nodup
  ok : ∀ p ∈ F, p.1 = run st a0 p.2 ∧ p.2.length ≤ k ∧ ∀ c ∈ p.2, c ∈ ls
variable {st} {a0}
theorem Wnd.mono {ls : Tx} {k m : Nat} {F : List (α × Tx)} (h : Wnd st a0 ls k F) (hk : k ≤ m) : Wnd st a0 ls m F := ⟨h.ne, h.nd, fun p hp => ⟨(h.ok p hp).1, by have := (h.ok p hp).2.1; omega, (h.ok p hp).2.2⟩⟩
theorem Wnd.ins {ls : Tx} {k : Nat} {F : List (α × Tx)} (h : Wnd st a0 ls (k + 1) F) {r : α} {t : Tx} (hr : r = run st a0 t) (ht : t.length ≤ k) (hl : ∀ c ∈ t, c ∈ ls) {c : Nat} (hc : c ∈ ls) : Wnd st a0 ls (k + 1) (wIns st r t F c) := by
  unfold wIns
  split
  · exact h
  · rename_i hn
    refine ⟨by rw [List.length_append]; have := h.ne; omega, ?_, fun p hp => ?_⟩
    · rw [List.map_append]
      refine List.nodup_append.mpr ⟨h.nd, List.nodup_cons.mpr ⟨by simp, List.nodup_nil⟩, fun a ha b hb e => ?_⟩
      rw [List.map_cons, List.map_nil, List.mem_singleton] at hb
      rw [e, hb] at ha
      exact hn ha
    · rcases List.mem_append.mp hp with hp | hp
      · exact h.ok p hp
      · rw [List.mem_singleton] at hp
        subst hp
        refine ⟨by rw [run_snoc, ← hr], by show (t ++ [c]).length ≤ _; rw [List.length_append, List.length_singleton]; omega, fun x hx => ?_⟩
        rcases List.mem_append.mp hx with hx | hx
        · exact hl x hx
        · rw [List.mem_singleton] at hx
          rw [hx]
          exact hc
theorem Wnd.fold {ls : Tx} {k : Nat} {r : α} {t : Tx} (hr : r = run st a0 t) (ht : t.length ≤ k) (hl : ∀ c ∈ t, c ∈ ls) : ∀ (cs : Tx) (F : List (α × Tx)), (∀ c ∈ cs, c ∈ ls) → Wnd st a0 ls (k + 1) F → Wnd st a0 ls (k + 1) (cs.foldl (wIns st r t) F)
  | [], F, _, h => h
  | c :: cs, F, hc, h => Wnd.fold hr ht hl cs _ (fun x hx => hc x (by simp [hx])) (h.ins hr ht hl (hc c (by simp)))
theorem w_nd (ls : Tx) : ∀ k, Wnd st a0 ls k (wlk st a0 ls k)
  | 0 => ⟨Nat.le_refl _, List.nodup_cons.mpr ⟨by simp, List.nodup_nil⟩, fun p hp => by
    have hp : p = (a0, []) := by simpa [wlk] using hp
    subst hp
    exact ⟨rfl, Nat.le_refl _, fun c hc => by simp at hc⟩⟩
  | k + 1 => by
    have h := w_nd ls k
    show Wnd st a0 ls (k + 1) (wStep st ls (wlk st a0 ls k) k)
    unfold wStep
    split
    · rename_i r t e
      obtain ⟨h1, h2, h3⟩ := h.ok (r, t) (List.mem_of_getElem? e)
      exact Wnd.fold h1 h2 h3 ls _ (fun c hc => hc) (h.mono (by omega))
    · exact h.mono (by omega)
theorem w_grow (ls : Tx) (k : Nat) : ∃ G, wlk st a0 ls (k + 1) = wlk st a0 ls k ++ G := by
  show ∃ G, wStep st ls (wlk st a0 ls k) k = _
  unfold wStep
  split
  · exact w_pre _ _ _
  · exact ⟨[], (List.append_nil _).symm⟩
theorem w_stop {ls : Tx} {k : Nat} (h : (wlk st a0 ls k).length ≤ k) : ∀ m, wlk st a0 ls (k + m) = wlk st a0 ls k
  | 0 => rfl
  | m + 1 => by
    have ih := w_stop h m
    show wStep st ls (wlk st a0 ls (k + m)) (k + m) = _
    rw [ih]
    unfold wStep
    rw [List.getElem?_eq_none (by omega)]
theorem w_fold_spec {r : α} {t : Tx} : ∀ (cs : Tx) (F : List (α × Tx)), F.Pairwise (fun p q => slt p.2 q.2) → (∀ q ∈ F, ∀ c ∈ cs, slt q.2 (t ++ [c])) → cs.Pairwise (· < ·) →
    (cs.foldl (wIns st r t) F).Pairwise (fun p q => slt p.2 q.2) ∧ (∀ q ∈ cs.foldl (wIns st r t) F, q ∈ F ∨ ∃ c ∈ cs, q = (st r c, t ++ [c])) ∧ ∀ c ∈ cs, ∃ v ∈ cs.foldl (wIns st r t) F, v.1 = st r c ∧ (v.2 = t ++ [c] ∨ slt v.2 (t ++ [c]))
  | [], F, h1, _, _ => ⟨h1, fun q hq => .inl hq, fun c hc => by simp at hc⟩
  | c :: cs, F, h1, h2, h3 => by
    rw [List.pairwise_cons] at h3
    rw [List.foldl_cons]
    have s1 : (wIns st r t F c).Pairwise (fun p q => slt p.2 q.2) := by
      unfold wIns
      split
      · exact h1
      · refine List.pairwise_append.mpr ⟨h1, List.pairwise_singleton _ _, fun p hp q hq => ?_⟩
        rw [List.mem_singleton] at hq
        rw [hq]
        exact h2 p hp c (by simp)
    have s2 : ∀ q ∈ wIns st r t F c, q ∈ F ∨ q = (st r c, t ++ [c]) := fun q hq => by
      unfold wIns at hq
      split at hq
      · exact .inl hq
      · rcases List.mem_append.mp hq with hq | hq
        · exact .inl hq
        · rw [List.mem_singleton] at hq
          exact .inr hq
    have s3 : ∃ v ∈ wIns st r t F c, v.1 = st r c ∧ (v.2 = t ++ [c] ∨ slt v.2 (t ++ [c])) := by
      unfold wIns
      split
      · rename_i hm
        obtain ⟨v, hv, e⟩ := List.mem_map.mp hm
        exact ⟨v, hv, e, .inr (h2 v hv c (by simp))⟩
      · exact ⟨(st r c, t ++ [c]), by simp, rfl, .inl rfl⟩
    obtain ⟨r1, r2, r3⟩ := w_fold_spec cs (wIns st r t F c) s1 (fun q hq d hd => by
      rcases s2 q hq with hq | rfl
      · exact h2 q hq d (by simp [hd])
      · exact slt_snoc2 t (h3.1 d hd)) h3.2
    refine ⟨r1, fun q hq => ?_, fun d hd => ?_⟩
    · rcases r2 q hq with hq | ⟨d, hd, e⟩
      · rcases s2 q hq with hq | e
        · exact .inl hq
        · exact .inr ⟨c, by simp, e⟩
      · exact .inr ⟨d, by simp [hd], e⟩
    · rcases List.mem_cons.mp hd with rfl | hd
      · obtain ⟨v, hv, e⟩ := s3
        obtain ⟨G, hG⟩ := w_pre st (r := r) (t := t) cs (wIns st r t F d)
        exact ⟨v, by rw [hG]; exact List.mem_append_left _ hv, e⟩
      · exact r3 d hd
structure WGd (st : α → Nat → α) (ls : Tx) (k : Nat) (F : List (α × Tx)) : Prop where
  so : F.Pairwise (fun p q => slt p.2 q.2)
  bd : ∀ p, F[k]? = some p → ∀ q ∈ F, ∀ d, slt q.2 (p.2 ++ [d])
  cl : ∀ j p, j < k → F[j]? = some p → ∀ c ∈ ls, ∃ v ∈ F, v.1 = st p.1 c ∧ (v.2 = p.2 ++ [c] ∨ slt v.2 (p.2 ++ [c]))
theorem w_gd {ls : Tx} (hls : ls.Pairwise (· < ·)) : ∀ k, WGd st ls k (wlk st a0 ls k)
  | 0 => by
    refine ⟨List.pairwise_singleton _ _, fun p hp q hq d => ?_, fun j p hj => absurd hj (Nat.not_lt_zero _)⟩
    have hq : q = (a0, []) := by simpa [wlk] using hq
    have hp : (a0, []) = p := by simpa [wlk] using hp
    subst hq hp
    exact slt_nil d []
  | k + 1 => by
    have h := w_gd hls k
    show WGd st ls (k + 1) (wStep st ls (wlk st a0 ls k) k)
    unfold wStep
    split
    · rename_i r t e
      obtain ⟨f1, f2, f3⟩ := w_fold_spec (st := st) (r := r) (t := t) ls (wlk st a0 ls k) h.so (fun q hq c _ => h.bd _ e q hq c) hls
      obtain ⟨G, hG⟩ := w_pre st (r := r) (t := t) ls (wlk st a0 ls k)
      have hk : k < (wlk st a0 ls k).length := (List.getElem?_eq_some_iff.mp e).1
      have e2 : (ls.foldl (wIns st r t) (wlk st a0 ls k))[k]? = some (r, t) := by rw [hG, List.getElem?_append_left hk, e]
      refine ⟨f1, fun p hp q hq d => ?_, fun j p hj hp c hc => ?_⟩
      · have hlt : slt t p.2 := by
          obtain ⟨a1, a2⟩ := List.getElem?_eq_some_iff.mp e2
          obtain ⟨b1, b2⟩ := List.getElem?_eq_some_iff.mp hp
          have := List.pairwise_iff_getElem.mp f1 k (k + 1) a1 b1 (by omega)
          rw [a2, b2] at this
          exact this
        rcases f2 q hq with hq | ⟨c, _, rfl⟩
        · exact slt_trans (h.bd _ e q hq d) (slt_snoc hlt d d)
        · exact slt_snoc hlt c d
      · by_cases hjk : j = k
        · subst hjk
          rw [e2] at hp
          cases hp
          exact f3 c hc
        · have hjl : j < (wlk st a0 ls k).length := by omega
          rw [hG, List.getElem?_append_left hjl] at hp
          obtain ⟨v, hv, q⟩ := h.cl j p (by omega) hp c hc
          exact ⟨v, by rw [hG]; exact List.mem_append_left _ hv, q⟩
    · rename_i e
      have hk : (wlk st a0 ls k).length ≤ k := List.getElem?_eq_none_iff.mp e
      refine ⟨h.so, fun p hp => ?_, fun j p hj hp c hc => ?_⟩
      · rw [List.getElem?_eq_none (by omega)] at hp
        cases hp
      · have hjl := (List.getElem?_eq_some_iff.mp hp).1
        exact h.cl j p (by omega) hp c hc
/-- no more states than so many -/
def FewS (st : α → Nat → α) (a0 : α) (n : Nat) : Prop := ∀ rs : List α, rs.Nodup → (∀ r ∈ rs, ∃ t, r = run st a0 t) → rs.length ≤ n
theorem w_few {n : Nat} (h : FewS st a0 n) (ls : Tx) (k : Nat) : (wlk st a0 ls k).length ≤ n := by
  have hd := w_nd (st := st) (a0 := a0) ls k
  have := h _ hd.nd fun r hr => by
    obtain ⟨p, hp, rfl⟩ := List.mem_map.mp hr
    exact ⟨p.2, (hd.ok p hp).1⟩
  rwa [List.length_map] at this
theorem w_first (ls : Tx) : ∀ k, (a0, []) ∈ wlk st a0 ls k
  | 0 => List.mem_singleton.mpr rfl
  | k + 1 => by
    obtain ⟨G, hG⟩ := w_grow (st := st) (a0 := a0) ls k
    rw [hG]
    exact List.mem_append_left _ (w_first ls k)
theorem w_step {n : Nat} (h : FewS st a0 n) {ls : Tx} (hls : ls.Pairwise (· < ·)) {p : α × Tx} (hp : p ∈ wlk st a0 ls n) {c : Nat} (hc : c ∈ ls) : ∃ v ∈ wlk st a0 ls n, v.1 = st p.1 c ∧ (v.2 = p.2 ++ [c] ∨ slt v.2 (p.2 ++ [c])) := by
  obtain ⟨j, hj, e⟩ := List.mem_iff_getElem.mp hp
  have hf := w_few h ls n
  exact (w_gd hls n).cl j p (by have hj : j < (wlk st a0 ls n).length := hj; omega) (List.getElem?_eq_some_iff.mpr ⟨hj, e⟩) c hc
theorem w_all {n : Nat} (h : FewS st a0 n) {ls : Tx} (hls : ls.Pairwise (· < ·)) : ∀ (m : Nat) (t : Tx), t.length = m → (∀ c ∈ t, c ∈ ls) → ∃ v ∈ wlk st a0 ls n, v.1 = run st a0 t ∧ (v.2 = t ∨ slt v.2 t)
  | 0, t, hn, _ => by
    have : t = [] := List.eq_nil_of_length_eq_zero hn
    subst this
    exact ⟨(a0, []), w_first ls n, rfl, .inl rfl⟩
  | m + 1, t, hn, ht => by
    obtain ⟨u, c, rfl⟩ : ∃ u c, t = u ++ [c] := by
      rcases List.eq_nil_or_concat t with e | ⟨l, b, e⟩
      · rw [e] at hn; cases hn
      · exact ⟨l, b, by rw [e]; simp⟩
    obtain ⟨v, hv, v1, v2⟩ := w_all h hls m u (by rw [List.length_append, List.length_singleton] at hn; omega) fun d hd => ht d (by simp [hd])
    obtain ⟨x, hx, x1, x2⟩ := w_step h hls hv (ht c (by simp))
    refine ⟨x, hx, by rw [x1, v1, run_snoc], ?_⟩
    rcases v2 with v2 | v2
    · rw [v2] at x2
      exact x2
    · rcases x2 with x2 | x2
      · exact .inr (by rw [x2]; exact slt_snoc v2 c c)
      · exact .inr (slt_trans x2 (slt_snoc v2 c c))
/-- of equal states the first text -/
theorem w_least {n : Nat} (h : FewS st a0 n) {ls : Tx} (hls : ls.Pairwise (· < ·)) {p : α × Tx} (hp : p ∈ wlk st a0 ls n) {t : Tx} (ht : ∀ c ∈ t, c ∈ ls) (e : p.1 = run st a0 t) : p.2 = t ∨ slt p.2 t := by
  obtain ⟨v, hv, v1, v2⟩ := w_all h hls t.length t rfl ht
  have hd := (w_nd (st := st) (a0 := a0) ls n).nd
  have : v = p := by
    rw [List.nodup_iff_pairwise_ne, List.pairwise_map] at hd
    by_cases q : v = p
    · exact q
    · exfalso
      obtain ⟨i, hi, ei⟩ := List.mem_iff_getElem.mp hv
      obtain ⟨j, hj, ej⟩ := List.mem_iff_getElem.mp hp
      have hij : i ≠ j := fun z => by subst z; exact q (by rw [← ei, ← ej])
      rcases Nat.lt_or_gt_of_ne hij with z | z
      · have := List.pairwise_iff_getElem.mp hd i j hi hj z
        rw [ei, ej] at this
        exact this (by rw [v1, e])
      · have := List.pairwise_iff_getElem.mp hd j i hj hi z
        rw [ei, ej] at this
        exact this (by rw [v1, e])
  rw [← this]
  exact v2
end

theorem rowLike {ws : List Tx} (hw : ∀ w ∈ ws, 1 ≤ w.length) (t : Tx) : RowLike ws (rowAt ws t) := ⟨t, fun q => mem_rowAt hw t.length t rfl q⟩
theorem rowAt_rise (ws : List Tx) (t : Tx) : (rowAt ws t).Pairwise (· < ·) := by
  rcases List.eq_nil_or_concat t with e | ⟨l, b, e⟩
  · rw [e]; exact List.pairwise_singleton _ _
  · have e : t = l ++ [b] := by rw [e]; simp
    rw [e, rowAt_snoc]
    exact (rowB_ok ws _ b).1
theorem Few.of {ws : List Tx} (h : Wds ws 16) : Few ws := ⟨fun w hw => (h.1 w hw).2, h.2.2⟩
theorem few_rows {ws : List Tx} (h : Wds ws 16) {rs : List (List Tx)} (hn : rs.Nodup) (hr : ∀ r ∈ rs, ∃ t, r = rowAt ws t) : rs.length ≤ 4096 := by
  refine rows_4096 (Few.of h) hn (fun r hm => ?_) fun a ha b hb e => ?_
  · obtain ⟨t, rfl⟩ := hr r hm
    exact rowLike (fun w hw => (h.1 w hw).2.1) t
  · obtain ⟨t, rfl⟩ := hr a ha
    obtain ⟨u, rfl⟩ := hr b hb
    exact tx_riseU (rowAt_rise ws t) (rowAt_rise ws u) e
/-! pairs of rows -/
abbrev PairT := List Tx × List Tx
def pairB (ws os : List Tx) (p : PairT) (c : Nat) : PairT := (rowB ws p.1 c, rowB os p.2 c)
abbrev pair0 : PairT := ([[]], [[]])
theorem run_pair (ws os : List Tx) : ∀ (t : Tx) (a b : List Tx), run (pairB ws os) (a, b) t = (t.foldl (fun r c => rowB ws r c) a, t.foldl (fun r c => rowB os r c) b)
  | [], _, _ => rfl
  | c :: t, a, b => by
    show run (pairB ws os) (rowB ws a c, rowB os b c) t = _
    rw [run_pair ws os t]
    rfl
theorem run_rows (ws os : List Tx) (t : Tx) : run (pairB ws os) pair0 t = (rowAt ws t, rowAt os t) := run_pair ws os t _ _
theorem prod_few {α β : Type} [DecidableEq α] [DecidableEq β] {ps : List (α × β)} (hn : ps.Nodup) {m k : Nat} (h1 : (dd (ps.map (·.1))).length ≤ m) (h2 : (dd (ps.map (·.2))).length ≤ k) : ps.length ≤ m * k := by
  have := nodup_lenU hn (js := (dd (ps.map (·.1))).flatMap fun a => (dd (ps.map (·.2))).map fun b => (a, b)) fun p hp => List.mem_flatMap.mpr ⟨p.1, dd_mem.mpr (List.mem_map.mpr ⟨p, hp, rfl⟩), List.mem_map.mpr ⟨p.2, dd_mem.mpr (List.mem_map.mpr ⟨p, hp, rfl⟩), rfl⟩⟩
  have e : ∀ (xs : List α) (ys : List β), (xs.flatMap fun a => ys.map fun b => (a, b)).length = xs.length * ys.length := fun xs ys => by
    induction xs with
    | nil => simp
    | cons x r ih => rw [List.flatMap_cons, List.length_append, List.length_map, ih, List.length_cons, Nat.succ_mul, Nat.add_comm]
  rw [e] at this
  exact Nat.le_trans this (Nat.mul_le_mul h1 h2)
theorem few_pairs {ws os : List Tx} (h1 : Wds ws 16) (h2 : Wds os 16) : FewS (pairB ws os) pair0 16777216 := fun rs hn hr => by
  refine prod_few (m := 4096) (k := 4096) hn (few_rows h1 (dd_nodup _) fun r hm => ?_) (few_rows h2 (dd_nodup _) fun r hm => ?_)
  · obtain ⟨p, hp, rfl⟩ := List.mem_map.mp (dd_mem.mp hm)
    obtain ⟨t, e⟩ := hr p hp
    exact ⟨t, by rw [e, run_rows]⟩
  · obtain ⟨p, hp, rfl⟩ := List.mem_map.mp (dd_mem.mp hm)
    obtain ⟨t, e⟩ := hr p hp
    exact ⟨t, by rw [e, run_rows]⟩
end PD

set_option pp.maxSteps 1500
namespace PD
open PySem PySem.Spec PyProof.Rows L2
/-- words, each once, at most thirty, at most eighty signs in all -/
def ok_words80 : List AR → AR → Prop := fun _ y => ∃ ws : List Tx, y = .o (.lst (ws.map .str)) ∧ Wds ws 80 ∧ ws.length ≤ 30 ∧ ws.Pairwise (· < ·)
abbrev pre_x__law_long_words := pre_store
abbrev ok_x__law_long_words := ok_words80
abbrev pre_x__law_short_words := pre_store
abbrev ok_x__law_short_words := ok_words80
abbrev pre_x__law_wide_words := pre_store
abbrev ok_x__law_wide_words := ok_words
abbrev pre_x__law_any_words := pre_store
abbrev ok_x__law_any_words := ok_words80
def pre_x__law_alphabet : List AR → Prop
  | [.o (.res r), .d (.int k)] => r = storeRP ∧ 1 ≤ k ∧ k ≤ 26
  | _ => False
def ok_x__law_alphabet : List AR → AR → Prop := fun _ y => ∃ s, y = .d (.str s) ∧ small s = true ∧ 1 ≤ s.length ∧ s.length ≤ 26
def p_x__law_long_words : PTS :=
  (pSeq (pSetD 1 (pOp2 bIx (pLst (pCons (pC (.str [97])) (pCons (pC (.str [97])) (pCons (pC (.str [97, 98])) (pCons (pC (.str [98, 122])) (pCons (pC (.str [97, 98, 99])) pNil)))))) (pCalls callT (pCons (pVar 0) (pCons (pC (.int 5)) pNil)))))
  (pSeq (pSet 2 (pLst pNil))
  (pSeq (pSet 3 (pM1 bJoin (pC (.str [])) (pLc (pRng1 (pCons (pOp2 bAdd (pC (.int 5)) (pCalls callT (pCons (pVar 0) (pCons (pC (.int 4)) pNil)))) pNil)) (tgN 4) pYes (pOp2 bIx (pVar 1) (pCalls callT (pCons (pVar 0) (pCons (pCall cLen (pCons (pVar 1) pNil)) pNil)))) [4])))
  (pSeq (pWip [4, 5, 6] (pFor (pRng1 (pCons (pOp2 bAdd (pC (.int 2)) (pCalls callT (pCons (pVar 0) (pCons (pC (.int 8)) pNil)))) pNil)) (tgN 4) (pGw [4, 5, 6] [4, 5, 6] (pSeq (pSetD 5 (pSl (pVar 3) pNo (pPart (pOp2 bAdd (pC (.int 3)) (pCalls callT (pCons (pVar 0) (pCons (pC (.int 6)) pNil)))))))
  (pSeq (pWip [6] (pFor (pRng1 (pCons (pCalls callT (pCons (pVar 0) (pCons (pC (.int 9)) pNil))) pNil)) (tgN 6) (pGw [6] [6] (pSetD 5 (pOp2 bAdd (pVar 5) (pOp2 bIx (pVar 1) (pCalls callT (pCons (pVar 0) (pCons (pCall cLen (pCons (pVar 1) pNil)) pNil)))))))))
  (pSeq (pIf (pTest (pOp2 (bEq id) (pCalls callT (pCons (pVar 0) (pCons (pC (.int 4)) pNil))) (pC (.int 0)))) (pSetD 5 (pOp2 bAdd (pSl (pVar 5) (pPart (pCalls callT (pCons (pVar 0) (pCons (pC (.int 3)) pNil)))) pNo) (pVar 3)))
  pNext)
  (pSeq (pIf (pTest (pOp2 (bEq id) (pCall cLen (pCons (pVar 1) pNil)) (pC (.int 1)))) (pSetD 5 (pOp2 bMul (pVar 1) (pOp2 bAdd (pC (.int 5)) (pCalls callT (pCons (pVar 0) (pCons (pC (.int 8)) pNil))))))
  pNext)
  (pSeq (pSetD 5 (pSl (pVar 5) pNo (pPart (pC (.int 12)))))
  (pIf (pAnd (pTest (pOp2 (bIn not) (pVar 5) (pVar 2))) (pTest (pOp2 bLt (pOp2 bAdd (pCall cLen (pCons (pM1 bJoin (pC (.str [])) (pVar 2)) pNil)) (pCall cLen (pCons (pVar 5) pNil))) (pC (.int 81))))) (pDrop (pLM lAppend (pVar 2) (pCons (pVar 5) pNil)))
  pNext)))))))))
  (pSeq (pIf (pTest (pOp2 (bEq id) (pCall cLen (pCons (pVar 1) pNil)) (pC (.int 1)))) (pSet 2 (pSl (pVar 2) pNo (pPart (pOp2 bAdd (pC (.int 2)) (pCalls callT (pCons (pVar 0) (pCons (pC (.int 2)) pNil)))))))
  pNext)
  (pRet (pCall cSorted (pCons (pVar 2) pNil))))))))
abbrev N_x__law_long_words : List Str := ["store", "letters", "words", "base", "k", "word", "j"]
def p_x__law_alphabet : PTS :=
  (pSeq (pSet 2 (pCall cListB (pCons (pC (.str abc)) pNil)))
  (pSeq (pWhile (pTest (pOp2 bGt (pCall cLen (pCons (pVar 2) pNil)) (pVar 1))) (pGw [] [] (pDrop (pLM lPopAt (pVar 2) (pCons (pCalls callT (pCons (pVar 0) (pCons (pCall cLen (pCons (pVar 2) pNil)) pNil))) pNil)))))
  (pRet (pM1 bJoin (pC (.str [])) (pVar 2)))))
abbrev N_x__law_alphabet : List Str := ["store", "many", "left"]
def p_x__law_wide_words : PTS :=
  (pSeq (pSetD 1 (pCalls (callN pre_x__law_alphabet ok_x__law_alphabet) (pCons (pVar 0) (pCons (pOp2 bAdd (pC (.int 5)) (pCalls callT (pCons (pVar 0) (pCons (pC (.int 8)) pNil)))) pNil))))
  (pSeq (pSet 2 (pLst pNil))
  (pSeq (pWip [3, 4] (pFor (pRng1 (pCons (pCalls callT (pCons (pVar 0) (pCons (pC (.int 12)) pNil))) pNil)) (tgN 3) (pGw [3, 4] [3, 4] (pSeq (pSetD 4 (pCalls (callN pre_x__law_kept_word ok_x__law_kept_word) (pCons (pVar 0) (pCons (pVar 2) (pCons (pVar 1) pNil)))))
  (pIf (pAnd (pTest (pOp2 (bIn not) (pVar 4) (pVar 2))) (pTest (pOp2 bLt (pOp2 bAdd (pCall cLen (pCons (pM1 bJoin (pC (.str [])) (pVar 2)) pNil)) (pCall cLen (pCons (pVar 4) pNil))) (pC (.int 17))))) (pDrop (pLM lAppend (pVar 2) (pCons (pVar 4) pNil)))
  pNext)))))
  (pRet (pCall cSorted (pCons (pVar 2) pNil))))))
abbrev N_x__law_wide_words : List Str := ["store", "letters", "words", "k", "word"]
def p_x__law_short_words : PTS :=
  (pSeq (pSetD 1 (pCalls (callN pre_x__law_alphabet ok_x__law_alphabet) (pCons (pVar 0) (pCons (pOp2 bIx (pLst (pCons (pC (.int 2)) (pCons (pC (.int 3)) (pCons (pOp2 bAdd (pC (.int 5)) (pCalls callT (pCons (pVar 0) (pCons (pC (.int 22)) pNil)))) pNil)))) (pCalls callT (pCons (pVar 0) (pCons (pC (.int 3)) pNil)))) pNil))))
  (pSeq (pSet 2 (pLst pNil))
  (pSeq (pWip [3, 4, 5] (pFor (pRng1 (pCons (pOp2 bAdd (pC (.int 8)) (pCalls callT (pCons (pVar 0) (pCons (pC (.int 23)) pNil)))) pNil)) (tgN 3) (pGw [3, 4, 5] [3, 4, 5] (pSeq (pSetD 4 (pOp2 bAdd (pC (.int 1)) (pCalls callT (pCons (pVar 0) (pCons (pC (.int 4)) pNil)))))
  (pSeq (pSet 5 (pM1 bJoin (pC (.str [])) (pLc (pRng1 (pCons (pVar 4) pNil)) (tgN 6) pYes (pOp2 bIx (pVar 1) (pCalls callT (pCons (pVar 0) (pCons (pCall cLen (pCons (pVar 1) pNil)) pNil)))) [6])))
  (pSeq (pIf (pAnd (pTest (pOp2 (bEq not) (pVar 2) (pLst pNil))) (pTest (pOp2 (bEq id) (pCalls callT (pCons (pVar 0) (pCons (pC (.int 5)) pNil))) (pC (.int 0))))) (pSet 5 (pSl (pOp2 bAdd (pOp2 bIx (pVar 2) (pCalls callT (pCons (pVar 0) (pCons (pCall cLen (pCons (pVar 2) pNil)) pNil)))) (pVar 5)) pNo (pPart (pC (.int 12)))))
  pNext)
  (pIf (pAnd (pTest (pOp2 (bIn not) (pVar 5) (pVar 2))) (pTest (pOp2 bLt (pOp2 bAdd (pCall cLen (pCons (pM1 bJoin (pC (.str [])) (pVar 2)) pNil)) (pCall cLen (pCons (pVar 5) pNil))) (pC (.int 81))))) (pDrop (pLM lAppend (pVar 2) (pCons (pVar 5) pNil)))
  pNext)))))))
  (pRet (pCall cSorted (pCons (pVar 2) pNil))))))
abbrev N_x__law_short_words : List Str := ["store", "letters", "words", "k", "size", "word", "j"]
def p_x__law_any_words : PTS :=
  (pSeq (pSetD 1 (pCalls callT (pCons (pVar 0) (pCons (pC (.int 8)) pNil))))
  (pSeq (pIf (pTest (pOp2 bLt (pVar 1) (pC (.int 2)))) (pRet (pCalls (callN pre_x__law_long_words ok_x__law_long_words) (pCons (pVar 0) pNil)))
  pNext)
  (pSeq (pIf (pTest (pOp2 (bEq id) (pVar 1) (pC (.int 2)))) (pRet (pCalls (callN pre_x__law_short_words ok_x__law_short_words) (pCons (pVar 0) pNil)))
  pNext)
  (pSeq (pIf (pTest (pOp2 bLt (pVar 1) (pC (.int 5)))) (pRet (pCalls (callN pre_x__law_wide_words ok_x__law_wide_words) (pCons (pVar 0) pNil)))
  pNext)
  (pRet (pCalls (callN pre_x__law_words ok_x__law_words) (pCons (pVar 0) pNil)))))))
abbrev N_x__law_any_words : List Str := ["store", "way"]
local macro_rules | `(tactic| walk_at "rd") => `(tactic| simp (config := { decide := true }) only [pSeq_then, pNext, pNever, pBreak, pCont, pDrop, pRet, pRetN, pIf, pSet, pSetD, setD, setP, setO, pVar, pC, pOp2, pTest, pAnd, pOr, pNot, pAndV, pOrV, pNotV, pIfE, pNil, pCons, pLst, pTup, pDict0, pDictC, pDM, dUpdate, pCall, pIsiP, pM1, bJoin, pNo, pPart, pSl, pSortI, pLM, lAppend, lInsert, lExtend, lPopAt, lPop, lReverse, lClear, pLc_eq, pFor_eq, pWhile_eq, pWip, pGw, wipeS, trunc, truncE, pItL, pItS, pRng1, pRng2, pRng3, pVarF, pAug, pDictLen, pLr3, pNeg, pCalls, callP, pEnum, pStepS, pRevL, bStarts, bEnds, pAugK, pItK, pFz, pRaise, pCallX, callX, pTry, pIsX, pLr1, pM0, bUpper, cListB, cTuple, pOrT, pDictLenT, pBor, borE, scalD, pPickL, cSum, cAbs, pItS, pre_x__law_kept_word, pre_x__law_words, pre_x__law_long_words, pre_x__law_alphabet, pre_x__law_wide_words, pre_x__law_short_words, pre_x__law_any_words,  merge_dictOf, filter_none, take_iff, callN, txo_map, deq_nilU, map_isEmpty, toAR, R.fz, view, views, dats, O.toD, AR.toR, bAdd, bSub, bMul, bDiv, bMod, bPow, bEq,  pSrtSet, pSrtSetS, pForM_eq, pGx, bCmp, bIn, bIs, bIx, bSl, cLen, cMin2, cMax2, cInt, cList, cDict, cSorted, plainD, isiB, tyn, pAsg, tgT, tgU, setsA, pSetIx, storeO, kdOf, pChain, cmpD, pYes, pTru, truD, Hand, tgN, wipeA, fnAbs, envA, ownsA, retA, conP, conN, List.set, List.set_cons_zero, List.set_cons_succ, List.set_nil, List.getElem?_cons_zero, List.getElem?_cons_succ, List.getElem?_nil, List.length_cons, List.length_nil, List.cons_append, List.nil_append, List.append_nil, List.replicate, Nat.reduceSub, Nat.reduceAdd, Nat.zero_add, Int.zero_add, true_and, and_true, reduceIte, Bool.false_eq_true, id, Bool.not_true, Bool.not_false, decide_true, decide_false, List.nodup_nil, List.nodup_cons, List.not_mem_nil, not_false_eq_true, List.take_zero, List.take_succ_cons, List.take_nil, List.map_cons, List.map_nil])
local macro_rules | `(tactic| walk_at "sc") => `(tactic| first | with_reducible assumption | omega | assumption | with_reducible rfl | with_reducible exact True.intro | with_reducible exact okD_ints | with_reducible exact okD_nil | with_reducible exact okD_int _ | with_reducible exact okD_bl _ | with_reducible exact okD_non | with_reducible exact okD_sm (by assumption) | with_reducible exact cmulR (by omega) (by omega) | with_reducible exact cmulL (by omega) (by omega) | with_reducible exact cdivw (by omega) (by omega) | (with_reducible refine smallI_of ?_ ?_ <;> first | omega | (simp only [List.length_map, List.length_append, List.length_range, List.length_replicate, List.length_cons, List.length_nil, List.length_take, List.length_drop]; omega)) | (unfold CPow; decide) | (simp only [List.length_map, List.length_append, List.length_range, List.length_replicate, List.length_cons, List.length_nil, List.length_take, List.length_drop]; omega) | (refine ⟨?_, ?_⟩ <;> walk_at "sc"))
local macro_rules | `(tactic| walk_at "go") => `(tactic| repeat (first | walk_at "rd" | with_reducible refine then_go ?_ | (refine And.intro (by walk_at "sc") ?_) | (refine dict_of (by assumption) ?_) | rw [deq_self (by walk_at "sc")] | walk_at "sc"))
local macro_rules | `(tactic| walk_at "rt") => `(tactic| try walk_at "rd")
local macro_rules | `(tactic| walk_at "nx") => `(tactic| ((try dsimp only); rw [then_eq]; walk_at "rd"))
theorem wds_addN {N : Nat} {ws : List Tx} {w : Tx} (h : Wds ws N) (hw : isWord w) (hn : w ∉ ws) (hl : ws.flatten.length + w.length < N + 1) : Wds (ws ++ [w]) N := by
  refine ⟨fun v hv => ?_, List.nodup_append.mpr ⟨h.2.1, List.nodup_cons.mpr ⟨by simp, List.nodup_nil⟩, fun a ha b hb e => ?_⟩, ?_⟩
  · rcases List.mem_append.mp hv with hv | hv
    · exact h.1 v hv
    · rw [List.mem_singleton] at hv
      rw [hv]
      exact hw
  · rw [List.mem_singleton] at hb
    rw [e, hb] at ha
    exact hn ha
  · rw [List.length_flatten] at hl
    rw [List.map_append, List.sum_append]
    show _ + ([w.length] : List Nat).sum ≤ N
    rw [List.sum_singleton]
    omega
theorem wds_sortedN {N : Nat} {ws : List Tx} (h : Wds ws N) : srtOk (ws.map D.str) ∧ srt (ws.map D.str) = (srtT ws).map .str ∧ Wds (srtT ws) N ∧ (srtT ws).Pairwise (· < ·) ∧ (srtT ws).length = ws.length := by
  refine ⟨srtOk_strs fun l hl => small_okX (h.1 l hl).1, srt_texts ws, ⟨fun w hw => h.1 w ((srtT_perm ws).mem_iff.mp hw), (srtT_perm ws).nodup_iff.mpr h.2.1, ?_⟩, srtT_strict h.2.1, (srtT_perm ws).length_eq⟩
  rw [((srtT_perm ws).map List.length).sum_nat]
  exact h.2.2
/-- a word more, where it fits -/
theorem add_wordN {N : Nat} {K : Int} {P : PEnds} {E : List AV} {j : Nat} {w : Tx} {ws : List Tx} {i k : Nat} {M : List (Option O)} (hN : N ≤ 1000) (hK : K = N + 1) (hw : isWord w) (h : Wds ws N) (e1 : E[i]? = some (.d (.str w))) (e2 : E[j]? = some (.p k)) (e3 : M[k]? = some (some (.lst (ws.map .str))))
    (hP : ∀ vs : List Tx, Wds vs N → vs.length ≤ ws.length + 1 → P.nx ⟨E, M.set k (some (.lst (vs.map .str)))⟩) :
    pIf (pAnd (pTest (pOp2 (bIn not) (pVar i) (pVar j))) (pTest (pOp2 bLt (pOp2 bAdd (pCall cLen (pCons (pM1 bJoin (pC (.str [])) (pVar j)) pNil)) (pCall cLen (pCons (pVar i) pNil))) (pC (.int K))))) (pDrop (pLM lAppend (pVar j) (pCons (pVar i) pNil))) pNext P ⟨E, M⟩ := by
  have hl := h.len
  have hM : M.set k (some (.lst (ws.map .str))) = M := by
    apply List.ext_getElem?
    intro n
    by_cases hn : k = n
    · subst hn
      rw [List.getElem?_set_self (List.getElem?_eq_some_iff.mp e3).1, e3]
    · rw [List.getElem?_set_ne hn]
  have hkeep : P.nx ⟨E, M⟩ := by
    have := hP ws h (by omega)
    rwa [hM] at this
  walk_at "rd"
  rw [e1, e2]
  walk_at "rd"
  rw [e3]
  walk_at "rd"
  refine ⟨okD_sm hw.1, okD_strS fun l hl => (h.1 l hl).1, ?_⟩
  rw [any_str]
  by_cases hm : w ∈ ws
  · rw [decide_eq_true hm]
    exact hkeep
  · rw [decide_eq_false hm]
    have hf : (ws.map List.length).sum ≤ N := h.2.2
    refine ⟨ws, rfl, by omega, ?_⟩
    rw [joinL_flat]
    have hfl : ws.flatten.length ≤ N := by rw [List.length_flatten]; exact hf
    have hw3 := hw.2.2
    refine ⟨by omega, by omega, ?_⟩
    by_cases hlt : ((ws.flatten.length : Int) + (w.length : Int) < K)
    · rw [if_pos (decide_eq_true hlt)]
      refine ⟨by rw [List.length_map]; omega, ?_⟩
      have := hP (ws ++ [w]) (wds_addN h hw hm (by omega)) (by simp)
      rw [List.map_append] at this
      exact this
    · rw [if_neg (fun z => hlt (of_decide_eq_true z))]
      exact hkeep
theorem r_x__law_alphabet : Law p_x__law_alphabet N_x__law_alphabet 2 (conN pre_x__law_alphabet ok_x__law_alphabet) := fun ars h => by
  have h : pre_x__law_alphabet ars := h
  unfold pre_x__law_alphabet at h
  split at h
  · rename_i r k _
    obtain ⟨rfl, k1, k26⟩ := h
    refine ⟨rfl, ?_⟩
    unfold p_x__law_alphabet endsA
    walk_at "go"
    refine while_run (fun m A => ∃ vs : List Tx, m = vs.length ∧ A = ⟨[AV.p 0, .d (.int k), .p 1], [some (.res storeRP), some (.lst (vs.map .str))]⟩ ∧ (∀ l ∈ vs, small l = true ∧ l.length = 1) ∧ k ≤ vs.length ∧ vs.length ≤ 26) 26 ⟨abc.map fun c => [c], rfl, rfl, by decide, by show k ≤ 26; omega, by decide⟩ ?_
    rintro m A ⟨vs, rfl, rfl, hv, hk, hl⟩ J Kb hJ hK
    walk_at "rd"
    rw [List.length_map]
    by_cases hlt : k < (vs.length : Int)
    · rw [if_pos (decide_eq_true hlt)]
      refine ⟨by omega, by omega, fun i i0 i1 => ⟨by omega, by omega, i.toNat, _, seq_at i0 i1, List.getElem?_eq_getElem (by rw [List.length_map]; omega), ?_⟩⟩
      rw [map_erase]
      have hle : (vs.eraseIdx i.toNat).length = vs.length - 1 := List.length_eraseIdx_of_lt (by omega)
      exact hJ _ _ (by omega) ⟨_, rfl, rfl, fun l hl => hv l ((List.eraseIdx_sublist vs _).mem hl), by omega, by omega⟩
    · rw [if_neg (fun z => hlt (of_decide_eq_true z))]
      walk_at "nx"
      have hs := onesS_len vs hv
      refine ⟨vs, rfl, by rw [hs.1]; omega, _, rfl, ?_⟩
      rw [joinL_flat, hs.2]
      exact ⟨join_small (a := []) fun l hl => (hv l hl).1, by omega, hl⟩
  · exact h.elim
theorem r_x__law_wide_words : Law p_x__law_wide_words N_x__law_wide_words 1 (conN pre_x__law_wide_words ok_x__law_wide_words) := fun ars h => by
  have h : pre_store ars := h
  unfold pre_store at h
  split at h
  · subst h
    refine ⟨rfl, ?_⟩
    unfold p_x__law_wide_words endsA
    walk_at "rd"
    refine fun a a0 a1 => ?_
    refine ⟨⟨by omega, by omega⟩, ?_⟩
    rintro y ⟨s, rfl, hs, hs1, hs2⟩
    walk_at "go"
    refine fun n n0 n1 => ?_
    walk_at "go"
    refine for_rng0 (fun i A => ∃ ws : List Tx, A = ⟨[AV.p 0, .d (.str s), .p 1, .un, .un], [some (.res storeRP), some (.lst (ws.map .str))]⟩ ∧ Wds ws 16) ⟨[], rfl, by simp, List.nodup_nil, by simp⟩ (by intros; trivial) ?_ ?_
    · rintro i A hi ⟨ws, rfl, hW⟩
      have hl := hW.len
      refine ⟨_, rfl, fun J Kb hJ hK => ?_⟩
      walk_at "rd"
      refine ⟨⟨hs, hs1, hs2, ws, rfl, hW.1, by omega⟩, ?_⟩
      rintro y ⟨w, rfl, hw⟩
      walk_at "rt"
      rw [then_eq]
      refine add_wordN (N := 16) (by decide) rfl hw hW rfl rfl rfl fun vs hv _ => ?_
      walk_at "rt"
      exact hJ _ ⟨vs, rfl, hv⟩
    · rintro A ⟨ws, rfl, hW⟩
      obtain ⟨w1, w2, w3, w4, _⟩ := wds_sortedN hW
      walk_at "nx"
      refine ⟨w1, ?_⟩
      rw [w2]
      exact ⟨_, rfl, w3, w4⟩
  · exact h.elim
theorem r_x__law_short_words : Law p_x__law_short_words N_x__law_short_words 1 (conN pre_x__law_short_words ok_x__law_short_words) := fun ars h => by
  have h : pre_store ars := h
  unfold pre_store at h
  split at h
  · subst h
    refine ⟨rfl, ?_⟩
    unfold p_x__law_short_words endsA
    walk_at "rd"
    refine fun a a0 a1 => ?_
    refine fun i i0 i1 => at_ex i0 i1 fun d hd => ?_
    obtain ⟨m, rfl, m0, m1⟩ : ∃ m : Int, d = .int m ∧ 1 ≤ m ∧ m ≤ 26 := by
      simp only [List.mem_cons, List.not_mem_nil, or_false] at hd
      rcases hd with rfl | rfl | rfl <;> exact ⟨_, rfl, by omega, by omega⟩
    clear hd
    walk_at "rd"
    refine ⟨⟨m0, m1⟩, ?_⟩
    rintro y ⟨s, rfl, hs, hs1, hs2⟩
    walk_at "go"
    refine fun n n0 n1 => ?_
    walk_at "go"
    refine for_rng0 (fun i A => ∃ ws : List Tx, A = ⟨[AV.p 0, .d (.str s), .p 1, .un, .un, .un, .un], [some (.res storeRP), some (.lst (ws.map .str))]⟩ ∧ Wds ws 80 ∧ ws.length ≤ i) ⟨[], rfl, ⟨by simp, List.nodup_nil, by simp⟩, Nat.le_refl _⟩ (by intros; trivial) ?_ ?_
    · rintro i A hi ⟨ws, rfl, hW, hwi⟩
      have hl := hW.len
      refine ⟨_, rfl, fun J Kb hJ hK => ?_⟩
      walk_at "go"
      refine fun sz z0 z1 => ?_
      walk_at "go"
      refine lc_any (fun d => ∃ c ∈ s, d = .str [c]) trivial (by omega) (fun i hi => ⟨_, rfl, fun J hJ => ?_⟩) fun ds hl2 hds => ?_
      · walk_at "rd"
        refine ⟨by omega, by omega, by omega, fun c c0 c1 => ⟨by omega, at_ex c0 c1 fun x hx => hJ _ ⟨x, hx, rfl⟩⟩⟩
      · obtain ⟨vs, rfl, hvs⟩ := onesS hs hds
        rw [List.length_map] at hl2
        walk_at "rd"
        refine ⟨vs, rfl, by rw [(onesS_len vs hvs).1]; omega, ?_⟩
        rw [joinL_flat]
        have s1 : small vs.flatten = true := join_small (a := []) fun l hl => (hvs l hl).1
        have s2 := (onesS_len vs hvs).2
        rw [hl2] at s2
        generalize vs.flatten = word at s1 s2 ⊢
        clear hvs hl2 hds vs
        have okw : okD (.lst (ws.map D.str)) := okD_strS fun l hl => (hW.1 l hl).1
        walk_at "nx"
        refine ⟨okw, okD_nil, ?_⟩
        generalize hT : Then (pIf (pAnd _ _) _ _) _ = T
        have hadd : ∀ w, isWord w → T ⟨[AV.p 0, .d (.str s), .p 1, .d (.int i), .d (.int (1 + sz)), .d (.str w), .un], [some (.res storeRP), some (.lst (ws.map .str))]⟩ := fun w hw => by
          rw [← hT, then_eq]
          refine add_wordN (N := 80) (by decide) rfl hw hW rfl rfl rfl fun us hu hul => ?_
          walk_at "rt"
          exact hJ _ ⟨us, rfl, hu, by omega⟩
        have hw0 : isWord word := ⟨s1, by omega, by omega⟩
        cases hz : ws.isEmpty with
        | true =>
          rw [if_neg (by simp)]
          exact hadd word hw0
        | false =>
          have hlp : 0 < ws.length := by
            cases ws with
            | nil => cases hz
            | cons _ _ => simp
          rw [if_pos (show (!false) = true from rfl)]
          refine fun f f0 f1 => ?_
          by_cases hf : f = 0
          · rw [if_pos (decide_eq_true hf)]
            rw [List.length_map]
            refine ⟨by omega, by omega, fun e e0 e1 => at_ex e0 (by rw [List.length_map]; exact e1) fun d hd => ?_⟩
            obtain ⟨v, hv, rfl⟩ := List.mem_map.mp hd
            obtain ⟨hv1, hv2, hv3⟩ := hW.1 v hv
            walk_at "go"
            rw [cut_b (by decide)]
            exact hadd _ ⟨small_take (small_append hv1 s1) _, by rw [List.length_take, List.length_append]; show 1 ≤ min 12 _; omega, by rw [List.length_take]; exact Nat.min_le_left _ _⟩
          · rw [if_neg (fun z => hf (of_decide_eq_true z))]
            exact hadd word hw0
    · rintro A ⟨ws, rfl, hW, hwi⟩
      obtain ⟨w1, w2, w3, w4, w5⟩ := wds_sortedN hW
      walk_at "nx"
      refine ⟨w1, ?_⟩
      rw [w2]
      exact ⟨_, rfl, w3, by omega, w4⟩
  · exact h.elim
theorem r_x__law_any_words : Law p_x__law_any_words N_x__law_any_words 1 (conN pre_x__law_any_words ok_x__law_any_words) := fun ars h => by
  have h : pre_store ars := h
  unfold pre_store at h
  split at h
  · subst h
    refine ⟨rfl, ?_⟩
    unfold p_x__law_any_words endsA
    walk_at "rd"
    refine fun a a0 a1 => ?_
    walk_at "nx"
    have h16 : ∀ y, ok_words [AR.o (O.res storeRP)] y → ok_words80 [AR.o (O.res storeRP)] y := fun y ⟨ws, e, h1, h2⟩ => ⟨ws, e, ⟨h1.1, h1.2.1, by have := h1.2.2; omega⟩, by have := h1.len; omega, h2⟩
    by_cases h2 : a < 2
    · rw [if_pos (decide_eq_true h2)]
      refine ⟨rfl, ?_⟩
      rintro y ⟨ws, rfl, hy⟩
      exact ⟨ws, rfl, hy⟩
    · rw [if_neg (fun z => h2 (of_decide_eq_true z))]
      walk_at "nx"
      by_cases h3 : a = 2
      · rw [if_pos (decide_eq_true h3)]
        refine ⟨rfl, ?_⟩
        rintro y ⟨ws, rfl, hy⟩
        exact ⟨ws, rfl, hy⟩
      · rw [if_neg (fun z => h3 (of_decide_eq_true z))]
        walk_at "nx"
        by_cases h5 : a < 5
        · rw [if_pos (decide_eq_true h5)]
          refine ⟨rfl, ?_⟩
          rintro y hy
          obtain ⟨ws, rfl, h⟩ := h16 y hy
          exact ⟨ws, rfl, h⟩
        · rw [if_neg (fun z => h5 (of_decide_eq_true z))]
          walk_at "nx"
          refine ⟨rfl, ?_⟩
          rintro y hy
          obtain ⟨ws, rfl, h⟩ := h16 y hy
          exact ⟨ws, rfl, h⟩
  · exact h.elim
theorem r_x__law_long_words : Law p_x__law_long_words N_x__law_long_words 1 (conN pre_x__law_long_words ok_x__law_long_words) := fun ars h => by
  have h : pre_store ars := h
  unfold pre_store at h
  split at h
  · subst h
    refine ⟨rfl, ?_⟩
    unfold p_x__law_long_words endsA
    walk_at "rd"
    refine fun i i0 i1 => at_ex i0 i1 fun d hd => ?_
    obtain ⟨s, rfl, hs, hs1, hs2⟩ : ∃ s : Tx, d = .str s ∧ small s = true ∧ 1 ≤ s.length ∧ s.length ≤ 3 := by
      simp only [List.mem_cons, List.not_mem_nil, or_false] at hd
      rcases hd with rfl | rfl | rfl | rfl | rfl <;> exact ⟨_, rfl, by decide, by decide, by decide⟩
    clear hd
    walk_at "go"
    refine fun b b0 b1 => ⟨by unfold smallI; omega, ?_⟩
    refine lc_any (fun d => ∃ c ∈ s, d = .str [c]) trivial (by omega) (fun i hi => ⟨_, rfl, fun J hJ => ?_⟩) fun ds hl2 hds => ?_
    · walk_at "rd"
      refine ⟨by omega, by omega, by omega, fun c c0 c1 => ⟨by omega, at_ex c0 c1 fun x hx => hJ _ ⟨x, hx, rfl⟩⟩⟩
    · obtain ⟨vs, rfl, hvs⟩ := onesS hs hds
      rw [List.length_map] at hl2
      walk_at "rd"
      refine ⟨vs, rfl, by rw [(onesS_len vs hvs).1]; omega, ?_⟩
      rw [joinL_flat]
      have s1 : small vs.flatten = true := join_small (a := []) fun l hl => (hvs l hl).1
      have s2 := (onesS_len vs hvs).2
      rw [hl2] at s2
      generalize vs.flatten = base at s1 s2 ⊢
      clear hvs hl2 hds vs
      walk_at "nx"
      refine fun n n0 n1 => ?_
      walk_at "go"
      refine for_rng0 (fun i A => ∃ ws : List Tx, A = ⟨[AV.p 0, .d (.str s), .p 1, .d (.str base), .un, .un, .un], [some (.res storeRP), some (.lst (ws.map .str))]⟩ ∧ Wds ws 80 ∧ ws.length ≤ i) ⟨[], rfl, ⟨by simp, List.nodup_nil, by simp⟩, Nat.le_refl _⟩ (by intros; trivial) ?_ ?_
      · rintro i A hi ⟨ws, rfl, hW, hwi⟩
        have hl := hW.len
        refine ⟨_, rfl, fun J Kb hJ hK => ?_⟩
        walk_at "go"
        refine fun sz z0 z1 => ?_
        rw [cut_b (by omega)]
        have g1 : small (base.take (3 + sz).toNat) = true := small_take s1 _
        have g2 : (base.take (3 + sz).toNat).length = min (3 + sz).toNat base.length := List.length_take ..
        have g3 : 3 ≤ (base.take (3 + sz).toNat).length ∧ (base.take (3 + sz).toNat).length ≤ 8 := by omega
        clear g2
        generalize base.take (3 + sz).toNat = w0 at g1 g3 ⊢
        walk_at "nx"
        refine ⟨by omega, fun m m0 m1 => ⟨by unfold smallI; omega, ?_⟩⟩
        refine for_rng0 (fun k A => ∃ w : Tx, A = ⟨[AV.p 0, .d (.str s), .p 1, .d (.str base), .d (.int i), .d (.str w), .un], [some (.res storeRP), some (.lst (ws.map .str))]⟩ ∧ small w = true ∧ 3 ≤ w.length ∧ w.length ≤ 8 + k) ⟨w0, rfl, g1, g3.1, by omega⟩ (by intros; trivial) ?_ ?_
        · rintro k A hk ⟨w, rfl, q1, q2, q3⟩
          refine ⟨_, rfl, fun J2 Kb2 hJ2 hK2 => ?_⟩
          walk_at "rd"
          refine ⟨by omega, by omega, by omega, fun c c0 c1 => ⟨by omega, at_ex c0 c1 fun x hx => ?_⟩⟩
          walk_at "go"
          exact hJ2 _ ⟨_, rfl, small_append q1 (small_one hs hx), by rw [List.length_append]; omega, by rw [List.length_append, List.length_singleton]; omega⟩
        · rintro A ⟨w, rfl, q1, q2, q3⟩
          walk_at "nx"
          refine fun f f0 f1 => ?_
          generalize hT : Then (pSeq (pIf _ _ _) (pSeq (pSetD 5 _) (pIf _ _ _))) _ = T
          have hT1 : ∀ w : Tx, small w = true → 1 ≤ w.length → w.length ≤ 100 → T ⟨[AV.p 0, .d (.str s), .p 1, .d (.str base), .d (.int i), .d (.str w), .un], [some (.res storeRP), some (.lst (ws.map .str))]⟩ := fun w q1 q2 q3 => by
            rw [← hT]
            walk_at "nx"
            refine ⟨by omega, ?_⟩
            generalize hU : Then (pSeq (pSetD 5 _) (pIf _ _ _)) _ = U
            have hU1 : ∀ w : Tx, small w = true → 1 ≤ w.length → w.length ≤ 100 → U ⟨[AV.p 0, .d (.str s), .p 1, .d (.str base), .d (.int i), .d (.str w), .un], [some (.res storeRP), some (.lst (ws.map .str))]⟩ := fun w q1 q2 q3 => by
              rw [← hU]
              walk_at "nx"
              rw [cut_b (by decide)]
              refine ⟨by omega, ?_⟩
              rw [then_eq]
              refine add_wordN (N := 80) (by decide) rfl ⟨small_take q1 _, by rw [List.length_take]; show 1 ≤ min 12 _; omega, by rw [List.length_take]; exact Nat.min_le_left _ _⟩ hW rfl rfl rfl fun us hu hul => ?_
              walk_at "rt"
              exact hJ _ ⟨us, rfl, hu, by omega⟩
            by_cases h1 : (s.length : Int) = 1
            · rw [if_pos (decide_eq_true h1)]
              refine fun e e0 e1 => ?_
              have hfl : (List.replicate (5 + e).toNat s).flatten.length = (5 + e).toNat * s.length := by rw [List.length_flatten, List.map_replicate, List.sum_replicate_nat]
              have hs1' : s.length = 1 := by omega
              rw [hs1', Nat.mul_one] at hfl
              refine ⟨⟨by omega, by omega, by rw [hs1', Nat.one_mul]; omega⟩, ?_⟩
              exact hU1 _ (join_small (a := []) fun l hl => by rw [List.eq_of_mem_replicate hl]; exact hs) (by omega) (by omega)
            · rw [if_neg (fun z => h1 (of_decide_eq_true z))]
              exact hU1 w q1 q2 q3
          by_cases hf : f = 0
          · rw [if_pos (decide_eq_true hf)]
            refine fun e e0 e1 => ?_
            rw [cut_a e0]
            have dl : (w.drop e.toNat).length = w.length - e.toNat := List.length_drop ..
            refine ⟨by omega, by omega, ?_⟩
            exact hT1 _ (small_append (small_drop q1 _) s1) (by rw [List.length_append]; omega) (by rw [List.length_append]; omega)
          · rw [if_neg (fun z => hf (of_decide_eq_true z))]
            exact hT1 _ q1 (by omega) (by omega)
      · rintro A ⟨ws, rfl, hW, hwi⟩
        have fin : ∀ vs : List Tx, vs.Sublist ws → srtOk (vs.map D.str) ∧ ok_x__law_long_words [AR.o (.res storeRP)] (AR.o (.lst (srt (vs.map D.str)))) := fun vs hv => by
          have hV : Wds vs 80 := ⟨fun w hw => hW.1 w (hv.mem hw), hW.2.1.sublist hv, Nat.le_trans (sub_sum hv) hW.2.2⟩
          have := hv.length_le
          obtain ⟨w1, w2, w3, w4, w5⟩ := wds_sortedN hV
          refine ⟨w1, ?_⟩
          rw [w2]
          exact ⟨_, rfl, w3, by omega, w4⟩
        walk_at "nx"
        refine ⟨by omega, ?_⟩
        by_cases h1 : (s.length : Int) = 1
        · rw [if_pos (decide_eq_true h1)]
          refine fun e e0 e1 => ?_
          walk_at "nx"
          rw [cut_b (by omega), ← List.map_take]
          exact fin _ (List.take_sublist _ _)
        · rw [if_neg (fun z => h1 (of_decide_eq_true z))]
          walk_at "nx"
          exact fin _ (List.Sublist.refl _)
  · exact h.elim
end PD

set_option pp.maxSteps 1500
namespace PD
open PySem PySem.Spec PyProof.Rows L2
/-- a book of at most thirty words -/
def BookW (ws : List Tx) : Prop := Wds ws 80 ∧ ws.length ≤ 30
/-- texts of a paper -/
def PapW (ts : List Tx) : Prop := ts.length ≤ 3500 ∧ ∀ t ∈ ts, small t = true ∧ t.length ≤ 40
def tlp (p : Tx × Tx) : D := .tup [.str p.1, .str p.2]
/-- what is left of words that begin with a word, with the longer one -/
def firstOf (ws : List Tx) (one : Tx) : List (Tx × Tx) := (ws.filter fun o => decide (o ≠ one) && decide (one <+: o)).map fun o => (o.drop one.length, o)
def firstL (ws : List Tx) : List (Tx × Tx) := ws.flatMap (firstOf ws)
def behOf (t w : Tx) : List (Tx × Tx) := if w <+: t then [(t.drop w.length, [])] else if t <+: w then [(w.drop t.length, w.drop t.length)] else []
def behL (ws : List Tx) (t : Tx) : List (Tx × Tx) := ws.flatMap (behOf t)
/-- what is left where one of two texts begins with the other -/
def meet (a b : Tx) : Option Tx := if b <+: a then some (a.drop b.length) else if a <+: b then some (b.drop a.length) else none
theorem meet_comm (a b : Tx) : meet a b = meet b a := by
  unfold meet
  by_cases h1 : b <+: a
  · by_cases h2 : a <+: b
    · have e : a = b := List.IsPrefix.eq_of_length h2 (Nat.le_antisymm h2.length_le h1.length_le)
      rw [e]
    · rw [if_pos h1, if_neg h2, if_pos h1]
  · by_cases h2 : a <+: b
    · rw [if_neg h1, if_pos h2, if_pos h2]
    · rw [if_neg h1, if_neg h2, if_neg h2, if_neg h1]
theorem meet_min {a b : Tx} (h : a.take (min a.length b.length) = b.take (min a.length b.length)) : meet a b = some (if a.length < b.length then b.drop (min a.length b.length) else a.drop (min a.length b.length)) := by
  unfold meet
  by_cases hl : a.length < b.length
  · have e : min a.length b.length = a.length := by omega
    rw [e, List.take_length] at h
    have h1 : a <+: b := by rw [h]; exact List.take_prefix _ _
    have h2 : ¬ b <+: a := fun z => by have := z.length_le; omega
    rw [if_neg h2, if_pos h1, if_pos hl, e]
  · have e : min a.length b.length = b.length := by omega
    rw [e, List.take_length] at h
    have h1 : b <+: a := by rw [← h]; exact List.take_prefix _ _
    rw [if_pos h1, if_neg hl, e]
theorem meet_no {a b : Tx} (h : a.take (min a.length b.length) ≠ b.take (min a.length b.length)) : meet a b = none := by
  unfold meet
  by_cases h1 : b <+: a
  · refine absurd ?_ h
    obtain ⟨r, rfl⟩ := h1
    have e : min (b ++ r).length b.length = b.length := by rw [List.length_append]; omega
    rw [e, List.take_left, List.take_length]
  · by_cases h2 : a <+: b
    · refine absurd ?_ h
      obtain ⟨r, rfl⟩ := h2
      have e : min a.length (a ++ r).length = a.length := by rw [List.length_append]; omega
      rw [e, List.take_left, List.take_length]
    · rw [if_neg h1, if_neg h2]
theorem meet_tail {a b l : Tx} (h : meet a b = some l) : l <:+ a ∨ l <:+ b := by
  unfold meet at h
  split at h
  · exact .inl (by rw [← Option.some.inj h]; exact List.drop_suffix _ _)
  · split at h
    · exact .inr (by rw [← Option.some.inj h]; exact List.drop_suffix _ _)
    · cases h
theorem mem_beh {t w : Tx} {p : Tx × Tx} (h : p ∈ behOf t w) : meet t w = some p.1 := by
  unfold behOf at h
  unfold meet
  split at h
  · rename_i h1
    rw [List.mem_singleton] at h
    rw [if_pos h1, h]
  · rename_i h1
    split at h
    · rename_i h2
      rw [List.mem_singleton] at h
      rw [if_neg h1, if_pos h2, h]
    · simp at h
theorem beh_mem {t w l : Tx} (h : meet t w = some l) : ∃ p ∈ behOf t w, p.1 = l := by
  unfold behOf
  unfold meet at h
  split at h
  · rename_i h1
    exact ⟨_, by rw [if_pos h1]; exact List.mem_singleton.mpr rfl, Option.some.inj h⟩
  · rename_i h1
    split at h
    · rename_i h2
      exact ⟨_, by rw [if_neg h1, if_pos h2]; exact List.mem_singleton.mpr rfl, Option.some.inj h⟩
    · cases h
theorem mem_first {ws : List Tx} {p : Tx × Tx} (h : p ∈ firstL ws) : ∃ a ∈ ws, ∃ b ∈ ws, a ≠ b ∧ meet a b = some p.1 := by
  obtain ⟨one, h1, h2⟩ := List.mem_flatMap.mp h
  obtain ⟨o, h3, rfl⟩ := List.mem_map.mp h2
  obtain ⟨h4, h5⟩ := List.mem_filter.mp h3
  rw [Bool.and_eq_true] at h5
  refine ⟨o, h4, one, h1, of_decide_eq_true h5.1, ?_⟩
  unfold meet
  rw [if_pos (of_decide_eq_true h5.2)]
theorem first_mem {ws : List Tx} {a b l : Tx} (ha : a ∈ ws) (hb : b ∈ ws) (hn : a ≠ b) (h : meet a b = some l) : ∃ p ∈ firstL ws, p.1 = l := by
  unfold meet at h
  split at h
  · rename_i h1
    exact ⟨(a.drop b.length, a), List.mem_flatMap.mpr ⟨b, hb, List.mem_map.mpr ⟨a, List.mem_filter.mpr ⟨ha, by rw [decide_eq_true hn, decide_eq_true h1]; rfl⟩, rfl⟩⟩, Option.some.inj h⟩
  · split at h
    · rename_i h2
      exact ⟨(b.drop a.length, b), List.mem_flatMap.mpr ⟨a, ha, List.mem_map.mpr ⟨b, List.mem_filter.mpr ⟨hb, by rw [decide_eq_true (Ne.symm hn), decide_eq_true h2]; rfl⟩, rfl⟩⟩, Option.some.inj h⟩
    · cases h
/-- all that may be left, begun with some texts -/
inductive Leav (ws ms : List Tx) : Tx → Prop where
  | more {t : Tx} (h : t ∈ ms) : Leav ws ms t
  | first {a b l : Tx} (ha : a ∈ ws) (hb : b ∈ ws) (hn : a ≠ b) (h : meet a b = some l) : Leav ws ms l
  | step {t w l : Tx} (ht : Leav ws ms t) (hn : t ≠ []) (hw : w ∈ ws) (h : meet t w = some l) : Leav ws ms l
/-- a paper that shows that no text has two cuts -/
def Plain (ws ts : List Tx) : Prop := [] ∉ ts ∧ ts = setT ts ∧ (∀ a ∈ ws, ∀ b ∈ ws, a ≠ b → ∀ l, meet a b = some l → l ∈ ts) ∧ ∀ t ∈ ts, ∀ w ∈ ws, ∀ l, meet t w = some l → l ∈ ts
open Classical in
noncomputable def plainB (ws ts : List Tx) : Bool := decide (Plain ws ts)
def pre_words_in : List AR → Prop
  | [.d (.lst ds)] => ∃ ps : List (Tx × Int), ds = ps.map (fun p => pairD (.inr p.1, .int p.2)) ∧ ps.length ≤ 100
  | _ => False
def f_words_in : List AR → AR
  | [.d (.lst ds)] => .o (.lst ((keysT ds).map .str))
  | _ => .d .non
def pre_first_leavings : List AR → Prop
  | [.d (.lst xs)] => ∃ ws : List Tx, xs = ws.map .str ∧ BookW ws
  | _ => False
def f_first_leavings : List AR → AR
  | [.d (.lst xs)] => .o (.lst ((firstL (txo xs)).map tlp))
  | _ => .d .non
def pre_leavings_behind : List AR → Prop
  | [.d (.lst xs), .d (.str t)] => (∃ ws : List Tx, xs = ws.map .str ∧ BookW ws) ∧ small t = true ∧ t.length ≤ 100
  | _ => False
def f_leavings_behind : List AR → AR
  | [.d (.lst xs), .d (.str t)] => .o (.lst ((behL (txo xs) t).map tlp))
  | _ => .d .non
def pre_plain_shows : List AR → Prop
  | [.d (.lst ds), .d (.lst xs)] => (∃ ps : List (Tx × Int), ds = ps.map (fun p => pairD (.inr p.1, .int p.2)) ∧ BookW (ps.map (·.1))) ∧ ∃ ts : List Tx, xs = ts.map .str ∧ PapW ts
  | _ => False
noncomputable def f_plain_shows : List AR → AR
  | [.d (.lst ds), .d (.lst xs)] => .d (.bl (plainB (keysT ds) (txo xs)))
  | _ => .d .non
def pre_x__law_left : List AR → Prop
  | [.d (.lst xs), .d (.lst ys)] => (∃ ws : List Tx, xs = ws.map .str ∧ BookW ws) ∧ ∃ ms : List Tx, ys = ms.map .str ∧ ms.length ≤ 10 ∧ ∀ t ∈ ms, small t = true ∧ t.length ≤ 40
  | _ => False
def ok_x__law_left : List AR → AR → Prop
  | [.d (.lst xs), .d (.lst ys)], y => ∃ ts : List Tx, y = .o (.lst (ts.map .str)) ∧ ts.length ≤ 3000 ∧ (∀ t ∈ ts, small t = true ∧ t.length ≤ 40) ∧ ts = setT ts ∧ ∀ t, t ∈ ts ↔ Leav (txo xs) (txo ys) t
  | _, _ => False
def p_words_in : PTS :=
  (pRet (pLc (pItL (pVar 0)) (tgT [1, 2]) pYes (pVar 1) [1, 2]))
abbrev N_words_in : List Str := ["book", "word", "weight"]
def p_first_leavings : PTS :=
  (pSeq (pSet 1 (pLst pNil))
  (pSeq (pWip [2] (pFor (pItL (pVar 0)) (tgN 2) (pGw [2] [2] (pDrop (pLM lExtend (pVar 1) (pCons (pLc (pItL (pVar 0)) (tgN 3) (pAnd (pTest (pOp2 (bEq not) (pVar 3) (pVar 2))) (pTru (pM1 bStarts (pVar 3) (pVar 2)))) (pTup (pCons (pSl (pVar 3) (pPart (pCall cLen (pCons (pVar 2) pNil))) pNo) (pCons (pVar 3) pNil))) [3]) pNil))))))
  (pRet (pVar 1))))
abbrev N_first_leavings : List Str := ["words", "found", "one", "other"]
def p_leavings_behind : PTS :=
  (pSeq (pSet 2 (pLst pNil))
  (pSeq (pWip [3] (pFor (pItL (pVar 0)) (tgN 3) (pGw [3] [3] (pIf (pTru (pM1 bStarts (pVar 1) (pVar 3))) (pDrop (pLM lAppend (pVar 2) (pCons (pTup (pCons (pSl (pVar 1) (pPart (pCall cLen (pCons (pVar 3) pNil))) pNo) (pCons (pC (.str [])) pNil))) pNil)))
  (pIf (pTru (pM1 bStarts (pVar 3) (pVar 1))) (pDrop (pLM lAppend (pVar 2) (pCons (pTup (pCons (pSl (pVar 3) (pPart (pCall cLen (pCons (pVar 1) pNil))) pNo) (pCons (pSl (pVar 3) (pPart (pCall cLen (pCons (pVar 1) pNil))) pNo) pNil))) pNil)))
  pNext)))))
  (pRet (pVar 2))))
abbrev N_leavings_behind : List Str := ["words", "left", "found", "word"]
def p_plain_shows : PTS :=
  (pSeq (pSetD 2 (pCalls (callP pre_words_in f_words_in) (pCons (pVar 0) pNil)))
  (pSeq (pIf (pOr (pTest (pOp2 (bIn id) (pC (.str [])) (pVar 1))) (pTest (pOp2 (bEq not) (pVar 1) (pSrtSet (pVar 1))))) (pRet (pC (.bl false)))
  pNext)
  (pSeq (pSet 3 (pLc (pItL (pCalls (callP pre_first_leavings f_first_leavings) (pCons (pVar 2) pNil))) (tgT [5, 4]) pYes (pVar 5) [5, 4]))
  (pSeq (pWip [4] (pFor (pItL (pVar 1)) (tgN 4) (pGw [4] [4] (pDrop (pLM lExtend (pVar 3) (pCons (pLc (pItL (pCalls (callP pre_leavings_behind f_leavings_behind) (pCons (pVar 2) (pCons (pVar 4) pNil)))) (tgT [5, 6]) pYes (pVar 5) [5, 6]) pNil))))))
  (pRet (pOp2 (bEq id) (pLc (pItL (pVar 3)) (tgN 5) (pTest (pOp2 (bIn not) (pVar 5) (pVar 1))) (pVar 5) [5]) (pLst pNil)))))))
abbrev N_plain_shows : List Str := ["book", "paper", "words", "due", "text", "left", "more"]
def p_x__law_left : PTS :=
  (pSeq (pSet 2 (pCall cListB (pCons (pVar 1) pNil)))
  (pSeq (pWip [3] (pForM 2 (pItL (pVar 0)) (tgN 3) (pGx [3] [3] (pSet 2 (pOp2 bAdd (pVar 2) (pLc (pItL (pVar 0)) (tgN 9) (pAnd (pTest (pOp2 (bEq not) (pVar 9) (pVar 3))) (pTest (pOp2 (bEq id) (pSl (pVar 9) pNo (pPart (pCall cLen (pCons (pVar 3) pNil)))) (pVar 3)))) (pSl (pVar 9) (pPart (pCall cLen (pCons (pVar 3) pNil))) pNo) [9]))))))
  (pSeq (pSet 4 (pC (.int 0)))
  (pSeq (pWip [5, 6, 7, 8] (pWhile (pTest (pOp2 bLt (pVar 4) (pCall cLen (pCons (pVar 2) pNil)))) (pGw [5, 6, 7, 8] [4, 5, 6, 7, 8] (pSeq (pSetD 5 (pOp2 bIx (pVar 2) (pVar 4)))
  (pSeq (pSet 4 (pOp2 bAdd (pVar 4) (pC (.int 1))))
  (pWip [6, 7, 8] (pFor (pItL (pVar 0)) (tgN 6) (pGw [6, 7, 8] [6, 7, 8] (pSeq (pSet 7 (pCall cMin2 (pCons (pCall cLen (pCons (pVar 6) pNil)) (pCons (pCall cLen (pCons (pVar 5) pNil)) pNil))))
  (pIf (pAnd (pTest (pOp2 (bEq not) (pVar 5) (pC (.str [])))) (pTest (pOp2 (bEq id) (pSl (pVar 6) pNo (pPart (pVar 7))) (pSl (pVar 5) pNo (pPart (pVar 7)))))) (pSeq (pSetD 8 (pOp2 bIx (pLst (pCons (pSl (pVar 5) (pPart (pVar 7)) pNo) (pCons (pSl (pVar 6) (pPart (pVar 7)) pNo) pNil))) (pCall cInt (pCons (pOp2 bGt (pCall cLen (pCons (pVar 6) pNil)) (pCall cLen (pCons (pVar 5) pNil))) pNil))))
  (pIf (pTest (pOp2 (bIn not) (pVar 8) (pVar 2))) (pDrop (pLM lAppend (pVar 2) (pCons (pVar 8) pNil)))
  pNext))
  pNext))))))))))
  (pRet (pSrtSet (pVar 2)))))))
abbrev N_x__law_left : List Str := ["words", "more", "found", "one", "at", "text", "word", "least", "left", "other"]
local macro_rules | `(tactic| walk_at "rd") => `(tactic| simp (config := { decide := true }) only [pSeq_then, pNext, pNever, pBreak, pCont, pDrop, pRet, pRetN, pIf, pSet, pSetD, setD, setP, setO, pVar, pC, pOp2, pTest, pAnd, pOr, pNot, pAndV, pOrV, pNotV, pIfE, pNil, pCons, pLst, pTup, pDict0, pDictC, pDM, dUpdate, pCall, pIsiP, pM1, bJoin, pNo, pPart, pSl, pSortI, pLM, lAppend, lInsert, lExtend, lPopAt, lPop, lReverse, lClear, pLc_eq, pFor_eq, pWhile_eq, pWip, pGw, wipeS, trunc, truncE, pItL, pItS, pRng1, pRng2, pRng3, pVarF, pAug, pDictLen, pLr3, pNeg, pCalls, callP, pEnum, pStepS, pRevL, bStarts, bEnds, pAugK, pItK, pFz, pRaise, pCallX, callX, pTry, pIsX, pLr1, pM0, bUpper, cListB, cTuple, pOrT, pDictLenT, pBor, borE, scalD, pPickL, cSum, cAbs, pItS, pre_words_in, f_words_in, pre_first_leavings, f_first_leavings, pre_leavings_behind, f_leavings_behind, pre_plain_shows, f_plain_shows, pre_x__law_left,  merge_dictOf, filter_none, take_iff, callN, txo_map, deq_nilU, map_isEmpty, keysT_map, toAR, R.fz, view, views, dats, O.toD, AR.toR, bAdd, bSub, bMul, bDiv, bMod, bPow, bEq,  pSrtSet, pSrtSetS, pForM_eq, pGx, bCmp, bIn, bIs, bIx, bSl, cLen, cMin2, cMax2, cInt, cList, cDict, cSorted, plainD, isiB, tyn, pAsg, tgT, tgU, setsA, pSetIx, storeO, kdOf, pChain, cmpD, pYes, pTru, truD, Hand, tgN, wipeA, fnAbs, envA, ownsA, retA, conP, conN, List.set, List.set_cons_zero, List.set_cons_succ, List.set_nil, List.getElem?_cons_zero, List.getElem?_cons_succ, List.getElem?_nil, List.length_cons, List.length_nil, List.cons_append, List.nil_append, List.append_nil, List.replicate, Nat.reduceSub, Nat.reduceAdd, Nat.zero_add, Int.zero_add, true_and, and_true, reduceIte, Bool.false_eq_true, id, Bool.not_true, Bool.not_false, decide_true, decide_false, List.nodup_nil, List.nodup_cons, List.not_mem_nil, not_false_eq_true, List.take_zero, List.take_succ_cons, List.take_nil, List.map_cons, List.map_nil])
local macro_rules | `(tactic| walk_at "sc") => `(tactic| first | with_reducible assumption | omega | assumption | with_reducible rfl | with_reducible exact True.intro | with_reducible exact okD_ints | with_reducible exact okD_nil | with_reducible exact okD_int _ | with_reducible exact okD_bl _ | with_reducible exact okD_non | with_reducible exact okD_sm (by assumption) | with_reducible exact cmulR (by omega) (by omega) | with_reducible exact cmulL (by omega) (by omega) | with_reducible exact cdivw (by omega) (by omega) | (with_reducible refine smallI_of ?_ ?_ <;> first | omega | (simp only [List.length_map, List.length_append, List.length_range, List.length_replicate, List.length_cons, List.length_nil, List.length_take, List.length_drop]; omega)) | (unfold CPow; decide) | (simp only [List.length_map, List.length_append, List.length_range, List.length_replicate, List.length_cons, List.length_nil, List.length_take, List.length_drop]; omega) | (refine ⟨?_, ?_⟩ <;> walk_at "sc"))
local macro_rules | `(tactic| walk_at "go") => `(tactic| repeat (first | walk_at "rd" | with_reducible refine then_go ?_ | (refine And.intro (by walk_at "sc") ?_) | (refine dict_of (by assumption) ?_) | rw [deq_self (by walk_at "sc")] | walk_at "sc"))
local macro_rules | `(tactic| walk_at "rt") => `(tactic| try walk_at "rd")
local macro_rules | `(tactic| walk_at "nx") => `(tactic| ((try dsimp only); rw [then_eq]; walk_at "rd"))
theorem fm_len {α β : Type} {f : α → List β} {k : Nat} : ∀ {xs : List α}, (∀ x ∈ xs, (f x).length ≤ k) → (xs.flatMap f).length ≤ xs.length * k
  | [], _ => by simp
  | x :: r, h => by
    have h1 := h x (by simp)
    have h2 := fm_len (xs := r) fun y hy => h y (by simp [hy])
    rw [List.flatMap_cons, List.length_append, List.length_cons, Nat.add_mul, Nat.one_mul]
    omega
theorem behOf_len (t w : Tx) : (behOf t w).length ≤ 1 := by
  unfold behOf
  split
  · exact Nat.le_refl _
  · split
    · exact Nat.le_refl _
    · exact Nat.zero_le _
theorem firstOf_len (ws : List Tx) (o : Tx) : (firstOf ws o).length ≤ ws.length := by
  unfold firstOf
  rw [List.length_map]
  exact List.length_filter_le _ _
theorem set_W {xs : List Tx} {zs : List Kd} (hx : ∀ x ∈ xs, small x = true) (hn : zs.Nodup) (hm : ∀ k, k ∈ zs ↔ k ∈ xs.map Sum.inr) : srtOk (zs.map kD) ∧ srt (zs.map kD) = (setT xs).map D.str := by
  obtain ⟨z1, ys, z2, z3, z4⟩ := set_texts (fun a ha => small_okX (hx a ha)) hn hm
  exact ⟨z1, by rw [z2, setT_eq z3 z4]⟩
theorem r_words_in : Law p_words_in N_words_in 1 (conP pre_words_in f_words_in) := fun ars h => by
  have h : pre_words_in ars := h
  unfold pre_words_in at h
  split at h
  · obtain ⟨ps, rfl, hl⟩ := h
    refine ⟨rfl, ?_⟩
    unfold p_words_in endsA
    walk_at "rd"
    refine lc_each (xs := ps) (f := fun p => pairD (.inr p.1, .int p.2)) (fun p => .str p.1) trivial (by omega) (fun p hp => ⟨_, rfl, fun J hJ => ?_⟩) ?_
    · walk_at "go"
    · walk_at "go"
      rw [List.map_map]
      rfl
  · exact h.elim
theorem r_first_leavings : Law p_first_leavings N_first_leavings 1 (conP pre_first_leavings f_first_leavings) := fun ars h => by
  have h : pre_first_leavings ars := h
  unfold pre_first_leavings at h
  split at h
  · obtain ⟨ws, rfl, hW, hl⟩ := h
    refine ⟨rfl, ?_⟩
    unfold p_first_leavings endsA
    walk_at "go"
    refine for_over (xs := ws) (f := D.str) (fun pre A => A = ⟨[AV.d (.lst (ws.map .str)), .p 0, .un, .un], [some (.lst ((pre.flatMap (firstOf ws)).map tlp))]⟩) rfl (by intros; trivial) ?_ ?_
    · rintro pre one post A e rfl
      have hone := hW.1 one (by rw [e]; simp)
      have h30 := fm_len (xs := pre) fun o _ => firstOf_len ws o
      have hpl : pre.length ≤ ws.length := by rw [e, List.length_append]; omega
      have h31 : pre.length * ws.length ≤ 30 * 30 := Nat.mul_le_mul (by omega) hl
      refine ⟨_, rfl, fun J Kb hJ hK => ?_⟩
      walk_at "go"
      refine lc_over (xs := ws) (f := D.str) (fun o => decide (o ≠ one) && decide (one <+: o)) (fun o => tlp (o.drop one.length, o)) trivial (by omega) (fun o ho => ⟨_, rfl, fun J2 hJ2 => ?_⟩) ?_
      · have ho2 := hW.1 o ho
        have hl1 := hone.2.2
        have hl2 := ho2.2.2
        walk_at "rd"
        by_cases hn : o = one
        · rw [if_neg (by simp [hn])]
          rw [if_neg (by simp [hn])] at hJ2
          exact hJ2
        · rw [if_pos (by simp [hn])]
          by_cases hs : one <+: o
          · rw [if_pos (by simp [hn, hs])] at hJ2
            rw [if_pos (decide_eq_true hs)]
            refine ⟨by omega, by omega, ?_⟩
            rw [cut_a (by omega), Int.toNat_natCast]
            exact hJ2
          · rw [if_neg (by simp [hs])] at hJ2
            rw [if_neg (by simp [hs])]
            exact hJ2
      · have es : (pre ++ [one]).flatMap (firstOf ws) = pre.flatMap (firstOf ws) ++ firstOf ws one := by rw [List.flatMap_append, List.flatMap_cons, List.flatMap_nil, List.append_nil]
        have hJ := hJ _ rfl
        rw [es, List.map_append] at hJ
        have ef : (firstOf ws one).map tlp = ((ws.filter fun o => decide (o ≠ one) && decide (one <+: o)).map fun o => tlp (o.drop one.length, o)) := by unfold firstOf; rw [List.map_map]; rfl
        have hfl := firstOf_len ws one
        rw [← List.length_map (f := tlp), ef] at hfl
        rw [ef] at hJ
        walk_at "rd"
        exact ⟨by rw [List.length_map]; omega, hJ⟩
    · rintro A rfl
      walk_at "nx"
      exact ⟨_, rfl, rfl⟩
  · exact h.elim
theorem r_leavings_behind : Law p_leavings_behind N_leavings_behind 2 (conP pre_leavings_behind f_leavings_behind) := fun ars h => by
  have h : pre_leavings_behind ars := h
  unfold pre_leavings_behind at h
  split at h
  · rename_i xs t _
    obtain ⟨⟨ws, rfl, hW, hl⟩, ht, htl⟩ := h
    refine ⟨rfl, ?_⟩
    unfold p_leavings_behind endsA
    walk_at "go"
    refine for_over (xs := ws) (f := D.str) (fun pre A => A = ⟨[AV.d (.lst (ws.map .str)), .d (.str t), .p 0, .un], [some (.lst ((pre.flatMap (behOf t)).map tlp))]⟩) rfl (by intros; trivial) ?_ ?_
    · rintro pre w post A e rfl
      have hone := hW.1 w (by rw [e]; simp)
      have h30 := fm_len (xs := pre) fun o _ => behOf_len t o
      have hw3 := hone.2.2
      have hpl : pre.length ≤ ws.length := by rw [e, List.length_append]; omega
      have es : (pre ++ [w]).flatMap (behOf t) = pre.flatMap (behOf t) ++ behOf t w := by rw [List.flatMap_append, List.flatMap_cons, List.flatMap_nil, List.append_nil]
      refine ⟨_, rfl, fun J Kb hJ hK => ?_⟩
      walk_at "go"
      by_cases h1 : w <+: t
      · have eb : behOf t w = [(t.drop w.length, [])] := by unfold behOf; rw [if_pos h1]
        have hJ := hJ _ rfl
        rw [es, eb, List.map_append] at hJ
        rw [decide_eq_true h1]
        rw [cut_a (by omega), Int.toNat_natCast]
        exact ⟨by omega, by omega, by rw [List.length_map]; omega, hJ⟩
      · rw [if_neg (fun z => h1 (of_decide_eq_true z))]
        have hJ := hJ _ rfl
        rw [es, List.map_append] at hJ
        by_cases h2 : t <+: w
        · have eb : behOf t w = [(w.drop t.length, w.drop t.length)] := by unfold behOf; rw [if_neg h1, if_pos h2]
          rw [eb] at hJ
          rw [if_pos (decide_eq_true h2)]
          rw [cut_a (by omega), Int.toNat_natCast]
          exact ⟨by omega, by omega, by omega, by omega, by rw [List.length_map]; omega, hJ⟩
        · have eb : behOf t w = [] := by unfold behOf; rw [if_neg h1, if_neg h2]
          rw [eb, List.map_nil, List.append_nil] at hJ
          rw [if_neg (fun z => h2 (of_decide_eq_true z))]
          exact hJ
    · rintro A rfl
      walk_at "nx"
      exact ⟨_, rfl, rfl⟩
  · exact h.elim
theorem plain_no {ws ts : List Tx} (h : ¬ Plain ws ts) : plainB ws ts = false := by
  unfold plainB
  simp [h]
theorem plain_yes {ws ts : List Tx} (h : Plain ws ts) : plainB ws ts = true := by
  unfold plainB
  simp [h]
theorem deq_strs' (a b : List Tx) : deq (.lst (a.map D.str)) (.lst (b.map D.str)) = decide (a = b) := by
  rw [deq_lst]
  exact deqs_map D.str (fun x y => deq_str x y) a b
theorem behL_len (ws : List Tx) (t : Tx) : (behL ws t).length ≤ ws.length := by
  have := fm_len (xs := ws) fun o _ => behOf_len t o
  unfold behL
  omega
theorem firstL_len (ws : List Tx) : (firstL ws).length ≤ ws.length * ws.length := fm_len fun o _ => firstOf_len ws o
def dueL (ws ts : List Tx) : List Tx := (firstL ws).map (·.1) ++ ts.flatMap fun t => (behL ws t).map (·.1)
theorem dueL_snoc (ws pre : List Tx) (t : Tx) : dueL ws (pre ++ [t]) = dueL ws pre ++ (behL ws t).map (·.1) := by
  unfold dueL
  rw [List.flatMap_append, List.flatMap_cons, List.flatMap_nil, List.append_nil, List.append_assoc]
theorem small_suf {a l : Tx} (h : l <:+ a) (hs : small a = true) : small l = true := by
  obtain ⟨p, rfl⟩ := h
  unfold small at hs ⊢
  rw [List.all_append, Bool.and_eq_true] at hs
  exact hs.2
theorem due_mem {ws ts : List Tx} {l : Tx} (h : l ∈ dueL ws ts) : (∃ a ∈ ws, ∃ b ∈ ws, a ≠ b ∧ meet a b = some l) ∨ ∃ t ∈ ts, ∃ w ∈ ws, meet t w = some l := by
  unfold dueL at h
  rcases List.mem_append.mp h with h | h
  · obtain ⟨p, hp, rfl⟩ := List.mem_map.mp h
    exact .inl (mem_first hp)
  · obtain ⟨t, ht, h⟩ := List.mem_flatMap.mp h
    obtain ⟨p, hp, rfl⟩ := List.mem_map.mp h
    obtain ⟨w, hw, hp⟩ := List.mem_flatMap.mp hp
    exact .inr ⟨t, ht, w, hw, mem_beh hp⟩
theorem due_small {ws ts : List Tx} {l : Tx} (hw : ∀ w ∈ ws, small w = true) (ht : ∀ t ∈ ts, small t = true) (h : l ∈ dueL ws ts) : small l = true := by
  rcases due_mem h with ⟨a, ha, b, hb, _, e⟩ | ⟨t, h1, w, h2, e⟩
  · rcases meet_tail e with q | q
    · exact small_suf q (hw a ha)
    · exact small_suf q (hw b hb)
  · rcases meet_tail e with q | q
    · exact small_suf q (ht t h1)
    · exact small_suf q (hw w h2)
theorem plain_iff {ws ts : List Tx} (h1 : [] ∉ ts) (h2 : ts = setT ts) : Plain ws ts ↔ ∀ l ∈ dueL ws ts, l ∈ ts := by
  constructor
  · rintro ⟨_, _, h3, h4⟩ l hl
    rcases due_mem hl with ⟨a, ha, b, hb, hn, e⟩ | ⟨t, ht, w, hw, e⟩
    · exact h3 a ha b hb hn l e
    · exact h4 t ht w hw l e
  · intro h
    refine ⟨h1, h2, fun a ha b hb hn l e => ?_, fun t ht w hw l e => ?_⟩
    · obtain ⟨p, hp, rfl⟩ := first_mem ha hb hn e
      exact h _ (List.mem_append_left _ (List.mem_map.mpr ⟨p, hp, rfl⟩))
    · obtain ⟨p, hp, rfl⟩ := beh_mem e
      exact h _ (List.mem_append_right _ (List.mem_flatMap.mpr ⟨t, ht, List.mem_map.mpr ⟨p, List.mem_flatMap.mpr ⟨w, hw, hp⟩, rfl⟩⟩))
theorem r_plain_shows : Law p_plain_shows N_plain_shows 2 (conP pre_plain_shows f_plain_shows) := fun ars h => by
  have h : pre_plain_shows ars := h
  unfold pre_plain_shows at h
  split at h
  · obtain ⟨⟨ps, rfl, hW, hl⟩, ts, rfl, ht1, ht2⟩ := h
    refine ⟨rfl, ?_⟩
    unfold p_plain_shows endsA
    walk_at "rd"
    refine ⟨⟨ps, rfl, by rw [List.length_map] at hl; omega⟩, ?_⟩
    have okt : okD (.lst (ts.map D.str)) := okD_strS fun t ht => (ht2 t ht).1
    generalize ps.map (·.1) = ws at hW hl ⊢
    walk_at "nx"
    refine ⟨okD_sm rfl, okt, ?_⟩
    rw [any_str]
    by_cases hA : [] ∈ ts
    · rw [if_pos (decide_eq_true hA)]
      rw [plain_no fun z => z.1 hA]
    · rw [if_neg (fun z => hA (of_decide_eq_true z))]
      refine ⟨_, inr_kD _, by rw [List.length_map]; omega, fun zs zn zm => ?_⟩
      obtain ⟨z1, z2⟩ := set_W (fun t ht => (ht2 t ht).1) zn zm
      refine ⟨z1, okt, ?_⟩
      rw [z2]
      refine ⟨okD_strS fun t ht => (ht2 t (setT_mem.mp ht)).1, ?_⟩
      rw [deq_strs']
      by_cases hB : ts = setT ts
      · rw [if_neg (by rw [decide_eq_true hB]; simp)]
        walk_at "nx"
        have hf9 := firstL_len ws
        have hf8 : ws.length * ws.length ≤ 30 * 30 := Nat.mul_le_mul hl hl
        refine ⟨⟨ws, rfl, hW, hl⟩, ?_⟩
        refine lc_each (xs := firstL ws) (f := tlp) (fun p => .str p.1) trivial (by omega) (fun p hp => ⟨_, rfl, fun J hJ => ?_⟩) ?_
        · walk_at "go"
        · walk_at "rd"
          walk_at "nx"
          have hd5 : ∀ us : List Tx, us.length ≤ 3500 → (dueL ws us).length ≤ 900 + 3500 * 30 := fun us hu => by
            unfold dueL
            have h1 := fm_len (xs := us) (f := fun t => (behL ws t).map (·.1)) (k := 30) fun t _ => by rw [List.length_map]; have := behL_len ws t; omega
            have h2 : us.length * 30 ≤ 3500 * 30 := Nat.mul_le_mul_right _ hu
            rw [List.length_append, List.length_map]
            omega
          refine for_over (xs := ts) (f := D.str) (fun pre A => A = ⟨[AV.d (.lst (ps.map fun p => pairD (.inr p.1, .int p.2))), .d (.lst (ts.map .str)), .d (.lst (ws.map .str)), .p 0, .un, .un, .un], [some (.lst ((dueL ws pre).map .str))]⟩) (by unfold dueL; rw [List.flatMap_nil, List.append_nil, List.map_map]; rfl) (by intros; trivial) ?_ ?_
          · rintro pre t post A e rfl
            have ht3 := ht2 t (by rw [e]; simp)
            have hpl : pre.length ≤ 3500 := by have := congrArg List.length e; rw [List.length_append] at this; omega
            have hd6 := hd5 pre hpl
            refine ⟨_, rfl, fun J Kb hJ hK => ?_⟩
            have hb := behL_len ws t
            have hJ := hJ _ rfl
            rw [dueL_snoc, List.map_append] at hJ
            walk_at "rd"
            refine ⟨⟨⟨ws, rfl, hW, hl⟩, ht3.1, by omega⟩, ?_⟩
            refine lc_each (xs := behL ws t) (f := tlp) (fun p => .str p.1) trivial (by omega) (fun p hp => ⟨_, rfl, fun J2 hJ2 => ?_⟩) ?_
            · walk_at "go"
            · walk_at "rd"
              refine ⟨by rw [List.length_map, List.length_map]; omega, ?_⟩
              rw [List.map_map] at hJ
              exact hJ
          · rintro A rfl
            have hd7 := hd5 ts ht1
            have hds : ∀ l ∈ dueL ws ts, small l = true := fun l hl => due_small (fun w hw => (hW.1 w hw).1) (fun t ht => (ht2 t ht).1) hl
            walk_at "nx"
            refine lc_over (xs := dueL ws ts) (f := D.str) (fun l => decide (l ∉ ts)) .str rfl (by omega) (fun l hl => ⟨_, rfl, fun J hJ => ?_⟩) ?_
            · walk_at "rd"
              refine ⟨okD_sm (hds l hl), okt, ?_⟩
              rw [any_str]
              by_cases hm : l ∈ ts
              · rw [if_neg (by simp [hm])] at hJ
                rw [if_neg (by simp [hm])]
                exact hJ
              · rw [if_pos (by simp [hm])] at hJ
                rw [if_pos (by simp [hm])]
                exact hJ
            · walk_at "rd"
              refine ⟨okD_strS fun l hl => hds l (List.mem_filter.mp hl).1, okD_nil, ?_⟩
              by_cases hP : ∀ l ∈ dueL ws ts, l ∈ ts
              · rw [plain_yes ((plain_iff hA hB).mpr hP), show (dueL ws ts).filter (fun l => decide (l ∉ ts)) = [] from List.filter_eq_nil_iff.mpr fun l hl => by simp [hP l hl]]
                rfl
              · rw [plain_no fun z => hP ((plain_iff hA hB).mp z)]
                cases hz : (dueL ws ts).filter fun l => decide (l ∉ ts) with
                | nil => exact absurd (fun l hl => by have := List.filter_eq_nil_iff.mp hz l hl; simpa using this) hP
                | cons _ _ => rfl
      · rw [if_pos (by rw [decide_eq_false hB]; simp)]
        rw [plain_no fun z => hB z.2.1]
  · exact h.elim
def tailsT (v : Tx) : List Tx := (List.range (v.length + 1)).map fun k => v.drop k
theorem mem_tails {v l : Tx} (h : l <:+ v) : l ∈ tailsT v := by
  obtain ⟨p, rfl⟩ := h
  exact List.mem_map.mpr ⟨p.length, List.mem_range.mpr (by rw [List.length_append]; omega), List.drop_left⟩
theorem leav_tail {ws ms : List Tx} {t : Tx} (h : Leav ws ms t) : ∃ v ∈ ws ++ ms, t <:+ v := by
  induction h with
  | more h => exact ⟨_, List.mem_append_right _ h, List.suffix_refl _⟩
  | first ha hb hn h =>
    rcases meet_tail h with q | q
    · exact ⟨_, List.mem_append_left _ ha, q⟩
    · exact ⟨_, List.mem_append_left _ hb, q⟩
  | step ht hn hw h ih =>
    obtain ⟨v, hv, hs⟩ := ih
    rcases meet_tail h with q | q
    · exact ⟨v, hv, q.trans hs⟩
    · exact ⟨_, List.mem_append_left _ hw, q⟩
/-- what is found so far -/
structure LI (ws ms I : List Tx) (k : Nat) (F : List Tx) : Prop where
  nd : F.Nodup
  lv : ∀ t ∈ I ++ F, Leav ws ms t
  cl : ∀ j t, j < k → (I ++ F)[j]? = some t → t ≠ [] → ∀ w ∈ ws, ∀ l, meet t w = some l → l ∈ I ++ F
theorem LI.few {ws ms I F : List Tx} {k : Nat} (h : LI ws ms I k F) (hw : ∀ w ∈ ws, w.length ≤ 12) (hl : ws.length ≤ 30) (hm : ∀ t ∈ ms, t.length ≤ 40) (hm1 : ms.length ≤ 10) : F.length ≤ 1640 := by
  have h1 : F.length ≤ ((ws ++ ms).flatMap tailsT).length := nodup_len h.nd fun t ht => by
    obtain ⟨v, hv, hs⟩ := leav_tail (h.lv t (List.mem_append_right _ ht))
    exact List.mem_flatMap.mpr ⟨v, hv, mem_tails hs⟩
  have h2 := fm_len (xs := ws ++ ms) (f := tailsT) (k := 41) fun v hv => by
    unfold tailsT
    rw [List.length_map, List.length_range]
    rcases List.mem_append.mp hv with hv | hv
    · have := hw v hv; omega
    · have := hm v hv; omega
  have h3 : (ws ++ ms).length * 41 ≤ 40 * 41 := Nat.mul_le_mul_right _ (by rw [List.length_append]; omega)
  omega
theorem LI.sm {ws ms I F : List Tx} {k : Nat} (h : LI ws ms I k F) (hw : ∀ w ∈ ws, isWord w) (hm : ∀ t ∈ ms, small t = true ∧ t.length ≤ 40) : ∀ t ∈ I ++ F, small t = true ∧ t.length ≤ 40 := fun t ht => by
  obtain ⟨v, hv, hs⟩ := leav_tail (h.lv t ht)
  rcases List.mem_append.mp hv with hv | hv
  · have h1 := hw v hv
    exact ⟨small_suf hs h1.1, by have := hs.length_le; have := h1.2.2; omega⟩
  · have h1 := hm v hv
    exact ⟨small_suf hs h1.1, by have := hs.length_le; omega⟩
theorem LI.more {ws ms I F : List Tx} {k : Nat} {l : Tx} (h : LI ws ms I k F) (hk : k ≤ (I ++ F).length) (hl : Leav ws ms l) (hn : l ∉ I ++ F) : LI ws ms I k (F ++ [l]) where
  nd := List.nodup_append.mpr ⟨h.nd, List.nodup_cons.mpr ⟨by simp, List.nodup_nil⟩, fun a ha b hb e => hn (by rw [List.mem_singleton] at hb; rw [← hb, ← e]; exact List.mem_append_right _ ha)⟩
  lv := fun t ht => by
    rw [← List.append_assoc] at ht
    rcases List.mem_append.mp ht with ht | ht
    · exact h.lv t ht
    · rw [List.mem_singleton] at ht
      rw [ht]
      exact hl
  cl := fun j t hj e ht w hw l' hm => by
    rw [← List.append_assoc] at e ⊢
    rw [List.getElem?_append_left (by omega)] at e
    exact List.mem_append_left _ (h.cl j t hj e ht w hw l' hm)
theorem LI.done {ws ms I F : List Tx} (h : LI ws ms I (I ++ F).length F) (h1 : ∀ t ∈ ms, t ∈ I) (h2 : ∀ a ∈ ws, ∀ b ∈ ws, a ≠ b → ∀ l, meet a b = some l → l ∈ I) (t : Tx) : t ∈ I ++ F ↔ Leav ws ms t := by
  refine ⟨h.lv t, fun q => ?_⟩
  induction q with
  | more q => exact List.mem_append_left _ (h1 _ q)
  | first ha hb hn e => exact List.mem_append_left _ (h2 _ ha _ hb hn _ e)
  | step ht hn hw e ih =>
    obtain ⟨j, hj, rfl⟩ := List.mem_iff_getElem.mp ih
    exact h.cl j _ hj (List.getElem?_eq_getElem hj) hn _ hw _ e
theorem r_x__law_left : Law p_x__law_left N_x__law_left 2 (conN pre_x__law_left ok_x__law_left) := fun ars h => by
  have h : pre_x__law_left ars := h
  unfold pre_x__law_left at h
  split at h
  · obtain ⟨⟨ws, rfl, hW, hl⟩, ms, rfl, hm1, hm2⟩ := h
    refine ⟨rfl, ?_⟩
    unfold p_x__law_left endsA
    have hsm : ∀ w ∈ ws, w.length ≤ 12 := fun w hw => (hW.1 w hw).2.2
    walk_at "go"
    refine forM_gen (xs := ws) (f := D.str) (List.length_map _) (fun i h => itL_map h) (fun pre A => A = ⟨[AV.d (.lst (ws.map .str)), .d (.lst (ms.map .str)), .p 1, .un, .un, .un, .un, .un, .un, .un], [none, some (.lst ((ms ++ (pre.flatMap (firstOf ws)).map (·.1)).map .str))]⟩) (by simp only [List.flatMap_nil, List.map_nil, List.append_nil]; rfl) (by intros; trivial) ?_ ?_
    · rintro pre one post A e rfl
      have hone := hW.1 one (by rw [e]; simp)
      have hw3 := hone.2.2
      have h30 := fm_len (xs := pre) fun o _ => firstOf_len ws o
      have hpl : pre.length ≤ ws.length := by rw [e, List.length_append]; omega
      have h31 : pre.length * ws.length ≤ 30 * 30 := Nat.mul_le_mul (by omega) hl
      refine ⟨_, rfl, fun J Kb hJ hK => ?_⟩
      walk_at "rd"
      refine lc_over (xs := ws) (f := D.str) (fun o => decide (o ≠ one) && decide (one <+: o)) (fun o => .str (o.drop one.length)) trivial (by omega) (fun o ho => ⟨_, rfl, fun J2 hJ2 => ?_⟩) ?_
      · have ho2 := hW.1 o ho
        have ho3 := ho2.2.2
        walk_at "rd"
        by_cases hn : o = one
        · rw [if_neg (by simp [hn])]
          rw [if_neg (by simp [hn])] at hJ2
          exact hJ2
        · rw [if_pos (by simp [hn])]
          refine ⟨by omega, by omega, ?_⟩
          rw [cut_b (by omega), cut_a (by omega), Int.toNat_natCast]
          by_cases hs : one <+: o
          · rw [if_pos (by simp [hn, hs])] at hJ2
            rw [if_pos (decide_eq_true (List.prefix_iff_eq_take.mp hs).symm)]
            exact ⟨by omega, by omega, hJ2⟩
          · rw [if_neg (by simp [hs])] at hJ2
            rw [if_neg (fun z => hs (List.prefix_iff_eq_take.mpr (of_decide_eq_true z).symm))]
            exact hJ2
      · walk_at "rd"
        have es : (pre ++ [one]).flatMap (firstOf ws) = pre.flatMap (firstOf ws) ++ firstOf ws one := by rw [List.flatMap_append, List.flatMap_cons, List.flatMap_nil, List.append_nil]
        have ef : ((firstOf ws one).map (·.1)).map D.str = ((ws.filter fun o => decide (o ≠ one) && decide (one <+: o)).map fun o => .str (o.drop one.length)) := by unfold firstOf; rw [List.map_map, List.map_map]; rfl
        have hfl := firstOf_len ws one
        refine ⟨by rw [List.length_map, List.length_append, List.length_map, List.length_map]; have := List.length_filter_le (fun o => decide (o ≠ one) && decide (one <+: o)) ws; omega, ?_⟩
        rw [← ef, ← List.map_append, List.append_assoc, ← List.map_append, ← es]
        exact hJ _ rfl
    · rintro A rfl
      obtain ⟨I, hI⟩ : ∃ I, I = ms ++ (ws.flatMap (firstOf ws)).map (·.1) := ⟨_, rfl⟩
      have hI1 : ∀ t ∈ ms, t ∈ I := fun t ht => by rw [hI]; exact List.mem_append_left _ ht
      have hI2 : ∀ a ∈ ws, ∀ b ∈ ws, a ≠ b → ∀ l, meet a b = some l → l ∈ I := fun a ha b hb hn l e => by
        obtain ⟨p, hp, rfl⟩ := first_mem ha hb hn e
        rw [hI]
        exact List.mem_append_right _ (List.mem_map.mpr ⟨p, hp, rfl⟩)
      have hI3 : ∀ t ∈ I, Leav ws ms t := fun t ht => by
        rw [hI] at ht
        rcases List.mem_append.mp ht with ht | ht
        · exact .more ht
        · obtain ⟨p, hp, rfl⟩ := List.mem_map.mp ht
          obtain ⟨a, ha, b, hb, hn, e⟩ := mem_first hp
          exact .first ha hb hn e
      have hIl : I.length ≤ 910 := by
        have h1 := firstL_len ws
        have h2 : ws.length * ws.length ≤ 30 * 30 := Nat.mul_le_mul hl hl
        rw [hI, List.length_append, List.length_map]
        unfold firstL at h1
        omega
      rw [← hI]
      walk_at "nx"
      walk_at "nx"
      refine while_run (fun m A => ∃ (k : Nat) (F : List Tx), m + k = 2600 ∧ k ≤ (I ++ F).length ∧ LI ws ms I k F ∧ A = ⟨[AV.d (.lst (ws.map .str)), .d (.lst (ms.map .str)), .p 1, .un, .d (.int k), .un, .un, .un, .un, .un], [none, some (.lst ((I ++ F).map .str))]⟩) 2600 ⟨0, [], rfl, Nat.zero_le _, ⟨List.nodup_nil, fun t ht => hI3 t (by rwa [List.append_nil] at ht), fun j t hj => absurd hj (Nat.not_lt_zero _)⟩, by rw [List.append_nil]; rfl⟩ ?_
      rintro m A ⟨k, F, hmk, hk, hF, rfl⟩ J Kb hJ hK
      have hFl := hF.few hsm hl (fun t ht => (hm2 t ht).2) hm1
      have hFs := hF.sm hW.1 hm2
      have hIF : (I ++ F).length ≤ 2550 := by rw [List.length_append]; omega
      by_cases hlt : k < (I ++ F).length
      · walk_at "rd"
        rw [List.length_map, if_pos (decide_eq_true (show (k : Int) < ((I ++ F).length : Int) by omega))]
        have ak := atI_nat (xs := (I ++ F).map D.str) (m := k) (by rw [List.length_map]; exact hlt)
        rw [List.getElem_map] at ak
        have htk : (I ++ F)[k]? = some (I ++ F)[k] := List.getElem?_eq_getElem hlt
        have ht := hFs _ (List.getElem_mem hlt)
        have htL := hF.lv _ (List.getElem_mem hlt)
        generalize (I ++ F)[k] = t at ak htk ht htL
        refine ⟨_, ak, ?_⟩
        walk_at "nx"
        walk_at "nx"
        refine for_over (xs := ws) (f := D.str) (fun pre A => ∃ G : List Tx, A = ⟨[AV.d (.lst (ws.map .str)), .d (.lst (ms.map .str)), .p 1, .un, .d (.int (k + 1)), .d (.str t), .un, .un, .un, .un], [none, some (.lst ((I ++ G).map .str))]⟩ ∧ LI ws ms I k G ∧ (I ++ G)[k]? = some t ∧ (t ≠ [] → ∀ w ∈ pre, ∀ l, meet t w = some l → l ∈ I ++ G)) ⟨F, rfl, hF, htk, fun _ w hw => by simp at hw⟩ (by intros; trivial) ?_ ?_
        · rintro pre w post A e ⟨G, rfl, hG, hGt, hGc⟩
          have hww : w ∈ ws := by rw [e]; simp
          have hw2 := hW.1 w hww
          have hw3 := hw2.2.2
          have hGl := hG.few hsm hl (fun t ht => (hm2 t ht).2) hm1
          have hGs := hG.sm hW.1 hm2
          have hGk : k ≤ (I ++ G).length := by have := (List.getElem?_eq_some_iff.mp hGt).1; omega
          refine ⟨_, rfl, fun J2 Kb2 hJ2 hK2 => ?_⟩
          walk_at "rd"
          refine ⟨by omega, by omega, ?_⟩
          walk_at "nx"
          have em : (if (t.length : Int) < (w.length : Int) then (t.length : Int) else (w.length : Int)) = ((min t.length w.length : Nat) : Int) := by split <;> omega
          rw [em, cut_b (by omega), cut_b (by omega), cut_a (by omega), cut_a (by omega), Int.toNat_natCast]
          have hskip : ∀ v : Nat, (t ≠ [] → meet t w = none) → J2 ⟨[AV.d (.lst (ws.map .str)), .d (.lst (ms.map .str)), .p 1, .un, .d (.int (k + 1)), .d (.str t), .un, .un, .un, .un], [none, some (.lst ((I ++ G).map .str))]⟩ := fun _ hno => hJ2 _ ⟨G, rfl, hG, hGt, fun ht0 v hv l hm => by
            rcases List.mem_append.mp hv with hv | hv
            · exact hGc ht0 v hv l hm
            · rw [List.mem_singleton] at hv
              rw [hv, hno ht0] at hm
              cases hm⟩
          by_cases ht0 : t = []
          · rw [if_neg (by simp [ht0])]
            exact hskip 0 fun z => absurd ht0 z
          · rw [if_pos (by simp [ht0])]
            refine ⟨by omega, by omega, ?_⟩
            by_cases heq : w.take (min t.length w.length) = t.take (min t.length w.length)
            · rw [if_pos (decide_eq_true heq)]
              have hmm := meet_min heq.symm
              have hgo : ∀ l, meet t w = some l → Then
                        (pIf (pTest (pOp2 (bIn not) (pVar 8) (pVar 2)))
                          (pDrop (pLM lAppend (pVar 2) (pCons (pVar 8) pNil))) pNext)
                        {
                          nx := fun A' =>
                            J2
                              { env := (((List.map (truncE 2) A'.env).set 8 AV.un).set 7 AV.un).set 6 AV.un,
                                M := List.take 2 A'.M },
                          rt :=
                            retA 0 fun y os =>
                              ok_x__law_left [AR.d (D.lst (List.map D.str ws)), AR.d (D.lst (List.map D.str ms))] y ∧
                                os = [],
                          bk := fun A' =>
                            Kb2
                              { env := (((List.map (truncE 2) A'.env).set 8 AV.un).set 7 AV.un).set 6 AV.un,
                                M := List.take 2 A'.M },
                          ct := fun A' =>
                            J2
                              { env := (((List.map (truncE 2) A'.env).set 8 AV.un).set 7 AV.un).set 6 AV.un,
                                M := List.take 2 A'.M } }
                        {
                          env :=
                            [AV.d (D.lst (List.map D.str ws)), AV.d (D.lst (List.map D.str ms)), AV.p 1, AV.un,
                              AV.d (D.int (↑k + 1)), AV.d (D.str t), AV.d (D.str w),
                              AV.d
                                (D.int ((min t.length w.length : Nat) : Int)),
                              AV.d (.str l), AV.un],
                          M := [none, some (O.lst (List.map D.str (I ++ G)))] } := fun l hl => by
                have hLl : Leav ws ms l := .step htL ht0 hww hl
                have hls : small l = true ∧ l.length ≤ 40 := by
                  rcases meet_tail hl with q | q
                  · exact ⟨small_suf q ht.1, by have := q.length_le; omega⟩
                  · exact ⟨small_suf q hw2.1, by have := q.length_le; omega⟩
                walk_at "nx"
                refine ⟨okD_sm hls.1, okD_strS fun u hu => (hGs u hu).1, ?_⟩
                rw [any_str]
                by_cases hm : l ∈ I ++ G
                · rw [if_neg (by rw [decide_eq_true hm]; simp)]
                  refine hJ2 _ ⟨G, rfl, hG, hGt, fun _ v hv l' hm' => ?_⟩
                  rcases List.mem_append.mp hv with hv | hv
                  · exact hGc ht0 v hv l' hm'
                  · rw [List.mem_singleton] at hv
                    rw [hv, hl] at hm'
                    cases hm'
                    exact hm
                · rw [if_pos (by rw [decide_eq_false hm]; simp)]
                  refine ⟨by rw [List.length_map, List.length_append]; omega, ?_⟩
                  have := hJ2 _ ⟨G ++ [l], rfl, hG.more hGk hLl hm, by rw [← List.append_assoc, List.getElem?_append_left (List.getElem?_eq_some_iff.mp hGt).1]; exact hGt, fun _ v hv l' hm' => by
                    rw [← List.append_assoc]
                    rcases List.mem_append.mp hv with hv | hv
                    · exact List.mem_append_left _ (hGc ht0 v hv l' hm')
                    · rw [List.mem_singleton] at hv
                      rw [hv, hl] at hm'
                      cases hm'
                      exact List.mem_append_right _ (by simp)⟩
                  rw [← List.append_assoc, List.map_append] at this
                  exact this
              refine ⟨by omega, by omega, by omega, by omega, ?_⟩
              by_cases hlt2 : t.length < w.length
              · rw [if_pos hlt2] at hmm
                rw [if_pos (decide_eq_true (by omega))]
                exact ⟨_, rfl, hgo _ hmm⟩
              · rw [if_neg hlt2] at hmm
                rw [if_neg (fun z => hlt2 (by have := of_decide_eq_true z; omega))]
                exact ⟨_, rfl, hgo _ hmm⟩
            · rw [if_neg (fun z => heq (of_decide_eq_true z))]
              exact hskip 0 fun _ => meet_no fun z => heq z.symm
        · rintro A ⟨G, rfl, hG, hGt, hGc⟩
          have hGk := (List.getElem?_eq_some_iff.mp hGt).1
          have hGl := hG.few hsm hl (fun t ht => (hm2 t ht).2) hm1
          walk_at "rt"
          refine hJ (m - 1) _ (by rw [List.length_append] at hGk; omega) ⟨k + 1, G, by rw [List.length_append] at hGk; omega, hGk, ⟨hG.nd, hG.lv, fun j u hj e hu w hw l hm => ?_⟩, rfl⟩
          by_cases hjk : j = k
          · rw [hjk, hGt] at e
            cases e
            exact hGc hu w hw l hm
          · exact hG.cl j u (by omega) e hu w hw l hm
      · walk_at "rd"
        rw [List.length_map, if_neg (fun z => by have := of_decide_eq_true z; omega)]
        walk_at "nx"
        refine ⟨_, inr_kD _, by rw [List.length_map]; omega, fun zs zn zm => ?_⟩
        obtain ⟨z1, z2⟩ := set_W (fun t ht => (hFs t ht).1) zn zm
        refine ⟨z1, ?_⟩
        rw [z2]
        have ek : k = (I ++ F).length := by omega
        rw [ek] at hF
        refine ⟨_, rfl, by have := setT_len (I ++ F); omega, fun t ht => hFs t (setT_mem.mp ht), setT_eq (setT_rise _) fun a => Iff.rfl, fun t => ?_⟩
        rw [setT_mem, txo_map, txo_map]
        exact hF.done hI1 hI2 t
  · exact h.elim
end PD

set_option pp.maxSteps 1500
namespace PD
open PySem PySem.Spec PyProof.Rows L2
/-! two books: their letters, pairs of rows, the text that parts them -/
def BookS (ds : List D) : Prop := ∃ ps : List (Tx × Int), ds = ps.map (fun p => pairD (.inr p.1, .int p.2)) ∧ Wds (ps.map (·.1)) 16
theorem BookS.keys {ds : List D} (h : BookS ds) : Wds (keysT ds) 16 := by
  obtain ⟨ps, rfl, h⟩ := h
  rw [keysT_map]
  exact h
/-- the letters of a text, rising -/
def letsT (t : Tx) : Tx := abc.filter fun c => decide (c ∈ t)
theorem abc_rise : abc.Pairwise (· < ·) := by decide
theorem letsT_rise (t : Tx) : (letsT t).Pairwise (· < ·) := abc_rise.sublist List.filter_sublist
theorem letsT_abc {t : Tx} {c : Nat} (h : c ∈ letsT t) : c ∈ abc := (List.mem_filter.mp h).1
theorem letsT_mem {t : Tx} (hs : small t = true) {c : Nat} : c ∈ letsT t ↔ c ∈ t := by
  unfold letsT
  rw [List.mem_filter, decide_eq_true_eq]
  exact ⟨fun h => h.2, fun h => ⟨of_decide_eq_true (List.all_eq_true.mp hs c h), h⟩⟩
theorem letsT_len (t : Tx) : (letsT t).length ≤ 26 := List.length_filter_le _ _
theorem letsT_set {t : Tx} (hs : small t = true) : setT (t.map fun c => [c]) = (letsT t).map fun c => [c] := (setT_eq (by
  rw [List.pairwise_map]
  exact (letsT_rise t).imp fun {a b} h => List.cons_lt_cons_iff.mpr (.inl h)) fun a => by
    rw [List.mem_map, List.mem_map]
    constructor
    · rintro ⟨c, hc, rfl⟩; exact ⟨c, (letsT_mem hs).mp hc, rfl⟩
    · rintro ⟨c, hc, rfl⟩; exact ⟨c, (letsT_mem hs).mpr hc, rfl⟩).symm
def lets2 (ws os : List Tx) : Tx := letsT (ws ++ os).flatten
def letD (c : Nat) : D := .str [c]
def prD (p : PairT) : D := .tup [rowD p.1, rowD p.2]
def ptD (p : PairT × Tx) : D := .tup [prD p.1, .str p.2]
/-- a bound that the kernel does not count up to -/
noncomputable def pairN : Nat := Classical.choose (⟨16777216, rfl⟩ : ∃ n : Nat, n = 16777216)
theorem pairN_eq : pairN = 16777216 := Classical.choose_spec (⟨16777216, rfl⟩ : ∃ n : Nat, n = 16777216)
noncomputable def pairsOf (ws os : List Tx) : List (PairT × Tx) := wlk (pairB ws os) pair0 (lets2 ws os) pairN
theorem pairsOf_eq (ws os : List Tx) : pairsOf ws os = wlk (pairB ws os) pair0 (lets2 ws os) 16777216 := by unfold pairsOf; rw [pairN_eq]
def prtB (p : PairT) : Bool := decide (([] : Tx) ∈ p.1) != decide (([] : Tx) ∈ p.2)
noncomputable def partO (ws os : List Tx) : Option Tx := ((pairsOf ws os).find? fun p => prtB p.1).map (·.2)
def optS : Option Tx → D
  | some t => .str t
  | none => .non
def pre_letters_of : List AR → Prop
  | [.d (.lst ds), .d (.lst es)] => BookS ds ∧ BookS es
  | _ => False
def f_letters_of : List AR → AR
  | [.d (.lst ds), .d (.lst es)] => .o (.lst ((lets2 (keysT ds) (keysT es)).map letD))
  | _ => .d .non
def pre_pair_behind : List AR → Prop
  | [.d (.tup [.lst ds, .lst es]), .d (.tup [.lst rs, .lst ss]), .d (.str c)] => BookS ds ∧ BookS es ∧ (∃ row : List Tx, rs = row.map .str ∧ RowS row) ∧ (∃ row : List Tx, ss = row.map .str ∧ RowS row) ∧ ∃ x, c = [x] ∧ x ∈ abc
  | _ => False
def f_pair_behind : List AR → AR
  | [.d (.tup [.lst ds, .lst es]), .d (.tup [.lst rs, .lst ss]), .d (.str [x])] => .d (prD (pairB (keysT ds) (keysT es) (txo rs, txo ss) x))
  | _ => .d .non
def pre_pairs_from : List AR → Prop := pre_letters_of
noncomputable def f_pairs_from : List AR → AR
  | [.d (.lst ds), .d (.lst es)] => .o (.lst ((pairsOf (keysT ds) (keysT es)).map ptD))
  | _ => .d .non
def pre_is_parted : List AR → Prop
  | [.d (.tup [.lst rs, .lst ss])] => (∃ row : List Tx, rs = row.map .str ∧ RowS row) ∧ ∃ row : List Tx, ss = row.map .str ∧ RowS row
  | _ => False
def f_is_parted : List AR → AR
  | [.d (.tup [.lst rs, .lst ss])] => .d (.bl (prtB (txo rs, txo ss)))
  | _ => .d .non
def pre_parting_text : List AR → Prop := pre_letters_of
noncomputable def f_parting_text : List AR → AR
  | [.d (.lst ds), .d (.lst es)] => .d (optS (partO (keysT ds) (keysT es)))
  | _ => .d .non
abbrev pre_z__law_some_words := pre_store
def ok_z__law_some_words : List AR → AR → Prop := fun _ y => ∃ ws : List Tx, (y = .d (.lst (ws.map .str)) ∨ y = .o (.lst (ws.map .str))) ∧ Wds ws 16 ∧ ws.Pairwise (· < ·)
def pre__law_second_words : List AR → Prop
  | [.o (.res r), .d (.lst xs)] => r = storeRP ∧ ∃ ws : List Tx, xs = ws.map .str ∧ Wds ws 16
  | _ => False
def ok__law_second_words : List AR → AR → Prop := ok_z__law_some_words
def pre__law_pairs : List AR → Prop
  | [.d (.lst xs), .d (.lst ys)] => (∃ ws : List Tx, xs = ws.map .str ∧ Wds ws 16) ∧ ∃ os : List Tx, ys = os.map .str ∧ Wds os 16
  | _ => False
noncomputable def f__law_pairs : List AR → AR
  | [.d (.lst xs), .d (.lst ys)] => .o (.lst ((pairsOf (txo xs) (txo ys)).map ptD))
  | _ => .d .non
def pre__law_parting : List AR → Prop := pre__law_pairs
noncomputable def f__law_parting : List AR → AR
  | [.d (.lst xs), .d (.lst ys)] => .d (optS (partO (txo xs) (txo ys)))
  | _ => .d .non
/-! facts -/
theorem wds_small {ws : List Tx} {n : Nat} (h : Wds ws n) : small ws.flatten = true := by
  unfold small
  rw [List.all_eq_true]
  intro c hc
  obtain ⟨w, hw, hc⟩ := List.mem_flatten.mp hc
  exact List.all_eq_true.mp (h.1 w hw).1 c hc
theorem two_small {ws os : List Tx} {n : Nat} (h1 : Wds ws n) (h2 : Wds os n) : small (ws ++ os).flatten = true := by
  rw [List.flatten_append]
  exact small_append (wds_small h1) (wds_small h2)
theorem two_len {ws os : List Tx} (h1 : Wds ws 16) (h2 : Wds os 16) : (ws ++ os).flatten.length ≤ 32 := by
  have e : ∀ xs : List Tx, xs.flatten.length = (xs.map List.length).sum := fun xs => List.length_flatten
  rw [List.flatten_append, List.length_append, e, e]
  have := h1.2.2
  have := h2.2.2
  omega
theorem pairs_at {ws os : List Tx} {k : Nat} (hk : k ≤ 16777216) (h : (wlk (pairB ws os) pair0 (lets2 ws os) k).length ≤ k) : pairsOf ws os = wlk (pairB ws os) pair0 (lets2 ws os) k := by
  rw [pairsOf_eq]
  have := w_stop h (16777216 - k)
  rwa [show k + (16777216 - k) = 16777216 by omega] at this
theorem rowAt_ok (ws : List Tx) (t : Tx) : RowOk ws (rowAt ws t) := by
  rcases List.eq_nil_or_concat t with e | ⟨l, b, e⟩
  · rw [e]; exact ⟨List.pairwise_singleton _ _, fun t ht => .inl (List.mem_singleton.mp ht)⟩
  · have e : t = l ++ [b] := by rw [e]; simp
    rw [e, rowAt_snoc]
    exact rowB_ok ws _ b
theorem rowAt_S {ws : List Tx} (hW : Wds ws 16) (t : Tx) : RowS (rowAt ws t) ∧ ∀ x ∈ rowAt ws t, small x = true := by
  have h := rowAt_ok ws t
  have hs : ∀ x ∈ rowAt ws t, small x = true ∧ x.length ≤ 12 := fun x hx => small_sub hW.1 (h.2 x hx)
  exact ⟨⟨by have := rowOk_len h hW.2.2; omega, fun x hx => ⟨(hs x hx).1, by have := (hs x hx).2; omega⟩⟩, fun x hx => (hs x hx).1⟩
theorem pair_row {ws os : List Tx} {ls : Tx} {k : Nat} {p : PairT × Tx} (h : p ∈ wlk (pairB ws os) pair0 ls k) : p.1 = (rowAt ws p.2, rowAt os p.2) ∧ p.2.length ≤ k ∧ ∀ c ∈ p.2, c ∈ ls := by
  have := (w_nd (st := pairB ws os) (a0 := pair0) ls k).ok p h
  rw [run_rows] at this
  exact this
theorem prD_ok {p : PairT} (h1 : ∀ t ∈ p.1, small t = true) (h2 : ∀ t ∈ p.2, small t = true) : chk (prD p) = true ∧ dep (prD p) ≤ 2 := by
  have a := rowD_ok h1
  have b := rowD_ok h2
  unfold prD
  simp only [chk, chks, dep, deps, Bool.and_true, Bool.and_eq_true]
  exact ⟨⟨a.1, b.1⟩, by omega⟩
theorem prD_deq (p q : PairT) : deq (prD p) (prD q) = decide (p = q) := by
  unfold prD
  rw [deq_tup]
  show (deq (rowD p.1) (rowD q.1) && (deq (rowD p.2) (rowD q.2) && true)) = _
  rw [rowD_deq, rowD_deq, Bool.and_true, Bool.eq_iff_iff, Bool.and_eq_true, decide_eq_true_eq, decide_eq_true_eq, decide_eq_true_eq]
  exact ⟨fun h => Prod.ext h.1 h.2, fun h => by rw [h]; exact ⟨rfl, rfl⟩⟩
theorem any_pair (xs : List PairT) (r : PairT) : (xs.map prD).any (fun z => deq z (prD r)) = decide (r ∈ xs) := by
  rw [List.any_map, Bool.eq_iff_iff, List.any_eq_true, decide_eq_true_eq]
  constructor
  · rintro ⟨x, hx, e⟩
    have e : deq (prD x) (prD r) = true := e
    rw [prD_deq, decide_eq_true_eq] at e
    rw [← e]
    exact hx
  · intro h
    exact ⟨r, h, by show deq (prD r) (prD r) = true; rw [prD_deq, decide_eq_true_eq]⟩
theorem okD_prs {xs : List PairT} (h : ∀ p ∈ xs, (∀ t ∈ p.1, small t = true) ∧ ∀ t ∈ p.2, small t = true) : okD (.lst (xs.map prD)) := okD_map (m := 2) (by decide) fun r hr => prD_ok (h r hr).1 (h r hr).2
theorem okD_pr {p : PairT} (h1 : ∀ t ∈ p.1, small t = true) (h2 : ∀ t ∈ p.2, small t = true) : okD (prD p) := ⟨(prD_ok h1 h2).1, by have := (prD_ok h1 h2).2; omega⟩
/-! what the told text is -/
def Parts (ws os : List Tx) (t : Tx) : Prop := ¬ (Cuts ws t ↔ Cuts os t)
theorem cut_lets {ws : List Tx} {t : Tx} (h : Cuts ws t) : ∀ c ∈ t, c ∈ ws.flatten := fun c hc => by
  obtain ⟨us, h1, rfl⟩ := h
  obtain ⟨u, hu, hc⟩ := List.mem_flatten.mp hc
  exact List.mem_flatten.mpr ⟨u, h1 u hu, hc⟩
theorem parts_lets {ws os : List Tx} (h1 : Wds ws 16) (h2 : Wds os 16) {t : Tx} (h : Parts ws os t) : ∀ c ∈ t, c ∈ lets2 ws os := fun c hc => by
  refine (letsT_mem (two_small h1 h2)).mpr ?_
  rw [List.flatten_append, List.mem_append]
  by_cases a : Cuts ws t
  · exact .inl (cut_lets a c hc)
  · by_cases b : Cuts os t
    · exact .inr (cut_lets b c hc)
    · exact absurd ⟨fun z => absurd z a, fun z => absurd z b⟩ h
theorem prtB_iff {ws os : List Tx} (h1 : Wds ws 16) (h2 : Wds os 16) (t : Tx) : prtB (rowAt ws t, rowAt os t) = true ↔ Parts ws os t := by
  have a := cut_row (fun w hw => (h1.1 w hw).2.1) t
  have b := cut_row (fun w hw => (h2.1 w hw).2.1) t
  unfold prtB Parts
  rw [← a, ← b]
  by_cases q : ([] : Tx) ∈ rowAt ws t <;> by_cases r : ([] : Tx) ∈ rowAt os t <;> simp [q, r]
theorem partO_some {ws os : List Tx} (h1 : Wds ws 16) (h2 : Wds os 16) {t : Tx} (h : partO ws os = some t) : Parts ws os t ∧ (∀ u, Parts ws os u → t = u ∨ slt t u) ∧ (∀ c ∈ t, c ∈ lets2 ws os) ∧ t.length ≤ 16777216 := by
  unfold partO at h
  rw [pairsOf_eq] at h
  have hf := few_pairs h1 h2
  have hls : (lets2 ws os).Pairwise (· < ·) := letsT_rise _
  generalize hF : wlk (pairB ws os) pair0 (lets2 ws os) 16777216 = F at h
  have hr : ∀ p ∈ F, p.1 = (rowAt ws p.2, rowAt os p.2) ∧ p.2.length ≤ 16777216 ∧ ∀ c ∈ p.2, c ∈ lets2 ws os := fun p hp => pair_row (by rw [hF]; exact hp)
  cases e : F.find? fun p => prtB p.1 with
  | none => rw [e] at h; cases h
  | some p =>
    rw [e] at h
    have h : p.2 = t := by injection h
    subst h
    have hp := List.mem_of_find?_eq_some e
    have hb : prtB p.1 = true := List.find?_some (p := fun p : PairT × Tx => prtB p.1) e
    obtain ⟨r1, r2, r3⟩ := hr p hp
    have r1' := r1
    rw [r1] at hb
    refine ⟨(prtB_iff h1 h2 _).mp hb, fun u hu => ?_, r3, r2⟩
    obtain ⟨v, hv, v1, v2⟩ := w_all hf hls u.length u rfl (parts_lets h1 h2 hu)
    rw [hF] at hv
    rw [run_rows] at v1
    have hvb : prtB v.1 = true := by rw [v1]; exact (prtB_iff h1 h2 u).mpr hu
    have hso := (w_gd (st := pairB ws os) (a0 := pair0) hls 16777216).so
    rw [hF] at hso
    obtain ⟨as, bs, e3, e4⟩ := List.find?_eq_some_iff_append.mp e |>.2
    have : p.2 = v.2 ∨ slt p.2 v.2 := by
      rw [e3] at hv hso
      rcases List.mem_append.mp hv with hv | hv
      · have := e4 v hv
        rw [hvb] at this
        cases this
      · rcases List.mem_cons.mp hv with rfl | hv
        · exact .inl rfl
        · exact .inr ((List.pairwise_cons.mp (List.pairwise_append.mp hso).2.1).1 v hv)
    rcases this with a | a
    · rw [a]; exact v2
    · rcases v2 with b | b
      · rw [b] at a; exact .inr a
      · exact .inr (slt_trans a b)
theorem partO_none {ws os : List Tx} (h1 : Wds ws 16) (h2 : Wds os 16) (h : partO ws os = none) (t : Tx) : ¬ Parts ws os t := fun hu => by
  unfold partO at h
  rw [pairsOf_eq] at h
  have hf := few_pairs h1 h2
  have hls : (lets2 ws os).Pairwise (· < ·) := letsT_rise _
  obtain ⟨v, hv, v1, v2⟩ := w_all hf hls t.length t rfl (parts_lets h1 h2 hu)
  rw [run_rows] at v1
  rw [Option.map_eq_none_iff, List.find?_eq_none] at h
  exact h v hv (by rw [v1]; exact (prtB_iff h1 h2 t).mpr hu)
theorem slt_anti {a b : Tx} (h1 : a = b ∨ slt a b) (h2 : b = a ∨ slt b a) : a = b := by
  rcases h1 with h | h
  · exact h
  · rcases h2 with e | e
    · exact e.symm
    · exact absurd (slt_trans h e) (slt_irr a)
theorem partO_is {ws os : List Tx} (h1 : Wds ws 16) (h2 : Wds os 16) {t : Tx} (h : Parts ws os t) (hl : ∀ u, Parts ws os u → t = u ∨ slt t u) : partO ws os = some t := by
  cases e : partO ws os with
  | none => exact absurd h (partO_none h1 h2 e t)
  | some u =>
    obtain ⟨a, b, _⟩ := partO_some h1 h2 e
    rw [slt_anti (b t h) (hl u a)]
theorem partO_no {ws os : List Tx} (h1 : Wds ws 16) (h2 : Wds os 16) (h : ∀ t, ¬ Parts ws os t) : partO ws os = none := by
  cases e : partO ws os with
  | none => rfl
  | some u => exact absurd (partO_some h1 h2 e).1 (h u)
theorem partO_same {ws os ws' os' : List Tx} (h1 : Wds ws 16) (h2 : Wds os 16) (h3 : Wds ws' 16) (h4 : Wds os' 16) (h : ∀ t, Parts ws os t ↔ Parts ws' os' t) : partO ws os = partO ws' os' := by
  cases e : partO ws os with
  | none => exact (partO_no h3 h4 fun t z => partO_none h1 h2 e t ((h t).mpr z)).symm
  | some u =>
    obtain ⟨a, b, _⟩ := partO_some h1 h2 e
    exact (partO_is h3 h4 ((h u).mp a) fun v hv => b v ((h v).mpr hv)).symm
theorem parts_swap {ws os : List Tx} (t : Tx) : Parts ws os t ↔ Parts os ws t := by
  unfold Parts
  exact ⟨fun h z => h z.symm, fun h z => h z.symm⟩
theorem partO_swap {ws os : List Tx} (h1 : Wds ws 16) (h2 : Wds os 16) : partO ws os = partO os ws := partO_same h1 h2 h2 h1 parts_swap
theorem partO_self {ws : List Tx} (h1 : Wds ws 16) : partO ws ws = none := partO_no h1 h1 fun t h => h Iff.rfl
theorem book_chk {ps : List (Tx × Int)} (h : ∀ p ∈ ps, small p.1 = true) : chk (.lst (ps.map fun p => pairD (.inr p.1, .int p.2))) = true ∧ dep (.lst (ps.map fun p => pairD (.inr p.1, .int p.2))) ≤ 2 := by
  refine ⟨(rows_pairs_ok h).1, ?_⟩
  simp only [dep]
  have := deps_le (m := 1) (ps.map fun p => pairD (.inr p.1, .int p.2)) fun x hx => by
    obtain ⟨p, _, rfl⟩ := List.mem_map.mp hx
    simp only [pairD, kD, dep, deps]
    omega
  omega
theorem okD_two {a b : D} {m : Nat} (hm : m < 60) (h1 : chk a = true ∧ dep a ≤ m) (h2 : chk b = true ∧ dep b ≤ m) : okD (.lst [a, b]) := okD_lst hm fun x hx => by
  simp only [List.mem_cons, List.not_mem_nil, or_false] at hx
  rcases hx with rfl | rfl
  · exact h1
  · exact h2
def p_letters_of : PTS :=
  (pRet (pSrtSetS (pM1 bJoin (pC (.str [])) (pOp2 bAdd (pCalls (callP pre_words_in f_words_in) (pCons (pVar 0) pNil)) (pCalls (callP pre_words_in f_words_in) (pCons (pVar 1) pNil))))))
abbrev N_letters_of : List Str := ["one", "other"]
def p_pair_behind : PTS :=
  (pRet (pTup (pCons (pCalls (callP pre_row_behind f_row_behind) (pCons (pCalls (callP pre_words_in f_words_in) (pCons (pOp2 bIx (pVar 0) (pC (.int 0))) pNil)) (pCons (pOp2 bIx (pVar 1) (pC (.int 0))) (pCons (pVar 2) pNil)))) (pCons (pCalls (callP pre_row_behind f_row_behind) (pCons (pCalls (callP pre_words_in f_words_in) (pCons (pOp2 bIx (pVar 0) (pC (.int 1))) pNil)) (pCons (pOp2 bIx (pVar 1) (pC (.int 1))) (pCons (pVar 2) pNil)))) pNil))))
abbrev N_pair_behind : List Str := ["books", "pair", "letter"]
def p_pairs_from : PTS :=
  (pSeq (pSet 2 (pLst (pCons (pTup (pCons (pTup (pCons (pLst (pCons (pC (.str [])) pNil)) (pCons (pLst (pCons (pC (.str [])) pNil)) pNil))) (pCons (pC (.str [])) pNil))) pNil)))
  (pSeq (pSet 3 (pC (.int 0)))
  (pSeq (pWip [4, 5, 6, 7] (pWhile (pTest (pOp2 bLt (pVar 3) (pCall cLen (pCons (pVar 2) pNil)))) (pGw [4, 5, 6, 7] [3, 4, 5, 6, 7] (pSeq (pAsg (pOp2 bIx (pVar 2) (pVar 3)) (tgT [4, 5]))
  (pSeq (pWip [6, 7] (pFor (pItL (pCalls (callP pre_letters_of f_letters_of) (pCons (pVar 0) (pCons (pVar 1) pNil)))) (tgN 6) (pGw [6, 7] [6, 7] (pSeq (pSetD 7 (pCalls (callP pre_pair_behind f_pair_behind) (pCons (pTup (pCons (pVar 0) (pCons (pVar 1) pNil))) (pCons (pVar 4) (pCons (pVar 6) pNil)))))
  (pIf (pTest (pOp2 (bIn not) (pVar 7) (pLc (pItL (pVar 2)) (tgT [8, 9]) pYes (pVar 8) [8, 9]))) (pDrop (pLM lAppend (pVar 2) (pCons (pTup (pCons (pVar 7) (pCons (pOp2 bAdd (pVar 5) (pVar 6)) pNil))) pNil)))
  pNext)))))
  (pAug 3 (fun i j => i + j) (pC (.int 1))))))))
  (pRet (pVar 2)))))
abbrev N_pairs_from : List Str := ["one", "other", "found", "at", "pair", "text", "letter", "later", "met", "begun"]
def p_is_parted : PTS :=
  (pRet (pOp2 (bEq not) (pOp2 (bIn id) (pC (.str [])) (pOp2 bIx (pVar 0) (pC (.int 0)))) (pOp2 (bIn id) (pC (.str [])) (pOp2 bIx (pVar 0) (pC (.int 1))))))
abbrev N_is_parted : List Str := ["pair"]
def p_parting_text : PTS :=
  (pSeq (pWip [2, 3] (pFor (pItL (pCalls (callP pre_pairs_from f_pairs_from) (pCons (pVar 0) (pCons (pVar 1) pNil)))) (tgT [2, 3]) (pGw [2, 3] [2, 3] (pIf (pTest (pCalls (callP pre_is_parted f_is_parted) (pCons (pVar 2) pNil))) (pRet (pVar 3))
  pNext))))
  (pRet (pC .non)))
abbrev N_parting_text : List Str := ["one", "other", "pair", "text"]
def p_z__law_some_words : PTS :=
  (pSeq (pSetD 1 (pCalls callT (pCons (pVar 0) (pCons (pC (.int 3)) pNil))))
  (pSeq (pIf (pTest (pOp2 (bEq id) (pVar 1) (pC (.int 2)))) (pRet (pCalls (callN pre_x__law_wide_words ok_x__law_wide_words) (pCons (pVar 0) pNil)))
  pNext)
  (pRet (pOp2 bIx (pLst (pCons (pCalls (callN pre_x__law_words ok_x__law_words) (pCons (pVar 0) pNil)) (pCons (pCalls (callN pre_x__law_split_words ok_x__law_split_words) (pCons (pVar 0) pNil)) pNil))) (pVar 1)))))
abbrev N_z__law_some_words : List Str := ["store", "way"]
def q47m : PTS :=
  (pIf (pAnd (pTest (pOp2 (bIn not) (pVar 4) (pVar 3))) (pTest (pOp2 bLt (pOp2 bAdd (pCall cLen (pCons (pM1 bJoin (pC (.str [])) (pVar 3)) pNil)) (pCall cLen (pCons (pVar 4) pNil))) (pC (.int 17))))) (pDrop (pLM lAppend (pVar 3) (pCons (pVar 4) pNil)))
  pNext)
def q47d : PTS :=
  (pRet (pCall cSorted (pCons (pVar 3) pNil)))
def q47c : PTS :=
  (pSeq (pIf (pAnd (pTest (pOp2 (bEq id) (pVar 2) (pC (.int 2)))) (pAnd (pTest (pOp2 bGt (pCall cLen (pCons (pVar 3) pNil)) (pC (.int 1)))) (pTest (pOp2 (bEq id) (pCalls callT (pCons (pVar 0) (pCons (pC (.int 2)) pNil))) (pC (.int 0)))))) (pDrop (pLM lPopAt (pVar 3) (pCons (pCalls callT (pCons (pVar 0) (pCons (pCall cLen (pCons (pVar 3) pNil)) pNil))) pNil)))
  pNext)
  q47d)
def q47b : PTS :=
  (pSeq (pIf (pTest (pOp2 (bEq id) (pVar 2) (pC (.int 4)))) (pDrop (pLM lPopAt (pVar 3) (pCons (pCalls callT (pCons (pVar 0) (pCons (pCall cLen (pCons (pVar 3) pNil)) pNil))) pNil)))
  pNext)
  q47c)
def q47a : PTS :=
  (pSeq (pIf (pTest (pOp2 bLt (pVar 2) (pC (.int 4)))) (pSeq (pSetD 4 (pSl (pM1 bJoin (pC (.str [])) (pLc (pRng1 (pCons (pOp2 bAdd (pC (.int 2)) (pCalls callT (pCons (pVar 0) (pCons (pC (.int 2)) pNil)))) pNil)) (tgN 5) pYes (pOp2 bIx (pVar 1) (pCalls callT (pCons (pVar 0) (pCons (pCall cLen (pCons (pVar 1) pNil)) pNil)))) [5])) pNo (pPart (pC (.int 12)))))
  (pSeq (pIf (pTest (pOp2 (bEq id) (pVar 2) (pC (.int 3)))) (pSetD 4 (pCalls (callN pre_x__law_kept_word ok_x__law_kept_word) (pCons (pVar 0) (pCons (pVar 1) (pCons (pOp2 bIx (pLst (pCons (pC (.str [97, 98])) (pCons (pCalls (callN pre_x__law_alphabet ok_x__law_alphabet) (pCons (pVar 0) (pCons (pC (.int 6)) pNil))) pNil))) (pCalls callT (pCons (pVar 0) (pCons (pC (.int 2)) pNil)))) pNil)))))
  pNext)
  q47m))
  pNext)
  q47b)
def p__law_second_words : PTS :=
  (pSeq (pSetD 2 (pCalls callT (pCons (pVar 0) (pCons (pC (.int 6)) pNil))))
  (pSeq (pIf (pOr (pTest (pOp2 (bEq id) (pVar 2) (pC (.int 0)))) (pTest (pOp2 (bEq id) (pVar 1) (pLst pNil)))) (pRet (pCalls (callN pre_z__law_some_words ok_z__law_some_words) (pCons (pVar 0) pNil)))
  pNext)
  (pSeq (pSet 3 (pCall cListB (pCons (pVar 1) pNil)))
  q47a)))
abbrev N__law_second_words : List Str := ["store", "words", "kind", "some", "more", "k"]
def p__law_pairs : PTS :=
  (pSeq (pSet 2 (pLst (pCons (pTup (pCons (pTup (pCons (pLst (pCons (pC (.str [])) pNil)) (pCons (pLst (pCons (pC (.str [])) pNil)) pNil))) (pCons (pC (.str [])) pNil))) pNil)))
  (pSeq (pSet 3 (pLst (pCons (pTup (pCons (pLst (pCons (pC (.str [])) pNil)) (pCons (pLst (pCons (pC (.str [])) pNil)) pNil))) pNil)))
  (pSeq (pSet 4 (pC (.int 0)))
  (pSeq (pWip [5, 6, 7, 8] (pWhile (pTest (pOp2 bLt (pVar 4) (pCall cLen (pCons (pVar 2) pNil)))) (pGw [5, 6, 7, 8] [4, 5, 6, 7, 8] (pSeq (pAsg (pOp2 bIx (pVar 2) (pVar 4)) (tgT [5, 6]))
  (pSeq (pSet 4 (pOp2 bAdd (pVar 4) (pC (.int 1))))
  (pWip [7, 8] (pFor (pItL (pSrtSetS (pM1 bJoin (pC (.str [])) (pOp2 bAdd (pVar 0) (pVar 1))))) (tgN 7) (pGw [7, 8] [7, 8] (pSeq (pSet 8 (pTup (pCons (pCalls (callP pre_x__law_row_behind f_x__law_row_behind) (pCons (pVar 0) (pCons (pOp2 bIx (pVar 5) (pC (.int 0))) (pCons (pVar 7) pNil)))) (pCons (pCalls (callP pre_x__law_row_behind f_x__law_row_behind) (pCons (pVar 1) (pCons (pOp2 bIx (pVar 5) (pC (.int 1))) (pCons (pVar 7) pNil)))) pNil))))
  (pIf (pTest (pOp2 (bIn not) (pVar 8) (pVar 3))) (pSeq (pDrop (pLM lAppend (pVar 3) (pCons (pVar 8) pNil)))
  (pDrop (pLM lAppend (pVar 2) (pCons (pTup (pCons (pVar 8) (pCons (pOp2 bAdd (pVar 6) (pVar 7)) pNil))) pNil))))
  pNext))))))))))
  (pRet (pVar 2))))))
abbrev N__law_pairs : List Str := ["words", "others", "found", "met", "at", "pair", "text", "letter", "later"]
def p__law_parting : PTS :=
  (pSeq (pSetD 2 (pLc (pItL (pCalls (callP pre__law_pairs f__law_pairs) (pCons (pVar 0) (pCons (pVar 1) pNil)))) (tgT [3, 4]) (pTest (pOp2 (bEq not) (pOp2 (bIn id) (pC (.str [])) (pOp2 bIx (pVar 3) (pC (.int 0)))) (pOp2 (bIn id) (pC (.str [])) (pOp2 bIx (pVar 3) (pC (.int 1)))))) (pVar 4) [3, 4]))
  (pRet (pOp2 bIx (pOp2 bAdd (pVar 2) (pLst (pCons (pC .non) pNil))) (pC (.int 0)))))
abbrev N__law_parting : List Str := ["words", "others", "some", "pair", "text"]
local macro_rules | `(tactic| walk_at "rd") => `(tactic| simp (config := { decide := true }) only [pSeq_then, pNext, pNever, pBreak, pCont, pDrop, pRet, pRetN, pIf, pSet, pSetD, setD, setP, setO, pVar, pC, pOp2, pTest, pAnd, pOr, pNot, pAndV, pOrV, pNotV, pIfE, pNil, pCons, pLst, pTup, pDict0, pDictC, pDM, dUpdate, pCall, pIsiP, pM1, bJoin, pNo, pPart, pSl, pSortI, pLM, lAppend, lInsert, lExtend, lPopAt, lPop, lReverse, lClear, pLc_eq, pFor_eq, pWhile_eq, pWip, pGw, wipeS, trunc, truncE, pItL, pItS, pRng1, pRng2, pRng3, pVarF, pAug, pDictLen, pLr3, pNeg, pCalls, callP, pEnum, pStepS, pRevL, bStarts, bEnds, pAugK, pItK, pFz, pRaise, pCallX, callX, pTry, pIsX, pLr1, pM0, bUpper, cListB, cTuple, pOrT, pDictLenT, pBor, borE, scalD, pPickL, cSum, cAbs, bOrd, pre_is_begun, f_is_begun, pre_row_behind, f_row_behind, pre_words_in, f_words_in, pre_letters_of, f_letters_of, pre_pair_behind, f_pair_behind, pre_pairs_from, f_pairs_from, pre_is_parted, f_is_parted, pre_parting_text, f_parting_text, pre_x__law_cell, pre_x__law_store, f_x__law_store, pre_x__law_kept_word, pre_x__law_words, pre_x__law_book, pre_x__law_is_begun, f_x__law_is_begun, pre_x__law_parts, f_x__law_parts, pre_x__law_split_words, pre_x__law_alphabet, pre_x__law_wide_words, pre_z__law_some_words, pre_x__law_row_behind, f_x__law_row_behind, pre__law_second_words, pre__law_pairs, f__law_pairs, pre__law_parting, f__law_parting,  merge_dictOf, filter_none, take_iff, callN, txo_map, deq_nilU, map_isEmpty, keysT_map, pItS, toAR, R.fz, view, views, dats, O.toD, AR.toR, bAdd, bSub, bMul, bDiv, bMod, bPow, bEq,  pSrtSet, pSrtSetS, pForM_eq, pGx, bCmp, bIn, bIs, bIx, bSl, cLen, cMin2, cMax2, cInt, cList, cDict, cSorted, plainD, isiB, tyn, pAsg, tgT, tgU, setsA, pSetIx, storeO, kdOf, pChain, cmpD, pYes, pTru, truD, Hand, tgN, wipeA, fnAbs, envA, ownsA, retA, conP, conN, List.set, List.set_cons_zero, List.set_cons_succ, List.set_nil, List.getElem?_cons_zero, List.getElem?_cons_succ, List.getElem?_nil, List.length_cons, List.length_nil, List.cons_append, List.nil_append, List.append_nil, List.replicate, Nat.reduceSub, Nat.reduceAdd, Nat.zero_add, Int.zero_add, true_and, and_true, reduceIte, Bool.false_eq_true, id, Bool.not_true, Bool.not_false, decide_true, decide_false, List.nodup_nil, List.nodup_cons, List.not_mem_nil, not_false_eq_true, List.take_zero, List.take_succ_cons, List.take_nil, List.map_cons, List.map_nil])
local macro_rules | `(tactic| walk_at "sc") => `(tactic| first | with_reducible assumption | omega | with_reducible rfl | with_reducible exact True.intro | with_reducible exact okD_ints | with_reducible exact okD_nil | with_reducible exact okD_int _ | with_reducible exact okD_bl _ | with_reducible exact okD_non | with_reducible exact okD_sm (by assumption) | with_reducible exact cmulR (by omega) (by omega) | with_reducible exact cmulL (by omega) (by omega) | with_reducible exact cdivw (by omega) (by omega) | (with_reducible refine smallI_of ?_ ?_ <;> first | omega | (simp only [List.length_map, List.length_append, List.length_range, List.length_replicate, List.length_cons, List.length_nil, List.length_take, List.length_drop]; omega)) | (unfold CPow; decide) | (simp only [List.length_map, List.length_append, List.length_range, List.length_replicate, List.length_cons, List.length_nil, List.length_take, List.length_drop]; omega) | (refine ⟨?_, ?_⟩ <;> walk_at "sc"))
local macro_rules | `(tactic| walk_at "go") => `(tactic| repeat (first | walk_at "rd" | with_reducible refine then_go ?_ | (refine And.intro (by walk_at "sc") ?_) | (with_reducible refine dict_of (by assumption) ?_) | rw [deq_self (by walk_at "sc")] | walk_at "sc"))
local macro_rules | `(tactic| walk_at "rt") => `(tactic| try walk_at "rd")
local macro_rules | `(tactic| walk_at "nx") => `(tactic| ((try dsimp only); rw [then_eq]; walk_at "rd"))
theorem strs_ofV {ds : List D} (P : Tx → Prop) (h : ∀ d ∈ ds, ∃ l, P l ∧ d = .str l) : ∃ ws : List Tx, ds = ws.map D.str ∧ ∀ l ∈ ws, P l := by
  induction ds with
  | nil => exact ⟨[], rfl, fun l hl => by cases hl⟩
  | cons a r ih =>
    obtain ⟨ws, e, hw⟩ := ih fun d hd => h d (by simp [hd])
    obtain ⟨l, hl, rfl⟩ := h a (by simp)
    exact ⟨l :: ws, by rw [e]; rfl, fun x hx => by
      rcases List.mem_cons.mp hx with rfl | hx
      · exact hl
      · exact hw x hx⟩
theorem lets_srt {t : Tx} (hs : small t = true) {zs : List Kd} (hz : zs.Nodup) (hm : ∀ k, k ∈ zs ↔ k ∈ (t.map fun c => [c]).map Sum.inr) : srtOk (zs.map kD) ∧ srt (zs.map kD) = (letsT t).map letD := by
  obtain ⟨s1, s2⟩ := set_W (xs := t.map fun c => [c]) (fun x hx => by
    obtain ⟨c, hc, rfl⟩ := List.mem_map.mp hx
    exact List.all_eq_true.mpr fun y hy => by
      rw [List.mem_singleton] at hy
      rw [hy]
      exact List.all_eq_true.mp hs c hc) hz hm
  refine ⟨s1, ?_⟩
  rw [s2, letsT_set hs, List.map_map]
  rfl
theorem r_letters_of : Law p_letters_of N_letters_of 2 (conP pre_letters_of f_letters_of) := fun ars h => by
  have h : pre_letters_of ars := h
  unfold pre_letters_of at h
  split at h
  · rename_i ds es _
    obtain ⟨⟨ps, rfl, hW⟩, qs, rfl, hV⟩ := h
    refine ⟨rfl, ?_⟩
    unfold p_letters_of endsA
    have hl := hW.len
    have hl2 := hV.len
    rw [List.length_map] at hl hl2
    have hs := two_small hW hV
    have hn := two_len hW hV
    have h1 : ∃ ps' : List (Tx × Int), (ps.map fun p => pairD (.inr p.1, .int p.2)) = ps'.map (fun p => pairD (.inr p.1, .int p.2)) ∧ ps'.length ≤ 100 := ⟨ps, rfl, by omega⟩
    have h2 : ∃ ps' : List (Tx × Int), (qs.map fun p => pairD (.inr p.1, .int p.2)) = ps'.map (fun p => pairD (.inr p.1, .int p.2)) ∧ ps'.length ≤ 100 := ⟨qs, rfl, by omega⟩
    have hk1 : (ps.map (·.1)).length ≤ 16 := by rw [List.length_map]; exact hl
    have hk2 : (qs.map (·.1)).length ≤ 16 := by rw [List.length_map]; exact hl2
    walk_at "go"
    refine ⟨ps.map (·.1) ++ qs.map (·.1), by rw [List.map_append], ?_⟩
    generalize ps.map (·.1) = ws at hW hs hn ⊢
    generalize qs.map (·.1) = os at hV hs hn ⊢
    have hj : TL.joinL [] (ws ++ os) = (ws ++ os).flatten := joinL_flat _
    have hfl : (ws ++ os).flatten.length = ((ws ++ os).map List.length).sum := List.length_flatten
    rw [hj]
    refine ⟨by omega, by omega, fun zs hz hm => ?_⟩
    obtain ⟨s1, s2⟩ := lets_srt hs hz hm
    refine ⟨s1, ?_⟩
    rw [s2]
    rfl
  · exact h.elim
theorem r_pair_behind : Law p_pair_behind N_pair_behind 3 (conP pre_pair_behind f_pair_behind) := fun ars h => by
  have h : pre_pair_behind ars := h
  unfold pre_pair_behind at h
  split at h
  · rename_i ds es rs ss c _
    obtain ⟨⟨ps, rfl, hW⟩, ⟨qs, rfl, hV⟩, ⟨row, rfl, hr⟩, ⟨sow, rfl, hs⟩, x, rfl, hx⟩ := h
    refine ⟨rfl, ?_⟩
    have hl := hW.len
    have hl2 := hV.len
    rw [List.length_map] at hl hl2
    have h1 : ∃ ps' : List (Tx × Int), (ps.map fun p => pairD (.inr p.1, .int p.2)) = ps'.map (fun p => pairD (.inr p.1, .int p.2)) ∧ ps'.length ≤ 100 := ⟨ps, rfl, by omega⟩
    have h2 : ∃ ps' : List (Tx × Int), (qs.map fun p => pairD (.inr p.1, .int p.2)) = ps'.map (fun p => pairD (.inr p.1, .int p.2)) ∧ ps'.length ≤ 100 := ⟨qs, rfl, by omega⟩
    unfold p_pair_behind endsA
    walk_at "go"
    refine ⟨_, rfl, ?_⟩
    walk_at "go"
    refine ⟨_, rfl, ?_⟩
    walk_at "go"
    refine ⟨⟨⟨x, rfl, hx⟩, ⟨_, rfl, hW⟩, row, rfl, hr⟩, ?_⟩
    walk_at "go"
    refine ⟨_, rfl, ?_⟩
    walk_at "go"
    refine ⟨_, rfl, ?_⟩
    walk_at "go"
    exact ⟨⟨⟨x, rfl, hx⟩, ⟨_, rfl, hV⟩, sow, rfl, hs⟩, rfl⟩
  · exact h.elim
theorem r_pairs_from : Law p_pairs_from N_pairs_from 2 (conP pre_pairs_from f_pairs_from) := fun ars h => by
  have h : pre_letters_of ars := h
  unfold pre_letters_of at h
  split at h
  · rename_i ds es _
    obtain ⟨hB, hC⟩ := h
    have hW := hB.keys
    have hV := hC.keys
    have hf := few_pairs hW hV
    refine ⟨rfl, ?_⟩
    unfold p_pairs_from endsA
    walk_at "go"
    generalize hws : keysT ds = ws at hW hf ⊢
    generalize hos : keysT es = os at hV hf ⊢
    generalize hls : lets2 ws os = ls
    have hla : ∀ c ∈ ls, c ∈ abc := fun c hc => by rw [← hls] at hc; exact letsT_abc hc
    have hll : ls.length ≤ 26 := by rw [← hls]; exact letsT_len _
    have hfew : ∀ k, (wlk (pairB ws os) pair0 ls k).length ≤ 16777216 := w_few hf ls
    refine while_run (fun m A => ∃ k, m + k = 16777217 ∧ k ≤ (wlk (pairB ws os) pair0 ls k).length ∧ A = ⟨[AV.d (.lst ds), .d (.lst es), .p 0, .d (.int k), .un, .un, .un, .un, .un, .un], [some (.lst ((wlk (pairB ws os) pair0 ls k).map ptD))]⟩) 16777217 ⟨0, by omega, Nat.zero_le _, rfl⟩ ?_
    rintro m A ⟨k, hmk, hk, rfl⟩ J Kb hJ hK
    have hF := hfew k
    have hFk := w_nd (st := pairB ws os) (a0 := pair0) ls k
    by_cases hlt : k < (wlk (pairB ws os) pair0 ls k).length
    · obtain ⟨⟨⟨row, sow⟩, t⟩, hrt⟩ : ∃ p, (wlk (pairB ws os) pair0 ls k)[k]? = some p := ⟨_, List.getElem?_eq_getElem hlt⟩
      have hat : atI ((wlk (pairB ws os) pair0 ls k).map ptD) (k : Int) = some (ptD ((row, sow), t)) := by
        have e := atI_nat (xs := (wlk (pairB ws os) pair0 ls k).map ptD) (m := k) (by rw [List.length_map]; exact hlt)
        rw [e, List.getElem_map, (List.getElem?_eq_some_iff.mp hrt).2]
      obtain ⟨hro, htl, hts⟩ := pair_row (List.mem_of_getElem? hrt)
      have hro0 : ((row, sow) : PairT) = run (pairB ws os) pair0 t := by rw [run_rows]; exact hro
      injection hro with hr1 hr2
      have htl : t.length ≤ k := htl
      obtain ⟨hS1, hs1⟩ := rowAt_S hW t
      obtain ⟨hS2, hs2⟩ := rowAt_S hV t
      rw [← hr1] at hS1 hs1
      rw [← hr2] at hS2 hs2
      have estep : wlk (pairB ws os) pair0 ls (k + 1) = ls.foldl (wIns (pairB ws os) (row, sow) t) (wlk (pairB ws os) pair0 ls k) := by
        show wStep (pairB ws os) ls (wlk (pairB ws os) pair0 ls k) k = _
        unfold wStep
        rw [hrt]
      have hpart : ∀ pre c post, ls = pre ++ c :: post → ((c :: post).foldl (wIns (pairB ws os) (row, sow) t) (pre.foldl (wIns (pairB ws os) (row, sow) t) (wlk (pairB ws os) pair0 ls k))).length ≤ 16777216 ∧ Wnd (pairB ws os) pair0 ls (k + 1) (pre.foldl (wIns (pairB ws os) (row, sow) t) (wlk (pairB ws os) pair0 ls k)) := fun pre c post e => by
        have h1 := hfew (k + 1)
        rw [estep] at h1
        rw [show ls.foldl (wIns (pairB ws os) (row, sow) t) (wlk (pairB ws os) pair0 ls k) = (c :: post).foldl (wIns (pairB ws os) (row, sow) t) (pre.foldl (wIns (pairB ws os) (row, sow) t) (wlk (pairB ws os) pair0 ls k)) by rw [← List.foldl_append, ← e]] at h1
        exact ⟨h1, Wnd.fold hro0 htl hts pre _ (fun x hx => by rw [e]; simp [hx]) (hFk.mono (by omega))⟩
      walk_at "rd"
      rw [List.length_map, if_pos (decide_eq_true (show (k : Int) < ((wlk (pairB ws os) pair0 ls k).length : Int) by omega))]
      refine ⟨_, hat, ?_⟩
      rw [show ptD ((row, sow), t) = .tup [.tup [rowD row, rowD sow], .str t] from rfl]
      walk_at "rd"
      walk_at "nx"
      refine ⟨⟨hB, hC⟩, ?_⟩
      rw [show lets2 (keysT ds) (keysT es) = ls by rw [hws, hos]; exact hls]
      refine for_over (xs := ls) (f := letD) (fun pre A => A = ⟨[AV.d (.lst ds), .d (.lst es), .p 0, .d (.int k), .d (.tup [rowD row, rowD sow]), .d (.str t), .un, .un, .un, .un], [some (.lst ((pre.foldl (wIns (pairB ws os) (row, sow) t) (wlk (pairB ws os) pair0 ls k)).map ptD))]⟩) rfl (by intros; trivial) ?_ ?_
      · rintro pre c post A e rfl
        obtain ⟨hp1, hp2⟩ := hpart pre c post e
        have hc : c ∈ ls := by rw [e]; simp
        have hca : c ∈ abc := hla c hc
        refine ⟨_, rfl, fun J2 Kb2 hJ2 hK2 => ?_⟩
        have efold : (pre ++ [c]).foldl (wIns (pairB ws os) (row, sow) t) (wlk (pairB ws os) pair0 ls k) = wIns (pairB ws os) (row, sow) t (pre.foldl (wIns (pairB ws os) (row, sow) t) (wlk (pairB ws os) pair0 ls k)) c := by rw [List.foldl_append]; rfl
        generalize pre.foldl (wIns (pairB ws os) (row, sow) t) (wlk (pairB ws os) pair0 ls k) = F at hp1 hp2 efold ⊢
        have hFl : F.length ≤ 16777216 := by
          obtain ⟨G, hG⟩ := w_pre (pairB ws os) (r := (row, sow)) (t := t) (c :: post) F
          rw [hG, List.length_append] at hp1
          omega
        have hpre : pre_pair_behind [.d (.tup [.lst ds, .lst es]), .d (.tup [rowD row, rowD sow]), .d (letD c)] := ⟨hB, hC, ⟨row, rfl, hS1⟩, ⟨sow, rfl, hS2⟩, c, rfl, hca⟩
        have hfv : f_pair_behind [.d (.tup [.lst ds, .lst es]), .d (.tup [rowD row, rowD sow]), .d (letD c)] = .d (prD (pairB ws os (row, sow) c)) := by
          show AR.d (prD (pairB (keysT ds) (keysT es) (txo (row.map .str), txo (sow.map .str)) c)) = _
          rw [txo_map, txo_map, hws, hos]
        have hB1 := rowB_S (ws := ws) (row := row) (c := c) hW
        have hB2 := rowB_S (ws := os) (row := sow) (c := c) hV
        have hFs : ∀ p ∈ F.map (·.1), (∀ t ∈ p.1, small t = true) ∧ ∀ t ∈ p.2, small t = true := fun r hr => by
          obtain ⟨p, hp, rfl⟩ := List.mem_map.mp hr
          have := (hp2.ok p hp).1
          rw [run_rows] at this
          rw [this]
          exact ⟨(rowAt_S hW _).2, (rowAt_S hV _).2⟩
        have em : F.map (fun p => prD p.1) = (F.map (·.1)).map prD := by rw [List.map_map]; rfl
        have efin : J2 ⟨[AV.d (.lst ds), .d (.lst es), .p 0, .d (.int k), .d (.tup [rowD row, rowD sow]), .d (.str t), .un, .un, .un, .un], [some (.lst ((wIns (pairB ws os) (row, sow) t F c).map ptD))]⟩ := hJ2 _ (by rw [efold])
        generalize hnew : pairB ws os (row, sow) c = new at hfv ⊢
        have hn1 : (∀ t ∈ new.1, small t = true) ∧ ∀ t ∈ new.2, small t = true := by rw [← hnew]; exact ⟨fun t ht => (hB1.2 t ht).1, fun t ht => (hB2.2 t ht).1⟩
        rw [show rowD row = D.lst (row.map .str) from rfl, show rowD sow = D.lst (sow.map .str) from rfl, show letD c = D.str [c] from rfl]
        walk_at "go"
        refine ⟨hpre, ?_⟩
        rw [hws, hos, hnew]
        walk_at "nx"
        refine lc_each (xs := F) (f := ptD) (fun p => prD p.1) rfl hFl (fun p hp => ⟨_, rfl, fun J hJ => ?_⟩) ?_
        · walk_at "go"
        walk_at "rd"
        refine ⟨okD_pr hn1.1 hn1.2, by rw [em]; exact okD_prs hFs, ?_⟩
        rw [em, any_pair]
        by_cases hm : new ∈ F.map (·.1)
        · rw [if_neg (by rw [decide_eq_true hm]; simp)]
          unfold wIns at efin
          rw [hnew, if_pos hm] at efin
          exact efin
        · rw [if_pos (by rw [decide_eq_false hm]; simp)]
          unfold wIns at efin
          rw [hnew, if_neg hm, List.map_append] at efin
          have hF1 : F.length < 16777216 := by
            obtain ⟨G, hG⟩ := w_pre (pairB ws os) (r := (row, sow)) (t := t) post (wIns (pairB ws os) (row, sow) t F c)
            rw [List.foldl_cons, hG, List.length_append] at hp1
            have : (wIns (pairB ws os) (row, sow) t F c).length = F.length + 1 := by unfold wIns; rw [hnew, if_neg hm]; simp
            omega
          have hk1 : k < 16777216 := by omega
          refine ⟨by omega, by rw [List.length_map]; exact hF1, efin⟩
      · rintro A rfl
        rw [← estep]
        walk_at "nx"
        exact hJ (m - 1) _ (by omega) ⟨k + 1, by omega, by obtain ⟨G, e⟩ := w_grow (st := pairB ws os) (a0 := pair0) ls k; rw [e, List.length_append]; omega, rfl⟩
    · walk_at "rd"
      rw [List.length_map, if_neg (fun z => by have := of_decide_eq_true z; omega)]
      walk_at "nx"
      subst hls
      rw [pairs_at (k := k) (by omega) (by omega)]
      exact ⟨_, rfl, rfl⟩
  · exact h.elim
theorem any_nilV (row : List Tx) : (row.map D.str).any (fun z => deq z (.str [])) = decide (([] : Tx) ∈ row) := by
  rw [List.any_map, Bool.eq_iff_iff, List.any_eq_true, decide_eq_true_eq]
  constructor
  · rintro ⟨x, hx, e⟩
    have e : deq (.str x) (.str []) = true := e
    rw [deq_str, decide_eq_true_eq] at e
    rw [← e]
    exact hx
  · intro h
    exact ⟨[], h, by show deq (.str []) (.str []) = true; rw [deq_str]; rfl⟩
theorem bl_ne (a b : Bool) : (!decide (a = b)) = (a != b) := by cases a <;> cases b <;> rfl
theorem r_is_parted : Law p_is_parted N_is_parted 1 (conP pre_is_parted f_is_parted) := fun ars h => by
  have h : pre_is_parted ars := h
  unfold pre_is_parted at h
  split at h
  · rename_i rs ss _
    obtain ⟨⟨row, rfl, hr⟩, sow, rfl, hs⟩ := h
    refine ⟨rfl, ?_⟩
    have h1 : okD (.lst (row.map D.str)) := okD_strS fun t ht => (hr.2 t ht).1
    have h2 : okD (.lst (sow.map D.str)) := okD_strS fun t ht => (hs.2 t ht).1
    have h0 : okD (.str []) := okD_sm (l := []) rfl
    unfold p_is_parted endsA
    walk_at "go"
    refine ⟨_, rfl, ?_⟩
    walk_at "go"
    refine ⟨_, rfl, ?_⟩
    walk_at "go"
    rw [any_nilV, any_nilV, bl_ne]
    rfl
  · exact h.elim
theorem pairs_ok {ws os : List Tx} (h1 : Wds ws 16) (h2 : Wds os 16) : (pairsOf ws os).length ≤ 16777216 ∧ ∀ p ∈ pairsOf ws os, p.1 = (rowAt ws p.2, rowAt os p.2) ∧ p.2.length ≤ 16777216 ∧ ∀ c ∈ p.2, c ∈ lets2 ws os := by
  rw [pairsOf_eq]
  exact ⟨w_few (few_pairs h1 h2) _ _, fun p hp => pair_row hp⟩
theorem r_parting_text : Law p_parting_text N_parting_text 2 (conP pre_parting_text f_parting_text) := fun ars h => by
  have h : pre_letters_of ars := h
  unfold pre_letters_of at h
  split at h
  · rename_i ds es _
    obtain ⟨hB, hC⟩ := h
    have hW := hB.keys
    have hV := hC.keys
    have hpre : pre_letters_of [.d (.lst ds), .d (.lst es)] := ⟨hB, hC⟩
    refine ⟨rfl, ?_⟩
    unfold p_parting_text endsA
    walk_at "go"
    obtain ⟨hfew, hro⟩ := pairs_ok hW hV
    unfold partO
    generalize pairsOf (keysT ds) (keysT es) = R at hro hfew ⊢
    refine for_over (xs := R) (f := ptD) (fun pre A => A = ⟨[AV.d (.lst ds), .d (.lst es), .un, .un], []⟩ ∧ ∀ p ∈ pre, prtB p.1 = false) ⟨rfl, fun p hp => by cases hp⟩ (by intros; trivial) ?_ ?_
    · rintro pre p post A e ⟨rfl, hpre2⟩
      refine ⟨_, rfl, fun J Kb hJ hK => ?_⟩
      obtain ⟨p1, p2, p3⟩ := hro p (by rw [e]; simp)
      have hS1 := rowAt_S hW p.2
      have hS2 := rowAt_S hV p.2
      have eD : prD p.1 = .tup [.lst ((rowAt (keysT ds) p.2).map .str), .lst ((rowAt (keysT es) p.2).map .str)] := by rw [p1]; rfl
      rw [eD]
      walk_at "go"
      refine ⟨⟨⟨_, rfl, hS1.1⟩, _, rfl, hS2.1⟩, ?_⟩
      rw [← p1]
      cases hpb : prtB p.1 with
      | true =>
        walk_at "go"
        rw [e, List.find?_append, List.find?_eq_none.mpr (fun x hx => by rw [hpre2 x hx]; exact Bool.false_ne_true), Option.none_or, List.find?_cons, hpb]
        rfl
      | false =>
        walk_at "go"
        refine hJ _ ⟨rfl, fun q hq => ?_⟩
        rcases List.mem_append.mp hq with hq | hq
        · exact hpre2 q hq
        · rw [List.mem_singleton] at hq
          rw [hq]; exact hpb
    · rintro A ⟨rfl, hall⟩
      walk_at "go"
      rw [List.find?_eq_none.mpr (fun x hx => by rw [hall x hx]; exact Bool.false_ne_true)]
      rfl
  · exact h.elim
theorem r_z__law_some_words : Law p_z__law_some_words N_z__law_some_words 1 (conN pre_z__law_some_words ok_z__law_some_words) := fun ars h => by
  have h : pre_store ars := h
  unfold pre_store at h
  split at h
  · subst h
    refine ⟨rfl, ?_⟩
    unfold p_z__law_some_words endsA
    walk_at "go"
    refine fun i i0 i1 => ?_
    walk_at "go"
    split
    · walk_at "rt"
      refine ⟨rfl, ?_⟩
      rintro y ⟨ws, rfl, w1, w2⟩
      walk_at "rt"
      exact ⟨ws, .inr rfl, w1, w2⟩
    · rename_i hi2
      have hi2 : i ≠ 2 := fun z => hi2 (decide_eq_true z)
      walk_at "rt"
      try walk_at "nx"
      refine ⟨rfl, ?_⟩
      rintro y ⟨ws, rfl, w1, w2⟩
      walk_at "rt"
      refine ⟨rfl, ?_⟩
      rintro y ⟨vs, rfl, v1, v2⟩
      walk_at "go"
      refine at_ex i0 (by show i < ((2 : Nat) : Int); omega) fun d hd => ?_
      simp only [List.mem_cons, List.not_mem_nil, or_false] at hd
      rcases hd with rfl | rfl
      · exact ⟨ws, .inl rfl, w1, w2⟩
      · exact ⟨vs, .inl rfl, v1, v2⟩
  · exact h.elim
abbrev secE (ws : List Tx) : PEnds := { nx := fun A => ok__law_second_words [AR.o (O.res storeRP), AR.d (D.lst (ws.map D.str))] (AR.d D.non) ∧ List.take 1 A.M = [some (O.res storeRP)], rt := retA 1 fun y os => ok__law_second_words [AR.o (O.res storeRP), AR.d (D.lst (ws.map D.str))] y ∧ os = [some (O.res storeRP)] }
abbrev secS (ws vs : List Tx) (i : Int) (m : AV) : Abs := ⟨[AV.p 0, .d (.lst (ws.map .str)), .d (.int i), .p 1, m, .un], [some (.res storeRP), some (.lst (vs.map .str))]⟩
theorem sec_d {ws vs : List Tx} {i : Int} {m : AV} (h : Wds vs 16) : q47d (secE ws) (secS ws vs i m) := by
  obtain ⟨w1, w2, w3, w4⟩ := wds_sorted h
  have hl := h.len
  unfold q47d secE secS
  walk_at "go"
  rw [w2]
  exact ⟨_, .inr rfl, w3, w4⟩
theorem wds_erase {ws : List Tx} (hW : Wds ws 16) (k : Nat) : Wds (ws.eraseIdx k) 16 := ⟨fun w h => hW.1 w ((List.eraseIdx_sublist ws _).mem h), hW.2.1.sublist (List.eraseIdx_sublist ws _), by
  have := sub_sum (List.eraseIdx_sublist ws k)
  have := hW.2.2
  omega⟩
theorem sec_pop {vs : List Tx} {k : Int} {P : List D → Prop} (h0 : 0 ≤ k) (h1 : k < (vs.map D.str).length) (hP : ∀ n, P ((vs.eraseIdx n).map D.str)) : -2 ^ 63 ≤ k ∧ (k < 2 ^ 63 ↔ k < 2 ^ 63) ∧ ∃ n d, seqIndex? k (vs.map D.str).length = some n ∧ (vs.map D.str)[n]? = some d ∧ P ((vs.map D.str).eraseIdx n) :=
  ⟨by omega, Iff.rfl, k.toNat, _, seq_at h0 h1, List.getElem?_eq_getElem (by omega), by rw [map_erase]; exact hP _⟩
theorem sec_c {ws vs : List Tx} {i : Int} {m : AV} (h : Wds vs 16) : q47c (secE ws) (secS ws vs i m) := by
  have hl := h.len
  unfold q47c
  walk_at "go"
  have hd : Then q47d (secE ws) (secS ws vs i m) := sec_d h
  split
  · split
    · rename_i h2 _
      have h2 : 1 < ((vs.map D.str).length : Int) := by
        first | exact of_decide_eq_true h2 | (rename_i h3; exact of_decide_eq_true h3)
      rw [List.length_map] at h2
      refine fun a a0 a1 => ?_
      split
      · refine ⟨by rw [List.length_map]; omega, by rw [List.length_map]; omega, fun k k0 k1 => ?_⟩
        obtain ⟨_, _, n, d, e1, e2, e3⟩ := sec_pop (vs := vs) (P := fun ds => ∃ n, ds = (vs.eraseIdx n).map D.str) k0 k1 fun n => ⟨n, rfl⟩
        obtain ⟨n2, e3⟩ := e3
        refine ⟨by omega, by rw [List.length_map] at k1; omega, n, d, e1, e2, ?_⟩
        rw [e3]
        exact sec_d (wds_erase h n2)
      · exact hd
    · exact hd
  · exact hd
theorem sec_b {ws vs : List Tx} {i : Int} {m : AV} (h : Wds vs 16) (hne : i = 4 → vs ≠ []) : q47b (secE ws) (secS ws vs i m) := by
  have hl := h.len
  unfold q47b
  walk_at "go"
  split
  · rename_i h4
    have hn := List.length_pos_iff.mpr (hne (of_decide_eq_true h4))
    refine ⟨by rw [List.length_map]; omega, by rw [List.length_map]; omega, fun k k0 k1 => ?_⟩
    obtain ⟨_, _, n, d, e1, e2, e3⟩ := sec_pop (vs := vs) (P := fun ds => ∃ n, ds = (vs.eraseIdx n).map D.str) k0 k1 fun n => ⟨n, rfl⟩
    obtain ⟨n2, e3⟩ := e3
    refine ⟨by omega, by rw [List.length_map] at k1; omega, n, d, e1, e2, ?_⟩
    rw [e3]
    exact sec_c (wds_erase h n2)
  · exact sec_c h
theorem sec_m {ws : List Tx} {i : Int} {w : Tx} {P : PEnds} (h : Wds ws 16) (hw : isWord w) (hP : ∀ vs : List Tx, Wds vs 16 → P.nx (secS ws vs i (.d (.str w)))) : q47m P (secS ws ws i (.d (.str w))) := by
  unfold q47m secS
  exact add_word hw h rfl rfl rfl fun vs hv => hP vs hv
theorem sum12 : ∀ {us : List Tx}, (∀ u ∈ us, small u = true ∧ 1 ≤ u.length ∧ u.length ≤ 12) → (us.map List.length).sum ≤ 12 * us.length
  | [], _ => Nat.le_refl _
  | u :: r, h => by
    have := sum12 (us := r) fun x hx => h x (by simp [hx])
    have := (h u (by simp)).2.2
    rw [List.map_cons, List.sum_cons, List.length_cons]
    omega
theorem sec_a {ws : List Tx} {i : Int} (h : Wds ws 16) (hne : ws ≠ []) : q47a (secE ws) (secS ws ws i .un) := by
  have hl := h.len
  have hn := List.length_pos_iff.mpr hne
  unfold q47a
  walk_at "go"
  by_cases hi : i < 4
  · rw [if_pos (decide_eq_true hi)]
    refine fun a a0 a1 => ⟨by unfold smallI; omega, ?_⟩
    refine lc_any (fun d => ∃ w, (small w = true ∧ 1 ≤ w.length ∧ w.length ≤ 12) ∧ d = .str w) (by intros; trivial) (by omega) (fun j hj => ⟨_, rfl, fun J hJ => ?_⟩) fun ds hdl hds => ?_
    · walk_at "rt"
      rw [List.length_map]
      refine ⟨by omega, by omega, fun b b0 b1 => at_ex b0 (by rw [List.length_map]; exact b1) fun d hd => ?_⟩
      obtain ⟨w, hww, rfl⟩ := List.mem_map.mp hd
      exact hJ _ ⟨w, ⟨(h.1 w hww).1, (h.1 w hww).2⟩, rfl⟩
    · obtain ⟨us, rfl, hus⟩ := strs_ofV _ hds
      rw [List.length_map] at hdl
      have hsum := sum12 hus
      have hjl : TL.joinL [] us = us.flatten := joinL_flat _
      have hfl : us.flatten.length = (us.map List.length).sum := List.length_flatten
      obtain ⟨more, hm, hmw⟩ : ∃ more, cutL us.flatten none (some 12) = more ∧ isWord more := ⟨_, rfl, by
        rw [cut_b (by decide)]
        have hs : small us.flatten = true := List.all_eq_true.mpr fun c hc => by
          obtain ⟨u, hu, hc⟩ := List.mem_flatten.mp hc
          exact List.all_eq_true.mp (hus u hu).1 c hc
        have h1 : 1 ≤ us.flatten.length := by
          match us, hdl with
          | u :: r, _ =>
            have := (hus u (by simp)).2.1
            rw [List.flatten_cons, List.length_append]
            omega
          | [], hdl => simp at hdl; omega
        refine ⟨small_take hs _, by rw [List.length_take]; omega, by rw [List.length_take]; omega⟩⟩
      have hul : us.length ≤ 3 := by omega
      unfold secS
      walk_at "rd"
      refine ⟨us, rfl, by omega, by rw [hjl]; omega, ?_⟩
      rw [hjl, hm]
      walk_at "nx"
      have hfin : ∀ w, isWord w → q47m { secE ws with nx := Then q47b (secE ws) } (secS ws ws i (.d (.str w))) := fun w hw => sec_m h hw fun vs hv => sec_b hv fun z => by omega
      by_cases h3 : i = 3
      · rw [if_pos (decide_eq_true h3)]
        rintro y ⟨s, rfl, a1, a2, a3⟩
        walk_at "rd"
        refine fun b b0 b1 => at_ex b0 b1 fun d hd => ?_
        obtain ⟨s2, rfl, c1, c2, c3⟩ : ∃ s2, d = .str s2 ∧ small s2 = true ∧ 1 ≤ s2.length ∧ s2.length ≤ 26 := by
          simp only [List.mem_cons, List.not_mem_nil, or_false] at hd
          rcases hd with rfl | rfl
          · exact ⟨_, rfl, by decide, by decide, by decide⟩
          · exact ⟨_, rfl, a1, a2, a3⟩
        walk_at "rt"
        refine ⟨⟨c1, c2, c3, ws, rfl, h.1, by omega⟩, ?_⟩
        rintro y ⟨w, rfl, hw⟩
        walk_at "rd"
        exact hfin w hw
      · rw [if_neg (fun z => h3 (of_decide_eq_true z))]
        exact hfin more hmw
  · rw [if_neg (fun z => hi (of_decide_eq_true z))]
    exact sec_b h fun _ => hne
theorem r__law_second_words : Law p__law_second_words N__law_second_words 2 (conN pre__law_second_words ok__law_second_words) := fun ars h => by
  have h : pre__law_second_words ars := h
  unfold pre__law_second_words at h
  split at h
  · rename_i rp xs _
    obtain ⟨rfl, ws, rfl, hW⟩ := h
    have hl := hW.len
    have hok : okD (.lst (ws.map D.str)) := okD_strS fun w hw => (hW.1 w hw).1
    refine ⟨rfl, ?_⟩
    unfold p__law_second_words endsA
    walk_at "go"
    refine fun i i0 i1 => ?_
    walk_at "go"
    by_cases hi : i = 0
    · rw [if_pos (decide_eq_true hi)]
      refine ⟨rfl, ?_⟩
      rintro y ⟨vs, rfl | rfl, v1, v2⟩
      · exact ⟨vs, .inl rfl, v1, v2⟩
      · exact ⟨vs, .inr rfl, v1, v2⟩
    · rw [if_neg (fun z => hi (of_decide_eq_true z))]
      refine ⟨hok, okD_nil, ?_⟩
      cases hwe : ws.isEmpty with
      | true =>
        rw [if_pos rfl]
        refine ⟨rfl, ?_⟩
        rintro y ⟨vs, rfl | rfl, v1, v2⟩
        · exact ⟨vs, .inl rfl, v1, v2⟩
        · exact ⟨vs, .inr rfl, v1, v2⟩
      | false =>
        have hne : ws ≠ [] := fun z => by rw [z] at hwe; cases hwe
        rw [if_neg Bool.false_ne_true]
        walk_at "nx"
        try walk_at "nx"
        exact sec_a hW hne
  · exact h.elim
theorem r__law_pairs : Law p__law_pairs N__law_pairs 2 (conP pre__law_pairs f__law_pairs) := fun ars h => by
  have h : pre__law_pairs ars := h
  unfold pre__law_pairs at h
  split at h
  · rename_i xs ys _
    obtain ⟨⟨ws, rfl, hW⟩, os, rfl, hV⟩ := h
    have hf := few_pairs hW hV
    refine ⟨rfl, ?_⟩
    unfold p__law_pairs endsA
    walk_at "go"
    have hs := two_small hW hV
    have hn := two_len hW hV
    have hj : TL.joinL [] (ws ++ os) = (ws ++ os).flatten := joinL_flat _
    have hfl : (ws ++ os).flatten.length = ((ws ++ os).map List.length).sum := List.length_flatten
    generalize hls : lets2 ws os = ls
    have hla : ∀ c ∈ ls, c ∈ abc := fun c hc => by rw [← hls] at hc; exact letsT_abc hc
    have hll : ls.length ≤ 26 := by rw [← hls]; exact letsT_len _
    have hfew : ∀ k, (wlk (pairB ws os) pair0 ls k).length ≤ 16777216 := w_few hf ls
    refine while_run (fun m A => ∃ k, m + k = 16777217 ∧ k ≤ (wlk (pairB ws os) pair0 ls k).length ∧ A = ⟨[AV.d (.lst (ws.map .str)), .d (.lst (os.map .str)), .p 0, .p 1, .d (.int k), .un, .un, .un, .un], [some (.lst ((wlk (pairB ws os) pair0 ls k).map ptD)), some (.lst ((wlk (pairB ws os) pair0 ls k).map fun p => prD p.1))]⟩) 16777217 ⟨0, by omega, Nat.zero_le _, rfl⟩ ?_
    rintro m A ⟨k, hmk, hk, rfl⟩ J Kb hJ hK
    have hF := hfew k
    have hFk := w_nd (st := pairB ws os) (a0 := pair0) ls k
    by_cases hlt : k < (wlk (pairB ws os) pair0 ls k).length
    · obtain ⟨⟨⟨row, sow⟩, t⟩, hrt⟩ : ∃ p, (wlk (pairB ws os) pair0 ls k)[k]? = some p := ⟨_, List.getElem?_eq_getElem hlt⟩
      have hat : atI ((wlk (pairB ws os) pair0 ls k).map ptD) (k : Int) = some (ptD ((row, sow), t)) := by
        have e := atI_nat (xs := (wlk (pairB ws os) pair0 ls k).map ptD) (m := k) (by rw [List.length_map]; exact hlt)
        rw [e, List.getElem_map, (List.getElem?_eq_some_iff.mp hrt).2]
      obtain ⟨hro, htl, hts⟩ := pair_row (List.mem_of_getElem? hrt)
      have hro0 : ((row, sow) : PairT) = run (pairB ws os) pair0 t := by rw [run_rows]; exact hro
      injection hro with hr1 hr2
      have htl : t.length ≤ k := htl
      obtain ⟨hS1, hs1⟩ := rowAt_S hW t
      obtain ⟨hS2, hs2⟩ := rowAt_S hV t
      rw [← hr1] at hS1 hs1
      rw [← hr2] at hS2 hs2
      have estep : wlk (pairB ws os) pair0 ls (k + 1) = ls.foldl (wIns (pairB ws os) (row, sow) t) (wlk (pairB ws os) pair0 ls k) := by
        show wStep (pairB ws os) ls (wlk (pairB ws os) pair0 ls k) k = _
        unfold wStep
        rw [hrt]
      have hpart : ∀ pre c post, ls = pre ++ c :: post → ((c :: post).foldl (wIns (pairB ws os) (row, sow) t) (pre.foldl (wIns (pairB ws os) (row, sow) t) (wlk (pairB ws os) pair0 ls k))).length ≤ 16777216 ∧ Wnd (pairB ws os) pair0 ls (k + 1) (pre.foldl (wIns (pairB ws os) (row, sow) t) (wlk (pairB ws os) pair0 ls k)) := fun pre c post e => by
        have h1 := hfew (k + 1)
        rw [estep] at h1
        rw [show ls.foldl (wIns (pairB ws os) (row, sow) t) (wlk (pairB ws os) pair0 ls k) = (c :: post).foldl (wIns (pairB ws os) (row, sow) t) (pre.foldl (wIns (pairB ws os) (row, sow) t) (wlk (pairB ws os) pair0 ls k)) by rw [← List.foldl_append, ← e]] at h1
        exact ⟨h1, Wnd.fold hro0 htl hts pre _ (fun x hx => by rw [e]; simp [hx]) (hFk.mono (by omega))⟩
      walk_at "rd"
      rw [List.length_map, if_pos (decide_eq_true (show (k : Int) < ((wlk (pairB ws os) pair0 ls k).length : Int) by omega))]
      refine ⟨_, hat, ?_⟩
      rw [show ptD ((row, sow), t) = .tup [.tup [rowD row, rowD sow], .str t] from rfl]
      walk_at "rd"
      walk_at "nx"
      walk_at "nx"
      have hwl := hW.len
      have hol := hV.len
      refine ⟨by rw [List.length_map, List.length_map]; omega, ?_⟩
      refine ⟨ws ++ os, by rw [List.map_append], by omega, ?_⟩
      rw [hj]
      refine ⟨by omega, fun zs hz hm => ?_⟩
      obtain ⟨s1, s2⟩ := lets_srt hs hz hm
      refine ⟨s1, ?_⟩
      rw [s2, show letsT (ws ++ os).flatten = ls from hls]
      refine for_over (xs := ls) (f := letD) (fun pre A => A = ⟨[AV.d (.lst (ws.map .str)), .d (.lst (os.map .str)), .p 0, .p 1, .d (.int (k + 1)), .d (.tup [rowD row, rowD sow]), .d (.str t), .un, .un], [some (.lst ((pre.foldl (wIns (pairB ws os) (row, sow) t) (wlk (pairB ws os) pair0 ls k)).map ptD)), some (.lst ((pre.foldl (wIns (pairB ws os) (row, sow) t) (wlk (pairB ws os) pair0 ls k)).map fun p => prD p.1))]⟩) rfl (by intros; trivial) ?_ ?_
      · rintro pre c post A e rfl
        obtain ⟨hp1, hp2⟩ := hpart pre c post e
        have hc : c ∈ ls := by rw [e]; simp
        have hca : c ∈ abc := hla c hc
        refine ⟨_, rfl, fun J2 Kb2 hJ2 hK2 => ?_⟩
        have efold : (pre ++ [c]).foldl (wIns (pairB ws os) (row, sow) t) (wlk (pairB ws os) pair0 ls k) = wIns (pairB ws os) (row, sow) t (pre.foldl (wIns (pairB ws os) (row, sow) t) (wlk (pairB ws os) pair0 ls k)) c := by rw [List.foldl_append]; rfl
        generalize pre.foldl (wIns (pairB ws os) (row, sow) t) (wlk (pairB ws os) pair0 ls k) = F at hp1 hp2 efold ⊢
        have hFl : F.length ≤ 16777216 := by
          obtain ⟨G, hG⟩ := w_pre (pairB ws os) (r := (row, sow)) (t := t) (c :: post) F
          rw [hG, List.length_append] at hp1
          omega
        have hB1 := rowB_S (ws := ws) (row := row) (c := c) hW
        have hB2 := rowB_S (ws := os) (row := sow) (c := c) hV
        have hFs : ∀ p ∈ F.map (·.1), (∀ t ∈ p.1, small t = true) ∧ ∀ t ∈ p.2, small t = true := fun r hr => by
          obtain ⟨p, hp, rfl⟩ := List.mem_map.mp hr
          have := (hp2.ok p hp).1
          rw [run_rows] at this
          rw [this]
          exact ⟨(rowAt_S hW _).2, (rowAt_S hV _).2⟩
        have em : F.map (fun p => prD p.1) = (F.map (·.1)).map prD := by rw [List.map_map]; rfl
        have efin : J2 ⟨[AV.d (.lst (ws.map .str)), .d (.lst (os.map .str)), .p 0, .p 1, .d (.int (k + 1)), .d (.tup [rowD row, rowD sow]), .d (.str t), .un, .un], [some (.lst ((wIns (pairB ws os) (row, sow) t F c).map ptD)), some (.lst ((wIns (pairB ws os) (row, sow) t F c).map fun p => prD p.1))]⟩ := hJ2 _ (by rw [efold])
        have hnew1 : prD (pairB ws os (row, sow) c) = .tup [.lst ((rowB ws row c).map .str), .lst ((rowB os sow c).map .str)] := rfl
        rw [show rowD row = D.lst (row.map .str) from rfl, show rowD sow = D.lst (sow.map .str) from rfl, show letD c = D.str [c] from rfl]
        walk_at "go"
        refine ⟨_, rfl, ⟨⟨c, rfl, hca⟩, ⟨ws, rfl, hW⟩, row, rfl, hS1⟩, ?_⟩
        walk_at "go"
        refine ⟨_, rfl, ⟨⟨c, rfl, hca⟩, ⟨os, rfl, hV⟩, sow, rfl, hS2⟩, ?_⟩
        walk_at "rd"
        rw [← hnew1]
        generalize hnew : pairB ws os (row, sow) c = new
        have hn1 : (∀ t ∈ new.1, small t = true) ∧ ∀ t ∈ new.2, small t = true := by rw [← hnew]; exact ⟨fun t ht => (hB1.2 t ht).1, fun t ht => (hB2.2 t ht).1⟩
        refine ⟨okD_pr hn1.1 hn1.2, by rw [em]; exact okD_prs hFs, ?_⟩
        rw [em, any_pair, ← em]
        walk_at "rd"
        by_cases hm : new ∈ F.map (·.1)
        · rw [if_neg (by rw [decide_eq_true hm]; simp)]
          unfold wIns at efin
          rw [hnew, if_pos hm] at efin
          exact efin
        · rw [if_pos (by rw [decide_eq_false hm]; simp)]
          unfold wIns at efin
          rw [hnew, if_neg hm, List.map_append, List.map_append] at efin
          have hF1 : F.length < 16777216 := by
            obtain ⟨G, hG⟩ := w_pre (pairB ws os) (r := (row, sow)) (t := t) post (wIns (pairB ws os) (row, sow) t F c)
            rw [List.foldl_cons, hG, List.length_append] at hp1
            have : (wIns (pairB ws os) (row, sow) t F c).length = F.length + 1 := by unfold wIns; rw [hnew, if_neg hm]; simp
            omega
          have hk1 : k < 16777216 := by omega
          walk_at "go"
          exact efin
      · rintro A rfl
        rw [← estep]
        exact hJ (m - 1) _ (by omega) ⟨k + 1, by omega, by obtain ⟨G, e⟩ := w_grow (st := pairB ws os) (a0 := pair0) ls k; rw [e, List.length_append]; omega, rfl⟩
    · walk_at "rd"
      rw [List.length_map, if_neg (fun z => by have := of_decide_eq_true z; omega)]
      walk_at "nx"
      subst hls
      rw [pairs_at (k := k) (by omega) (by omega)]
      exact ⟨_, rfl, rfl⟩
  · exact h.elim
theorem find_head {α β : Type} (q : α → Bool) (g : α → β) (R : List α) : ((R.filter q).map g).head? = (R.find? q).map g := by
  rw [List.head?_map, List.head?_filter]
theorem r__law_parting : Law p__law_parting N__law_parting 2 (conP pre__law_parting f__law_parting) := fun ars h => by
  have h : pre__law_pairs ars := h
  unfold pre__law_pairs at h
  split at h
  · rename_i xs ys _
    obtain ⟨⟨ws, rfl, hW⟩, os, rfl, hV⟩ := h
    obtain ⟨hfew, hro⟩ := pairs_ok hW hV
    have hone : (pairsOf ws os).filter (fun p => prtB p.1) ≠ pairsOf ws os := fun e => by
      have h0 : ((pair0, []) : PairT × Tx) ∈ pairsOf ws os := by rw [pairsOf_eq]; exact w_first _ _
      rw [← e] at h0
      have := (List.mem_filter.mp h0).2
      simp [prtB] at this
    have hlt : ((pairsOf ws os).filter fun p => prtB p.1).length < 16777216 := by
      have h1 := List.length_filter_le (fun p => prtB p.1) (pairsOf ws os)
      have h2 : ((pairsOf ws os).filter fun p => prtB p.1).length ≠ (pairsOf ws os).length := fun e => hone (List.filter_sublist.eq_of_length e)
      omega
    refine ⟨rfl, ?_⟩
    unfold p__law_parting endsA
    walk_at "go"
    refine ⟨⟨⟨ws, rfl, hW⟩, os, rfl, hV⟩, ?_⟩
    unfold partO
    generalize pairsOf ws os = R at hro hfew hlt ⊢
    refine lc_over (xs := R) (f := ptD) (fun p => prtB p.1) (fun p => .str p.2) trivial (by omega) (fun p hp => ⟨_, rfl, fun J hJ => ?_⟩) ?_
    · obtain ⟨p1, p2, p3⟩ := hro p hp
      have hS1 := rowAt_S hW p.2
      have hS2 := rowAt_S hV p.2
      have eD : prD p.1 = .tup [.lst ((rowAt ws p.2).map .str), .lst ((rowAt os p.2).map .str)] := by rw [p1]; rfl
      have h1 : okD (.lst ((rowAt ws p.2).map D.str)) := okD_strS hS1.2
      have h2 : okD (.lst ((rowAt os p.2).map D.str)) := okD_strS hS2.2
      have h0 : okD (.str []) := okD_sm (l := []) rfl
      rw [eD]
      walk_at "go"
      refine ⟨_, rfl, ?_⟩
      walk_at "go"
      refine ⟨_, rfl, ?_⟩
      walk_at "go"
      rw [any_nilV, any_nilV, bl_ne]
      rw [p1] at hJ
      exact hJ
    · walk_at "go"
      rw [← find_head (fun p : PairT × Tx => prtB p.1) (fun p => p.2)]
      cases hf : R.filter (fun p => prtB p.1) with
      | nil => exact ⟨_, rfl, rfl⟩
      | cons p r => exact ⟨.str p.2, by rw [show (0 : Int) = ((0 : Nat) : Int) from rfl, atI_nat (by simp)]; rfl, rfl⟩
  · exact h.elim
end PD

set_option pp.maxSteps 1500
namespace PD
open PySem PySem.Spec PyProof.Rows L2
def pre_law : List AR → Prop
  | [.d (.scr ns)] => ns.length ≤ 63
  | _ => False
def f_law : List AR → AR := fun _ => .d (.bl true)
def q47k : PTS :=
  (pSeq (pSetD 5 (pCalls (callN pre_x__law_book ok_x__law_book) (pCons (pVar 2) (pCons (pVar 3) pNil))))
  (pSeq (pSetD 6 (pCalls (callN pre_x__law_book ok_x__law_book) (pCons (pVar 2) (pCons (pVar 4) pNil))))
  (pSeq (pSetD 7 (pLst (pCons (pCall cListB (pCons (pVar 5) pNil)) (pCons (pCall cListB (pCons (pVar 6) pNil)) pNil))))
  (pSeq (pSetD 8 (pCalls (callP pre__law_parting f__law_parting) (pCons (pVar 3) (pCons (pVar 4) pNil))))
  (pSeq (pWip [9] (pFor (pItL (pLst (pCons (pCalls (callP pre_parting_text f_parting_text) (pCons (pOp2 bIx (pVar 7) (pC (.int 0))) (pCons (pOp2 bIx (pVar 7) (pC (.int 1))) pNil))) (pCons (pCalls (callP pre_parting_text f_parting_text) (pCons (pOp2 bIx (pVar 7) (pC (.int 1))) (pCons (pOp2 bIx (pVar 7) (pC (.int 0))) pNil))) pNil)))) (tgN 9) (pGw [9] [9] (pSeq (pIf (pOr (pAnd (pTest (pOp2 (bIs id) (pVar 8) (pC .non))) (pTest (pOp2 (bIs not) (pVar 9) (pC .non)))) (pAnd (pTest (pOp2 (bIs not) (pVar 8) (pC .non))) (pNot (pTest (pIsiP "str" (pVar 9)))))) (pRet (pC (.bl false)))
  pNext)
  (pIf (pTest (pOp2 (bEq not) (pVar 9) (pVar 8))) (pRet (pC (.bl false)))
  pNext)))))
  (pIf (pOr (pTest (pOp2 (bIs not) (pCalls (callP pre_parting_text f_parting_text) (pCons (pOp2 bIx (pVar 7) (pC (.int 0))) (pCons (pOp2 bIx (pVar 7) (pC (.int 0))) pNil))) (pC .non))) (pTest (pOp2 (bEq not) (pVar 7) (pLst (pCons (pVar 5) (pCons (pVar 6) pNil)))))) (pRet (pC (.bl false)))
  pNext))))))
def q47l : PTS :=
  (pSeq (pSetD 4 (pCalls (callN pre__law_second_words ok__law_second_words) (pCons (pVar 2) (pCons (pVar 3) pNil))))
  q47k)
def p_law : PTS :=
  (pSeq (pWip [1, 2, 3, 4, 5, 6, 7, 8, 9] (pFor (pRng1 (pCons (pCall cMin2 (pCons (pCall cMax2 (pCons (pCall cLen (pCons (pVar 0) pNil)) (pCons (pC (.int 3)) pNil))) (pCons (pC (.int 10)) pNil))) pNil)) (tgN 1) (pGw [1, 2, 3, 4, 5, 6, 7, 8, 9] [1, 2, 3, 4, 5, 6, 7, 8, 9] (pSeq (pSet 2 (pCalls (callP pre_x__law_store f_x__law_store) (pCons (pCalls (callN pre_x__law_cell ok_x__law_cell) (pCons (pVar 0) (pCons (pVar 1) pNil))) pNil)))
  (pSeq (pSetD 3 (pCalls (callN pre_z__law_some_words ok_z__law_some_words) (pCons (pVar 2) pNil)))
  q47l)))))
  (pRet (pC (.bl true))))
abbrev N_law : List Str := ["script", "at", "store", "words", "others", "one", "other", "handed", "due", "found"]
local macro_rules | `(tactic| walk_at "rd") => `(tactic| simp (config := { decide := true }) only [pSeq_then, pNext, pNever, pBreak, pCont, pDrop, pRet, pRetN, pIf, pSet, pSetD, setD, setP, setO, pVar, pC, pOp2, pTest, pAnd, pOr, pNot, pAndV, pOrV, pNotV, pIfE, pNil, pCons, pLst, pTup, pDict0, pDictC, pDM, dUpdate, pCall, pIsiP, pM1, bJoin, pNo, pPart, pSl, pSortI, pLM, lAppend, lInsert, lExtend, lPopAt, lPop, lReverse, lClear, pLc_eq, pFor_eq, pWhile_eq, pWip, pGw, wipeS, trunc, truncE, pItL, pItS, pRng1, pRng2, pRng3, pVarF, pAug, pDictLen, pLr3, pNeg, pCalls, callP, pEnum, pStepS, pRevL, bStarts, bEnds, pAugK, pItK, pFz, pRaise, pCallX, callX, pTry, pIsX, pLr1, pM0, bUpper, cListB, cTuple, pOrT, pDictLenT, pBor, borE, scalD, pPickL, cSum, cAbs, bOrd, pre_is_begun, f_is_begun, pre_row_behind, f_row_behind, pre_words_in, f_words_in, pre_letters_of, f_letters_of, pre_pair_behind, f_pair_behind, pre_pairs_from, f_pairs_from, pre_is_parted, f_is_parted, pre_parting_text, f_parting_text, pre_x__law_cell, pre_x__law_store, f_x__law_store, pre_x__law_kept_word, pre_x__law_words, pre_x__law_book, pre_x__law_is_begun, f_x__law_is_begun, pre_x__law_parts, f_x__law_parts, pre_x__law_split_words, pre_x__law_alphabet, pre_x__law_wide_words, pre_z__law_some_words, pre_x__law_row_behind, f_x__law_row_behind, pre__law_second_words, pre__law_pairs, f__law_pairs, pre__law_parting, f__law_parting, pre_law, f_law, merge_dictOf, filter_none, take_iff, callN, txo_map, deq_nilU, map_isEmpty, keysT_map, pItS, toAR, R.fz, view, views, dats, O.toD, AR.toR, bAdd, bSub, bMul, bDiv, bMod, bPow, bEq,  pSrtSet, pSrtSetS, pForM_eq, pGx, bCmp, bIn, bIs, bIx, bSl, cLen, cMin2, cMax2, cInt, cList, cDict, cSorted, plainD, isiB, tyn, pAsg, tgT, tgU, setsA, pSetIx, storeO, kdOf, pChain, cmpD, pYes, pTru, truD, Hand, tgN, wipeA, fnAbs, envA, ownsA, retA, conP, conN, List.set, List.set_cons_zero, List.set_cons_succ, List.set_nil, List.getElem?_cons_zero, List.getElem?_cons_succ, List.getElem?_nil, List.length_cons, List.length_nil, List.cons_append, List.nil_append, List.append_nil, List.replicate, Nat.reduceSub, Nat.reduceAdd, Nat.zero_add, Int.zero_add, true_and, and_true, reduceIte, Bool.false_eq_true, id, Bool.not_true, Bool.not_false, decide_true, decide_false, List.nodup_nil, List.nodup_cons, List.not_mem_nil, not_false_eq_true, List.take_zero, List.take_succ_cons, List.take_nil, List.map_cons, List.map_nil])
local macro_rules | `(tactic| walk_at "sc") => `(tactic| first | with_reducible assumption | omega | with_reducible rfl | with_reducible exact True.intro | with_reducible exact okD_ints | with_reducible exact okD_nil | with_reducible exact okD_int _ | with_reducible exact okD_bl _ | with_reducible exact okD_non | with_reducible exact okD_sm (by assumption) | with_reducible exact cmulR (by omega) (by omega) | with_reducible exact cmulL (by omega) (by omega) | with_reducible exact cdivw (by omega) (by omega) | (with_reducible refine smallI_of ?_ ?_ <;> first | omega | (simp only [List.length_map, List.length_append, List.length_range, List.length_replicate, List.length_cons, List.length_nil, List.length_take, List.length_drop]; omega)) | (unfold CPow; decide) | (simp only [List.length_map, List.length_append, List.length_range, List.length_replicate, List.length_cons, List.length_nil, List.length_take, List.length_drop]; omega) | (refine ⟨?_, ?_⟩ <;> walk_at "sc"))
local macro_rules | `(tactic| walk_at "go") => `(tactic| repeat (first | walk_at "rd" | with_reducible refine then_go ?_ | (refine And.intro (by walk_at "sc") ?_) | (with_reducible refine dict_of (by assumption) ?_) | rw [deq_self (by walk_at "sc")] | walk_at "sc"))
local macro_rules | `(tactic| walk_at "rt") => `(tactic| try walk_at "rd")
local macro_rules | `(tactic| walk_at "nx") => `(tactic| ((try dsimp only); rw [then_eq]; walk_at "rd"))
theorem law_k {ns : List Int} {k : Int} {ws os : List Tx} {P : PEnds} (hW : Wds ws 16) (hV : Wds os 16)
    (hP : ∀ x2 x3 x4 x5 x6 x7 x8 x9 M, P.nx ⟨[.d (.scr ns), .d (.int k), x2, x3, x4, x5, x6, x7, x8, x9], M⟩) :
    q47k P ⟨[.d (.scr ns), .d (.int k), .p 0, .d (.lst (ws.map .str)), .d (.lst (os.map .str)), .un, .un, .un, .un, .un], [some (.res storeRP)]⟩ := by
  have hl := hW.len
  have hl2 := hV.len
  unfold q47k
  walk_at "go"
  refine ⟨⟨ws, rfl, by omega⟩, ?_⟩
  rintro y ⟨ps, rfl, e⟩
  have e : ws = ps.map (·.1) := strs_inj e
  walk_at "go"
  rintro y ⟨qs, rfl, e2⟩
  have e2 : os = qs.map (·.1) := strs_inj e2
  have hB : BookS (ps.map fun p => pairD (.inr p.1, .int p.2)) := ⟨ps, rfl, by rw [← e]; exact hW⟩
  have hC : BookS (qs.map fun p => pairD (.inr p.1, .int p.2)) := ⟨qs, rfl, by rw [← e2]; exact hV⟩
  have hk1 : keysT (ps.map fun p => pairD (.inr p.1, .int p.2)) = ws := by rw [keysT_map, e]
  have hk2 : keysT (qs.map fun p => pairD (.inr p.1, .int p.2)) = os := by rw [keysT_map, e2]
  have okT : okD (.lst [.lst (ps.map fun p => pairD (.inr p.1, .int p.2)), .lst (qs.map fun p => pairD (.inr p.1, .int p.2))]) := okD_two (m := 2) (by decide) (book_chk fun p hp => (hW.1 p.1 (by rw [e]; exact List.mem_map.mpr ⟨p, hp, rfl⟩)).1) (book_chk fun p hp => (hV.1 p.1 (by rw [e2]; exact List.mem_map.mpr ⟨p, hp, rfl⟩)).1)
  have hsw := partO_swap hW hV
  have hse := partO_self hW
  generalize (ps.map fun p => pairD (.inr p.1, .int p.2)) = ds at hB hk1 okT ⊢
  generalize (qs.map fun p => pairD (.inr p.1, .int p.2)) = es at hC hk2 okT ⊢
  walk_at "go"
  refine ⟨⟨⟨ws, rfl, hW⟩, os, rfl, hV⟩, ?_⟩
  have hpa : pre_letters_of [.d (.lst ds), .d (.lst es)] := ⟨hB, hC⟩
  have hpb : pre_letters_of [.d (.lst es), .d (.lst ds)] := ⟨hC, hB⟩
  have hpc : pre_letters_of [.d (.lst ds), .d (.lst ds)] := ⟨hB, hB⟩
  generalize hU : partO ws os = U at hsw ⊢
  walk_at "nx"
  refine ⟨_, rfl, _, rfl, hpa, ?_⟩
  walk_at "rd"
  refine ⟨_, rfl, _, rfl, hpb, ?_⟩
  walk_at "rd"
  rw [hk1, hk2, hU, ← hsw]
  refine for_over (xs := [U, U]) (f := optS) (fun pre A => A = ⟨[AV.d (.scr ns), .d (.int k), .p 0, .d (.lst (ws.map .str)), .d (.lst (os.map .str)), .d (.lst ds), .d (.lst es), .d (.lst [.lst ds, .lst es]), .d (optS U), .un], [some (.res storeRP)]⟩) rfl (by intros; trivial) ?_ ?_
  · rintro pre x post A e3 rfl
    refine ⟨_, rfl, fun J Kb hJ hK => ?_⟩
    have hx : x = U := by
      have : x ∈ [U, U] := by rw [e3]; simp
      simpa using this
    subst hx
    cases x with
    | none =>
      show _
      unfold optS
      walk_at "go"
      exact hJ _ rfl
    | some t =>
      show _
      unfold optS
      walk_at "go"
      exact hJ _ rfl
  · rintro A rfl
    walk_at "nx"
    refine ⟨_, rfl, _, rfl, hpc, ?_⟩
    walk_at "rd"
    rw [hk1, hse]
    unfold optS
    walk_at "rd"
    refine ⟨okT, okT, ?_⟩
    rw [deq_self okT]
    exact hP _ _ _ _ _ _ _ _ _
theorem law_l {ns : List Int} {k : Int} {ws : List Tx} {P : PEnds} (hW : Wds ws 16)
    (hP : ∀ x2 x3 x4 x5 x6 x7 x8 x9 M, P.nx ⟨[.d (.scr ns), .d (.int k), x2, x3, x4, x5, x6, x7, x8, x9], M⟩) :
    q47l P ⟨[.d (.scr ns), .d (.int k), .p 0, .d (.lst (ws.map .str)), .un, .un, .un, .un, .un, .un], [some (.res storeRP)]⟩ := by
  unfold q47l
  walk_at "go"
  rintro y ⟨os, rfl | rfl, hV, _⟩
  · try walk_at "nx"
    exact law_k hW hV hP
  · try walk_at "nx"
    exact law_k hW hV hP
theorem r_law : Law p_law N_law 1 (conP pre_law f_law) := fun ars h => by
  have h : pre_law ars := h
  unfold pre_law at h
  split at h
  · rename_i ns _
    have h : ns.length ≤ 63 := h
    refine ⟨rfl, ?_⟩
    unfold p_law endsA
    walk_at "go"
    refine for_rng0 (fun i A => A = ⟨[AV.d (.scr ns), .un, .un, .un, .un, .un, .un, .un, .un, .un], []⟩) rfl (by intros; trivial) ?_ ?_
    · rintro i A hi rfl
      have hi : i ≤ 12 := by split at hi <;> split at hi <;> omega
      refine ⟨_, rfl, fun J Kb hJ hK => ?_⟩
      walk_at "go"
      rintro y ⟨c, rfl⟩
      walk_at "go"
      refine ⟨rfl, ?_⟩
      rintro y ⟨ws, rfl | rfl, hW, _⟩
      · try walk_at "nx"
        exact law_l hW fun _ _ _ _ _ _ _ _ _ => hJ _ rfl
      · try walk_at "nx"
        exact law_l hW fun _ _ _ _ _ _ _ _ _ => hJ _ rfl
    · rintro A rfl
      walk_at "nx"
  · exact h.elim
end PD

namespace PD
open PySem PySem.Spec PyProof.Rows L2
section
open PySem PySem.Spec PyProof.Rows L2
def top (i : Nat) : Stmt := PySem.Challenge.pw_bookcuts_k47_texts_that_part_books.main.body.getD i (.Pass ⟨0, 0, 0, 0⟩)
abbrev s_is_begun : Stmt := top 1
abbrev s_row_behind : Stmt := top 2
abbrev s_words_in : Stmt := top 4
abbrev s_letters_of : Stmt := top 5
abbrev s_pair_behind : Stmt := top 6
abbrev s_pairs_from : Stmt := top 7
abbrev s_is_parted : Stmt := top 8
abbrev s_parting_text : Stmt := top 9
abbrev s__law_cell : Stmt := top 11
abbrev s__law_store : Stmt := top 12
abbrev s__law_take : Stmt := top 13
abbrev s__law_kept_word : Stmt := top 14
abbrev s__law_words : Stmt := top 15
abbrev s__law_book : Stmt := top 16
abbrev s__law_is_begun : Stmt := top 17
abbrev s__law_parts : Stmt := top 18
abbrev s__law_split_words : Stmt := top 19
abbrev s__law_alphabet : Stmt := top 20
abbrev s__law_wide_words : Stmt := top 21
abbrev s__law_some_words : Stmt := top 22
abbrev s__law_row_behind : Stmt := top 23
abbrev s__law_second_words : Stmt := top 24
abbrev s__law_pairs : Stmt := top 25
abbrev s__law_parting : Stmt := top 26
abbrev s_law : Stmt := top 27
/-- what the names of the text hold -/
structure Txt (K : PySem.W.Frag) (mg : Str → Option Value) : Prop where
  b_isinstance : mg "isinstance" = none
  b_len : mg "len" = none
  b_list : mg "list" = none
  b_max : mg "max" = none
  b_min : mg "min" = none
  b_range : mg "range" = none
  b_set : mg "set" = none
  b_sorted : mg "sorted" = none
  b_str : mg "str" = none
variable {P : Program} {w : World} {K : PySem.W.Frag} {mg : Str → Option Value} {base : Heap}
theorem sc_is_begun : FnScope ["words", "text", "word"] ["words", "text"] (defScope s_is_begun) := ⟨rfl, rfl, rfl, by decide +kernel, rfl, by decide +kernel, by decide +kernel⟩
theorem w_is_begun (T : Txt K mg) (f : Addr) (cdv : Value) (A : Around) (outer : List Env) (s : Shared) (H : Hp) (E : XK) (hr : Room 0 (A.deeper (envOfC "is_begun" (defScope s_is_begun) s.heap.objs.size f cdv))) :
    ∃ t, DSs (cxOf CX0 P w K mg base ["words", "text", "word"] "is_begun" (defScope s_is_begun) f cdv A outer s H E).nox W0 (defBody s_is_begun) t p_is_begun := by
  have hu65 := hu65_of hr
  have hu64 := hr.units
  have hu1 := hu_of hr
  exact ⟨_, (dss_one (ds_ret (de_cmp (r := rEqA K not) (op_neA hu64) (snd_eq not) rfl (de_lc (own := [("word", 2)]) rfl sc_is_begun.nd (klst (K := K) (de_var 0)) (show blkC ["words", "text", "word"] (defScope s_is_begun) _ _ = true by decide +kernel) (fun _ _ _ _ _ => (dg_n 2 sc_is_begun.nd)) (fun _ _ _ _ _ => (dts_one (dt_w (dw_and (dt_cmp (r := rEqA K not) (op_neA hu64) (snd_eq not) rfl (de_var 2) (de_var 1)) (dw_and1 (ktru (K := K) (km1 (K := K) PySem.F.slot_str_startswith PySem.F.type_str_startswith mt_startswith snd_starts (de_var 2) (de_var 1)))))))) (fun _ _ _ _ _ => (de_var 2)) (by decide) (s, H)) (de_lst da_nil))))⟩
theorem sc_row_behind : FnScope ["words", "row", "letter", "found", "text", "longer"] ["words", "row", "letter"] (defScope s_row_behind) := ⟨rfl, rfl, rfl, by decide +kernel, rfl, by decide +kernel, by decide +kernel⟩
theorem w_row_behind (T : Txt K mg) (c_is_begun : ACal P w K mg base 1 "is_begun" (conP pre_is_begun f_is_begun)) (f : Addr) (cdv : Value) (A : Around) (outer : List Env) (s : Shared) (H : Hp) (E : XK) (hr : Room 1 (A.deeper (envOfC "row_behind" (defScope s_row_behind) s.heap.objs.size f cdv))) :
    ∃ t, DSs (cxOf CX0 P w K mg base ["words", "row", "letter", "found", "text", "longer"] "row_behind" (defScope s_row_behind) f cdv A outer s H E).nox W0 (defBody s_row_behind) t p_row_behind := by
  have hu65 := hu65_of hr
  have hu64 := hr.units
  have hu1 := hu_of hr
  exact ⟨_, (dss_cons (ds_set 3 sc_row_behind.nd de_dict0)
  (dss_cons (DS.wip (ws := [4, 5]) (ds_for PassesOwn.never rfl (klst (K := K) (de_var 1)) (dg_n 4 sc_row_behind.nd) (DSs.gw (ws := [4, 5]) (wb := [4, 5]) (dss_cons (ds_setD 5 sc_row_behind.nd (de_op op_addA snd_add (de_var 4) (de_var 2)))
  (dss_cons (ds_if (dt_cmp (r := rInA K id) (op_inA hu65) (snd_in id) rfl (de_var 5) (de_var 0)) (dss_one (ds_setIx hu1 (de_var 3) (de_str rfl) de_bl))
  dss_nil)
  (dss_one (ds_if (dt_val (kcall (K := K) (reads_P pre_is_begun f_is_begun) c_is_begun hr (by decide) rfl (da_cons (de_var 0) (da_cons (de_var 5) da_nil)))) (dss_one (ds_setIx hu1 (de_var 3) (de_var 5) de_bl))
  dss_nil)))))))
  (dss_one (ds_ret (de_cb (r := rSortA K) (call_sortA rfl hu64) snd_sorted rfl T.b_sorted rfl (da_cons (de_var 3) da_nil))))))⟩
theorem sc_words_in : FnScope ["book", "word", "weight"] ["book"] (defScope s_words_in) := ⟨rfl, rfl, rfl, by decide +kernel, rfl, by decide +kernel, by decide +kernel⟩
theorem w_words_in (T : Txt K mg) (f : Addr) (cdv : Value) (A : Around) (outer : List Env) (s : Shared) (H : Hp) (E : XK) (hr : Room 0 (A.deeper (envOfC "words_in" (defScope s_words_in) s.heap.objs.size f cdv))) :
    ∃ t, DSs (cxOf CX0 P w K mg base ["book", "word", "weight"] "words_in" (defScope s_words_in) f cdv A outer s H E).nox W0 (defBody s_words_in) t p_words_in := by
  have hu65 := hu65_of hr
  have hu64 := hr.units
  have hu1 := hu_of hr
  exact ⟨_, (dss_one (ds_ret (de_lc (own := [("word", 1), ("weight", 2)]) rfl sc_words_in.nd (klst (K := K) (de_var 0)) (show blkC ["book", "word", "weight"] (defScope s_words_in) _ _ = true by decide +kernel) (fun _ _ _ _ _ => (kdg_t (K := K) [1, 2] rfl (pgs_cons (pg_name (i := 1) sc_words_in.nd rfl (by first | exact Or.inl rfl | exact Or.inr rfl)) (pgs_cons (pg_name (i := 2) sc_words_in.nd rfl (by first | exact Or.inl rfl | exact Or.inr rfl)) pgs_nil)))) (fun _ _ _ _ _ => dts_nil) (fun _ _ _ _ _ => (de_var 1)) (by decide) (s, H))))⟩
theorem sc_letters_of : FnScope ["one", "other"] ["one", "other"] (defScope s_letters_of) := ⟨rfl, rfl, rfl, by decide +kernel, rfl, by decide +kernel, by decide +kernel⟩
theorem w_letters_of (T : Txt K mg) (c_words_in : ACal P w K mg base 1 "words_in" (conP pre_words_in f_words_in)) (f : Addr) (cdv : Value) (A : Around) (outer : List Env) (s : Shared) (H : Hp) (E : XK) (hr : Room 1 (A.deeper (envOfC "letters_of" (defScope s_letters_of) s.heap.objs.size f cdv))) :
    ∃ t, DSs (cxOf CX0 P w K mg base ["one", "other"] "letters_of" (defScope s_letters_of) f cdv A outer s H E).nox W0 (defBody s_letters_of) t p_letters_of := by
  have hu65 := hu65_of hr
  have hu64 := hr.units
  have hu1 := hu_of hr
  exact ⟨_, (dss_one (ds_ret (de_srtSetS (K := K) rfl hu64 rfl T.b_sorted rfl T.b_set (kjoin (K := K) (de_str rfl) (de_op op_addA snd_add (kcall (K := K) (reads_P pre_words_in f_words_in) c_words_in hr (by decide) rfl (da_cons (de_var 0) da_nil)) (kcall (K := K) (reads_P pre_words_in f_words_in) c_words_in hr (by decide) rfl (da_cons (de_var 1) da_nil)))))))⟩
theorem sc_pair_behind : FnScope ["books", "pair", "letter"] ["books", "pair", "letter"] (defScope s_pair_behind) := ⟨rfl, rfl, rfl, by decide +kernel, rfl, by decide +kernel, by decide +kernel⟩
theorem w_pair_behind (T : Txt K mg) (c_row_behind : ACal P w K mg base 2 "row_behind" (conP pre_row_behind f_row_behind)) (c_words_in : ACal P w K mg base 1 "words_in" (conP pre_words_in f_words_in)) (f : Addr) (cdv : Value) (A : Around) (outer : List Env) (s : Shared) (H : Hp) (E : XK) (hr : Room 2 (A.deeper (envOfC "pair_behind" (defScope s_pair_behind) s.heap.objs.size f cdv))) :
    ∃ t, DSs (cxOf CX0 P w K mg base ["books", "pair", "letter"] "pair_behind" (defScope s_pair_behind) f cdv A outer s H E).nox W0 (defBody s_pair_behind) t p_pair_behind := by
  have hu65 := hu65_of hr
  have hu64 := hr.units
  have hu1 := hu_of hr
  exact ⟨_, (dss_one (ds_ret (de_tup (da_cons (kcall (K := K) (reads_P pre_row_behind f_row_behind) c_row_behind hr (by decide) rfl (da_cons (kcall (K := K) (reads_P pre_words_in f_words_in) c_words_in hr (by decide) rfl (da_cons (kix (K := K) hu1 (de_var 0) de_int) da_nil)) (da_cons (kix (K := K) hu1 (de_var 1) de_int) (da_cons (de_var 2) da_nil)))) (da_cons (kcall (K := K) (reads_P pre_row_behind f_row_behind) c_row_behind hr (by decide) rfl (da_cons (kcall (K := K) (reads_P pre_words_in f_words_in) c_words_in hr (by decide) rfl (da_cons (kix (K := K) hu1 (de_var 0) de_int) da_nil)) (da_cons (kix (K := K) hu1 (de_var 1) de_int) (da_cons (de_var 2) da_nil)))) da_nil)))))⟩
theorem sc_pairs_from : FnScope ["one", "other", "found", "at", "pair", "text", "letter", "later", "met", "begun"] ["one", "other"] (defScope s_pairs_from) := ⟨rfl, rfl, rfl, by decide +kernel, rfl, by decide +kernel, by decide +kernel⟩
theorem w_pairs_from (T : Txt K mg) (c_letters_of : ACal P w K mg base 2 "letters_of" (conP pre_letters_of f_letters_of)) (c_pair_behind : ACal P w K mg base 3 "pair_behind" (conP pre_pair_behind f_pair_behind)) (f : Addr) (cdv : Value) (A : Around) (outer : List Env) (s : Shared) (H : Hp) (E : XK) (hr : Room 3 (A.deeper (envOfC "pairs_from" (defScope s_pairs_from) s.heap.objs.size f cdv))) :
    ∃ t, DSs (cxOf CX0 P w K mg base ["one", "other", "found", "at", "pair", "text", "letter", "later", "met", "begun"] "pairs_from" (defScope s_pairs_from) f cdv A outer s H E).nox W0 (defBody s_pairs_from) t p_pairs_from := by
  have hu65 := hu65_of hr
  have hu64 := hr.units
  have hu1 := hu_of hr
  exact ⟨_, (dss_cons (ds_set 2 sc_pairs_from.nd (de_lst (da_cons (de_tup (da_cons (de_tup (da_cons (de_lst (da_cons (de_str rfl) da_nil)) (da_cons (de_lst (da_cons (de_str rfl) da_nil)) da_nil))) (da_cons (de_str rfl) da_nil))) da_nil)))
  (dss_cons (ds_set 3 sc_pairs_from.nd de_int)
  (dss_cons (DS.wip (ws := [4, 5, 6, 7]) (ds_while PassesOwn.never (dt_cmp op_ltA (snd_cmp _ _) rfl (de_var 3) (de_cb (r := rLenA K) call_lenA snd_len rfl T.b_len rfl (da_cons (de_var 2) da_nil))) (DSs.gw (ws := [4, 5, 6, 7]) (wb := [3, 4, 5, 6, 7]) (dss_cons (ds_asg (kix (K := K) hu1 (de_var 2) (de_var 3)) (kdg_t (K := K) [4, 5] rfl (pgs_cons (pg_name (i := 4) sc_pairs_from.nd rfl (by first | exact Or.inl rfl | exact Or.inr rfl)) (pgs_cons (pg_name (i := 5) sc_pairs_from.nd rfl (by first | exact Or.inl rfl | exact Or.inr rfl)) pgs_nil))))
  (dss_cons (DS.wip (ws := [6, 7]) (ds_for PassesOwn.never rfl (klst (K := K) (kcall (K := K) (reads_P pre_letters_of f_letters_of) c_letters_of hr (by decide) rfl (da_cons (de_var 0) (da_cons (de_var 1) da_nil)))) (dg_n 6 sc_pairs_from.nd) (DSs.gw (ws := [6, 7]) (wb := [6, 7]) (dss_cons (ds_setD 7 sc_pairs_from.nd (kcall (K := K) (reads_P pre_pair_behind f_pair_behind) c_pair_behind hr (by decide) rfl (da_cons (de_tup (da_cons (de_var 0) (da_cons (de_var 1) da_nil))) (da_cons (de_var 4) (da_cons (de_var 6) da_nil)))))
  (dss_one (ds_if (dt_cmp (r := rInA K not) (op_notInA hu65) (snd_in not) rfl (de_var 7) (de_lc (own := [("met", 8), ("begun", 9)]) rfl sc_pairs_from.nd (klst (K := K) (de_var 2)) (show blkC ["one", "other", "found", "at", "pair", "text", "letter", "later", "met", "begun"] (defScope s_pairs_from) _ _ = true by decide +kernel) (fun _ _ _ _ _ => (kdg_t (K := K) [8, 9] rfl (pgs_cons (pg_name (i := 8) sc_pairs_from.nd rfl (by first | exact Or.inl rfl | exact Or.inr rfl)) (pgs_cons (pg_name (i := 9) sc_pairs_from.nd rfl (by first | exact Or.inl rfl | exact Or.inr rfl)) pgs_nil)))) (fun _ _ _ _ _ => dts_nil) (fun _ _ _ _ _ => (de_var 8)) (by decide) (s, H))) (dss_one (ds_expr (klm (K := K) PySem.F.slot_list_append PySem.F.type_list_append mt_append snd_append (de_var 2) (da_cons (de_tup (da_cons (de_var 7) (da_cons (de_op op_addA snd_add (de_var 5) (de_var 6)) da_nil))) da_nil))))
  dss_nil))))))
  (dss_one (ds_augAdd 3 sc_pairs_from.nd de_int)))))))
  (dss_one (ds_ret (de_var 2))))))⟩
theorem sc_is_parted : FnScope ["pair"] ["pair"] (defScope s_is_parted) := ⟨rfl, rfl, rfl, by decide +kernel, rfl, by decide +kernel, by decide +kernel⟩
theorem w_is_parted (T : Txt K mg) (f : Addr) (cdv : Value) (A : Around) (outer : List Env) (s : Shared) (H : Hp) (E : XK) (hr : Room 0 (A.deeper (envOfC "is_parted" (defScope s_is_parted) s.heap.objs.size f cdv))) :
    ∃ t, DSs (cxOf CX0 P w K mg base ["pair"] "is_parted" (defScope s_is_parted) f cdv A outer s H E).nox W0 (defBody s_is_parted) t p_is_parted := by
  have hu65 := hu65_of hr
  have hu64 := hr.units
  have hu1 := hu_of hr
  exact ⟨_, (dss_one (ds_ret (de_cmp (r := rEqA K not) (op_neA hu64) (snd_eq not) rfl (de_cmp (r := rInA K id) (op_inA hu65) (snd_in id) rfl (de_str rfl) (kix (K := K) hu1 (de_var 0) de_int)) (de_cmp (r := rInA K id) (op_inA hu65) (snd_in id) rfl (de_str rfl) (kix (K := K) hu1 (de_var 0) de_int)))))⟩
theorem sc_parting_text : FnScope ["one", "other", "pair", "text"] ["one", "other"] (defScope s_parting_text) := ⟨rfl, rfl, rfl, by decide +kernel, rfl, by decide +kernel, by decide +kernel⟩
theorem w_parting_text (T : Txt K mg) (c_pairs_from : ACal P w K mg base 4 "pairs_from" (conP pre_pairs_from f_pairs_from)) (c_is_parted : ACal P w K mg base 1 "is_parted" (conP pre_is_parted f_is_parted)) (f : Addr) (cdv : Value) (A : Around) (outer : List Env) (s : Shared) (H : Hp) (E : XK) (hr : Room 4 (A.deeper (envOfC "parting_text" (defScope s_parting_text) s.heap.objs.size f cdv))) :
    ∃ t, DSs (cxOf CX0 P w K mg base ["one", "other", "pair", "text"] "parting_text" (defScope s_parting_text) f cdv A outer s H E).nox W0 (defBody s_parting_text) t p_parting_text := by
  have hu65 := hu65_of hr
  have hu64 := hr.units
  have hu1 := hu_of hr
  exact ⟨_, (dss_cons (DS.wip (ws := [2, 3]) (ds_for PassesOwn.never rfl (klst (K := K) (kcall (K := K) (reads_P pre_pairs_from f_pairs_from) c_pairs_from hr (by decide) rfl (da_cons (de_var 0) (da_cons (de_var 1) da_nil)))) (kdg_t (K := K) [2, 3] rfl (pgs_cons (pg_name (i := 2) sc_parting_text.nd rfl (by first | exact Or.inl rfl | exact Or.inr rfl)) (pgs_cons (pg_name (i := 3) sc_parting_text.nd rfl (by first | exact Or.inl rfl | exact Or.inr rfl)) pgs_nil))) (DSs.gw (ws := [2, 3]) (wb := [2, 3]) (dss_one (ds_if (dt_val (kcall (K := K) (reads_P pre_is_parted f_is_parted) c_is_parted hr (by decide) rfl (da_cons (de_var 2) da_nil))) (dss_one (ds_ret (de_var 3)))
  dss_nil)))))
  (dss_one (ds_ret de_non)))⟩
theorem sc__law_cell : FnScope ["script", "k"] ["script", "k"] (defScope s__law_cell) := ⟨rfl, rfl, rfl, by decide +kernel, rfl, by decide +kernel, by decide +kernel⟩
theorem w__law_cell (T : Txt K mg) (f : Addr) (cdv : Value) (A : Around) (outer : List Env) (s : Shared) (H : Hp) (E : XK) (hr : Room 0 (A.deeper (envOfC "_law_cell" (defScope s__law_cell) s.heap.objs.size f cdv))) :
    ∃ t, DSs (cxOf CX0 P w K mg base ["script", "k"] "_law_cell" (defScope s__law_cell) f cdv A outer s H E).nox W0 (defBody s__law_cell) t p_x__law_cell := by
  have hu65 := hu65_of hr
  have hu64 := hr.units
  have hu1 := hu_of hr
  exact ⟨_, (dss_cons (ds_if (dt_cmp op_ltA (snd_cmp _ _) rfl (de_var 1) (de_cb (r := rLenA K) call_lenA snd_len rfl T.b_len rfl (da_cons (de_var 0) da_nil))) (dss_one (ds_ret (kix (K := K) hu1 (de_var 0) (de_var 1))))
  dss_nil)
  (dss_one (ds_ret (de_op op_addA snd_add (de_op op_addA snd_add (de_op op_mulA snd_mul (de_op op_mulA snd_mul de_int (de_var 1)) (de_var 1)) (de_op op_mulA snd_mul de_int (de_var 1))) de_int))))⟩
theorem sc__law_store : FnScope ["cell", "great"] ["cell"] (defScope s__law_store) := ⟨rfl, rfl, rfl, by decide +kernel, rfl, by decide +kernel, by decide +kernel⟩
theorem w__law_store (T : Txt K mg) (f : Addr) (cdv : Value) (A : Around) (outer : List Env) (s : Shared) (H : Hp) (E : XK) (hr : Room 0 (A.deeper (envOfC "_law_store" (defScope s__law_store) s.heap.objs.size f cdv))) :
    ∃ t, DSs (cxOf CX0 P w K mg base ["cell", "great"] "_law_store" (defScope s__law_store) f cdv A outer s H E).nox W0 (defBody s__law_store) t p_x__law_store := by
  have hu65 := hu65_of hr
  have hu64 := hr.units
  have hu1 := hu_of hr
  exact ⟨_, (dss_cons (ds_set 1 sc__law_store.nd de_int)
  (dss_cons (ds_if (dt_cmp op_geA (snd_cmp _ _) rfl (de_var 0) (de_op op_pow snd_pow de_int de_int)) (dss_one (ds_set 1 sc__law_store.nd (de_var 0)))
  dss_nil)
  (dss_one (ds_ret (de_lst (da_cons (de_var 1) (da_cons (de_op op_mod snd_mod (de_var 0) de_int) (da_cons de_int da_nil))))))))⟩
theorem sc__law_take : FnScope ["store", "many", "told", "one"] ["store", "many"] (defScope s__law_take) := ⟨rfl, rfl, rfl, by decide +kernel, rfl, by decide +kernel, by decide +kernel⟩
theorem w__law_take (T : Txt K mg) (f : Addr) (cdv : Value) (A : Around) (outer : List Env) (s : Shared) (H : Hp) (E : XK) (hr : Room 0 (A.deeper (envOfC "_law_take" (defScope s__law_take) s.heap.objs.size f cdv))) :
    ∃ t, DSs (cxOf CX0 P w K mg base ["store", "many", "told", "one"] "_law_take" (defScope s__law_take) f cdv A outer s H E).nox W0 (defBody s__law_take) t p_x__law_take := by
  have hu65 := hu65_of hr
  have hu64 := hr.units
  have hu1 := hu_of hr
  exact ⟨_, (dss_cons (ds_if (dt_cmp op_gtA (snd_cmp _ _) rfl (kix (K := K) hu1 (de_var 0) de_int) de_int) (dss_cons (ds_set 2 sc__law_take.nd (de_op op_mod snd_mod (kix (K := K) hu1 (de_var 0) de_int) (de_var 1)))
  (dss_cons (ds_setIx hu1 (de_var 0) de_int (de_op op_fdivW snd_div (kix (K := K) hu1 (de_var 0) de_int) (de_var 1)))
  (dss_one (ds_ret (de_var 2)))))
  dss_nil)
  (dss_cons (ds_setIx hu1 (de_var 0) de_int (de_op op_addA snd_add (kix (K := K) hu1 (de_var 0) de_int) de_int))
  (dss_cons (ds_setD 3 sc__law_take.nd (de_op op_mod snd_mod (de_op op_mulA snd_mul (de_op op_addA snd_add (kix (K := K) hu1 (de_var 0) de_int) (de_op op_mulA snd_mul de_int (kix (K := K) hu1 (de_var 0) de_int))) de_int) de_int))
  (dss_cons (ds_setD 3 sc__law_take.nd (de_op op_mod snd_mod (de_op op_mulA snd_mul (de_var 3) (de_var 3)) de_int))
  (dss_cons (ds_setD 3 sc__law_take.nd (de_op op_mod snd_mod (de_op op_mulA snd_mul (de_op op_addA snd_add (de_var 3) (de_op op_mulA snd_mul de_int (kix (K := K) hu1 (de_var 0) de_int))) de_int) de_int))
  (dss_one (ds_ret (de_op op_mod snd_mod (de_op op_fdivW snd_div (de_var 3) de_int) (de_var 1)))))))))⟩
theorem sc__law_kept_word : FnScope ["store", "words", "letters", "size", "word", "kind", "k"] ["store", "words", "letters"] (defScope s__law_kept_word) := ⟨rfl, rfl, rfl, by decide +kernel, rfl, by decide +kernel, by decide +kernel⟩
theorem w__law_kept_word (T : Txt K mg) (c__law_take : ACal P w K mg base 1 "_law_take" (conN pre_x__law_take ok_x__law_take)) (f : Addr) (cdv : Value) (A : Around) (outer : List Env) (s : Shared) (H : Hp) (E : XK) (hr : Room 1 (A.deeper (envOfC "_law_kept_word" (defScope s__law_kept_word) s.heap.objs.size f cdv))) :
    ∃ t, DSs (cxOf CX0 P w K mg base ["store", "words", "letters", "size", "word", "kind", "k"] "_law_kept_word" (defScope s__law_kept_word) f cdv A outer s H E).nox W0 (defBody s__law_kept_word) t p_x__law_kept_word := by
  have hu65 := hu65_of hr
  have hu64 := hr.units
  have hu1 := hu_of hr
  exact ⟨_, (dss_cons (ds_setD 3 sc__law_kept_word.nd (de_op op_addA snd_add de_int (kcall (K := K) reads_T c__law_take hr (by decide) rfl (da_cons (de_var 0) (da_cons (kix (K := K) hu1 (de_lst (da_cons de_int (da_cons de_int (da_cons de_int (da_cons de_int da_nil))))) (kcall (K := K) reads_T c__law_take hr (by decide) rfl (da_cons (de_var 0) (da_cons de_int da_nil)))) da_nil)))))
  (dss_cons (ds_set 4 sc__law_kept_word.nd (kjoin (K := K) (de_str rfl) (de_lc (own := [("k", 6)]) rfl sc__law_kept_word.nd (di_rng1 rfl T.b_range (da_cons (de_var 3) da_nil)) (show blkC ["store", "words", "letters", "size", "word", "kind", "k"] (defScope s__law_kept_word) _ _ = true by decide +kernel) (fun _ _ _ _ _ => (dg_n 6 sc__law_kept_word.nd)) (fun _ _ _ _ _ => dts_nil) (fun _ _ _ _ _ => (kix (K := K) hu1 (de_var 2) (kcall (K := K) reads_T c__law_take hr (by decide) rfl (da_cons (de_var 0) (da_cons (de_cb (r := rLenA K) call_lenA snd_len rfl T.b_len rfl (da_cons (de_var 2) da_nil)) da_nil))))) (by decide) (s, H))))
  (dss_cons (ds_setD 5 sc__law_kept_word.nd (kcall (K := K) reads_T c__law_take hr (by decide) rfl (da_cons (de_var 0) (da_cons de_int da_nil))))
  (dss_cons (ds_if (dt_w (dw_and (dt_cmp (r := rEqA K not) (op_neA hu64) (snd_eq not) rfl (de_var 1) (de_lst da_nil)) (dw_and1 (dt_cmp (r := rEqA K id) (op_eqA hu64) (snd_eq id) rfl (de_var 5) de_int)))) (dss_one (ds_set 4 sc__law_kept_word.nd (de_op op_addA snd_add (kix (K := K) hu1 (de_var 1) (kcall (K := K) reads_T c__law_take hr (by decide) rfl (da_cons (de_var 0) (da_cons (de_cb (r := rLenA K) call_lenA snd_len rfl T.b_len rfl (da_cons (de_var 1) da_nil)) da_nil)))) (de_var 4))))
  dss_nil)
  (dss_cons (ds_if (dt_w (dw_and (dt_cmp (r := rEqA K not) (op_neA hu64) (snd_eq not) rfl (de_var 1) (de_lst da_nil)) (dw_and1 (dt_cmp (r := rEqA K id) (op_eqA hu64) (snd_eq id) rfl (de_var 5) de_int)))) (dss_one (ds_set 4 sc__law_kept_word.nd (de_op op_addA snd_add (kix (K := K) hu1 (de_var 1) (kcall (K := K) reads_T c__law_take hr (by decide) rfl (da_cons (de_var 0) (da_cons (de_cb (r := rLenA K) call_lenA snd_len rfl T.b_len rfl (da_cons (de_var 1) da_nil)) da_nil)))) (kix (K := K) hu1 (de_var 1) (kcall (K := K) reads_T c__law_take hr (by decide) rfl (da_cons (de_var 0) (da_cons (de_cb (r := rLenA K) call_lenA snd_len rfl T.b_len rfl (da_cons (de_var 1) da_nil)) da_nil)))))))
  dss_nil)
  (dss_cons (ds_if (dt_w (dw_and (dt_cmp (r := rEqA K not) (op_neA hu64) (snd_eq not) rfl (de_var 1) (de_lst da_nil)) (dw_and1 (dt_cmp (r := rEqA K id) (op_eqA hu64) (snd_eq id) rfl (de_var 5) de_int)))) (dss_one (ds_set 4 sc__law_kept_word.nd (de_op op_addA snd_add (de_var 4) (kix (K := K) hu1 (de_var 1) (kcall (K := K) reads_T c__law_take hr (by decide) rfl (da_cons (de_var 0) (da_cons (de_cb (r := rLenA K) call_lenA snd_len rfl T.b_len rfl (da_cons (de_var 1) da_nil)) da_nil)))))))
  dss_nil)
  (dss_one (ds_ret (ksl (K := K) (de_var 4) do_no (do_some de_int))))))))))⟩
theorem sc__law_words : FnScope ["store", "letters", "words", "k", "word"] ["store"] (defScope s__law_words) := ⟨rfl, rfl, rfl, by decide +kernel, rfl, by decide +kernel, by decide +kernel⟩
theorem w__law_words (T : Txt K mg) (c__law_take : ACal P w K mg base 1 "_law_take" (conN pre_x__law_take ok_x__law_take)) (c__law_kept_word : ACal P w K mg base 2 "_law_kept_word" (conN pre_x__law_kept_word ok_x__law_kept_word)) (f : Addr) (cdv : Value) (A : Around) (outer : List Env) (s : Shared) (H : Hp) (E : XK) (hr : Room 2 (A.deeper (envOfC "_law_words" (defScope s__law_words) s.heap.objs.size f cdv))) :
    ∃ t, DSs (cxOf CX0 P w K mg base ["store", "letters", "words", "k", "word"] "_law_words" (defScope s__law_words) f cdv A outer s H E).nox W0 (defBody s__law_words) t p_x__law_words := by
  have hu65 := hu65_of hr
  have hu64 := hr.units
  have hu1 := hu_of hr
  exact ⟨_, (dss_cons (ds_setD 1 sc__law_words.nd (kix (K := K) hu1 (de_lst (da_cons (de_str rfl) (da_cons (de_str rfl) (da_cons (de_str rfl) (da_cons (de_str rfl) (da_cons (de_str rfl) (da_cons (de_str rfl) da_nil))))))) (kcall (K := K) reads_T c__law_take hr (by decide) rfl (da_cons (de_var 0) (da_cons de_int da_nil)))))
  (dss_cons (ds_set 2 sc__law_words.nd (de_lst da_nil))
  (dss_cons (DS.wip (ws := [3, 4]) (ds_for PassesOwn.never rfl (di_rng1 rfl T.b_range (da_cons (kcall (K := K) reads_T c__law_take hr (by decide) rfl (da_cons (de_var 0) (da_cons de_int da_nil))) da_nil)) (dg_n 3 sc__law_words.nd) (DSs.gw (ws := [3, 4]) (wb := [3, 4]) (dss_cons (ds_setD 4 sc__law_words.nd (kcall (K := K) (reads_N pre_x__law_kept_word ok_x__law_kept_word) c__law_kept_word hr (by decide) rfl (da_cons (de_var 0) (da_cons (de_var 2) (da_cons (de_var 1) da_nil)))))
  (dss_one (ds_if (dt_w (dw_and (dt_cmp (r := rInA K not) (op_notInA hu65) (snd_in not) rfl (de_var 4) (de_var 2)) (dw_and1 (dt_cmp op_ltA (snd_cmp _ _) rfl (de_op op_addA snd_add (de_cb (r := rLenA K) call_lenA snd_len rfl T.b_len rfl (da_cons (kjoin (K := K) (de_str rfl) (de_var 2)) da_nil)) (de_cb (r := rLenA K) call_lenA snd_len rfl T.b_len rfl (da_cons (de_var 4) da_nil))) de_int)))) (dss_one (ds_expr (klm (K := K) PySem.F.slot_list_append PySem.F.type_list_append mt_append snd_append (de_var 2) (da_cons (de_var 4) da_nil))))
  dss_nil))))))
  (dss_one (ds_ret (de_cb (r := rSortA K) (call_sortA rfl hu64) snd_sorted rfl T.b_sorted rfl (da_cons (de_var 2) da_nil)))))))⟩
theorem sc__law_book : FnScope ["store", "words", "great", "word"] ["store", "words"] (defScope s__law_book) := ⟨rfl, rfl, rfl, by decide +kernel, rfl, by decide +kernel, by decide +kernel⟩
theorem w__law_book (T : Txt K mg) (c__law_take : ACal P w K mg base 1 "_law_take" (conN pre_x__law_take ok_x__law_take)) (f : Addr) (cdv : Value) (A : Around) (outer : List Env) (s : Shared) (H : Hp) (E : XK) (hr : Room 1 (A.deeper (envOfC "_law_book" (defScope s__law_book) s.heap.objs.size f cdv))) :
    ∃ t, DSs (cxOf CX0 P w K mg base ["store", "words", "great", "word"] "_law_book" (defScope s__law_book) f cdv A outer s H E).nox W0 (defBody s__law_book) t p_x__law_book := by
  have hu65 := hu65_of hr
  have hu64 := hr.units
  have hu1 := hu_of hr
  exact ⟨_, (dss_cons (ds_setD 2 sc__law_book.nd (kix (K := K) hu1 (de_lst (da_cons de_int (da_cons de_int (da_cons de_int (da_cons (de_op op_pow snd_pow de_int de_int) (da_cons (de_op op_pow snd_pow de_int de_int) (da_cons (de_op op_pow snd_pow de_int de_int) da_nil))))))) (kcall (K := K) reads_T c__law_take hr (by decide) rfl (da_cons (de_var 0) (da_cons de_int da_nil)))))
  (dss_one (ds_ret (de_lc (own := [("word", 3)]) rfl sc__law_book.nd (klst (K := K) (de_var 1)) (show blkC ["store", "words", "great", "word"] (defScope s__law_book) _ _ = true by decide +kernel) (fun _ _ _ _ _ => (dg_n 3 sc__law_book.nd)) (fun _ _ _ _ _ => dts_nil) (fun _ _ _ _ _ => (de_tup (da_cons (de_var 3) (da_cons (de_op op_mulA snd_mul (de_op op_sub snd_sub (kcall (K := K) reads_T c__law_take hr (by decide) rfl (da_cons (de_var 0) (da_cons de_int da_nil))) de_int) (de_var 2)) da_nil)))) (by decide) (s, H)))))⟩
theorem sc__law_is_begun : FnScope ["words", "text", "word"] ["words", "text"] (defScope s__law_is_begun) := ⟨rfl, rfl, rfl, by decide +kernel, rfl, by decide +kernel, by decide +kernel⟩
theorem w__law_is_begun (T : Txt K mg) (f : Addr) (cdv : Value) (A : Around) (outer : List Env) (s : Shared) (H : Hp) (E : XK) (hr : Room 0 (A.deeper (envOfC "_law_is_begun" (defScope s__law_is_begun) s.heap.objs.size f cdv))) :
    ∃ t, DSs (cxOf CX0 P w K mg base ["words", "text", "word"] "_law_is_begun" (defScope s__law_is_begun) f cdv A outer s H E).nox W0 (defBody s__law_is_begun) t p_x__law_is_begun := by
  have hu65 := hu65_of hr
  have hu64 := hr.units
  have hu1 := hu_of hr
  exact ⟨_, (dss_one (ds_ret (de_cmp (r := rEqA K not) (op_neA hu64) (snd_eq not) rfl (de_lc (own := [("word", 2)]) rfl sc__law_is_begun.nd (klst (K := K) (de_var 0)) (show blkC ["words", "text", "word"] (defScope s__law_is_begun) _ _ = true by decide +kernel) (fun _ _ _ _ _ => (dg_n 2 sc__law_is_begun.nd)) (fun _ _ _ _ _ => (dts_one (dt_w (dw_and (dt_cmp op_gtA (snd_cmp _ _) rfl (de_cb (r := rLenA K) call_lenA snd_len rfl T.b_len rfl (da_cons (de_var 2) da_nil)) (de_cb (r := rLenA K) call_lenA snd_len rfl T.b_len rfl (da_cons (de_var 1) da_nil))) (dw_and1 (dt_cmp (r := rEqA K id) (op_eqA hu64) (snd_eq id) rfl (ksl (K := K) (de_var 2) do_no (do_some (de_cb (r := rLenA K) call_lenA snd_len rfl T.b_len rfl (da_cons (de_var 1) da_nil)))) (de_var 1))))))) (fun _ _ _ _ _ => (de_var 2)) (by decide) (s, H)) (de_lst da_nil))))⟩
theorem sc__law_parts : FnScope ["words", "part", "letter", "found"] ["words", "part", "letter"] (defScope s__law_parts) := ⟨rfl, rfl, rfl, by decide +kernel, rfl, by decide +kernel, by decide +kernel⟩
theorem w__law_parts (T : Txt K mg) (c__law_is_begun : ACal P w K mg base 1 "_law_is_begun" (conP pre_x__law_is_begun f_x__law_is_begun)) (f : Addr) (cdv : Value) (A : Around) (outer : List Env) (s : Shared) (H : Hp) (E : XK) (hr : Room 1 (A.deeper (envOfC "_law_parts" (defScope s__law_parts) s.heap.objs.size f cdv))) :
    ∃ t, DSs (cxOf CX0 P w K mg base ["words", "part", "letter", "found"] "_law_parts" (defScope s__law_parts) f cdv A outer s H E).nox W0 (defBody s__law_parts) t p_x__law_parts := by
  have hu65 := hu65_of hr
  have hu64 := hr.units
  have hu1 := hu_of hr
  exact ⟨_, (dss_cons (ds_set 3 sc__law_parts.nd (de_lst da_nil))
  (dss_cons (ds_if (dt_val (kcall (K := K) (reads_P pre_x__law_is_begun f_x__law_is_begun) c__law_is_begun hr (by decide) rfl (da_cons (de_var 0) (da_cons (de_op op_addA snd_add (de_var 1) (de_var 2)) da_nil)))) (dss_one (ds_expr (klm (K := K) PySem.F.slot_list_append PySem.F.type_list_append mt_append snd_append (de_var 3) (da_cons (de_op op_addA snd_add (de_var 1) (de_var 2)) da_nil))))
  dss_nil)
  (dss_cons (ds_if (dt_cmp (r := rInA K id) (op_inA hu65) (snd_in id) rfl (de_op op_addA snd_add (de_var 1) (de_var 2)) (de_var 0)) (dss_one (ds_expr (klm (K := K) PySem.F.slot_list_append PySem.F.type_list_append mt_append snd_append (de_var 3) (da_cons (de_str rfl) da_nil))))
  dss_nil)
  (dss_one (ds_ret (de_var 3))))))⟩
theorem sc__law_split_words : FnScope ["store", "letters", "words", "k", "word", "split", "one", "letter"] ["store"] (defScope s__law_split_words) := ⟨rfl, rfl, rfl, by decide +kernel, rfl, by decide +kernel, by decide +kernel⟩
theorem w__law_split_words (T : Txt K mg) (c__law_take : ACal P w K mg base 1 "_law_take" (conN pre_x__law_take ok_x__law_take)) (c__law_kept_word : ACal P w K mg base 2 "_law_kept_word" (conN pre_x__law_kept_word ok_x__law_kept_word)) (f : Addr) (cdv : Value) (A : Around) (outer : List Env) (s : Shared) (H : Hp) (E : XK) (hr : Room 2 (A.deeper (envOfC "_law_split_words" (defScope s__law_split_words) s.heap.objs.size f cdv))) :
    ∃ t, DSs (cxOf CX0 P w K mg base ["store", "letters", "words", "k", "word", "split", "one", "letter"] "_law_split_words" (defScope s__law_split_words) f cdv A outer s H E).nox W0 (defBody s__law_split_words) t p_x__law_split_words := by
  have hu65 := hu65_of hr
  have hu64 := hr.units
  have hu1 := hu_of hr
  exact ⟨_, (dss_cons (ds_setD 1 sc__law_split_words.nd (kix (K := K) hu1 (de_lst (da_cons (de_str rfl) (da_cons (de_str rfl) (da_cons (de_str rfl) (da_cons (de_str rfl) (da_cons (de_str rfl) da_nil)))))) (kcall (K := K) reads_T c__law_take hr (by decide) rfl (da_cons (de_var 0) (da_cons de_int da_nil)))))
  (dss_cons (ds_set 2 sc__law_split_words.nd (de_cty (r := rListB K) (call_listB rfl) snd_listB rfl T.b_list rfl (da_cons (de_var 1) da_nil)))
  (dss_cons (DS.wip (ws := [3, 4, 5]) (ds_forM 2 PassesOwn.never rfl (di_rng1 rfl T.b_range (da_cons (kcall (K := K) reads_T c__law_take hr (by decide) rfl (da_cons (de_var 0) (da_cons de_int da_nil))) da_nil)) (dg_n 3 sc__law_split_words.nd) (DSs.gx (ws := [3, 4, 5]) (wb := [3, 4, 5]) (dss_cons (ds_setD 4 sc__law_split_words.nd (kix (K := K) hu1 (de_var 2) (kcall (K := K) reads_T c__law_take hr (by decide) rfl (da_cons (de_var 0) (da_cons (de_cb (r := rLenA K) call_lenA snd_len rfl T.b_len rfl (da_cons (de_var 2) da_nil)) da_nil)))))
  (dss_cons (ds_set 5 sc__law_split_words.nd (de_op op_addA snd_add (de_lc (own := [("one", 6)]) rfl sc__law_split_words.nd (klst (K := K) (de_var 2)) (show blkC ["store", "letters", "words", "k", "word", "split", "one", "letter"] (defScope s__law_split_words) _ _ = true by decide +kernel) (fun _ _ _ _ _ => (dg_n 6 sc__law_split_words.nd)) (fun _ _ _ _ _ => (dts_one (dt_cmp (r := rEqA K not) (op_neA hu64) (snd_eq not) rfl (de_var 6) (de_var 4)))) (fun _ _ _ _ _ => (de_var 6)) (by decide) (s, H)) (de_lc (own := [("letter", 7)]) rfl sc__law_split_words.nd (di_str (de_var 1)) (show blkC ["store", "letters", "words", "k", "word", "split", "one", "letter"] (defScope s__law_split_words) _ _ = true by decide +kernel) (fun _ _ _ _ _ => (dg_n 7 sc__law_split_words.nd)) (fun _ _ _ _ _ => dts_nil) (fun _ _ _ _ _ => (de_op op_addA snd_add (de_var 4) (de_var 7))) (by decide) (s, H))))
  (dss_one (ds_if (dt_cmp op_ltA (snd_cmp _ _) rfl (de_cb (r := rLenA K) call_lenA snd_len rfl T.b_len rfl (da_cons (kjoin (K := K) (de_str rfl) (de_var 5)) da_nil)) de_int) (dss_one (ds_set 2 sc__law_split_words.nd (de_var 5)))
  dss_nil)))))))
  (dss_cons (ds_if (dt_w (dw_and (dt_cmp (r := rEqA K id) (op_eqA hu64) (snd_eq id) rfl (kcall (K := K) reads_T c__law_take hr (by decide) rfl (da_cons (de_var 0) (da_cons de_int da_nil))) de_int) (dw_and1 (dt_cmp op_gtA (snd_cmp _ _) rfl (de_cb (r := rLenA K) call_lenA snd_len rfl T.b_len rfl (da_cons (de_var 2) da_nil)) de_int)))) (dss_one (ds_expr (klm (K := K) PySem.F.slot_list_pop PySem.F.type_list_pop mt_popAt snd_popAt (de_var 2) (da_cons (kcall (K := K) reads_T c__law_take hr (by decide) rfl (da_cons (de_var 0) (da_cons (de_cb (r := rLenA K) call_lenA snd_len rfl T.b_len rfl (da_cons (de_var 2) da_nil)) da_nil))) da_nil))))
  dss_nil)
  (dss_cons (DS.wip (ws := [3, 4]) (ds_for PassesOwn.never rfl (di_rng1 rfl T.b_range (da_cons (kcall (K := K) reads_T c__law_take hr (by decide) rfl (da_cons (de_var 0) (da_cons de_int da_nil))) da_nil)) (dg_n 3 sc__law_split_words.nd) (DSs.gw (ws := [3, 4]) (wb := [3, 4]) (dss_cons (ds_setD 4 sc__law_split_words.nd (kcall (K := K) (reads_N pre_x__law_kept_word ok_x__law_kept_word) c__law_kept_word hr (by decide) rfl (da_cons (de_var 0) (da_cons (de_var 2) (da_cons (de_var 1) da_nil)))))
  (dss_one (ds_if (dt_w (dw_and (dt_cmp (r := rInA K not) (op_notInA hu65) (snd_in not) rfl (de_var 4) (de_var 2)) (dw_and1 (dt_cmp op_ltA (snd_cmp _ _) rfl (de_op op_addA snd_add (de_cb (r := rLenA K) call_lenA snd_len rfl T.b_len rfl (da_cons (kjoin (K := K) (de_str rfl) (de_var 2)) da_nil)) (de_cb (r := rLenA K) call_lenA snd_len rfl T.b_len rfl (da_cons (de_var 4) da_nil))) de_int)))) (dss_one (ds_expr (klm (K := K) PySem.F.slot_list_append PySem.F.type_list_append mt_append snd_append (de_var 2) (da_cons (de_var 4) da_nil))))
  dss_nil))))))
  (dss_one (ds_ret (de_cb (r := rSortA K) (call_sortA rfl hu64) snd_sorted rfl T.b_sorted rfl (da_cons (de_var 2) da_nil)))))))))⟩
theorem sc__law_alphabet : FnScope ["store", "many", "left"] ["store", "many"] (defScope s__law_alphabet) := ⟨rfl, rfl, rfl, by decide +kernel, rfl, by decide +kernel, by decide +kernel⟩
theorem w__law_alphabet (T : Txt K mg) (c__law_take : ACal P w K mg base 1 "_law_take" (conN pre_x__law_take ok_x__law_take)) (f : Addr) (cdv : Value) (A : Around) (outer : List Env) (s : Shared) (H : Hp) (E : XK) (hr : Room 1 (A.deeper (envOfC "_law_alphabet" (defScope s__law_alphabet) s.heap.objs.size f cdv))) :
    ∃ t, DSs (cxOf CX0 P w K mg base ["store", "many", "left"] "_law_alphabet" (defScope s__law_alphabet) f cdv A outer s H E).nox W0 (defBody s__law_alphabet) t p_x__law_alphabet := by
  have hu65 := hu65_of hr
  have hu64 := hr.units
  have hu1 := hu_of hr
  exact ⟨_, (dss_cons (ds_set 2 sc__law_alphabet.nd (de_cty (r := rListB K) (call_listB rfl) snd_listB rfl T.b_list rfl (da_cons (de_str rfl) da_nil)))
  (dss_cons (ds_while PassesOwn.never (dt_cmp op_gtA (snd_cmp _ _) rfl (de_cb (r := rLenA K) call_lenA snd_len rfl T.b_len rfl (da_cons (de_var 2) da_nil)) (de_var 1)) (DSs.gw (ws := []) (wb := []) (dss_one (ds_expr (klm (K := K) PySem.F.slot_list_pop PySem.F.type_list_pop mt_popAt snd_popAt (de_var 2) (da_cons (kcall (K := K) reads_T c__law_take hr (by decide) rfl (da_cons (de_var 0) (da_cons (de_cb (r := rLenA K) call_lenA snd_len rfl T.b_len rfl (da_cons (de_var 2) da_nil)) da_nil))) da_nil))))))
  (dss_one (ds_ret (kjoin (K := K) (de_str rfl) (de_var 2))))))⟩
theorem sc__law_wide_words : FnScope ["store", "letters", "words", "k", "word"] ["store"] (defScope s__law_wide_words) := ⟨rfl, rfl, rfl, by decide +kernel, rfl, by decide +kernel, by decide +kernel⟩
theorem w__law_wide_words (T : Txt K mg) (c__law_alphabet : ACal P w K mg base 2 "_law_alphabet" (conN pre_x__law_alphabet ok_x__law_alphabet)) (c__law_take : ACal P w K mg base 1 "_law_take" (conN pre_x__law_take ok_x__law_take)) (c__law_kept_word : ACal P w K mg base 2 "_law_kept_word" (conN pre_x__law_kept_word ok_x__law_kept_word)) (f : Addr) (cdv : Value) (A : Around) (outer : List Env) (s : Shared) (H : Hp) (E : XK) (hr : Room 2 (A.deeper (envOfC "_law_wide_words" (defScope s__law_wide_words) s.heap.objs.size f cdv))) :
    ∃ t, DSs (cxOf CX0 P w K mg base ["store", "letters", "words", "k", "word"] "_law_wide_words" (defScope s__law_wide_words) f cdv A outer s H E).nox W0 (defBody s__law_wide_words) t p_x__law_wide_words := by
  have hu65 := hu65_of hr
  have hu64 := hr.units
  have hu1 := hu_of hr
  exact ⟨_, (dss_cons (ds_setD 1 sc__law_wide_words.nd (kcall (K := K) (reads_N pre_x__law_alphabet ok_x__law_alphabet) c__law_alphabet hr (by decide) rfl (da_cons (de_var 0) (da_cons (de_op op_addA snd_add de_int (kcall (K := K) reads_T c__law_take hr (by decide) rfl (da_cons (de_var 0) (da_cons de_int da_nil)))) da_nil))))
  (dss_cons (ds_set 2 sc__law_wide_words.nd (de_lst da_nil))
  (dss_cons (DS.wip (ws := [3, 4]) (ds_for PassesOwn.never rfl (di_rng1 rfl T.b_range (da_cons (kcall (K := K) reads_T c__law_take hr (by decide) rfl (da_cons (de_var 0) (da_cons de_int da_nil))) da_nil)) (dg_n 3 sc__law_wide_words.nd) (DSs.gw (ws := [3, 4]) (wb := [3, 4]) (dss_cons (ds_setD 4 sc__law_wide_words.nd (kcall (K := K) (reads_N pre_x__law_kept_word ok_x__law_kept_word) c__law_kept_word hr (by decide) rfl (da_cons (de_var 0) (da_cons (de_var 2) (da_cons (de_var 1) da_nil)))))
  (dss_one (ds_if (dt_w (dw_and (dt_cmp (r := rInA K not) (op_notInA hu65) (snd_in not) rfl (de_var 4) (de_var 2)) (dw_and1 (dt_cmp op_ltA (snd_cmp _ _) rfl (de_op op_addA snd_add (de_cb (r := rLenA K) call_lenA snd_len rfl T.b_len rfl (da_cons (kjoin (K := K) (de_str rfl) (de_var 2)) da_nil)) (de_cb (r := rLenA K) call_lenA snd_len rfl T.b_len rfl (da_cons (de_var 4) da_nil))) de_int)))) (dss_one (ds_expr (klm (K := K) PySem.F.slot_list_append PySem.F.type_list_append mt_append snd_append (de_var 2) (da_cons (de_var 4) da_nil))))
  dss_nil))))))
  (dss_one (ds_ret (de_cb (r := rSortA K) (call_sortA rfl hu64) snd_sorted rfl T.b_sorted rfl (da_cons (de_var 2) da_nil)))))))⟩
theorem sc__law_some_words : FnScope ["store", "way"] ["store"] (defScope s__law_some_words) := ⟨rfl, rfl, rfl, by decide +kernel, rfl, by decide +kernel, by decide +kernel⟩
theorem w__law_some_words (T : Txt K mg) (c__law_take : ACal P w K mg base 1 "_law_take" (conN pre_x__law_take ok_x__law_take)) (c__law_wide_words : ACal P w K mg base 3 "_law_wide_words" (conN pre_x__law_wide_words ok_x__law_wide_words)) (c__law_split_words : ACal P w K mg base 3 "_law_split_words" (conN pre_x__law_split_words ok_x__law_split_words)) (c__law_words : ACal P w K mg base 3 "_law_words" (conN pre_x__law_words ok_x__law_words)) (f : Addr) (cdv : Value) (A : Around) (outer : List Env) (s : Shared) (H : Hp) (E : XK) (hr : Room 3 (A.deeper (envOfC "_law_some_words" (defScope s__law_some_words) s.heap.objs.size f cdv))) :
    ∃ t, DSs (cxOf CX0 P w K mg base ["store", "way"] "_law_some_words" (defScope s__law_some_words) f cdv A outer s H E).nox W0 (defBody s__law_some_words) t p_z__law_some_words := by
  have hu65 := hu65_of hr
  have hu64 := hr.units
  have hu1 := hu_of hr
  exact ⟨_, (dss_cons (ds_setD 1 sc__law_some_words.nd (kcall (K := K) reads_T c__law_take hr (by decide) rfl (da_cons (de_var 0) (da_cons de_int da_nil))))
  (dss_cons (ds_if (dt_cmp (r := rEqA K id) (op_eqA hu64) (snd_eq id) rfl (de_var 1) de_int) (dss_one (ds_ret (kcall (K := K) (reads_N pre_x__law_wide_words ok_x__law_wide_words) c__law_wide_words hr (by decide) rfl (da_cons (de_var 0) da_nil))))
  dss_nil)
  (dss_one (ds_ret (kix (K := K) hu1 (de_lst (da_cons (kcall (K := K) (reads_N pre_x__law_words ok_x__law_words) c__law_words hr (by decide) rfl (da_cons (de_var 0) da_nil)) (da_cons (kcall (K := K) (reads_N pre_x__law_split_words ok_x__law_split_words) c__law_split_words hr (by decide) rfl (da_cons (de_var 0) da_nil)) da_nil))) (de_var 1))))))⟩
theorem sc__law_row_behind : FnScope ["words", "row", "letter", "found", "part"] ["words", "row", "letter"] (defScope s__law_row_behind) := ⟨rfl, rfl, rfl, by decide +kernel, rfl, by decide +kernel, by decide +kernel⟩
theorem w__law_row_behind (T : Txt K mg) (c__law_parts : ACal P w K mg base 2 "_law_parts" (conP pre_x__law_parts f_x__law_parts)) (f : Addr) (cdv : Value) (A : Around) (outer : List Env) (s : Shared) (H : Hp) (E : XK) (hr : Room 2 (A.deeper (envOfC "_law_row_behind" (defScope s__law_row_behind) s.heap.objs.size f cdv))) :
    ∃ t, DSs (cxOf CX0 P w K mg base ["words", "row", "letter", "found", "part"] "_law_row_behind" (defScope s__law_row_behind) f cdv A outer s H E).nox W0 (defBody s__law_row_behind) t p_x__law_row_behind := by
  have hu65 := hu65_of hr
  have hu64 := hr.units
  have hu1 := hu_of hr
  exact ⟨_, (dss_cons (ds_setD 3 sc__law_row_behind.nd (de_lst da_nil))
  (dss_cons (DS.wip (ws := [4]) (ds_for PassesOwn.never rfl (klst (K := K) (de_var 1)) (dg_n 4 sc__law_row_behind.nd) (DSs.gw (ws := [4]) (wb := [4]) (dss_one (ds_setD 3 sc__law_row_behind.nd (de_op op_addA snd_add (de_var 3) (kcall (K := K) (reads_P pre_x__law_parts f_x__law_parts) c__law_parts hr (by decide) rfl (da_cons (de_var 0) (da_cons (de_var 4) (da_cons (de_var 2) da_nil))))))))))
  (dss_one (ds_ret (de_srtSet (K := K) rfl hu64 rfl T.b_sorted rfl T.b_set (de_var 3))))))⟩
theorem sc__law_second_words : FnScope ["store", "words", "kind", "some", "more", "k"] ["store", "words"] (defScope s__law_second_words) := ⟨rfl, rfl, rfl, by decide +kernel, rfl, by decide +kernel, by decide +kernel⟩
theorem w__law_second_words (T : Txt K mg) (c__law_take : ACal P w K mg base 1 "_law_take" (conN pre_x__law_take ok_x__law_take)) (c__law_some_words : ACal P w K mg base 4 "_law_some_words" (conN pre_z__law_some_words ok_z__law_some_words)) (c__law_kept_word : ACal P w K mg base 2 "_law_kept_word" (conN pre_x__law_kept_word ok_x__law_kept_word)) (c__law_alphabet : ACal P w K mg base 2 "_law_alphabet" (conN pre_x__law_alphabet ok_x__law_alphabet)) (f : Addr) (cdv : Value) (A : Around) (outer : List Env) (s : Shared) (H : Hp) (E : XK) (hr : Room 4 (A.deeper (envOfC "_law_second_words" (defScope s__law_second_words) s.heap.objs.size f cdv))) :
    ∃ t, DSs (cxOf CX0 P w K mg base ["store", "words", "kind", "some", "more", "k"] "_law_second_words" (defScope s__law_second_words) f cdv A outer s H E).nox W0 (defBody s__law_second_words) t p__law_second_words := by
  have hu65 := hu65_of hr
  have hu64 := hr.units
  have hu1 := hu_of hr
  exact ⟨_, (dss_cons (ds_setD 2 sc__law_second_words.nd (kcall (K := K) reads_T c__law_take hr (by decide) rfl (da_cons (de_var 0) (da_cons de_int da_nil))))
  (dss_cons (ds_if (dt_w (dw_or (dt_cmp (r := rEqA K id) (op_eqA hu64) (snd_eq id) rfl (de_var 2) de_int) (dw_or1 (dt_cmp (r := rEqA K id) (op_eqA hu64) (snd_eq id) rfl (de_var 1) (de_lst da_nil))))) (dss_one (ds_ret (kcall (K := K) (reads_N pre_z__law_some_words ok_z__law_some_words) c__law_some_words hr (by decide) rfl (da_cons (de_var 0) da_nil))))
  dss_nil)
  (dss_cons (ds_set 3 sc__law_second_words.nd (de_cty (r := rListB K) (call_listB rfl) snd_listB rfl T.b_list rfl (da_cons (de_var 1) da_nil)))
  (dss_cons (ds_if (dt_cmp op_ltA (snd_cmp _ _) rfl (de_var 2) de_int) (dss_cons (ds_setD 4 sc__law_second_words.nd (ksl (K := K) (kjoin (K := K) (de_str rfl) (de_lc (own := [("k", 5)]) rfl sc__law_second_words.nd (di_rng1 rfl T.b_range (da_cons (de_op op_addA snd_add de_int (kcall (K := K) reads_T c__law_take hr (by decide) rfl (da_cons (de_var 0) (da_cons de_int da_nil)))) da_nil)) (show blkC ["store", "words", "kind", "some", "more", "k"] (defScope s__law_second_words) _ _ = true by decide +kernel) (fun _ _ _ _ _ => (dg_n 5 sc__law_second_words.nd)) (fun _ _ _ _ _ => dts_nil) (fun _ _ _ _ _ => (kix (K := K) hu1 (de_var 1) (kcall (K := K) reads_T c__law_take hr (by decide) rfl (da_cons (de_var 0) (da_cons (de_cb (r := rLenA K) call_lenA snd_len rfl T.b_len rfl (da_cons (de_var 1) da_nil)) da_nil))))) (by decide) (s, H))) do_no (do_some de_int)))
  (dss_cons (ds_if (dt_cmp (r := rEqA K id) (op_eqA hu64) (snd_eq id) rfl (de_var 2) de_int) (dss_one (ds_setD 4 sc__law_second_words.nd (kcall (K := K) (reads_N pre_x__law_kept_word ok_x__law_kept_word) c__law_kept_word hr (by decide) rfl (da_cons (de_var 0) (da_cons (de_var 1) (da_cons (kix (K := K) hu1 (de_lst (da_cons (de_str rfl) (da_cons (kcall (K := K) (reads_N pre_x__law_alphabet ok_x__law_alphabet) c__law_alphabet hr (by decide) rfl (da_cons (de_var 0) (da_cons de_int da_nil))) da_nil))) (kcall (K := K) reads_T c__law_take hr (by decide) rfl (da_cons (de_var 0) (da_cons de_int da_nil)))) da_nil))))))
  dss_nil)
  (dss_one (ds_if (dt_w (dw_and (dt_cmp (r := rInA K not) (op_notInA hu65) (snd_in not) rfl (de_var 4) (de_var 3)) (dw_and1 (dt_cmp op_ltA (snd_cmp _ _) rfl (de_op op_addA snd_add (de_cb (r := rLenA K) call_lenA snd_len rfl T.b_len rfl (da_cons (kjoin (K := K) (de_str rfl) (de_var 3)) da_nil)) (de_cb (r := rLenA K) call_lenA snd_len rfl T.b_len rfl (da_cons (de_var 4) da_nil))) de_int)))) (dss_one (ds_expr (klm (K := K) PySem.F.slot_list_append PySem.F.type_list_append mt_append snd_append (de_var 3) (da_cons (de_var 4) da_nil))))
  dss_nil))))
  dss_nil)
  (dss_cons (ds_if (dt_cmp (r := rEqA K id) (op_eqA hu64) (snd_eq id) rfl (de_var 2) de_int) (dss_one (ds_expr (klm (K := K) PySem.F.slot_list_pop PySem.F.type_list_pop mt_popAt snd_popAt (de_var 3) (da_cons (kcall (K := K) reads_T c__law_take hr (by decide) rfl (da_cons (de_var 0) (da_cons (de_cb (r := rLenA K) call_lenA snd_len rfl T.b_len rfl (da_cons (de_var 3) da_nil)) da_nil))) da_nil))))
  dss_nil)
  (dss_cons (ds_if (dt_w (dw_and (dt_cmp (r := rEqA K id) (op_eqA hu64) (snd_eq id) rfl (de_var 2) de_int) (dw_and (dt_cmp op_gtA (snd_cmp _ _) rfl (de_cb (r := rLenA K) call_lenA snd_len rfl T.b_len rfl (da_cons (de_var 3) da_nil)) de_int) (dw_and1 (dt_cmp (r := rEqA K id) (op_eqA hu64) (snd_eq id) rfl (kcall (K := K) reads_T c__law_take hr (by decide) rfl (da_cons (de_var 0) (da_cons de_int da_nil))) de_int))))) (dss_one (ds_expr (klm (K := K) PySem.F.slot_list_pop PySem.F.type_list_pop mt_popAt snd_popAt (de_var 3) (da_cons (kcall (K := K) reads_T c__law_take hr (by decide) rfl (da_cons (de_var 0) (da_cons (de_cb (r := rLenA K) call_lenA snd_len rfl T.b_len rfl (da_cons (de_var 3) da_nil)) da_nil))) da_nil))))
  dss_nil)
  (dss_one (ds_ret (de_cb (r := rSortA K) (call_sortA rfl hu64) snd_sorted rfl T.b_sorted rfl (da_cons (de_var 3) da_nil))))))))))⟩
theorem sc__law_pairs : FnScope ["words", "others", "found", "met", "at", "pair", "text", "letter", "later"] ["words", "others"] (defScope s__law_pairs) := ⟨rfl, rfl, rfl, by decide +kernel, rfl, by decide +kernel, by decide +kernel⟩
theorem w__law_pairs (T : Txt K mg) (c__law_row_behind : ACal P w K mg base 3 "_law_row_behind" (conP pre_x__law_row_behind f_x__law_row_behind)) (f : Addr) (cdv : Value) (A : Around) (outer : List Env) (s : Shared) (H : Hp) (E : XK) (hr : Room 3 (A.deeper (envOfC "_law_pairs" (defScope s__law_pairs) s.heap.objs.size f cdv))) :
    ∃ t, DSs (cxOf CX0 P w K mg base ["words", "others", "found", "met", "at", "pair", "text", "letter", "later"] "_law_pairs" (defScope s__law_pairs) f cdv A outer s H E).nox W0 (defBody s__law_pairs) t p__law_pairs := by
  have hu65 := hu65_of hr
  have hu64 := hr.units
  have hu1 := hu_of hr
  exact ⟨_, (dss_cons (ds_set 2 sc__law_pairs.nd (de_lst (da_cons (de_tup (da_cons (de_tup (da_cons (de_lst (da_cons (de_str rfl) da_nil)) (da_cons (de_lst (da_cons (de_str rfl) da_nil)) da_nil))) (da_cons (de_str rfl) da_nil))) da_nil)))
  (dss_cons (ds_set 3 sc__law_pairs.nd (de_lst (da_cons (de_tup (da_cons (de_lst (da_cons (de_str rfl) da_nil)) (da_cons (de_lst (da_cons (de_str rfl) da_nil)) da_nil))) da_nil)))
  (dss_cons (ds_set 4 sc__law_pairs.nd de_int)
  (dss_cons (DS.wip (ws := [5, 6, 7, 8]) (ds_while PassesOwn.never (dt_cmp op_ltA (snd_cmp _ _) rfl (de_var 4) (de_cb (r := rLenA K) call_lenA snd_len rfl T.b_len rfl (da_cons (de_var 2) da_nil))) (DSs.gw (ws := [5, 6, 7, 8]) (wb := [4, 5, 6, 7, 8]) (dss_cons (ds_asg (kix (K := K) hu1 (de_var 2) (de_var 4)) (kdg_t (K := K) [5, 6] rfl (pgs_cons (pg_name (i := 5) sc__law_pairs.nd rfl (by first | exact Or.inl rfl | exact Or.inr rfl)) (pgs_cons (pg_name (i := 6) sc__law_pairs.nd rfl (by first | exact Or.inl rfl | exact Or.inr rfl)) pgs_nil))))
  (dss_cons (ds_set 4 sc__law_pairs.nd (de_op op_addA snd_add (de_var 4) de_int))
  (dss_one (DS.wip (ws := [7, 8]) (ds_for PassesOwn.never rfl (klst (K := K) (de_srtSetS (K := K) rfl hu64 rfl T.b_sorted rfl T.b_set (kjoin (K := K) (de_str rfl) (de_op op_addA snd_add (de_var 0) (de_var 1))))) (dg_n 7 sc__law_pairs.nd) (DSs.gw (ws := [7, 8]) (wb := [7, 8]) (dss_cons (ds_set 8 sc__law_pairs.nd (de_tup (da_cons (kcall (K := K) (reads_P pre_x__law_row_behind f_x__law_row_behind) c__law_row_behind hr (by decide) rfl (da_cons (de_var 0) (da_cons (kix (K := K) hu1 (de_var 5) de_int) (da_cons (de_var 7) da_nil)))) (da_cons (kcall (K := K) (reads_P pre_x__law_row_behind f_x__law_row_behind) c__law_row_behind hr (by decide) rfl (da_cons (de_var 1) (da_cons (kix (K := K) hu1 (de_var 5) de_int) (da_cons (de_var 7) da_nil)))) da_nil))))
  (dss_one (ds_if (dt_cmp (r := rInA K not) (op_notInA hu65) (snd_in not) rfl (de_var 8) (de_var 3)) (dss_cons (ds_expr (klm (K := K) PySem.F.slot_list_append PySem.F.type_list_append mt_append snd_append (de_var 3) (da_cons (de_var 8) da_nil)))
  (dss_one (ds_expr (klm (K := K) PySem.F.slot_list_append PySem.F.type_list_append mt_append snd_append (de_var 2) (da_cons (de_tup (da_cons (de_var 8) (da_cons (de_op op_addA snd_add (de_var 6) (de_var 7)) da_nil))) da_nil)))))
  dss_nil))))))))))))
  (dss_one (ds_ret (de_var 2)))))))⟩
theorem sc__law_parting : FnScope ["words", "others", "some", "pair", "text"] ["words", "others"] (defScope s__law_parting) := ⟨rfl, rfl, rfl, by decide +kernel, rfl, by decide +kernel, by decide +kernel⟩
theorem w__law_parting (T : Txt K mg) (c__law_pairs : ACal P w K mg base 4 "_law_pairs" (conP pre__law_pairs f__law_pairs)) (f : Addr) (cdv : Value) (A : Around) (outer : List Env) (s : Shared) (H : Hp) (E : XK) (hr : Room 4 (A.deeper (envOfC "_law_parting" (defScope s__law_parting) s.heap.objs.size f cdv))) :
    ∃ t, DSs (cxOf CX0 P w K mg base ["words", "others", "some", "pair", "text"] "_law_parting" (defScope s__law_parting) f cdv A outer s H E).nox W0 (defBody s__law_parting) t p__law_parting := by
  have hu65 := hu65_of hr
  have hu64 := hr.units
  have hu1 := hu_of hr
  exact ⟨_, (dss_cons (ds_setLcD 2 (own := [("pair", 3), ("text", 4)]) rfl sc__law_parting.nd (klst (K := K) (kcall (K := K) (reads_P pre__law_pairs f__law_pairs) c__law_pairs hr (by decide) rfl (da_cons (de_var 0) (da_cons (de_var 1) da_nil)))) (show blkC ["words", "others", "some", "pair", "text"] (defScope s__law_parting) _ _ = true by decide +kernel) (fun _ _ _ _ _ => (kdg_t (K := K) [3, 4] rfl (pgs_cons (pg_name (i := 3) sc__law_parting.nd rfl (by first | exact Or.inl rfl | exact Or.inr rfl)) (pgs_cons (pg_name (i := 4) sc__law_parting.nd rfl (by first | exact Or.inl rfl | exact Or.inr rfl)) pgs_nil)))) (fun _ _ _ _ _ => (dts_one (dt_cmp (r := rEqA K not) (op_neA hu64) (snd_eq not) rfl (de_cmp (r := rInA K id) (op_inA hu65) (snd_in id) rfl (de_str rfl) (kix (K := K) hu1 (de_var 3) de_int)) (de_cmp (r := rInA K id) (op_inA hu65) (snd_in id) rfl (de_str rfl) (kix (K := K) hu1 (de_var 3) de_int))))) (fun _ _ _ _ _ => (de_var 4)) (by decide) (s, H))
  (dss_one (ds_ret (kix (K := K) hu1 (de_op op_addA snd_add (de_var 2) (de_lst (da_cons de_non da_nil))) de_int))))⟩
theorem sc_law : FnScope ["script", "at", "store", "words", "others", "one", "other", "handed", "due", "found"] ["script"] (defScope s_law) := ⟨rfl, rfl, rfl, by decide +kernel, rfl, by decide +kernel, by decide +kernel⟩
theorem w_law (T : Txt K mg) (c__law_store : ACal P w K mg base 1 "_law_store" (conP pre_x__law_store f_x__law_store)) (c__law_cell : ACal P w K mg base 1 "_law_cell" (conN pre_x__law_cell ok_x__law_cell)) (c__law_some_words : ACal P w K mg base 4 "_law_some_words" (conN pre_z__law_some_words ok_z__law_some_words)) (c__law_second_words : ACal P w K mg base 5 "_law_second_words" (conN pre__law_second_words ok__law_second_words)) (c__law_book : ACal P w K mg base 2 "_law_book" (conN pre_x__law_book ok_x__law_book)) (c__law_parting : ACal P w K mg base 5 "_law_parting" (conP pre__law_parting f__law_parting)) (c_parting_text : ACal P w K mg base 5 "parting_text" (conP pre_parting_text f_parting_text)) (f : Addr) (cdv : Value) (A : Around) (outer : List Env) (s : Shared) (H : Hp) (E : XK) (hr : Room 5 (A.deeper (envOfC "law" (defScope s_law) s.heap.objs.size f cdv))) :
    ∃ t, DSs (cxOf CX0 P w K mg base ["script", "at", "store", "words", "others", "one", "other", "handed", "due", "found"] "law" (defScope s_law) f cdv A outer s H E).nox W0 (defBody s_law) t p_law := by
  have hu65 := hu65_of hr
  have hu64 := hr.units
  have hu1 := hu_of hr
  exact ⟨_, (dss_cons (DS.wip (ws := [1, 2, 3, 4, 5, 6, 7, 8, 9]) (ds_for PassesOwn.never rfl (di_rng1 rfl T.b_range (da_cons (de_cb (call_min2 rfl) snd_min2 rfl T.b_min rfl (da_cons (de_cb (call_max2 rfl) snd_max2 rfl T.b_max rfl (da_cons (de_cb (r := rLenA K) call_lenA snd_len rfl T.b_len rfl (da_cons (de_var 0) da_nil)) (da_cons de_int da_nil))) (da_cons de_int da_nil))) da_nil)) (dg_n 1 sc_law.nd) (DSs.gw (ws := [1, 2, 3, 4, 5, 6, 7, 8, 9]) (wb := [1, 2, 3, 4, 5, 6, 7, 8, 9]) (dss_cons (ds_set 2 sc_law.nd (kcall (K := K) (reads_P pre_x__law_store f_x__law_store) c__law_store hr (by decide) rfl (da_cons (kcall (K := K) (reads_N pre_x__law_cell ok_x__law_cell) c__law_cell hr (by decide) rfl (da_cons (de_var 0) (da_cons (de_var 1) da_nil))) da_nil)))
  (dss_cons (ds_setD 3 sc_law.nd (kcall (K := K) (reads_N pre_z__law_some_words ok_z__law_some_words) c__law_some_words hr (by decide) rfl (da_cons (de_var 2) da_nil)))
  (dss_cons (ds_setD 4 sc_law.nd (kcall (K := K) (reads_N pre__law_second_words ok__law_second_words) c__law_second_words hr (by decide) rfl (da_cons (de_var 2) (da_cons (de_var 3) da_nil))))
  (dss_cons (ds_setD 5 sc_law.nd (kcall (K := K) (reads_N pre_x__law_book ok_x__law_book) c__law_book hr (by decide) rfl (da_cons (de_var 2) (da_cons (de_var 3) da_nil))))
  (dss_cons (ds_setD 6 sc_law.nd (kcall (K := K) (reads_N pre_x__law_book ok_x__law_book) c__law_book hr (by decide) rfl (da_cons (de_var 2) (da_cons (de_var 4) da_nil))))
  (dss_cons (ds_setD 7 sc_law.nd (de_lst (da_cons (de_cty (r := rListB K) (call_listB rfl) snd_listB rfl T.b_list rfl (da_cons (de_var 5) da_nil)) (da_cons (de_cty (r := rListB K) (call_listB rfl) snd_listB rfl T.b_list rfl (da_cons (de_var 6) da_nil)) da_nil))))
  (dss_cons (ds_setD 8 sc_law.nd (kcall (K := K) (reads_P pre__law_parting f__law_parting) c__law_parting hr (by decide) rfl (da_cons (de_var 3) (da_cons (de_var 4) da_nil))))
  (dss_cons (DS.wip (ws := [9]) (ds_for PassesOwn.never rfl (klst (K := K) (de_lst (da_cons (kcall (K := K) (reads_P pre_parting_text f_parting_text) c_parting_text hr (by decide) rfl (da_cons (kix (K := K) hu1 (de_var 7) de_int) (da_cons (kix (K := K) hu1 (de_var 7) de_int) da_nil))) (da_cons (kcall (K := K) (reads_P pre_parting_text f_parting_text) c_parting_text hr (by decide) rfl (da_cons (kix (K := K) hu1 (de_var 7) de_int) (da_cons (kix (K := K) hu1 (de_var 7) de_int) da_nil))) da_nil)))) (dg_n 9 sc_law.nd) (DSs.gw (ws := [9]) (wb := [9]) (dss_cons (ds_if (dt_w (dw_or (dt_w (dw_and (dt_cmp op_isA (snd_is id) rfl (de_var 8) de_non) (dw_and1 (dt_cmp op_isNotA (snd_is not) rfl (de_var 9) de_non)))) (dw_or1 (dt_w (dw_and (dt_cmp op_isNotA (snd_is not) rfl (de_var 8) de_non) (dw_and1 (dt_not (dt_val (kisi (K := K) (de_var 9) (by decide) rfl T.b_isinstance rfl rfl T.b_str rfl))))))))) (dss_one (ds_ret de_bl))
  dss_nil)
  (dss_one (ds_if (dt_cmp (r := rEqA K not) (op_neA hu64) (snd_eq not) rfl (de_var 9) (de_var 8)) (dss_one (ds_ret de_bl))
  dss_nil))))))
  (dss_one (ds_if (dt_w (dw_or (dt_cmp op_isNotA (snd_is not) rfl (kcall (K := K) (reads_P pre_parting_text f_parting_text) c_parting_text hr (by decide) rfl (da_cons (kix (K := K) hu1 (de_var 7) de_int) (da_cons (kix (K := K) hu1 (de_var 7) de_int) da_nil))) de_non) (dw_or1 (dt_cmp (r := rEqA K not) (op_neA hu64) (snd_eq not) rfl (de_var 7) (de_lst (da_cons (de_var 5) (da_cons (de_var 6) da_nil))))))) (dss_one (ds_ret de_bl))
  dss_nil)))))))))))))
  (dss_one (ds_ret de_bl)))⟩
end
end PD

namespace PD
section
open PySem PySem.Spec PyProof.Rows L2
theorem all_mk {l : PySem.W.OpenLaw} {w : World} {K : PySem.W.Frag} {h : Heap} {mg : Str → Option Value} {fa f0 f1 f2 f3 f4 f5 f6 f7 f8 f9 f10 f11 f12 f13 f14 f15 f16 f17 f18 f19 f20 f21 f22 f23 f24 : Addr} (X : K.In h) (G : h.Ns mainGlobals mg) (hfa : mg "law" = some (.ref fa))
    {od0 an0 od1 an1 od2 an2 od3 an3 od4 an4 od5 an5 od6 an6 od7 an7 od8 an8 od9 an9 od10 an10 od11 an11 od12 an12 od13 an13 od14 an14 od15 an15 od16 an16 od17 an17 od18 an18 od19 an19 od20 an20 od21 an21 od22 an22 od23 an23 od24 an24 : Option Addr} {sl0 sl1 sl2 sl3 sl4 sl5 sl6 sl7 sl8 sl9 sl10 sl11 sl12 sl13 sl14 sl15 sl16 sl17 sl18 sl19 sl20 sl21 sl22 sl23 sl24 : Array (Option Value)} {oc0 kV0 dc0 pm0 cd0 ct0 oc1 kV1 dc1 pm1 cd1 ct1 oc2 kV2 dc2 pm2 cd2 ct2 oc3 kV3 dc3 pm3 cd3 ct3 oc4 kV4 dc4 pm4 cd4 ct4 oc5 kV5 dc5 pm5 cd5 ct5 oc6 kV6 dc6 pm6 cd6 ct6 oc7 kV7 dc7 pm7 cd7 ct7 oc8 kV8 dc8 pm8 cd8 ct8 oc9 kV9 dc9 pm9 cd9 ct9 oc10 kV10 dc10 pm10 cd10 ct10 oc11 kV11 dc11 pm11 cd11 ct11 oc12 kV12 dc12 pm12 cd12 ct12 oc13 kV13 dc13 pm13 cd13 ct13 oc14 kV14 dc14 pm14 cd14 ct14 oc15 kV15 dc15 pm15 cd15 ct15 oc16 kV16 dc16 pm16 cd16 ct16 oc17 kV17 dc17 pm17 cd17 ct17 oc18 kV18 dc18 pm18 cd18 ct18 oc19 kV19 dc19 pm19 cd19 ct19 oc20 kV20 dc20 pm20 cd20 ct20 oc21 kV21 dc21 pm21 cd21 ct21 oc22 kV22 dc22 pm22 cd22 ct22 oc23 kV23 dc23 pm23 cd23 ct23 oc24 kV24 dc24 pm24 cd24 ct24 : Value}
    (a0 : PySem.W.nsIn K mainGlobals "is_begun" = some (some (.ref f0))) (l0 : K.lookup f0 = some ⟨oc0, od0, .func (PySem.W.fnOf "is_begun" "is_begun" (defArgs s_is_begun) (defBody s_is_begun) (defScope s_is_begun) .none kV0 dc0 pm0 an0 cd0 ct0), sl0⟩) (c0 : PySem.W.codeIn K cd0 "is_begun" = true) (k0 : PySem.W.keepIn K (.ref f0) = true)
    (a1 : PySem.W.nsIn K mainGlobals "row_behind" = some (some (.ref f1))) (l1 : K.lookup f1 = some ⟨oc1, od1, .func (PySem.W.fnOf "row_behind" "row_behind" (defArgs s_row_behind) (defBody s_row_behind) (defScope s_row_behind) .none kV1 dc1 pm1 an1 cd1 ct1), sl1⟩) (c1 : PySem.W.codeIn K cd1 "row_behind" = true) (k1 : PySem.W.keepIn K (.ref f1) = true)
    (a2 : PySem.W.nsIn K mainGlobals "words_in" = some (some (.ref f2))) (l2 : K.lookup f2 = some ⟨oc2, od2, .func (PySem.W.fnOf "words_in" "words_in" (defArgs s_words_in) (defBody s_words_in) (defScope s_words_in) .none kV2 dc2 pm2 an2 cd2 ct2), sl2⟩) (c2 : PySem.W.codeIn K cd2 "words_in" = true) (k2 : PySem.W.keepIn K (.ref f2) = true)
    (a3 : PySem.W.nsIn K mainGlobals "letters_of" = some (some (.ref f3))) (l3 : K.lookup f3 = some ⟨oc3, od3, .func (PySem.W.fnOf "letters_of" "letters_of" (defArgs s_letters_of) (defBody s_letters_of) (defScope s_letters_of) .none kV3 dc3 pm3 an3 cd3 ct3), sl3⟩) (c3 : PySem.W.codeIn K cd3 "letters_of" = true) (k3 : PySem.W.keepIn K (.ref f3) = true)
    (a4 : PySem.W.nsIn K mainGlobals "pair_behind" = some (some (.ref f4))) (l4 : K.lookup f4 = some ⟨oc4, od4, .func (PySem.W.fnOf "pair_behind" "pair_behind" (defArgs s_pair_behind) (defBody s_pair_behind) (defScope s_pair_behind) .none kV4 dc4 pm4 an4 cd4 ct4), sl4⟩) (c4 : PySem.W.codeIn K cd4 "pair_behind" = true) (k4 : PySem.W.keepIn K (.ref f4) = true)
    (a5 : PySem.W.nsIn K mainGlobals "pairs_from" = some (some (.ref f5))) (l5 : K.lookup f5 = some ⟨oc5, od5, .func (PySem.W.fnOf "pairs_from" "pairs_from" (defArgs s_pairs_from) (defBody s_pairs_from) (defScope s_pairs_from) .none kV5 dc5 pm5 an5 cd5 ct5), sl5⟩) (c5 : PySem.W.codeIn K cd5 "pairs_from" = true) (k5 : PySem.W.keepIn K (.ref f5) = true)
    (a6 : PySem.W.nsIn K mainGlobals "is_parted" = some (some (.ref f6))) (l6 : K.lookup f6 = some ⟨oc6, od6, .func (PySem.W.fnOf "is_parted" "is_parted" (defArgs s_is_parted) (defBody s_is_parted) (defScope s_is_parted) .none kV6 dc6 pm6 an6 cd6 ct6), sl6⟩) (c6 : PySem.W.codeIn K cd6 "is_parted" = true) (k6 : PySem.W.keepIn K (.ref f6) = true)
    (a7 : PySem.W.nsIn K mainGlobals "parting_text" = some (some (.ref f7))) (l7 : K.lookup f7 = some ⟨oc7, od7, .func (PySem.W.fnOf "parting_text" "parting_text" (defArgs s_parting_text) (defBody s_parting_text) (defScope s_parting_text) .none kV7 dc7 pm7 an7 cd7 ct7), sl7⟩) (c7 : PySem.W.codeIn K cd7 "parting_text" = true) (k7 : PySem.W.keepIn K (.ref f7) = true)
    (a8 : PySem.W.nsIn K mainGlobals "_law_cell" = some (some (.ref f8))) (l8 : K.lookup f8 = some ⟨oc8, od8, .func (PySem.W.fnOf "_law_cell" "_law_cell" (defArgs s__law_cell) (defBody s__law_cell) (defScope s__law_cell) .none kV8 dc8 pm8 an8 cd8 ct8), sl8⟩) (c8 : PySem.W.codeIn K cd8 "_law_cell" = true) (k8 : PySem.W.keepIn K (.ref f8) = true)
    (a9 : PySem.W.nsIn K mainGlobals "_law_store" = some (some (.ref f9))) (l9 : K.lookup f9 = some ⟨oc9, od9, .func (PySem.W.fnOf "_law_store" "_law_store" (defArgs s__law_store) (defBody s__law_store) (defScope s__law_store) .none kV9 dc9 pm9 an9 cd9 ct9), sl9⟩) (c9 : PySem.W.codeIn K cd9 "_law_store" = true) (k9 : PySem.W.keepIn K (.ref f9) = true)
    (a10 : PySem.W.nsIn K mainGlobals "_law_take" = some (some (.ref f10))) (l10 : K.lookup f10 = some ⟨oc10, od10, .func (PySem.W.fnOf "_law_take" "_law_take" (defArgs s__law_take) (defBody s__law_take) (defScope s__law_take) .none kV10 dc10 pm10 an10 cd10 ct10), sl10⟩) (c10 : PySem.W.codeIn K cd10 "_law_take" = true) (k10 : PySem.W.keepIn K (.ref f10) = true)
    (a11 : PySem.W.nsIn K mainGlobals "_law_kept_word" = some (some (.ref f11))) (l11 : K.lookup f11 = some ⟨oc11, od11, .func (PySem.W.fnOf "_law_kept_word" "_law_kept_word" (defArgs s__law_kept_word) (defBody s__law_kept_word) (defScope s__law_kept_word) .none kV11 dc11 pm11 an11 cd11 ct11), sl11⟩) (c11 : PySem.W.codeIn K cd11 "_law_kept_word" = true) (k11 : PySem.W.keepIn K (.ref f11) = true)
    (a12 : PySem.W.nsIn K mainGlobals "_law_words" = some (some (.ref f12))) (l12 : K.lookup f12 = some ⟨oc12, od12, .func (PySem.W.fnOf "_law_words" "_law_words" (defArgs s__law_words) (defBody s__law_words) (defScope s__law_words) .none kV12 dc12 pm12 an12 cd12 ct12), sl12⟩) (c12 : PySem.W.codeIn K cd12 "_law_words" = true) (k12 : PySem.W.keepIn K (.ref f12) = true)
    (a13 : PySem.W.nsIn K mainGlobals "_law_book" = some (some (.ref f13))) (l13 : K.lookup f13 = some ⟨oc13, od13, .func (PySem.W.fnOf "_law_book" "_law_book" (defArgs s__law_book) (defBody s__law_book) (defScope s__law_book) .none kV13 dc13 pm13 an13 cd13 ct13), sl13⟩) (c13 : PySem.W.codeIn K cd13 "_law_book" = true) (k13 : PySem.W.keepIn K (.ref f13) = true)
    (a14 : PySem.W.nsIn K mainGlobals "_law_is_begun" = some (some (.ref f14))) (l14 : K.lookup f14 = some ⟨oc14, od14, .func (PySem.W.fnOf "_law_is_begun" "_law_is_begun" (defArgs s__law_is_begun) (defBody s__law_is_begun) (defScope s__law_is_begun) .none kV14 dc14 pm14 an14 cd14 ct14), sl14⟩) (c14 : PySem.W.codeIn K cd14 "_law_is_begun" = true) (k14 : PySem.W.keepIn K (.ref f14) = true)
    (a15 : PySem.W.nsIn K mainGlobals "_law_parts" = some (some (.ref f15))) (l15 : K.lookup f15 = some ⟨oc15, od15, .func (PySem.W.fnOf "_law_parts" "_law_parts" (defArgs s__law_parts) (defBody s__law_parts) (defScope s__law_parts) .none kV15 dc15 pm15 an15 cd15 ct15), sl15⟩) (c15 : PySem.W.codeIn K cd15 "_law_parts" = true) (k15 : PySem.W.keepIn K (.ref f15) = true)
    (a16 : PySem.W.nsIn K mainGlobals "_law_split_words" = some (some (.ref f16))) (l16 : K.lookup f16 = some ⟨oc16, od16, .func (PySem.W.fnOf "_law_split_words" "_law_split_words" (defArgs s__law_split_words) (defBody s__law_split_words) (defScope s__law_split_words) .none kV16 dc16 pm16 an16 cd16 ct16), sl16⟩) (c16 : PySem.W.codeIn K cd16 "_law_split_words" = true) (k16 : PySem.W.keepIn K (.ref f16) = true)
    (a17 : PySem.W.nsIn K mainGlobals "_law_alphabet" = some (some (.ref f17))) (l17 : K.lookup f17 = some ⟨oc17, od17, .func (PySem.W.fnOf "_law_alphabet" "_law_alphabet" (defArgs s__law_alphabet) (defBody s__law_alphabet) (defScope s__law_alphabet) .none kV17 dc17 pm17 an17 cd17 ct17), sl17⟩) (c17 : PySem.W.codeIn K cd17 "_law_alphabet" = true) (k17 : PySem.W.keepIn K (.ref f17) = true)
    (a18 : PySem.W.nsIn K mainGlobals "_law_wide_words" = some (some (.ref f18))) (l18 : K.lookup f18 = some ⟨oc18, od18, .func (PySem.W.fnOf "_law_wide_words" "_law_wide_words" (defArgs s__law_wide_words) (defBody s__law_wide_words) (defScope s__law_wide_words) .none kV18 dc18 pm18 an18 cd18 ct18), sl18⟩) (c18 : PySem.W.codeIn K cd18 "_law_wide_words" = true) (k18 : PySem.W.keepIn K (.ref f18) = true)
    (a19 : PySem.W.nsIn K mainGlobals "_law_some_words" = some (some (.ref f19))) (l19 : K.lookup f19 = some ⟨oc19, od19, .func (PySem.W.fnOf "_law_some_words" "_law_some_words" (defArgs s__law_some_words) (defBody s__law_some_words) (defScope s__law_some_words) .none kV19 dc19 pm19 an19 cd19 ct19), sl19⟩) (c19 : PySem.W.codeIn K cd19 "_law_some_words" = true) (k19 : PySem.W.keepIn K (.ref f19) = true)
    (a20 : PySem.W.nsIn K mainGlobals "_law_row_behind" = some (some (.ref f20))) (l20 : K.lookup f20 = some ⟨oc20, od20, .func (PySem.W.fnOf "_law_row_behind" "_law_row_behind" (defArgs s__law_row_behind) (defBody s__law_row_behind) (defScope s__law_row_behind) .none kV20 dc20 pm20 an20 cd20 ct20), sl20⟩) (c20 : PySem.W.codeIn K cd20 "_law_row_behind" = true) (k20 : PySem.W.keepIn K (.ref f20) = true)
    (a21 : PySem.W.nsIn K mainGlobals "_law_second_words" = some (some (.ref f21))) (l21 : K.lookup f21 = some ⟨oc21, od21, .func (PySem.W.fnOf "_law_second_words" "_law_second_words" (defArgs s__law_second_words) (defBody s__law_second_words) (defScope s__law_second_words) .none kV21 dc21 pm21 an21 cd21 ct21), sl21⟩) (c21 : PySem.W.codeIn K cd21 "_law_second_words" = true) (k21 : PySem.W.keepIn K (.ref f21) = true)
    (a22 : PySem.W.nsIn K mainGlobals "_law_pairs" = some (some (.ref f22))) (l22 : K.lookup f22 = some ⟨oc22, od22, .func (PySem.W.fnOf "_law_pairs" "_law_pairs" (defArgs s__law_pairs) (defBody s__law_pairs) (defScope s__law_pairs) .none kV22 dc22 pm22 an22 cd22 ct22), sl22⟩) (c22 : PySem.W.codeIn K cd22 "_law_pairs" = true) (k22 : PySem.W.keepIn K (.ref f22) = true)
    (a23 : PySem.W.nsIn K mainGlobals "_law_parting" = some (some (.ref f23))) (l23 : K.lookup f23 = some ⟨oc23, od23, .func (PySem.W.fnOf "_law_parting" "_law_parting" (defArgs s__law_parting) (defBody s__law_parting) (defScope s__law_parting) .none kV23 dc23 pm23 an23 cd23 ct23), sl23⟩) (c23 : PySem.W.codeIn K cd23 "_law_parting" = true) (k23 : PySem.W.keepIn K (.ref f23) = true)
    (a24 : PySem.W.nsIn K mainGlobals "law" = some (some (.ref f24))) (l24 : K.lookup f24 = some ⟨oc24, od24, .func (PySem.W.fnOf "law" "law" (defArgs s_law) (defBody s_law) (defScope s_law) .none kV24 dc24 pm24 an24 cd24 ct24), sl24⟩) (c24 : PySem.W.codeIn K cd24 "law" = true) (k24 : PySem.W.keepIn K (.ref f24) = true)
    (z_isinstance : PySem.W.nsIn K mainGlobals "isinstance" = some none)
    (z_len : PySem.W.nsIn K mainGlobals "len" = some none)
    (z_list : PySem.W.nsIn K mainGlobals "list" = some none)
    (z_max : PySem.W.nsIn K mainGlobals "max" = some none)
    (z_min : PySem.W.nsIn K mainGlobals "min" = some none)
    (z_range : PySem.W.nsIn K mainGlobals "range" = some none)
    (z_set : PySem.W.nsIn K mainGlobals "set" = some none)
    (z_sorted : PySem.W.nsIn K mainGlobals "sorted" = some none)
    (z_str : PySem.W.nsIn K mainGlobals "str" = some none)
    : ∃ fd : FuncData, (∀ (s : Shared) (v : Value), BindsTo s fd ⟨[v], []⟩ [("script", v)]) ∧ ∀ base : Heap, K.In base → base.Ns mainGlobals mg → FnOk l.prog w K mg base CX0 6 fa fd ["script"] (spTrue K) := by
  have e := hfa.symm.trans (PySem.W.mg_of X G a24)
  cases e
  have T : Txt K mg := ⟨PySem.W.mg_none_of X G z_isinstance, PySem.W.mg_none_of X G z_len, PySem.W.mg_none_of X G z_list, PySem.W.mg_none_of X G z_max, PySem.W.mg_none_of X G z_min, PySem.W.mg_none_of X G z_range, PySem.W.mg_none_of X G z_set, PySem.W.mg_none_of X G z_sorted, PySem.W.mg_none_of X G z_str⟩
  have F0 := fun_mk (st := s_is_begun) l0 c0 k0
  have b0 := F0.binds (ps := ["words", "text"]) fun _ _ _ _ _ _ us hl => match us, hl with | [_, _], _ => rfl
  have F1 := fun_mk (st := s_row_behind) l1 c1 k1
  have b1 := F1.binds (ps := ["words", "row", "letter"]) fun _ _ _ _ _ _ us hl => match us, hl with | [_, _, _], _ => rfl
  have F2 := fun_mk (st := s_words_in) l2 c2 k2
  have b2 := F2.binds (ps := ["book"]) fun _ _ _ _ _ _ us hl => match us, hl with | [_], _ => rfl
  have F3 := fun_mk (st := s_letters_of) l3 c3 k3
  have b3 := F3.binds (ps := ["one", "other"]) fun _ _ _ _ _ _ us hl => match us, hl with | [_, _], _ => rfl
  have F4 := fun_mk (st := s_pair_behind) l4 c4 k4
  have b4 := F4.binds (ps := ["books", "pair", "letter"]) fun _ _ _ _ _ _ us hl => match us, hl with | [_, _, _], _ => rfl
  have F5 := fun_mk (st := s_pairs_from) l5 c5 k5
  have b5 := F5.binds (ps := ["one", "other"]) fun _ _ _ _ _ _ us hl => match us, hl with | [_, _], _ => rfl
  have F6 := fun_mk (st := s_is_parted) l6 c6 k6
  have b6 := F6.binds (ps := ["pair"]) fun _ _ _ _ _ _ us hl => match us, hl with | [_], _ => rfl
  have F7 := fun_mk (st := s_parting_text) l7 c7 k7
  have b7 := F7.binds (ps := ["one", "other"]) fun _ _ _ _ _ _ us hl => match us, hl with | [_, _], _ => rfl
  have F8 := fun_mk (st := s__law_cell) l8 c8 k8
  have b8 := F8.binds (ps := ["script", "k"]) fun _ _ _ _ _ _ us hl => match us, hl with | [_, _], _ => rfl
  have F9 := fun_mk (st := s__law_store) l9 c9 k9
  have b9 := F9.binds (ps := ["cell"]) fun _ _ _ _ _ _ us hl => match us, hl with | [_], _ => rfl
  have F10 := fun_mk (st := s__law_take) l10 c10 k10
  have b10 := F10.binds (ps := ["store", "many"]) fun _ _ _ _ _ _ us hl => match us, hl with | [_, _], _ => rfl
  have F11 := fun_mk (st := s__law_kept_word) l11 c11 k11
  have b11 := F11.binds (ps := ["store", "words", "letters"]) fun _ _ _ _ _ _ us hl => match us, hl with | [_, _, _], _ => rfl
  have F12 := fun_mk (st := s__law_words) l12 c12 k12
  have b12 := F12.binds (ps := ["store"]) fun _ _ _ _ _ _ us hl => match us, hl with | [_], _ => rfl
  have F13 := fun_mk (st := s__law_book) l13 c13 k13
  have b13 := F13.binds (ps := ["store", "words"]) fun _ _ _ _ _ _ us hl => match us, hl with | [_, _], _ => rfl
  have F14 := fun_mk (st := s__law_is_begun) l14 c14 k14
  have b14 := F14.binds (ps := ["words", "text"]) fun _ _ _ _ _ _ us hl => match us, hl with | [_, _], _ => rfl
  have F15 := fun_mk (st := s__law_parts) l15 c15 k15
  have b15 := F15.binds (ps := ["words", "part", "letter"]) fun _ _ _ _ _ _ us hl => match us, hl with | [_, _, _], _ => rfl
  have F16 := fun_mk (st := s__law_split_words) l16 c16 k16
  have b16 := F16.binds (ps := ["store"]) fun _ _ _ _ _ _ us hl => match us, hl with | [_], _ => rfl
  have F17 := fun_mk (st := s__law_alphabet) l17 c17 k17
  have b17 := F17.binds (ps := ["store", "many"]) fun _ _ _ _ _ _ us hl => match us, hl with | [_, _], _ => rfl
  have F18 := fun_mk (st := s__law_wide_words) l18 c18 k18
  have b18 := F18.binds (ps := ["store"]) fun _ _ _ _ _ _ us hl => match us, hl with | [_], _ => rfl
  have F19 := fun_mk (st := s__law_some_words) l19 c19 k19
  have b19 := F19.binds (ps := ["store"]) fun _ _ _ _ _ _ us hl => match us, hl with | [_], _ => rfl
  have F20 := fun_mk (st := s__law_row_behind) l20 c20 k20
  have b20 := F20.binds (ps := ["words", "row", "letter"]) fun _ _ _ _ _ _ us hl => match us, hl with | [_, _, _], _ => rfl
  have F21 := fun_mk (st := s__law_second_words) l21 c21 k21
  have b21 := F21.binds (ps := ["store", "words"]) fun _ _ _ _ _ _ us hl => match us, hl with | [_, _], _ => rfl
  have F22 := fun_mk (st := s__law_pairs) l22 c22 k22
  have b22 := F22.binds (ps := ["words", "others"]) fun _ _ _ _ _ _ us hl => match us, hl with | [_, _], _ => rfl
  have F23 := fun_mk (st := s__law_parting) l23 c23 k23
  have b23 := F23.binds (ps := ["words", "others"]) fun _ _ _ _ _ _ us hl => match us, hl with | [_, _], _ => rfl
  have F24 := fun_mk (st := s_law) l24 c24 k24
  have b24 := F24.binds (ps := ["script"]) fun _ _ _ _ _ _ us hl => match us, hl with | [_], _ => rfl
  refine ⟨PySem.W.fnOf "law" "law" (defArgs s_law) (defBody s_law) (defScope s_law) .none kV24 dc24 pm24 an24 cd24 ct24, fun s v => .of_eq rfl, fun base _ _ => ?_⟩
  have c_is_begun : ACal l.prog w K mg base 1 "is_begun" (conP pre_is_begun f_is_begun) := acalL F0 (PySem.W.mg_of X G a0) b0 sc_is_begun (fun cdv A outer s H E hr => w_is_begun T _ cdv A outer s H E hr) r_is_begun
  have c_row_behind : ACal l.prog w K mg base 2 "row_behind" (conP pre_row_behind f_row_behind) := acalL F1 (PySem.W.mg_of X G a1) b1 sc_row_behind (fun cdv A outer s H E hr => w_row_behind T c_is_begun _ cdv A outer s H E hr) r_row_behind
  have c_words_in : ACal l.prog w K mg base 1 "words_in" (conP pre_words_in f_words_in) := acalL F2 (PySem.W.mg_of X G a2) b2 sc_words_in (fun cdv A outer s H E hr => w_words_in T _ cdv A outer s H E hr) r_words_in
  have c_letters_of : ACal l.prog w K mg base 2 "letters_of" (conP pre_letters_of f_letters_of) := acalL F3 (PySem.W.mg_of X G a3) b3 sc_letters_of (fun cdv A outer s H E hr => w_letters_of T c_words_in _ cdv A outer s H E hr) r_letters_of
  have c_pair_behind : ACal l.prog w K mg base 3 "pair_behind" (conP pre_pair_behind f_pair_behind) := acalL F4 (PySem.W.mg_of X G a4) b4 sc_pair_behind (fun cdv A outer s H E hr => w_pair_behind T c_row_behind c_words_in _ cdv A outer s H E hr) r_pair_behind
  have c_pairs_from : ACal l.prog w K mg base 4 "pairs_from" (conP pre_pairs_from f_pairs_from) := acalL F5 (PySem.W.mg_of X G a5) b5 sc_pairs_from (fun cdv A outer s H E hr => w_pairs_from T c_letters_of c_pair_behind _ cdv A outer s H E hr) r_pairs_from
  have c_is_parted : ACal l.prog w K mg base 1 "is_parted" (conP pre_is_parted f_is_parted) := acalL F6 (PySem.W.mg_of X G a6) b6 sc_is_parted (fun cdv A outer s H E hr => w_is_parted T _ cdv A outer s H E hr) r_is_parted
  have c_parting_text : ACal l.prog w K mg base 5 "parting_text" (conP pre_parting_text f_parting_text) := acalL F7 (PySem.W.mg_of X G a7) b7 sc_parting_text (fun cdv A outer s H E hr => w_parting_text T c_pairs_from c_is_parted _ cdv A outer s H E hr) r_parting_text
  have c__law_cell : ACal l.prog w K mg base 1 "_law_cell" (conN pre_x__law_cell ok_x__law_cell) := acalL F8 (PySem.W.mg_of X G a8) b8 sc__law_cell (fun cdv A outer s H E hr => w__law_cell T _ cdv A outer s H E hr) r_x__law_cell
  have c__law_store : ACal l.prog w K mg base 1 "_law_store" (conP pre_x__law_store f_x__law_store) := acal_store (acalL F9 (PySem.W.mg_of X G a9) b9 sc__law_store (fun cdv A outer s H E hr => w__law_store T _ cdv A outer s H E hr) r_x__law_store)
  have c__law_take : ACal l.prog w K mg base 1 "_law_take" (conN pre_x__law_take ok_x__law_take) := acal_take (acalL F10 (PySem.W.mg_of X G a10) b10 sc__law_take (fun cdv A outer s H E hr => w__law_take T _ cdv A outer s H E hr) r_x__law_take)
  have c__law_kept_word : ACal l.prog w K mg base 2 "_law_kept_word" (conN pre_x__law_kept_word ok_x__law_kept_word) := acalL F11 (PySem.W.mg_of X G a11) b11 sc__law_kept_word (fun cdv A outer s H E hr => w__law_kept_word T c__law_take _ cdv A outer s H E hr) r_x__law_kept_word
  have c__law_words : ACal l.prog w K mg base 3 "_law_words" (conN pre_x__law_words ok_x__law_words) := acalL F12 (PySem.W.mg_of X G a12) b12 sc__law_words (fun cdv A outer s H E hr => w__law_words T c__law_take c__law_kept_word _ cdv A outer s H E hr) r_x__law_words
  have c__law_book : ACal l.prog w K mg base 2 "_law_book" (conN pre_x__law_book ok_x__law_book) := acalL F13 (PySem.W.mg_of X G a13) b13 sc__law_book (fun cdv A outer s H E hr => w__law_book T c__law_take _ cdv A outer s H E hr) r_x__law_book
  have c__law_is_begun : ACal l.prog w K mg base 1 "_law_is_begun" (conP pre_x__law_is_begun f_x__law_is_begun) := acalL F14 (PySem.W.mg_of X G a14) b14 sc__law_is_begun (fun cdv A outer s H E hr => w__law_is_begun T _ cdv A outer s H E hr) r_x__law_is_begun
  have c__law_parts : ACal l.prog w K mg base 2 "_law_parts" (conP pre_x__law_parts f_x__law_parts) := acalL F15 (PySem.W.mg_of X G a15) b15 sc__law_parts (fun cdv A outer s H E hr => w__law_parts T c__law_is_begun _ cdv A outer s H E hr) r_x__law_parts
  have c__law_split_words : ACal l.prog w K mg base 3 "_law_split_words" (conN pre_x__law_split_words ok_x__law_split_words) := acalL F16 (PySem.W.mg_of X G a16) b16 sc__law_split_words (fun cdv A outer s H E hr => w__law_split_words T c__law_take c__law_kept_word _ cdv A outer s H E hr) r_x__law_split_words
  have c__law_alphabet : ACal l.prog w K mg base 2 "_law_alphabet" (conN pre_x__law_alphabet ok_x__law_alphabet) := acalL F17 (PySem.W.mg_of X G a17) b17 sc__law_alphabet (fun cdv A outer s H E hr => w__law_alphabet T c__law_take _ cdv A outer s H E hr) r_x__law_alphabet
  have c__law_wide_words : ACal l.prog w K mg base 3 "_law_wide_words" (conN pre_x__law_wide_words ok_x__law_wide_words) := acalL F18 (PySem.W.mg_of X G a18) b18 sc__law_wide_words (fun cdv A outer s H E hr => w__law_wide_words T c__law_alphabet c__law_take c__law_kept_word _ cdv A outer s H E hr) r_x__law_wide_words
  have c__law_some_words : ACal l.prog w K mg base 4 "_law_some_words" (conN pre_z__law_some_words ok_z__law_some_words) := acalL F19 (PySem.W.mg_of X G a19) b19 sc__law_some_words (fun cdv A outer s H E hr => w__law_some_words T c__law_take c__law_wide_words c__law_split_words c__law_words _ cdv A outer s H E hr) r_z__law_some_words
  have c__law_row_behind : ACal l.prog w K mg base 3 "_law_row_behind" (conP pre_x__law_row_behind f_x__law_row_behind) := acalL F20 (PySem.W.mg_of X G a20) b20 sc__law_row_behind (fun cdv A outer s H E hr => w__law_row_behind T c__law_parts _ cdv A outer s H E hr) r_x__law_row_behind
  have c__law_second_words : ACal l.prog w K mg base 5 "_law_second_words" (conN pre__law_second_words ok__law_second_words) := acalL F21 (PySem.W.mg_of X G a21) b21 sc__law_second_words (fun cdv A outer s H E hr => w__law_second_words T c__law_take c__law_some_words c__law_kept_word c__law_alphabet _ cdv A outer s H E hr) r__law_second_words
  have c__law_pairs : ACal l.prog w K mg base 4 "_law_pairs" (conP pre__law_pairs f__law_pairs) := acalL F22 (PySem.W.mg_of X G a22) b22 sc__law_pairs (fun cdv A outer s H E hr => w__law_pairs T c__law_row_behind _ cdv A outer s H E hr) r__law_pairs
  have c__law_parting : ACal l.prog w K mg base 5 "_law_parting" (conP pre__law_parting f__law_parting) := acalL F23 (PySem.W.mg_of X G a23) b23 sc__law_parting (fun cdv A outer s H E hr => w__law_parting T c__law_pairs _ cdv A outer s H E hr) r__law_parting
  exact law_fn F24 sc_law (fun cdv A outer s H E hr => w_law T c__law_store c__law_cell c__law_some_words c__law_second_words c__law_book c__law_parting c_parting_text _ cdv A outer s H E hr) r_law (fun ns h => h) fun ns y os h => h.1
end
end PD

open PySem PySem.W PyProof.Rows in
set_option maxRecDepth 100000 in
set_option maxHeartbeats 0 in
theorem PySem.Challenge.cw_bookcuts_k47_texts_that_part_books_holds : PySem.Challenge.rw_bookcuts_k47_texts_that_part_books.Holds := by
  w_on; o_law; k_head; (case hw => w_witness2)
  k_fill
  refine PD.walk_law (k := 6) (l := PySem.Challenge.rw_bookcuts_k47_texts_that_part_books) ⟨rfl, by decide, by decide⟩ rfl rfl (fun w h Y => PySem.W.kIn_of Y) ?F
  case F =>
    intro w mg fa h KX G hmg
    refine' PD.all_mk KX G hmg ?a0 ?l0 ?c0 ?k0 ?a1 ?l1 ?c1 ?k1 ?a2 ?l2 ?c2 ?k2 ?a3 ?l3 ?c3 ?k3 ?a4 ?l4 ?c4 ?k4 ?a5 ?l5 ?c5 ?k5 ?a6 ?l6 ?c6 ?k6 ?a7 ?l7 ?c7 ?k7 ?a8 ?l8 ?c8 ?k8 ?a9 ?l9 ?c9 ?k9 ?a10 ?l10 ?c10 ?k10 ?a11 ?l11 ?c11 ?k11 ?a12 ?l12 ?c12 ?k12 ?a13 ?l13 ?c13 ?k13 ?a14 ?l14 ?c14 ?k14 ?a15 ?l15 ?c15 ?k15 ?a16 ?l16 ?c16 ?k16 ?a17 ?l17 ?c17 ?k17 ?a18 ?l18 ?c18 ?k18 ?a19 ?l19 ?c19 ?k19 ?a20 ?l20 ?c20 ?k20 ?a21 ?l21 ?c21 ?k21 ?a22 ?l22 ?c22 ?k22 ?a23 ?l23 ?c23 ?k23 ?a24 ?l24 ?c24 ?k24 ?z_isinstance ?z_len ?z_list ?z_max ?z_min ?z_range ?z_set ?z_sorted ?z_str
    (case a0 => k_is)
    (case l0 => k_is)
    (case c0 => k_is)
    (case k0 => k_is)
    (case a1 => k_is)
    (case l1 => k_is)
    (case c1 => k_is)
    (case k1 => k_is)
    (case a2 => k_is)
    (case l2 => k_is)
    (case c2 => k_is)
    (case k2 => k_is)
    (case a3 => k_is)
    (case l3 => k_is)
    (case c3 => k_is)
    (case k3 => k_is)
    (case a4 => k_is)
    (case l4 => k_is)
    (case c4 => k_is)
    (case k4 => k_is)
    (case a5 => k_is)
    (case l5 => k_is)
    (case c5 => k_is)
    (case k5 => k_is)
    (case a6 => k_is)
    (case l6 => k_is)
    (case c6 => k_is)
    (case k6 => k_is)
    (case a7 => k_is)
    (case l7 => k_is)
    (case c7 => k_is)
    (case k7 => k_is)
    (case a8 => k_is)
    (case l8 => k_is)
    (case c8 => k_is)
    (case k8 => k_is)
    (case a9 => k_is)
    (case l9 => k_is)
    (case c9 => k_is)
    (case k9 => k_is)
    (case a10 => k_is)
    (case l10 => k_is)
    (case c10 => k_is)
    (case k10 => k_is)
    (case a11 => k_is)
    (case l11 => k_is)
    (case c11 => k_is)
    (case k11 => k_is)
    (case a12 => k_is)
    (case l12 => k_is)
    (case c12 => k_is)
    (case k12 => k_is)
    (case a13 => k_is)
    (case l13 => k_is)
    (case c13 => k_is)
    (case k13 => k_is)
    (case a14 => k_is)
    (case l14 => k_is)
    (case c14 => k_is)
    (case k14 => k_is)
    (case a15 => k_is)
    (case l15 => k_is)
    (case c15 => k_is)
    (case k15 => k_is)
    (case a16 => k_is)
    (case l16 => k_is)
    (case c16 => k_is)
    (case k16 => k_is)
    (case a17 => k_is)
    (case l17 => k_is)
    (case c17 => k_is)
    (case k17 => k_is)
    (case a18 => k_is)
    (case l18 => k_is)
    (case c18 => k_is)
    (case k18 => k_is)
    (case a19 => k_is)
    (case l19 => k_is)
    (case c19 => k_is)
    (case k19 => k_is)
    (case a20 => k_is)
    (case l20 => k_is)
    (case c20 => k_is)
    (case k20 => k_is)
    (case a21 => k_is)
    (case l21 => k_is)
    (case c21 => k_is)
    (case k21 => k_is)
    (case a22 => k_is)
    (case l22 => k_is)
    (case c22 => k_is)
    (case k22 => k_is)
    (case a23 => k_is)
    (case l23 => k_is)
    (case c23 => k_is)
    (case k23 => k_is)
    (case a24 => k_is)
    (case l24 => k_is)
    (case c24 => k_is)
    (case k24 => k_is)
    (case z_isinstance => k_is)
    (case z_len => k_is)
    (case z_list => k_is)
    (case z_max => k_is)
    (case z_min => k_is)
    (case z_range => k_is)
    (case z_set => k_is)
    (case z_sorted => k_is)
    (case z_str => k_is)

