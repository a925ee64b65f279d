import PyProof.Rows.All
import Wide.All
import OpenK.AllK
import Wide.FinOn
import HandS.ForMost
import HandS.WordsExc
import HandS.TryOnly
import HandS.ExcOwn
import HandS.Wide
import HandS.Deep
import HandS.Style
import HandS.IsInst
import KE.KEqDict
import HandS.DictTup
import HandS.StrMore
import HandS.More
import KE.SortData
import HandS.ListItems
import HandS.Small
import HandS.NoneIn
import HandS.Conv
import PyProof.DictUpdate
import HandS.Flow
import HandS.ExcIs
import PySem.Challenge.RW_bookcuts_k26_places_of_every_cut
set_option Elab.async false
set_option linter.all false
set_option maxRecDepth 100000
set_option maxHeartbeats 4000000
/-! PD, first part: pure data over the hand layer. -/
namespace PD
open PySem L2

/-! ### data -/
abbrev Tx := List Nat
abbrev Kd := Sum Int Tx
def st (l : Tx) : Str := ⟨l.toArray⟩
theorem st_tl (l : Tx) : (st l).cps.toList = l := by simp [st]
theorem st_of (x : Str) : st x.cps.toList = x := TL.mk_tl x
theorem st_inj {a b : Tx} (h : st a = st b) : a = b := by
  have := congrArg (fun x : Str => x.cps.toList) h
  simpa [st] using this
theorem st_len (l : Tx) : (st l).length = l.length := by
  show (st l).cps.size = l.length
  simp [st]
theorem st_app (a b : Tx) : st a ++ st b = st (a ++ b) := TL.ext_tl (by rw [TL.tl_append]; simp [TL.tl, st])
def kd : Kd → Key
  | .inl i => .inl i
  | .inr l => .inr (st l)
theorem kd_inj : ∀ {a b : Kd}, kd a = kd b → a = b
  | .inl a, .inl b, h => by
    have : a = b := Sum.inl.inj h
    rw [this]
  | .inr a, .inr b, h => by rw [st_inj (Sum.inr.inj h)]
  | .inl _, .inr _, h => nomatch h
  | .inr _, .inl _, h => nomatch h
theorem kds_inj : ∀ {a b : List Kd}, a.map kd = b.map kd → a = b
  | [], [], _ => rfl
  | x :: a, y :: b, h => by
    simp only [List.map_cons, List.cons.injEq] at h
    rw [kd_inj h.1, kds_inj h.2]
  | [], _ :: _, h => by simp at h
  | _ :: _, [], h => by simp at h

/-- the program's own classes of what is refused -/
inductive EN where
  | place | cut | text | word | writing | row
  deriving DecidableEq
def en : EN → Str
  | .place => "NoPlace"
  | .cut => "NoCut"
  | .text => "NoText"
  | .word => "NoWord"
  | .writing => "NoWriting"
  | .row => "NoRow"
def ev (K : PySem.W.Frag) (e : EN) : Value := match PySem.W.nsIn K mainGlobals (en e) with
  | some (some v) => v
  | _ => .none
/-- a refusal that was caught -/
def excHO (C : Value) (d : Option Addr) (a : Addr) : HO := .ext fun h => ∃ oe vs, h.get? a = some oe ∧ Zc C d oe ∧ oe.data = .fields vs
inductive D where
  | exc (e : EN) | non | bl (b : Bool) | int (i : Int) | str (s : Tx) | lst (xs : List D) | tup (xs : List D) | dic (kvs : List (Kd × D)) | dit (kvs : List (List Kd × D)) | scr (ns : List Int)

def isD : HO → Bool
  | .dK _ => true
  | .dT _ => true
  | _ => false
/-- what is known stays known; a dict may be locked -/
def Le (H H' : Hp) : Prop := ∀ a u, H a = some u → H' a = some u ∨ (isD u = true ∧ ∃ o, H' a = some (.frz o u))
theorem Le.refl (H : Hp) : Le H H := fun _ _ h => .inl h
theorem Le.trans {H H1 H2 : Hp} (a : Le H H1) (b : Le H1 H2) : Le H H2 := fun c u h => by
  rcases a c u h with q | ⟨hd, o, q⟩
  · exact b c u q
  · rcases b c _ q with z | ⟨z, _⟩
    · exact .inr ⟨hd, o, z⟩
    · cases z
theorem Le.rd {H H' : Hp} (e : Le H H') {a : Addr} {u : HO} (h : Rd H a u) : Rd H' a u := by
  rcases h with h | ⟨o, h⟩
  · rcases e a u h with q | ⟨_, o, q⟩
    · exact .inl q
    · exact .inr ⟨o, q⟩
  · rcases e a _ h with q | ⟨z, _⟩
    · exact .inr ⟨o, q⟩
    · cases z
theorem Le.sql {K : PySem.W.Frag} {H H' : Hp} (e : Le H H') {a : Addr} {vs : List V} (h : SqL K H a vs) : SqL K H' a vs := by
  rcases h with h | h
  · exact .inl (e.rd h)
  · exact .inr h
theorem Le.tup {H H' : Hp} (e : Le H H') {a : Addr} {vs : List V} (h : H a = some (.tup vs)) : H' a = some (.tup vs) := by
  rcases e a _ h with q | ⟨z, _⟩
  · exact q
  · cases z
theorem Le.exc {H H' : Hp} (e : Le H H') {a : Addr} {φ : Heap → Prop} (h : H a = some (.ext φ)) : H' a = some (.ext φ) := by
  rcases e a _ h with q | ⟨z, _⟩
  · exact q
  · cases z
theorem Le.lst {H H' : Hp} (e : Le H H') {a : Addr} {vs : List V} (h : H a = some (.lst vs)) : H' a = some (.lst vs) := by
  rcases e a _ h with q | ⟨z, _⟩
  · exact q
  · cases z

mutual
/-- a value bears a datum -/
inductive DR (K : PySem.W.Frag) (H : Hp) : V → D → Prop
  | non : DR K H .non .non
  | bl (b : Bool) : DR K H (.bl b) (.bl b)
  | int (i : Int) : DR K H (.int i) (.int i)
  | str (l : Tx) : DR K H (.str (st l)) (.str l)
  | lst {a : Addr} {vs : List V} {ds : List D} : H a = some (.lst vs) → DRs K H vs ds → DR K H (.ref a) (.lst ds)
  | scr {a : Addr} {ns : List Int} : SqL K H a (ns.map V.int) → DR K H (.ref a) (.scr ns)
  | exc {a : Addr} {e : EN} : H a = some (excHO (ev K e) none a) → DR K H (.ref a) (.exc e)
  | tup {a : Addr} {vs : List V} {ds : List D} : H a = some (.tup vs) → DRs K H vs ds → DR K H (.ref a) (.tup ds)
  | dic {a : Addr} {kvs : List (Key × V)} {kds : List (Kd × D)} : Rd H a (.dK kvs) → DRk K H kvs kds → DR K H (.ref a) (.dic kds)
  | dit {a : Addr} {kvs : List (List Key × V)} {kds : List (List Kd × D)} : Rd H a (.dT kvs) → DRt K H kvs kds → DR K H (.ref a) (.dit kds)
inductive DRs (K : PySem.W.Frag) (H : Hp) : List V → List D → Prop
  | nil : DRs K H [] []
  | cons {v : V} {vs : List V} {d : D} {ds : List D} : DR K H v d → DRs K H vs ds → DRs K H (v :: vs) (d :: ds)
inductive DRk (K : PySem.W.Frag) (H : Hp) : List (Key × V) → List (Kd × D) → Prop
  | nil : DRk K H [] []
  | cons {k : Kd} {v : V} {vs : List (Key × V)} {d : D} {ds : List (Kd × D)} : DR K H v d → DRk K H vs ds → DRk K H ((kd k, v) :: vs) ((k, d) :: ds)
inductive DRt (K : PySem.W.Frag) (H : Hp) : List (List Key × V) → List (List Kd × D) → Prop
  | nil : DRt K H [] []
  | cons {k : List Kd} {v : V} {vs : List (List Key × V)} {d : D} {ds : List (List Kd × D)} : DR K H v d → DRt K H vs ds → DRt K H ((k.map kd, v) :: vs) ((k, d) :: ds)
end
section
variable {K : PySem.W.Frag} {H H' : Hp}
mutual
theorem DR.mono (e : Le H H') : ∀ {v : V} {d : D}, DR K H v d → DR K H' v d
  | _, _, .non => .non
  | _, _, .bl b => .bl b
  | _, _, .int i => .int i
  | _, _, .str l => .str l
  | _, _, .lst h hs => .lst (e.lst h) (DRs.mono e hs)
  | _, _, .scr h => .scr (e.sql h)
  | _, _, .exc h => .exc (e.exc h)
  | _, _, .tup h hs => .tup (e.tup h) (DRs.mono e hs)
  | _, _, .dic h hs => .dic (e.rd h) (DRk.mono e hs)
  | _, _, .dit h hs => .dit (e.rd h) (DRt.mono e hs)
theorem DRs.mono (e : Le H H') : ∀ {vs : List V} {ds : List D}, DRs K H vs ds → DRs K H' vs ds
  | _, _, .nil => .nil
  | _, _, .cons h hs => .cons (DR.mono e h) (DRs.mono e hs)
theorem DRk.mono (e : Le H H') : ∀ {vs : List (Key × V)} {ds : List (Kd × D)}, DRk K H vs ds → DRk K H' vs ds
  | _, _, .nil => .nil
  | _, _, .cons h hs => .cons (DR.mono e h) (DRk.mono e hs)
theorem DRt.mono (e : Le H H') : ∀ {vs : List (List Key × V)} {ds : List (List Kd × D)}, DRt K H vs ds → DRt K H' vs ds
  | _, _, .nil => .nil
  | _, _, .cons h hs => .cons (DR.mono e h) (DRt.mono e hs)
end
theorem DRs.length : ∀ {vs : List V} {ds : List D}, DRs K H vs ds → vs.length = ds.length
  | _, _, .nil => rfl
  | _, _, .cons _ t => by simp [DRs.length t]
theorem DRs.get : ∀ {vs : List V} {ds : List D} {i : Nat} {v : V}, DRs K H vs ds → vs[i]? = some v → ∃ d, ds[i]? = some d ∧ DR K H v d
  | _, _, _, _, .nil, e => by simp at e
  | _, _, 0, _, .cons r _, e => by simp at e; subst e; exact ⟨_, rfl, r⟩
  | _, _, i + 1, x, .cons _ t, e => by
    obtain ⟨u, h1, h2⟩ := DRs.get (i := i) (v := x) t (by simpa using e)
    exact ⟨u, by simpa using h1, h2⟩
theorem DRs.get' : ∀ {vs : List V} {ds : List D} {i : Nat} {d : D}, DRs K H vs ds → ds[i]? = some d → ∃ v, vs[i]? = some v ∧ DR K H v d
  | _, _, _, _, .nil, e => by simp at e
  | _, _, 0, _, .cons r _, e => by simp at e; subst e; exact ⟨_, rfl, r⟩
  | _, _, i + 1, x, .cons _ t, e => by
    obtain ⟨u, h1, h2⟩ := DRs.get' (i := i) (d := x) t (by simpa using e)
    exact ⟨u, by simpa using h1, h2⟩
theorem DRs.append : ∀ {xs ys : List V} {ds es : List D}, DRs K H xs ds → DRs K H ys es → DRs K H (xs ++ ys) (ds ++ es)
  | _, _, _, _, .nil, h => h
  | _, _, _, _, .cons r t, h => .cons r (DRs.append t h)
theorem DRs.snoc {xs : List V} {ds : List D} {v : V} {d : D} (h : DRs K H xs ds) (r : DR K H v d) : DRs K H (xs ++ [v]) (ds ++ [d]) := h.append (.cons r .nil)
theorem DRs.set {v : V} {d : D} (r : DR K H v d) : ∀ {xs : List V} {ds : List D} (i : Nat), DRs K H xs ds → DRs K H (xs.set i v) (ds.set i d)
  | _, _, _, .nil => .nil
  | _, _, 0, .cons _ t => .cons r t
  | _, _, i + 1, .cons q t => .cons q (DRs.set r i t)
theorem DRs.take : ∀ {xs : List V} {ds : List D} (n : Nat), DRs K H xs ds → DRs K H (xs.take n) (ds.take n)
  | _, _, 0, _ => .nil
  | _, _, _ + 1, .nil => .nil
  | _, _, n + 1, .cons r t => .cons r (DRs.take n t)
theorem DRs.drop : ∀ {xs : List V} {ds : List D} (n : Nat), DRs K H xs ds → DRs K H (xs.drop n) (ds.drop n)
  | _, _, 0, r => r
  | _, _, _ + 1, .nil => .nil
  | _, _, n + 1, .cons _ t => DRs.drop n t
theorem DRs.reverse : ∀ {xs : List V} {ds : List D}, DRs K H xs ds → DRs K H xs.reverse ds.reverse
  | _, _, .nil => .nil
  | _, _, .cons r t => by
    rw [List.reverse_cons, List.reverse_cons]
    exact (DRs.reverse t).append (.cons r .nil)
theorem DRs.eraseIdx : ∀ {xs : List V} {ds : List D} (i : Nat), DRs K H xs ds → DRs K H (xs.eraseIdx i) (ds.eraseIdx i)
  | _, _, _, .nil => .nil
  | _, _, 0, .cons _ t => t
  | _, _, i + 1, .cons q t => .cons q (DRs.eraseIdx i t)
theorem DRs.dropLast {xs : List V} {ds : List D} (h : DRs K H xs ds) : DRs K H xs.dropLast ds.dropLast := by
  rw [List.dropLast_eq_take, List.dropLast_eq_take, h.length]
  exact h.take _
theorem DRs.ints : ∀ {ns : List Int}, DRs K H (ns.map V.int) (ns.map D.int)
  | [] => .nil
  | n :: ns => .cons (.int n) DRs.ints
theorem DRs.strs : ∀ {ns : List Tx}, DRs K H (ns.map fun l => V.str (st l)) (ns.map D.str)
  | [] => .nil
  | n :: ns => .cons (.str n) DRs.strs
theorem DR.int_of {v : V} {i : Int} (h : DR K H v (.int i)) : v = .int i := by cases h; rfl
theorem DR.str_of {v : V} {l : Tx} (h : DR K H v (.str l)) : v = .str (st l) := by cases h; rfl
theorem DR.bl_of {v : V} {b : Bool} (h : DR K H v (.bl b)) : v = .bl b := by cases h; rfl
theorem DR.non_of {v : V} (h : DR K H v .non) : v = .non := by cases h; rfl
theorem DR.scr_of {v : V} {ns : List Int} (h : DR K H v (.scr ns)) : ∃ a, v = .ref a ∧ SqL K H a (ns.map V.int) := by cases h with | scr a => exact ⟨_, rfl, a⟩
theorem DR.lst_of {v : V} {ds : List D} (h : DR K H v (.lst ds)) : ∃ a vs, v = .ref a ∧ H a = some (.lst vs) ∧ DRs K H vs ds := by cases h with | lst a b => exact ⟨_, _, rfl, a, b⟩
theorem DR.tup_of {v : V} {ds : List D} (h : DR K H v (.tup ds)) : ∃ a vs, v = .ref a ∧ H a = some (.tup vs) ∧ DRs K H vs ds := by cases h with | tup a b => exact ⟨_, _, rfl, a, b⟩
theorem DR.dic_of {v : V} {ds : List (Kd × D)} (h : DR K H v (.dic ds)) : ∃ a vs, v = .ref a ∧ Rd H a (.dK vs) ∧ DRk K H vs ds := by cases h with | dic a b => exact ⟨_, _, rfl, a, b⟩
theorem DR.dit_of {v : V} {ds : List (List Kd × D)} (h : DR K H v (.dit ds)) : ∃ a vs, v = .ref a ∧ Rd H a (.dT vs) ∧ DRt K H vs ds := by cases h with | dit a b => exact ⟨_, _, rfl, a, b⟩
theorem DRs.ints_of : ∀ {vs : List V} {ns : List Int}, DRs K H vs (ns.map D.int) → vs = ns.map V.int
  | _, [], h => by cases h; rfl
  | _, n :: ns, h => by
    cases h with
    | cons a b => rw [a.int_of, DRs.ints_of b]; rfl
theorem DRs.strs_of : ∀ {vs : List V} {ns : List Tx}, DRs K H vs (ns.map D.str) → vs = (ns.map st).map V.str
  | _, [], h => by cases h; rfl
  | _, n :: ns, h => by
    cases h with
    | cons a b => rw [a.str_of, DRs.strs_of b]; rfl
theorem DRk.length : ∀ {vs : List (Key × V)} {ds : List (Kd × D)}, DRk K H vs ds → vs.length = ds.length
  | _, _, .nil => rfl
  | _, _, .cons _ t => by simp [DRk.length t]
theorem DRt.length : ∀ {vs : List (List Key × V)} {ds : List (List Kd × D)}, DRt K H vs ds → vs.length = ds.length
  | _, _, .nil => rfl
  | _, _, .cons _ t => by simp [DRt.length t]
end

/-! ### owned objects -/
/-- a resource of its own kind: what it asks of the places it owns -/
structure RP where
  ok : PySem.W.Frag → (Addr → Prop) → Hp → Addr → Prop
  loc : ∀ K f H H' a, (∀ b, f b → H' b = H b) → ok K f H a → ok K f H' a
/-- lists and tuples that own what they hold -/
inductive N where
  | d (x : D) | lst (xs : List N) | tup (xs : List N)
mutual
def N.toD : N → D
  | .d x => x
  | .lst xs => .lst (nds xs)
  | .tup xs => .tup (nds xs)
def nds : List N → List D
  | [] => []
  | x :: r => N.toD x :: nds r
end
mutual
/-- a value bears it; the places that it owns -/
inductive NR (K : PySem.W.Frag) (S H : Hp) : V → N → List Addr → Prop
  | d {v : V} {x : D} : DR K S v x → NR K S H v (.d x) []
  | lst {a : Addr} {vs : List V} {xs : List N} {fp : List Addr} : H a = some (.lst vs) → NRs K S H vs xs fp → NR K S H (.ref a) (.lst xs) (a :: fp)
  | tup {a : Addr} {vs : List V} {xs : List N} {fp : List Addr} : H a = some (.tup vs) → NRs K S H vs xs fp → NR K S H (.ref a) (.tup xs) (a :: fp)
inductive NRs (K : PySem.W.Frag) (S H : Hp) : List V → List N → List Addr → Prop
  | nil : NRs K S H [] [] []
  | cons {v : V} {vs : List V} {x : N} {xs : List N} {f1 f2 : List Addr} : NR K S H v x f1 → NRs K S H vs xs f2 → NRs K S H (v :: vs) (x :: xs) (f1 ++ f2)
end
section
variable {K : PySem.W.Frag} {S S' H H' : Hp}
mutual
theorem NR.move (e : Le S S') : ∀ {v : V} {x : N} {fp : List Addr}, NR K S H v x fp → (∀ b ∈ fp, H' b = H b) → NR K S' H' v x fp
  | _, _, _, .d h, _ => .d (h.mono e)
  | _, _, _, .lst h hs, k => .lst ((k _ (by simp)).trans h) (NRs.move e hs fun b hb => k b (by simp [hb]))
  | _, _, _, .tup h hs, k => .tup ((k _ (by simp)).trans h) (NRs.move e hs fun b hb => k b (by simp [hb]))
theorem NRs.move (e : Le S S') : ∀ {vs : List V} {xs : List N} {fp : List Addr}, NRs K S H vs xs fp → (∀ b ∈ fp, H' b = H b) → NRs K S' H' vs xs fp
  | _, _, _, .nil, _ => .nil
  | _, _, _, .cons h hs, k => .cons (NR.move e h fun b hb => k b (by simp [hb])) (NRs.move e hs fun b hb => k b (by simp [hb]))
end
mutual
/-- .. as data, where what it owns stands still -/
theorem NR.dr (e : Le S S') : ∀ {v : V} {x : N} {fp : List Addr}, NR K S H v x fp → (∀ b ∈ fp, S' b = H b) → DR K S' v x.toD
  | _, _, _, .d h, _ => h.mono e
  | _, _, _, .lst h hs, k => .lst ((k _ (by simp)).trans h) (NRs.dr e hs fun b hb => k b (by simp [hb]))
  | _, _, _, .tup h hs, k => .tup ((k _ (by simp)).trans h) (NRs.dr e hs fun b hb => k b (by simp [hb]))
theorem NRs.dr (e : Le S S') : ∀ {vs : List V} {xs : List N} {fp : List Addr}, NRs K S H vs xs fp → (∀ b ∈ fp, S' b = H b) → DRs K S' vs (nds xs)
  | _, _, _, .nil, _ => .nil
  | _, _, _, .cons h hs, k => .cons (NR.dr e h fun b hb => k b (by simp [hb])) (NRs.dr e hs fun b hb => k b (by simp [hb]))
end
mutual
theorem NR.there : ∀ {v : V} {x : N} {fp : List Addr}, NR K S H v x fp → ∀ b ∈ fp, ∃ u, H b = some u ∧ isD u = false
  | _, _, _, .d h, b, hb => by simp at hb
  | _, _, _, .lst h hs, b, hb => by
    rcases List.mem_cons.mp hb with rfl | hb
    · exact ⟨_, h, rfl⟩
    · exact NRs.there hs b hb
  | _, _, _, .tup h hs, b, hb => by
    rcases List.mem_cons.mp hb with rfl | hb
    · exact ⟨_, h, rfl⟩
    · exact NRs.there hs b hb
theorem NRs.there : ∀ {vs : List V} {xs : List N} {fp : List Addr}, NRs K S H vs xs fp → ∀ b ∈ fp, ∃ u, H b = some u ∧ isD u = false
  | _, _, _, .nil, b, hb => by simp at hb
  | _, _, _, .cons h hs, b, hb => by
    rcases List.mem_append.mp hb with hb | hb
    · exact NR.there h b hb
    · exact NRs.there hs b hb
end
end
inductive O where
  | lst (xs : List D) | dic (kvs : List (Kd × D)) | dit (kvs : List (List Kd × D)) | res (r : RP) | nst (x : N)
def O.toD : O → Option D
  | .lst xs => some (.lst xs)
  | .dic kvs => some (.dic kvs)
  | .dit kvs => some (.dit kvs)
  | .res _ => none
  | .nst _ => none
def OOk (K : PySem.W.Frag) (Hs : Hp) (f : Addr → Prop) (H : Hp) (a : Addr) : O → Prop
  | .lst xs => f a ∧ ∃ vs, H a = some (.lst vs) ∧ DRs K Hs vs xs
  | .dic kvs => f a ∧ ∃ vs, H a = some (.dK vs) ∧ DRk K Hs vs kvs
  | .dit kvs => f a ∧ ∃ vs, H a = some (.dT vs) ∧ DRt K Hs vs kvs
  | .res r => r.ok K f H a
  | .nst x => ∃ fp, a ∈ fp ∧ fp.Nodup ∧ (∀ b ∈ fp, f b) ∧ NR K Hs H (.ref a) x fp
theorem OOk.move {K : PySem.W.Frag} {Hs Hs' : Hp} {f : Addr → Prop} {H H' : Hp} {a : Addr} {o : O} (h : OOk K Hs f H a o) (e : Le Hs Hs') (k : ∀ b, f b → H' b = H b) : OOk K Hs' f H' a o := by
  cases o with
  | lst xs =>
    obtain ⟨h1, vs, h2, h3⟩ := h
    exact ⟨h1, vs, (k a h1).trans h2, h3.mono e⟩
  | dic xs =>
    obtain ⟨h1, vs, h2, h3⟩ := h
    exact ⟨h1, vs, (k a h1).trans h2, h3.mono e⟩
  | dit xs =>
    obtain ⟨h1, vs, h2, h3⟩ := h
    exact ⟨h1, vs, (k a h1).trans h2, h3.mono e⟩
  | res r => exact r.loc K f H H' a k h
  | nst x =>
    obtain ⟨fp, h1, h2, h3, h4⟩ := h
    exact ⟨fp, h1, h2, h3, h4.move e fun b hb => k b (h3 b hb)⟩
theorem OOk.iff {K : PySem.W.Frag} {Hs : Hp} {f f' : Addr → Prop} {H : Hp} {a : Addr} {o : O} (h : OOk K Hs f H a o) (k : ∀ b, f b ↔ f' b) : OOk K Hs f' H a o := by
  have e : f = f' := funext fun b => propext (k b)
  rw [← e]
  exact h
end PD

/-! PD, second part: the abstract state and the heap. -/
namespace PD
open PySem L2

structure Bas where
  H : Hp
  D : Addr → Prop
  S : Hp
  t : Nat → Addr
  n : Nat
abbrev Lb := Option (Option Nat)
/-- the heap: S is stable data, r tells who owns a place (some none: the one result at hand), t where a named object stands -/
structure HR (K : PySem.W.Frag) (B : Bas) (t : Nat → Addr) (S : Hp) (r : Addr → Lb) (M : List (Option O)) (H : Hp) : Prop where
  le : Le S H
  sep : ∀ a l, r a = some l → S a = none ∧ H a ≠ none
  lab : ∀ a n, r a = some (some n) → n < M.length
  obj : ∀ n o, M[n]? = some (some o) → OOk K S (fun a => r a = some (some n)) H (t n) o
  keep : ∀ a o, B.H a = some o → ¬ B.D a → H a = some o ∨ (isD o = true ∧ B.S a = some o ∧ ∃ od, H a = some (.frz od o))
  own : ∀ a l, r a = some l → B.D a ∨ B.H a = none
  stb : ∀ a, S a ≠ none → B.S a ≠ none ∨ B.H a = none ∨ B.D a
  bas : ∀ a o, B.S a = some o → S a = some o
  th : ∀ n, n < B.n → t n = B.t n
  nl : B.n ≤ M.length

inductive AV where
  | un | d (x : D) | p (n : Nat)
inductive R where
  | d (x : D) | o (x : O) | p (n : Nat)
structure Abs where
  env : List AV
  M : List (Option O)
def AVok (K : PySem.W.Frag) (S : Hp) (t : Nat → Addr) (m : Nat) : AV → Option (Option V) → Prop
  | .un, _ => True
  | .d x, w => ∃ v, w = some (some v) ∧ DR K S v x
  | .p n, w => w = some (some (.ref (t n))) ∧ n < m
structure SR (K : PySem.W.Frag) (S : Hp) (t : Nat → Addr) (m : Nat) (env : List AV) (σ : St) : Prop where
  len : env.length = σ.length
  ok : ∀ (i : Nat) (av : AV), env[i]? = some av → AVok K S t m av (σ[i]?)
def Rok (K : PySem.W.Frag) (S : Hp) (r : Addr → Lb) (t : Nat → Addr) (m : Nat) (H : Hp) : R → V → Prop
  | .d x, v => DR K S v x
  | .p n, v => v = .ref (t n) ∧ n < m
  | .o x, v => ∃ a, v = .ref a ∧ OOk K S (fun b => r b = some none) H a x

section
variable {K : PySem.W.Frag} {B : Bas} {t : Nat → Addr} {S : Hp} {r : Addr → Lb} {M : List (Option O)} {H : Hp}
theorem HR.of_none (h : HR K B t S r M H) {a : Addr} (e : H a = none) : S a = none := by
  cases q : S a with
  | none => rfl
  | some u =>
    rcases h.le a u q with z | ⟨_, _, z⟩
    · rw [e] at z; cases z
    · rw [e] at z; cases z
theorem HR.fresh (h : HR K B t S r M H) {a : Addr} (e : H a = none) : B.D a ∨ B.H a = none := by
  by_cases hd : B.D a
  · exact .inl hd
  · refine .inr ?_
    cases q : B.H a with
    | none => rfl
    | some o =>
      rcases h.keep a o q hd with z | ⟨_, _, _, z⟩
      · rw [e] at z; cases z
      · rw [e] at z; cases z
def dropT (r : Addr → Lb) : Addr → Lb := fun a => if r a = some none then none else r a
theorem dropT_nm {r : Addr → Lb} {a : Addr} {n : Nat} : dropT r a = some (some n) ↔ r a = some (some n) := by
  unfold dropT
  split
  · rename_i h; rw [h]; simp
  · exact Iff.rfl
theorem dropT_some {r : Addr → Lb} {a : Addr} {l : Option Nat} (h : dropT r a = some l) : r a = some l := by
  unfold dropT at h
  split at h
  · cases h
  · exact h
theorem HR.drop (h : HR K B t S r M H) : HR K B t S (dropT r) M H where
  le := h.le
  sep := fun a l e => h.sep a l (dropT_some e)
  lab := fun a n e => h.lab a n (dropT_some e)
  obj := fun n o e => (h.obj n o e).iff fun b => dropT_nm.symm
  keep := h.keep
  own := fun a l e => h.own a l (dropT_some e)
  stb := h.stb
  bas := h.bas
  th := h.th
  nl := h.nl
/-- a new object at hand -/
def tmpT (r : Addr → Lb) (p : Addr) : Addr → Lb := fun a => if a = p then some none else dropT r a
theorem HR.tmp (h : HR K B t S r M H) {p : Addr} (hp : H p = none) (u : HO) : HR K B t S (tmpT r p) M (upd H p u) where
  le := fun a w e => by
    have ne : a ≠ p := fun q => by rw [q, h.of_none hp] at e; cases e
    rw [upd_ne ne]
    exact h.le a w e
  sep := fun a l e => by
    unfold tmpT at e
    split at e
    · rename_i q
      rw [q]
      exact ⟨h.of_none hp, by rw [upd_same]; simp⟩
    · rename_i ne
      have := h.sep a l (dropT_some e)
      rw [upd_ne ne]
      exact this
  lab := fun a n e => by
    unfold tmpT at e
    split at e
    · cases e
    · exact h.lab a n (dropT_some e)
  obj := fun n o e => by
    have np : ∀ b, r b = some (some n) → b ≠ p := fun b hb q => (h.sep b _ hb).2 (by rw [q]; exact hp)
    refine ((h.obj n o e).move (Le.refl S) fun b hb => upd_ne (np b hb)).iff fun b => ?_
    unfold tmpT
    split
    · rename_i q
      constructor
      · intro hb; exact absurd q (np b hb)
      · intro z; cases z
    · exact dropT_nm.symm
  keep := fun a o e nd => by
    have ne : a ≠ p := fun q => by
      subst q
      rcases h.keep a o e nd with z | ⟨_, _, _, z⟩
      · rw [hp] at z; cases z
      · rw [hp] at z; cases z
    rw [upd_ne ne]
    exact h.keep a o e nd
  own := fun a l e => by
    unfold tmpT at e
    split at e
    · rename_i q
      rw [q]
      exact h.fresh hp
    · exact h.own a l (dropT_some e)
  stb := h.stb
  bas := h.bas
  th := h.th
  nl := h.nl
theorem tmpT_self {r : Addr → Lb} {p : Addr} : tmpT r p p = some none := by unfold tmpT; rw [if_pos rfl]
/-- a new object that never changes -/
theorem HR.stable (h : HR K B t S r M H) {p : Addr} (hp : H p = none) (u : HO) : HR K B t (upd S p u) r M (upd H p u) where
  le := fun a w e => by
    by_cases q : a = p
    · subst q
      rw [upd_same] at e ⊢
      exact .inl e
    · rw [upd_ne q] at e ⊢
      exact h.le a w e
  sep := fun a l e => by
    have ne : a ≠ p := fun q => (h.sep a l e).2 (by rw [q]; exact hp)
    rw [upd_ne ne, upd_ne ne]
    exact h.sep a l e
  lab := h.lab
  obj := fun n o e => by
    have np : ∀ b, r b = some (some n) → b ≠ p := fun b hb q => (h.sep b _ hb).2 (by rw [q]; exact hp)
    refine (h.obj n o e).move (fun a w z => .inl ?_) fun b hb => upd_ne (np b hb)
    have ne : a ≠ p := fun q => by rw [q, h.of_none hp] at z; cases z
    rw [upd_ne ne]
    exact z
  keep := fun a o e nd => by
    have ne : a ≠ p := fun q => by
      subst q
      rcases h.keep a o e nd with z | ⟨_, _, _, z⟩
      · rw [hp] at z; cases z
      · rw [hp] at z; cases z
    rw [upd_ne ne]
    exact h.keep a o e nd
  own := h.own
  stb := fun a e => by
    by_cases q : a = p
    · subst q
      rcases h.fresh hp with z | z
      · exact .inr (.inr z)
      · exact .inr (.inl z)
    · rw [upd_ne q] at e
      exact h.stb a e
  bas := fun a o e => by
    have z := h.bas a o e
    have ne : a ≠ p := fun q => by rw [q, h.of_none hp] at z; cases z
    rw [upd_ne ne]
    exact z
  th := h.th
  nl := h.nl
theorem Le.new {S H : Hp} {p : Addr} {u : HO} (e : Le S H) (hp : H p = none) : Le S (upd S p u) := fun a w z => by
  have ne : a ≠ p := fun q => by
    rw [q] at z
    rcases e p w z with y | ⟨_, _, y⟩
    · rw [hp] at y; cases y
    · rw [hp] at y; cases y
  rw [upd_ne ne]
  exact .inl z
/-- the result at hand gets the next name -/
def nameT (r : Addr → Lb) (m : Nat) : Addr → Lb := fun a => if r a = some none then some (some m) else r a
def nameA (t : Nat → Addr) (m : Nat) (a : Addr) : Nat → Addr := fun n => if n = m then a else t n
theorem HR.name (h : HR K B t S r M H) {a : Addr} {o : O} (ok : OOk K S (fun b => r b = some none) H a o) : HR K B (nameA t M.length a) S (nameT r M.length) (M ++ [some o]) H where
  le := h.le
  sep := fun b l e => by
    unfold nameT at e
    split at e
    · rename_i q; exact h.sep b _ q
    · exact h.sep b l e
  lab := fun b n e => by
    rw [List.length_append, List.length_singleton]
    unfold nameT at e
    split at e
    · cases e; omega
    · have := h.lab b n e; omega
  obj := fun n o' e => by
    by_cases q : n = M.length
    · subst q
      rw [List.getElem?_append_right (Nat.le_refl _), Nat.sub_self] at e
      have e : some o = some o' := by simpa using e
      cases e
      unfold nameA
      rw [if_pos rfl]
      refine ok.iff fun b => ?_
      unfold nameT
      split
      · rename_i z; simp [z]
      · rename_i z
        constructor
        · intro y; exact absurd y z
        · intro y; exact absurd (h.lab b _ y) (Nat.lt_irrefl _)
    · have hn : n < M.length := by
        have := (List.getElem?_eq_some_iff.mp e).1
        rw [List.length_append, List.length_singleton] at this
        omega
      rw [List.getElem?_append_left hn] at e
      unfold nameA
      rw [if_neg q]
      refine (h.obj n o' e).iff fun b => ?_
      unfold nameT
      split
      · rename_i z
        rw [z]
        constructor
        · intro y; cases y
        · intro y
          have := Option.some.inj (Option.some.inj y)
          exact absurd this.symm q
      · exact Iff.rfl
  keep := h.keep
  own := fun b l e => by
    unfold nameT at e
    split at e
    · rename_i q; exact h.own b _ q
    · exact h.own b l e
  stb := h.stb
  bas := h.bas
  th := fun n hn => by
    unfold nameA
    rw [if_neg (by have := h.nl; omega)]
    exact h.th n hn
  nl := by
    rw [List.length_append]
    have := h.nl
    omega
/-- what an owned list or dict holds may be taken as data from now on -/
def hoOf (a : Addr) (H : Hp) : HO := (H a).getD (.lst [])
theorem OOk.data {f : Addr → Prop} {a : Addr} {o : O} {x : D} (ok : OOk K S f H a o) (e : o.toD = some x) (S' : Hp) (hl : Le S S') (hs : S' a = H a) : f a ∧ DR K S' (.ref a) x ∧ H a ≠ none := by
  cases o with
  | lst xs =>
    obtain ⟨h1, vs, h2, h3⟩ := ok
    cases e
    exact ⟨h1, .lst (hs.trans h2) (h3.mono hl), by rw [h2]; simp⟩
  | dic xs =>
    obtain ⟨h1, vs, h2, h3⟩ := ok
    cases e
    exact ⟨h1, .dic (Rd.of (hs.trans h2)) (h3.mono hl), by rw [h2]; simp⟩
  | dit xs =>
    obtain ⟨h1, vs, h2, h3⟩ := ok
    cases e
    exact ⟨h1, .dit (Rd.of (hs.trans h2)) (h3.mono hl), by rw [h2]; simp⟩
  | res _ => cases e
  | nst _ => cases e
/-- a piece labelled l becomes stable at a -/
theorem HR.freeze (h : HR K B t S r M H) {l : Option Nat} {a : Addr} {u : HO} (ra : r a = some l) (hu : H a = some u) (M' : List (Option O)) (hM : M'.length = M.length)
    (hm : ∀ n o, M'[n]? = some (some o) → M[n]? = some (some o) ∧ l ≠ some n) : HR K B t (upd S a u) (fun b => if r b = some l then none else r b) M' H where
  le := fun b w e => by
    by_cases q : b = a
    · subst q
      rw [upd_same] at e
      exact .inl (hu.trans e)
    · rw [upd_ne q] at e
      exact h.le b w e
  sep := fun b k e => by
    split at e
    · cases e
    · rename_i ne
      have q : b ≠ a := fun q => by rw [q] at ne; exact ne ra
      rw [upd_ne q]
      exact h.sep b k e
  lab := fun b n e => by
    split at e
    · cases e
    · rw [hM]; exact h.lab b n e
  obj := fun n o e => by
    obtain ⟨e1, e2⟩ := hm n o e
    refine ((h.obj n o e1).move (fun b w z => .inl ?_) (fun _ _ => rfl)).iff fun b => ?_
    · have q : b ≠ a := fun q => by rw [q, (h.sep a _ ra).1] at z; cases z
      rw [upd_ne q]
      exact z
    · constructor
      · intro y
        rw [if_neg (by rw [y]; intro z; exact e2 (Option.some.inj z).symm)]
        exact y
      · intro y
        split at y
        · cases y
        · exact y
  keep := h.keep
  own := fun b k e => by
    split at e
    · cases e
    · exact h.own b k e
  stb := fun b e => by
    by_cases q : b = a
    · subst q
      rcases h.own b _ ra with z | z
      · exact .inr (.inr z)
      · exact .inr (.inl z)
    · rw [upd_ne q] at e
      exact h.stb b e
  bas := fun b o e => by
    have z := h.bas b o e
    have q : b ≠ a := fun q => by rw [q, (h.sep a _ ra).1] at z; cases z
    rw [upd_ne q]
    exact z
  th := h.th
  nl := by rw [hM]; exact h.nl
/-- .. pieces labelled l become stable at fp -/
theorem HR.freezeN (h : HR K B t S r M H) {l : Option Nat} {fp : List Addr} (ra : ∀ a ∈ fp, r a = some l) (M' : List (Option O)) (hM : M'.length = M.length)
    (hm : ∀ n o, M'[n]? = some (some o) → M[n]? = some (some o) ∧ l ≠ some n) : HR K B t (fun b => if b ∈ fp then H b else S b) (fun b => if r b = some l then none else r b) M' H where
  le := fun b w e => by
    dsimp only at e
    split at e
    · exact .inl e
    · exact h.le b w e
  sep := fun b k e => by
    split at e
    · cases e
    · rename_i ne
      have q : b ∉ fp := fun q => ne (ra b q)
      rw [if_neg q]
      exact h.sep b k e
  lab := fun b n e => by
    split at e
    · cases e
    · rw [hM]; exact h.lab b n e
  obj := fun n o e => by
    obtain ⟨e1, e2⟩ := hm n o e
    refine ((h.obj n o e1).move (fun b w z => .inl ?_) (fun _ _ => rfl)).iff fun b => ?_
    · have q : b ∉ fp := fun q => by rw [(h.sep b _ (ra b q)).1] at z; cases z
      rw [if_neg q]
      exact z
    · constructor
      · intro y
        rw [if_neg (by rw [y]; intro z; exact e2 (Option.some.inj z).symm)]
        exact y
      · intro y
        split at y
        · cases y
        · exact y
  keep := h.keep
  own := fun b k e => by
    split at e
    · cases e
    · exact h.own b k e
  stb := fun b e => by
    by_cases q : b ∈ fp
    · rcases h.own b _ (ra b q) with z | z
      · exact .inr (.inr z)
      · exact .inr (.inl z)
    · rw [if_neg q] at e
      exact h.stb b e
  bas := fun b o e => by
    have z := h.bas b o e
    have q : b ∉ fp := fun q => by rw [(h.sep b _ (ra b q)).1] at z; cases z
    rw [if_neg q]
    exact z
  th := h.th
  nl := by rw [hM]; exact h.nl
theorem HR.ext_fp (h : HR K B t S r M H) {l : Option Nat} {fp : List Addr} (ra : ∀ a ∈ fp, r a = some l) : ∀ b o, S b = some o → (if b ∈ fp then H b else S b) = some o := fun b o z => by
  have q : b ∉ fp := fun q => by rw [(h.sep b _ (ra b q)).1] at z; cases z
  rw [if_neg q]
  exact z
theorem HR.le_up (h : HR K B t S r M H) {l : Option Nat} {a : Addr} {u : HO} (ra : r a = some l) : Le S (upd S a u) := fun b w z => .inl (by
  have q : b ≠ a := fun q => by rw [q, (h.sep a _ ra).1] at z; cases z
  rw [upd_ne q]
  exact z)
/-- a named object is changed -/
theorem HR.mut (h : HR K B t S r M H) {n : Nat} {o' : O} {H' : Hp} (hn : n < M.length) (same : ∀ b, r b ≠ some (some n) → H' b = H b) (there : ∀ b, r b = some (some n) → H' b ≠ none)
    (ok : OOk K S (fun b => r b = some (some n)) H' (t n) o') : HR K B t S r (M.set n (some o')) H' where
  le := fun b w e => by
    rw [same b fun q => by rw [(h.sep b _ q).1] at e; cases e]
    exact h.le b w e
  sep := fun b l e => by
    refine ⟨(h.sep b l e).1, ?_⟩
    by_cases q : r b = some (some n)
    · exact there b q
    · rw [same b q]; exact (h.sep b l e).2
  lab := fun b k e => by rw [List.length_set]; exact h.lab b k e
  obj := fun k o e => by
    by_cases q : k = n
    · subst q
      rw [List.getElem?_set_self hn] at e
      cases e
      exact ok
    · rw [List.getElem?_set_ne (Ne.symm q)] at e
      refine (h.obj k o e).move (Le.refl S) fun b hb => same b ?_
      rw [hb]
      intro z
      exact q (Option.some.inj (Option.some.inj z))
  keep := fun b o e nd => by
    rw [same b fun q => by
      rcases h.own b _ q with z | z
      · exact nd z
      · rw [z] at e; cases e]
    exact h.keep b o e nd
  own := h.own
  stb := h.stb
  bas := h.bas
  th := h.th
  nl := by rw [List.length_set]; exact h.nl

/-! ### a new base, and back -/
def baseOf (t : Nat → Addr) (S : Hp) (r : Addr → Lb) (m : Nat) (H : Hp) : Bas := ⟨H, fun a => ∃ n, r a = some (some n), S, t, m⟩
theorem HR.rebase (h : HR K B t S r M H) : HR K (baseOf t S r M.length H) t S (dropT r) M H where
  le := h.le
  sep := h.drop.sep
  lab := h.drop.lab
  obj := h.drop.obj
  keep := fun a o e _ => .inl e
  own := fun a l e => by
    cases l with
    | none =>
      unfold dropT at e
      split at e
      · cases e
      · rename_i z; exact absurd e z
    | some n => exact .inl ⟨n, dropT_some e⟩
  stb := fun a e => .inl e
  bas := fun a o e => e
  th := fun _ _ => rfl
  nl := Nat.le_refl _
theorem HR.back {t' : Nat → Addr} {S' : Hp} {r' : Addr → Lb} {M' : List (Option O)} {H' : Hp} (h : HR K B t S r M H) (h' : HR K (baseOf t S r M.length H) t' S' r' M' H') : HR K B t' S' r' M' H' where
  le := h'.le
  sep := h'.sep
  lab := h'.lab
  obj := h'.obj
  keep := fun a o e nd => by
    have no : ¬ ∃ n, r a = some (some n) := fun ⟨n, q⟩ => by
      rcases h.own a _ q with z | z
      · exact nd z
      · rw [z] at e; cases e
    rcases h.keep a o e nd with z | ⟨z1, z2, od, z3⟩
    · rcases h'.keep a o z no with y | ⟨y1, y2, y3⟩
      · exact .inl y
      · refine .inr ⟨y1, ?_, y3⟩
        have y2 : S a = some o := y2
        rcases h.stb a (by rw [y2]; simp) with w | w | w
        · cases q : B.S a with
          | none => exact absurd q w
          | some o' =>
            have := h.bas a o' q
            rw [y2] at this
            exact this.symm
        · rw [w] at e; cases e
        · exact absurd w nd
    · rcases h'.keep a _ z3 no with y | ⟨y1, _⟩
      · exact .inr ⟨z1, z2, od, y⟩
      · cases y1
  own := fun a l e => by
    rcases h'.own a l e with ⟨n, z⟩ | z
    · exact h.own a _ z
    · exact h.fresh z
  stb := fun a e => by
    rcases h'.stb a e with z | z | ⟨n, z⟩
    · exact h.stb a z
    · rcases h.fresh z with y | y
      · exact .inr (.inr y)
      · exact .inr (.inl y)
    · rcases h.own a _ z with y | y
      · exact .inr (.inr y)
      · exact .inr (.inl y)
  bas := fun a o e => h'.bas a o (h.bas a o e)
  th := fun n hn => (h'.th n (Nat.lt_of_lt_of_le hn h.nl)).trans (h.th n hn)
  nl := Nat.le_trans h.nl h'.nl
/-- how a later state stands to an earlier one -/
structure Ext (t : Nat → Addr) (S : Hp) (m : Nat) (t' : Nat → Addr) (S' : Hp) (m' : Nat) : Prop where
  st : ∀ a o, S a = some o → S' a = some o
  th : ∀ n, n < m → t' n = t n
  nl : m ≤ m'
theorem Ext.refl {m : Nat} : Ext t S m t S m := ⟨fun _ _ h => h, fun _ _ => rfl, Nat.le_refl _⟩
theorem Ext.trans {t' t'' : Nat → Addr} {S' S'' : Hp} {m m' m'' : Nat} (a : Ext t S m t' S' m') (b : Ext t' S' m' t'' S'' m'') : Ext t S m t'' S'' m'' :=
  ⟨fun c o h => b.st c o (a.st c o h), fun n hn => (b.th n (Nat.lt_of_lt_of_le hn a.nl)).trans (a.th n hn), Nat.le_trans a.nl b.nl⟩
theorem Ext.le {t' : Nat → Addr} {S' : Hp} {m m' : Nat} (a : Ext t S m t' S' m') : Le S S' := fun c u h => .inl (a.st c u h)
theorem HR.ext {t' : Nat → Addr} {S' : Hp} {r' : Addr → Lb} {m : Nat} {M' : List (Option O)} {H' : Hp} (h' : HR K (baseOf t S r m H) t' S' r' M' H') : Ext t S m t' S' M'.length := ⟨h'.bas, h'.th, h'.nl⟩
theorem SR.ext {t' : Nat → Addr} {S' : Hp} {m m' : Nat} {env : List AV} {σ : St} (s : SR K S t m env σ) (e : Ext t S m t' S' m') : SR K S' t' m' env σ where
  len := s.len
  ok := fun i av h => by
    have q := s.ok i av h
    cases av with
    | un => trivial
    | d x =>
      obtain ⟨v, h1, h2⟩ := q
      exact ⟨v, h1, h2.mono e.le⟩
    | p n =>
      obtain ⟨h1, h2⟩ := q
      exact ⟨by rw [e.th n h2]; exact h1, Nat.lt_of_lt_of_le h2 e.nl⟩
theorem SR.set {m : Nat} {env : List AV} {σ : St} {av : AV} {v : V} (s : SR K S t m env σ) (i : Nat) (h : AVok K S t m av (some (some v))) : SR K S t m (env.set i av) (σ.set i (some v)) where
  len := by rw [List.length_set, List.length_set]; exact s.len
  ok := fun j w e => by
    by_cases q : i = j
    · subst q
      have hi : i < env.length := by
        have := (List.getElem?_eq_some_iff.mp e).1
        rwa [List.length_set] at this
      rw [List.getElem?_set_self hi] at e
      cases e
      rw [List.getElem?_set_self (by rw [← s.len]; exact hi)]
      exact h
    · rw [List.getElem?_set_ne q] at e ⊢
      exact s.ok j w e
theorem SR.get {m : Nat} {env : List AV} {σ : St} {i : Nat} {x : D} (s : SR K S t m env σ) (h : env[i]? = some (.d x)) : ∃ v, σ[i]? = some (some v) ∧ DR K S v x := s.ok i _ h
theorem SR.getP {m : Nat} {env : List AV} {σ : St} {i n : Nat} (s : SR K S t m env σ) (h : env[i]? = some (.p n)) : σ[i]? = some (some (.ref (t n))) ∧ n < m := s.ok i _ h
end

/-! ### states and results -/
def Rel (K : PySem.W.Frag) (B : Bas) (A : Abs) (σ : St) (H : Hp) : Prop := ∃ t S r, HR K B t S r A.M H ∧ SR K S t A.M.length A.env σ
def Res (K : PySem.W.Frag) (B : Bas) (A : Abs) (x : R) (v : V) (σ : St) (H : Hp) : Prop := ∃ t S r, HR K B t S r A.M H ∧ SR K S t A.M.length A.env σ ∧ Rok K S r t A.M.length H x v
theorem Res.rel {K : PySem.W.Frag} {B : Bas} {A : Abs} {x : R} {v : V} {σ : St} {H : Hp} (h : Res K B A x v σ H) : Rel K B A σ H := let ⟨t, S, r, a, b, _⟩ := h; ⟨t, S, r, a, b⟩
theorem Rel.res {K : PySem.W.Frag} {B : Bas} {A : Abs} {v : V} {x : D} {σ : St} {H : Hp} (h : Rel K B A σ H) (d : ∀ S, DR K S v x) : Res K B A (.d x) v σ H := let ⟨t, S, r, a, b⟩ := h; ⟨t, S, r, a, b, d S⟩
end PD

/-! PD, third part: judgements and the first rules. -/
namespace PD
open PySem L2

abbrev PX := EN → Abs → Prop
abbrev PTE := Abs → (R → Abs → Prop) → PX → Prop
abbrev PTT := Abs → (Bool → Abs → Prop) → PX → Prop
abbrev PTA := Abs → (List R → Abs → Prop) → PX → Prop
structure PEnds where
  nx : Abs → Prop
  rt : R → Abs → Prop
  bk : Abs → Prop := fun _ => False
  ct : Abs → Prop := fun _ => False
  ex : PX := fun _ _ => False
abbrev PTS := PEnds → Abs → Prop

/-! ### results: frozen, seen -/
def R.fz : R → Option R
  | .d x => some (.d x)
  | .p n => some (.p n)
  | .o (.lst xs) => some (.d (.lst xs))
  | .o (.dic xs) => some (.d (.dic xs))
  | .o (.dit xs) => some (.d (.dit xs))
  | .o (.res _) => none
  | .o (.nst x) => some (.d x.toD)
def view (M : List (Option O)) : R → Option D
  | .d x => some x
  | .p n => match M[n]? with
    | some (some o) => o.toD
    | _ => none
  | .o o => o.toD
/-- the top seen in the heap, what is in it stable -/
def DV (K : PySem.W.Frag) (S H : Hp) (v : V) : D → Prop
  | .non => v = .non
  | .bl b => v = .bl b
  | .int i => v = .int i
  | .str l => v = .str (st l)
  | .lst ds => ∃ a vs, v = .ref a ∧ H a = some (.lst vs) ∧ DRs K S vs ds
  | .scr ns => ∃ a, v = .ref a ∧ SqL K H a (ns.map V.int)
  | .exc e => ∃ a, v = .ref a ∧ H a = some (excHO (ev K e) none a)
  | .tup ds => ∃ a vs, v = .ref a ∧ H a = some (.tup vs) ∧ DRs K S vs ds
  | .dic ds => ∃ a vs, v = .ref a ∧ Rd H a (.dK vs) ∧ DRk K S vs ds
  | .dit ds => ∃ a vs, v = .ref a ∧ Rd H a (.dT vs) ∧ DRt K S vs ds
section
variable {K : PySem.W.Frag} {S H : Hp} {v : V} {x : D}
theorem DR.dv (h : DR K S v x) (e : Le S H) : DV K S H v x := by
  cases h with
  | non => rfl
  | bl b => rfl
  | int i => rfl
  | str l => rfl
  | lst a b => exact ⟨_, _, rfl, e.lst a, b⟩
  | scr a => exact ⟨_, rfl, e.sql a⟩
  | exc a => exact ⟨_, rfl, e.exc a⟩
  | tup a b => exact ⟨_, _, rfl, e.tup a, b⟩
  | dic a b => exact ⟨_, _, rfl, e.rd a, b⟩
  | dit a b => exact ⟨_, _, rfl, e.rd a, b⟩
theorem DV.dr (h : DV K S H v x) (e : Le S H) : DR K H v x := by
  cases x with
  | non => cases h; exact .non
  | bl b => cases h; exact .bl b
  | int i => cases h; exact .int i
  | str l => cases h; exact .str l
  | lst ds => obtain ⟨a, vs, rfl, h1, h2⟩ := h; exact .lst h1 (h2.mono e)
  | scr ds => obtain ⟨a, rfl, h1⟩ := h; exact .scr h1
  | exc ds => obtain ⟨a, rfl, h1⟩ := h; exact .exc h1
  | tup ds => obtain ⟨a, vs, rfl, h1, h2⟩ := h; exact .tup h1 (h2.mono e)
  | dic ds => obtain ⟨a, vs, rfl, h1, h2⟩ := h; exact .dic h1 (h2.mono e)
  | dit ds => obtain ⟨a, vs, rfl, h1, h2⟩ := h; exact .dit h1 (h2.mono e)
theorem OOk.dv {f : Addr → Prop} {a : Addr} {o : O} {x : D} (ok : OOk K S f H a o) (e : o.toD = some x) : DV K S H (.ref a) x := by
  cases o with
  | lst xs =>
    obtain ⟨h1, vs, h2, h3⟩ := ok
    cases e
    exact ⟨a, vs, rfl, h2, h3⟩
  | dic xs =>
    obtain ⟨h1, vs, h2, h3⟩ := ok
    cases e
    exact ⟨a, vs, rfl, Rd.of h2, h3⟩
  | dit xs =>
    obtain ⟨h1, vs, h2, h3⟩ := ok
    cases e
    exact ⟨a, vs, rfl, Rd.of h2, h3⟩
  | res _ => cases e
  | nst _ => cases e
end
/-- the state with what is at hand -/
structure Now (K : PySem.W.Frag) (B : Bas) (t : Nat → Addr) (S : Hp) (r : Addr → Lb) (A : Abs) (σ : St) (H : Hp) : Prop where
  h : HR K B t S r A.M H
  s : SR K S t A.M.length A.env σ
section
variable {K : PySem.W.Frag} {B : Bas} {t : Nat → Addr} {S : Hp} {r : Addr → Lb} {A : Abs} {σ : St} {H : Hp} {v : V} {x : D}
theorem Now.rel (n : Now K B t S r A σ H) : Rel K B A σ H := ⟨t, S, r, n.h, n.s⟩
theorem Now.res {y : R} (n : Now K B t S r A σ H) (k : Rok K S r t A.M.length H y v) : Res K B A y v σ H := ⟨t, S, r, n.h, n.s, k⟩
theorem Now.view {y : R} (n : Now K B t S r A σ H) (k : Rok K S r t A.M.length H y v) (e : view A.M y = some x) : DV K S H v x := by
  cases y with
  | d z => cases e; exact DR.dv k n.h.le
  | p m =>
    obtain ⟨rfl, hm⟩ := k
    have e : (match A.M[m]? with
      | some (some o) => o.toD
      | _ => none) = some x := e
    split at e
    · rename_i o q
      exact (n.h.obj m o q).dv e
    · cases e
  | o z =>
    obtain ⟨a, rfl, k⟩ := k
    exact k.dv e
theorem Now.drop (n : Now K B t S r A σ H) : Now K B t S (dropT r) A σ H := ⟨n.h.drop, n.s⟩
/-- what is at hand becomes data, or was data or a name -/
theorem Now.fz {y y' : R} (n : Now K B t S r A σ H) (k : Rok K S r t A.M.length H y v) (e : y.fz = some y') : ∃ S' r', Now K B t S' r' A σ H ∧ Rok K S' r' t A.M.length H y' v ∧ Ext t S A.M.length t S' A.M.length ∧ (y' = .d x → True) := by
  have go : ∀ (o : O) (z : D) (w : V), Rok K S r t A.M.length H (.o o) w → o.toD = some z → ∃ S' r', Now K B t S' r' A σ H ∧ Rok K S' r' t A.M.length H (.d z) w ∧ Ext t S A.M.length t S' A.M.length := fun o z w k e => by
    obtain ⟨a, rfl, ok⟩ := k
    obtain ⟨u, hu⟩ : ∃ u, H a = some u := by
      cases o with
      | lst xs => obtain ⟨_, vs, h2, _⟩ := ok; exact ⟨_, h2⟩
      | dic xs => obtain ⟨_, vs, h2, _⟩ := ok; exact ⟨_, h2⟩
      | dit xs => obtain ⟨_, vs, h2, _⟩ := ok; exact ⟨_, h2⟩
      | res _ => cases e
      | nst _ => cases e
    have ra : r a = some none := (ok.data e H n.h.le rfl).1
    have le := n.h.le_up (u := u) ra
    have ex : Ext t S A.M.length t (upd S a u) A.M.length := ⟨fun b o q => by
      rcases le b o q with z | ⟨_, _, z⟩
      · exact z
      · have ne : b ≠ a := fun y => by rw [y, (n.h.sep a _ ra).1] at q; cases q
        rw [upd_ne ne, q] at z
        rw [upd_ne ne]
        exact q, fun _ _ => rfl, Nat.le_refl _⟩
    refine ⟨upd S a u, _, ⟨n.h.freeze ra hu A.M rfl fun n o q => ⟨q, fun z => nomatch z⟩, n.s.ext ex⟩, ?_, ex⟩
    exact (ok.data e (upd S a u) le (by rw [upd_same, hu])).2.1
  cases y with
  | d z => cases e; exact ⟨S, r, n, k, Ext.refl, fun _ => trivial⟩
  | p m => cases e; exact ⟨S, r, n, k, Ext.refl, fun _ => trivial⟩
  | o z =>
    cases z with
    | lst xs => cases e; obtain ⟨a, b, c, d, e⟩ := go _ _ v k rfl; exact ⟨a, b, c, d, e, fun _ => trivial⟩
    | dic xs => cases e; obtain ⟨a, b, c, d, e⟩ := go _ _ v k rfl; exact ⟨a, b, c, d, e, fun _ => trivial⟩
    | dit xs => cases e; obtain ⟨a, b, c, d, e⟩ := go _ _ v k rfl; exact ⟨a, b, c, d, e, fun _ => trivial⟩
    | res _ => cases e
    | nst x =>
      cases e
      obtain ⟨a, rfl, fp, h1, h2, h3, h4⟩ := k
      have ex : Ext t S A.M.length t (fun b => if b ∈ fp then H b else S b) A.M.length := ⟨fun b o q => n.h.ext_fp (l := none) h3 b o q, fun _ _ => rfl, Nat.le_refl _⟩
      exact ⟨_, _, ⟨n.h.freezeN (l := none) h3 A.M rfl fun n o q => ⟨q, fun z => nomatch z⟩, n.s.ext ex⟩, h4.dr ex.le (fun b hb => if_pos hb), ex, fun _ => trivial⟩
/-- a result that is data or a name stays what it is -/
theorem Rok.ext {t' : Nat → Addr} {S' H' : Hp} {r' : Addr → Lb} {m m' : Nat} {y : R} (k : Rok K S r t m H y v) (hy : ∀ o, y ≠ .o o) (e : Ext t S m t' S' m') : Rok K S' r' t' m' H' y v := by
  cases y with
  | d z => exact DR.mono e.le k
  | p n => exact ⟨by rw [e.th n k.2]; exact k.1, Nat.lt_of_lt_of_le k.2 e.nl⟩
  | o z => exact absurd rfl (hy z)
theorem fz_no {y y' : R} (e : y.fz = some y') : ∀ o, y' ≠ .o o := by
  intro o q
  subst q
  cases y with
  | d z => cases e
  | p m => cases e
  | o z => cases z <;> cases e
end

/-! ### what may follow an operation -/
structure Kont (K : PySem.W.Frag) (S H : Hp) (P : R → Prop) (Q : V → Hp → Prop) : Prop where
  dat : ∀ v d, P (.d d) → DR K S v d → Q v H
  lst : ∀ p vs ds, H p = none → P (.o (.lst ds)) → DRs K S vs ds → Q (.ref p) (upd H p (.lst vs))
  tup : ∀ p vs ds, H p = none → P (.d (.tup ds)) → DRs K S vs ds → Q (.ref p) (upd H p (.tup vs))
  dic : ∀ p vs ds, H p = none → P (.o (.dic ds)) → DRk K S vs ds → Q (.ref p) (upd H p (.dK vs))
  dit : ∀ p vs ds, H p = none → P (.o (.dit ds)) → DRt K S vs ds → Q (.ref p) (upd H p (.dT vs))
theorem Now.kont {K : PySem.W.Frag} {B : Bas} {t : Nat → Addr} {S : Hp} {r : Addr → Lb} {A : Abs} {σ : St} {H : Hp} {P : R → Prop} {Q : V → Hp → Prop} (n : Now K B t S r A σ H)
    (q : ∀ y v H', P y → Res K B A y v σ H' → Q v H') : Kont K S H P Q where
  dat := fun v d h k => q _ v H h (n.res k)
  lst := fun p vs ds hp h k => q _ _ _ h ⟨t, S, tmpT r p, n.h.tmp hp _, n.s, p, rfl, tmpT_self, vs, upd_same, k⟩
  tup := fun p vs ds hp h k => by
    have ex : Ext t S A.M.length t (upd S p (.tup vs)) A.M.length := ⟨fun b o e => by
      have ne : b ≠ p := fun y => by rw [y, n.h.of_none hp] at e; cases e
      rw [upd_ne ne]
      exact e, fun _ _ => rfl, Nat.le_refl _⟩
    exact q _ _ _ h ⟨t, upd S p (.tup vs), r, n.h.stable hp _, n.s.ext ex, .tup upd_same (k.mono ex.le)⟩
  dic := fun p vs ds hp h k => q _ _ _ h ⟨t, S, tmpT r p, n.h.tmp hp _, n.s, p, rfl, tmpT_self, vs, upd_same, k⟩
  dit := fun p vs ds hp h k => q _ _ _ h ⟨t, S, tmpT r p, n.h.tmp hp _, n.s, p, rfl, tmpT_self, vs, upd_same, k⟩

/-! ### judgements -/
/-- what an expression may not let out -/
def noX : PX := fun _ _ => False
def XQ (K : PySem.W.Frag) (B : Bas) (E : WX) (σ : St) (X : PX) : Prop := ∀ C A H, X C A → Rel K B A σ H → E (ev K C) none σ H
def SimE (K : PySem.W.Frag) (E : WX) (t : TE) (p : PTE) : Prop := ∀ (B : Bas) (σ : St) (H : Hp) (A : Abs) (P : R → Abs → Prop) (X : PX) (Q : VK),
  Rel K B A σ H → p A P X → (∀ y A' v H', P y A' → Res K B A' y v σ H' → Q v H') → XQ K B E σ X → t σ H Q
def SimT (K : PySem.W.Frag) (E : WX) (t : TT) (p : PTT) : Prop := ∀ (B : Bas) (σ : St) (H : Hp) (A : Abs) (P : Bool → Abs → Prop) (X : PX) (Q : Bool → Hp → Prop),
  Rel K B A σ H → p A P X → (∀ b A' H', P b A' → Rel K B A' σ H' → Q b H') → XQ K B E σ X → t σ H Q
inductive RL (K : PySem.W.Frag) (S : Hp) (t : Nat → Addr) (m : Nat) : List R → List V → Prop
  | nil : RL K S t m [] []
  | cons {y : R} {v : V} {ys : List R} {vs : List V} : (∀ o, y ≠ .o o) → (∀ r H, Rok K S r t m H y v) → RL K S t m ys vs → RL K S t m (y :: ys) (v :: vs)
def SimA (K : PySem.W.Frag) (E : WX) (t : TA) (p : PTA) : Prop := ∀ (B : Bas) (σ : St) (H : Hp) (A : Abs) (P : List R → Abs → Prop) (X : PX) (Q : List V → Hp → Prop),
  Rel K B A σ H → p A P X → (∀ ys A' vs H', P ys A' → (∃ t S r, Now K B t S r A' σ H' ∧ RL K S t A'.M.length ys vs) → Q vs H') → XQ K B E σ X → t σ H Q
structure SKont (K : PySem.W.Frag) (B : Bas) (E : WX) (P : PEnds) (D : Ends) : Prop where
  nx : ∀ A σ H, P.nx A → Rel K B A σ H → D.nx σ H
  rt : ∀ y A v σ H, P.rt y A → Res K B A y v σ H → D.rt v H
  bk : ∀ A σ H, P.bk A → Rel K B A σ H → D.bk σ H
  ct : ∀ A σ H, P.ct A → Rel K B A σ H → D.ct σ H
  ex : ∀ σ, XQ K B E σ P.ex
def SimS (K : PySem.W.Frag) (E : WX) (t : TS) (p : PTS) : Prop := ∀ (B : Bas) (σ : St) (H : Hp) (A : Abs) (P : PEnds) (D : Ends), Rel K B A σ H → p P A → SKont K B E P D → t D σ H
structure DE (X : Cx) (E : WX) (e : Expr) (t : TE) (p : PTE) : Prop where
  pe : PE X e t
  sim : SimE X.K E t p
structure DT (X : Cx) (E : WX) (e : Expr) (t : TT) (p : PTT) : Prop where
  pe : PT X e t
  sim : SimT X.K E t p
structure DW (X : Cx) (E : WX) (e : Expr) (t : TT) (p : PTT) : Prop where
  pe : PW X e t
  sim : SimT X.K E t p
structure DA (X : Cx) (E : WX) (e : List Expr) (t : TA) (p : PTA) : Prop where
  pe : PA X e t
  sim : SimA X.K E t p
structure DS (X : Cx) (E : WX) (e : Stmt) (t : TS) (p : PTS) : Prop where
  pe : PS X e t
  sim : SimS X.K E t p
structure DSs (X : Cx) (E : WX) (e : List Stmt) (t : TS) (p : PTS) : Prop where
  pe : PSs X e t
  sim : SimS X.K E t p

theorem XQ.back {K : PySem.W.Frag} {B : Bas} {E : WX} {X : PX} {t : Nat → Addr} {S : Hp} {r : Addr → Lb} {M : List (Option O)} {H : Hp} {σ : St} (x : XQ K B E σ X) (h : HR K B t S r M H) : XQ K (baseOf t S r M.length H) E σ X :=
  fun C A H' q ⟨t', S', r', h', s'⟩ => x C A H' q ⟨t', S', r', h.back h', s'⟩

/-! ### names, constants -/
def pVar (i : Nat) : PTE := fun A P _ => match A.env[i]? with
  | some (.d x) => P (.d x) A
  | some (.p n) => P (.p n) A
  | _ => False
def pC (x : D) : PTE := fun A P _ => P (.d x) A
section
variable {X : Cx} {E : WX}
theorem sim_var {K : PySem.W.Frag} {i : Nat} : SimE K E (tVar i) (pVar i) := fun B σ H A P X Q ⟨t, S, r, h, s⟩ p q _ => by
  unfold pVar at p
  split at p
  · rename_i x e
    obtain ⟨v, h1, h2⟩ := s.get e
    exact ⟨v, h1, q _ A v H p ⟨t, S, r, h, s, h2⟩⟩
  · rename_i n e
    obtain ⟨h1, h2⟩ := s.getP e
    exact ⟨_, h1, q _ A _ H p ⟨t, S, r, h, s, rfl, h2⟩⟩
  · exact p.elim
theorem de_var (i : Nat) {x : Str} {pos : Pos} (hN : X.N[i]? = some x := by rfl) (hv : Vis X.env.scope x := by first | exact Or.inl rfl | exact Or.inr (Or.inl rfl) | exact Or.inr (Or.inr rfl)) (hd : (x == ("__debug__" : Str)) = false := by decide)
    (hcd : (x == ("__classdict__" : Str)) = false := by decide) : DE X E (.Name x pos) (tVar i) (pVar i) := ⟨pe_var hN hv hd hcd, sim_var⟩
theorem sim_c {K : PySem.W.Frag} {v : V} {x : D} (h : ∀ S, DR K S v x) : SimE K E (tC v) (pC x) := fun B σ H A P X Q r p q _ => q _ A v H p (r.res h)
theorem de_int {i : Int} {j pos} : DE X E (.Constant (.int i) j pos) (tC (.int i)) (pC (.int i)) := ⟨pe_int, sim_c fun _ => .int i⟩
theorem de_bl {i : Bool} {j pos} : DE X E (.Constant (.bool i) j pos) (tC (.bl i)) (pC (.bl i)) := ⟨pe_bl, sim_c fun _ => .bl i⟩
theorem de_non {j pos} : DE X E (.Constant .none j pos) (tC .non) (pC .non) := ⟨pe_non, sim_c fun _ => .non⟩
theorem DR.str' {K : PySem.W.Frag} {S : Hp} {x : Str} {l : Tx} (h : x.cps.toList = l) : DR K S (.str x) (.str l) := by
  subst h
  have := DR.str (K := K) (H := S) x.cps.toList
  rw [st_of] at this
  exact this
theorem de_str {x : Str} {l : Tx} {j pos} (h : x.cps.toList = l) : DE X E (.Constant (.str x) j pos) (tC (.str x)) (pC (.str l)) := ⟨pe_str, sim_c fun _ => DR.str' h⟩
/-- a text constant of the module -/
theorem de_gstr {x : Str} {y : Str} {u : Tok} {l : Tx} {pos} (hg : Gl X x) (hm : X.mg x = some (.str y u)) (h : y.cps.toList = l) (hd : (x == ("__debug__" : Str)) = false := by decide) : DE X E (.Name x pos) (tC (.str y)) (pC (.str l)) :=
  ⟨pe_glob (v := .str y) hg hm ⟨u, rfl⟩ hd, sim_c fun _ => DR.str' h⟩
theorem de_gint {x : Str} {y : Int} {u : Tok} {pos} (hg : Gl X x) (hm : X.mg x = some (.int y u)) (hd : (x == ("__debug__" : Str)) = false := by decide) : DE X E (.Name x pos) (tC (.int y)) (pC (.int y)) :=
  ⟨pe_glob (v := .int y) hg hm ⟨u, rfl⟩ hd, sim_c fun _ => .int y⟩
end

/-! ### operations on two values -/
abbrev B2 := D → D → (R → Prop) → Prop
def Snd2 (K : PySem.W.Frag) (r : R2) (b : B2) : Prop := ∀ (S H : Hp) (x y : D) (v w : V) (P : R → Prop) (Q : VK), Le S H → DV K S H v x → DV K S H w y → b x y P → Kont K S H P Q → r v w H Q
def pOp2 (b : B2) (pa pb : PTE) : PTE := fun A P X => pa A (fun y1 A1 => match y1.fz with
  | some z1 => pb A1 (fun y2 A2 => match view A2.M z1, view A2.M y2 with
    | some x, some y => b x y fun z => P z A2
    | _, _ => False) X
  | none => False) X
theorem sim_op2 {K : PySem.W.Frag} {E : WX} {r : R2} {b : B2} {ta tb : TE} {pa pb : PTE} (hr : Snd2 K r b) (ha : SimE K E ta pa) (hb : SimE K E tb pb) : SimE K E (tOp r ta tb) (pOp2 b pa pb) := fun B σ H A P X Q rel p q xq => by
  refine ha B σ H A _ X _ rel p (fun y1 A1 v1 H1 p1 res => ?_) xq
  cases e1 : y1.fz with
  | none => rw [e1] at p1; exact p1.elim
  | some z1 =>
    rw [e1] at p1
    obtain ⟨t, S, ρ, h, s, k⟩ := res
    obtain ⟨S1, ρ1, n1, k1, _, _⟩ := Now.fz (x := .non) ⟨h, s⟩ k e1
    refine hb _ σ H1 A1 _ X _ ⟨t, S1, _, n1.h.rebase, n1.s⟩ p1 (fun y2 A2 v2 H2 p2 res2 => ?_) (xq.back n1.h)
    obtain ⟨t2, S2, ρ2, h2, s2, k2⟩ := res2
    have n2 : Now K B t2 S2 ρ2 A2 σ H2 := ⟨n1.h.back h2, s2⟩
    have k1' : Rok K S2 ρ2 t2 A2.M.length H2 z1 v1 := k1.ext (fz_no e1) h2.ext
    split at p2
    · rename_i x y ex ey
      exact hr S2 H2 x y v1 v2 _ Q n2.h.le (n2.view k1' ex) (n2.view k2 ey) p2 (n2.kont fun z v H' pz rz => q z A2 v H' pz rz)
    · exact p2.elim
theorem de_op {X : Cx} {E : WX} {op : Operator} {r : R2} {b : B2} {a c : Expr} {pa pc : PTE} {pos : Pos} (ho : OpR X (binaryOp op) r) (hs : Snd2 X.K r b) (ha : DE X E a ta pa) (hc : DE X E c tc pc) : DE X E (.BinOp a op c pos) (tOp r ta tc) (pOp2 b pa pc) := ⟨pe_op ho ha.pe hc.pe, sim_op2 hs ha.sim hc.sim⟩
theorem de_cmp {X : Cx} {E : WX} {op : CmpOp} {r : R2} {b : B2} {a c : Expr} {pa pc : PTE} {pos : Pos} (ho : OpR X (compareOp op) r) (hs : Snd2 X.K r b) (hm : behindInMarks op c = false) (ha : DE X E a ta pa) (hc : DE X E c tc pc) : DE X E (.Compare a [op] [c] pos) (tOp r ta tc) (pOp2 b pa pc) := ⟨pe_cmpR ho ha.pe hc.pe hm, sim_op2 hs ha.sim hc.sim⟩
/-- an expression as a test -/
def pTest (p : PTE) : PTT := fun A P X => p A (fun y A' => match y with
  | .d (.bl b) => P b A'
  | _ => False) X
theorem sim_test {K : PySem.W.Frag} {E : WX} {t : TE} {p : PTE} (h : SimE K E t p) : SimT K E (tTest t) (pTest p) := fun B σ H A P X Q rel k q xq => by
  refine h B σ H A _ X _ rel k (fun y A' v H' p1 res => ?_) xq
  split at p1
  · rename_i b
    obtain ⟨t, S, r, h1, s1, k1⟩ := id res
    cases DR.bl_of k1
    exact ⟨b, rfl, q b A' H' p1 res.rel⟩
  · exact p1.elim
theorem dt_cmp {X : Cx} {E : WX} {op : CmpOp} {r : R2} {b : B2} {a c : Expr} {pa pc : PTE} {pos : Pos} (ho : OpR X (compareOp op) r) (hs : Snd2 X.K r b) (hm : behindInMarks op c = false) (ha : DE X E a ta pa) (hc : DE X E c tc pc) : DT X E (.Compare a [op] [c] pos) (tTest (tOp r ta tc)) (pTest (pOp2 b pa pc)) := ⟨pt_cmpR ho ha.pe hc.pe hm, sim_test (sim_op2 hs ha.sim hc.sim)⟩
theorem dt_val {X : Cx} {E : WX} {e : Expr} {p : PTE} (h : DE X E e t p) (he : ∀ whole, isTrue e X.env whole = (do let v ← whole; standAt e.pos; holding [v] (truthy v)) := by intro _; rfl) : DT X E e (tB t) (pTest p) := ⟨pt_val h.pe he, sim_test h.sim⟩
end PD

/-! PD, fourth part: operations on data. -/
namespace PD
open PySem L2

/-! ### data that may be compared -/
mutual
def dep : D → Nat
  | .lst xs => deps xs + 1
  | .tup xs => deps xs + 1
  | _ => 0
def deps : List D → Nat
  | [] => 0
  | x :: r => max (dep x) (deps r)
end
mutual
def chk : D → Bool
  | .str l => l.all (· < 0x110000)
  | .lst xs => chks xs
  | .tup xs => chks xs
  | .dic _ => false
  | .dit _ => false
  | .scr _ => false
  | .exc _ => false
  | _ => true
def chks : List D → Bool
  | [] => true
  | x :: r => chk x && chks r
end
mutual
def py : D → PyData
  | .non => .none
  | .bl b => .bool b
  | .int i => .int i
  | .str l => .str (st l)
  | .lst xs => .list (pys xs)
  | .tup xs => .tuple (pys xs)
  | _ => .none
def pys : List D → List PyData
  | [] => []
  | x :: r => py x :: pys r
end
def okD (x : D) : Prop := chk x = true ∧ dep x ≤ 60
mutual
theorem py_lay : ∀ x : D, chk x = true → (py x).canLay0 = true
  | .non, _ => rfl
  | .bl b, _ => rfl
  | .int i, _ => rfl
  | .str l, h => by
    show (st l).cps.all (· < 0x110000) = true
    simp only [chk] at h
    simp only [st]
    rw [List.all_toArray]
    exact h
  | .lst xs, h => by
    simp only [chk] at h
    simp only [py, PyData.canLay0]
    exact pys_lay xs h
  | .tup xs, h => by
    simp only [chk] at h
    simp only [py, PyData.canLay0]
    exact pys_lay xs h
  | .dic _, h => by simp [chk] at h
  | .dit _, h => by simp [chk] at h
  | .scr _, h => by simp [chk] at h
  | .exc _, h => by simp [chk] at h
theorem pys_lay : ∀ xs : List D, chks xs = true → PyData.canLayAll0 (pys xs) = true
  | [], _ => rfl
  | x :: r, h => by
    simp only [chks, Bool.and_eq_true] at h
    simp only [pys, PyData.canLayAll0, py_lay x h.1, pys_lay r h.2, Bool.and_self]
end
mutual
theorem py_dep : ∀ x : D, (py x).depth ≤ dep x
  | .non => by simp [py, PyData.depth, dep]
  | .bl b => by simp [py, PyData.depth, dep]
  | .int i => by simp [py, PyData.depth, dep]
  | .str l => by simp [py, PyData.depth, dep]
  | .lst xs => by
    have := pys_dep xs
    simp only [py, PyData.depth, dep]
    omega
  | .tup xs => by
    have := pys_dep xs
    simp only [py, PyData.depth, dep]
    omega
  | .dic _ => by simp [py, PyData.depth, dep]
  | .dit _ => by simp [py, PyData.depth, dep]
  | .scr _ => by simp [py, PyData.depth, dep]
  | .exc _ => by simp [py, PyData.depth, dep]
theorem pys_dep : ∀ xs : List D, PyData.depthAll (pys xs) ≤ deps xs
  | [] => by simp [pys, PyData.depthAll, deps]
  | x :: r => by
    have h1 := py_dep x
    have h2 := pys_dep r
    simp only [pys, PyData.depthAll, deps]
    omega
end
theorem okD.shaped {x : D} (h : okD x) : SeqAt.shaped (py x) = true := by
  unfold SeqAt.shaped
  rw [py_lay x h.1, Bool.true_and]
  exact decide_eq_true (Nat.le_trans (py_dep x) (Nat.le_trans h.2 (by decide)))
mutual
theorem DR.dp {K : PySem.W.Frag} {H : Hp} : ∀ {x : D} {v : V}, DR K H v x → chk x = true → Dp K H v (py x)
  | .non, _, .non, _ => .non
  | .bl b, _, .bl _, _ => .bl b
  | .int i, _, .int _, _ => .int i
  | .str l, _, .str _, _ => .str _
  | .lst xs, _, .lst h hs, c => by
    simp only [chk] at c
    simp only [py]
    exact .lst (SqL.of h) (DRs.dp hs c)
  | .tup xs, _, .tup h hs, c => by
    simp only [chk] at c
    simp only [py]
    exact .tup (SqT.of h) (DRs.dp hs c)
  | .dic _, _, _, h => by simp [chk] at h
  | .dit _, _, _, h => by simp [chk] at h
  | .scr _, _, _, h => by simp [chk] at h
  | .exc _, _, _, h => by simp [chk] at h
theorem DRs.dp {K : PySem.W.Frag} {H : Hp} : ∀ {xs : List D} {vs : List V}, DRs K H vs xs → chks xs = true → DpAll K H vs (pys xs)
  | [], _, .nil, _ => .nil
  | x :: r, _, .cons h t, c => by
    simp only [chks, Bool.and_eq_true] at c
    simp only [pys]
    exact .cons (DR.dp h c.1) (DRs.dp t c.2)
end
def deq (x y : D) : Bool := PyData.eqv (py x) (py y)
theorem deq_refl {x : D} (h : chk x = true) : deq x x = true := SeqAt.eqv_refl _ (py_lay x h)
theorem st_beq (a b : Tx) : (st a == st b) = decide (a = b) := by
  by_cases h : a = b
  · subst h; simp
  · rw [decide_eq_false h]
    exact beq_eq_false_iff_ne.mpr fun q => h (st_inj q)
theorem deq_str (a b : Tx) : deq (.str a) (.str b) = decide (a = b) := by
  simp only [deq, py, PyData.eqv]
  exact st_beq a b
def deqs : List D → List D → Bool
  | [], [] => true
  | x :: xs, y :: ys => deq x y && deqs xs ys
  | _, _ => false
theorem deqs_eq : ∀ xs ys : List D, PyData.eqvAll (pys xs) (pys ys) = deqs xs ys
  | [], [] => by simp [pys, PyData.eqvAll, deqs]
  | [], _ :: _ => by simp [pys, PyData.eqvAll, deqs]
  | _ :: _, [] => by simp [pys, PyData.eqvAll, deqs]
  | x :: xs, y :: ys => by simp only [pys, PyData.eqvAll, deqs, deqs_eq xs ys, deq]
theorem deq_lst (xs ys : List D) : deq (.lst xs) (.lst ys) = deqs xs ys := by
  simp only [deq, py, PyData.eqv]
  exact deqs_eq xs ys
theorem deq_tup (xs ys : List D) : deq (.tup xs) (.tup ys) = deqs xs ys := by
  simp only [deq, py, PyData.eqv]
  exact deqs_eq xs ys
theorem deqs_nil (xs : List D) : deqs xs [] = xs.isEmpty := by cases xs <;> rfl
theorem deq_int (a b : Int) : deq (.int a) (.int b) = decide (a = b) := by
  simp only [deq, py, PyData.eqv]
  by_cases h : a = b
  · subst h; simp
  · rw [decide_eq_false h]; exact beq_eq_false_iff_ne.mpr h
theorem deqs_strs : ∀ xs ys : List Tx, deqs (xs.map D.str) (ys.map D.str) = decide (xs = ys)
  | [], [] => rfl
  | [], _ :: _ => by simp [deqs]
  | _ :: _, [] => by simp [deqs]
  | x :: xs, y :: ys => by
    simp only [List.map_cons, deqs, deq_str, deqs_strs xs ys, List.cons.injEq]
    by_cases h1 : x = y <;> by_cases h2 : xs = ys <;> simp [h1, h2]
theorem deqs_ints : ∀ xs ys : List Int, deqs (xs.map D.int) (ys.map D.int) = decide (xs = ys)
  | [], [] => rfl
  | [], _ :: _ => by simp [deqs]
  | _ :: _, [] => by simp [deqs]
  | x :: xs, y :: ys => by
    simp only [List.map_cons, deqs, deq_int, deqs_ints xs ys, List.cons.injEq]
    by_cases h1 : x = y <;> by_cases h2 : xs = ys <;> simp [h1, h2]
/-- texts that are ascii -/
def asc (l : Tx) : Prop := ∀ c ∈ l, c < 128
theorem chk_str {l : Tx} (h : asc l) : chk (.str l) = true := by
  simp only [chk]
  rw [List.all_eq_true]
  intro c hc
  exact decide_eq_true (Nat.lt_of_lt_of_le (h c hc) (by decide))
theorem chks_of : ∀ {xs : List D}, (∀ x ∈ xs, chk x = true) → chks xs = true
  | [], _ => rfl
  | x :: r, h => by
    simp only [chks, Bool.and_eq_true]
    exact ⟨h x (by simp), chks_of fun y hy => h y (by simp [hy])⟩
theorem deps_of {n : Nat} : ∀ {xs : List D}, (∀ x ∈ xs, dep x ≤ n) → deps xs ≤ n
  | [], _ => Nat.zero_le _
  | x :: r, h => by
    have h1 := h x (by simp)
    have h2 := deps_of (xs := r) fun y hy => h y (by simp [hy])
    simp only [deps]
    omega
theorem okD_strs {ws : List Tx} (h : ∀ w ∈ ws, asc w) : okD (.lst (ws.map D.str)) := by
  refine ⟨?_, ?_⟩
  · simp only [chk]
    refine chks_of fun x hx => ?_
    obtain ⟨w, hw, rfl⟩ := List.mem_map.mp hx
    exact chk_str (h w hw)
  · simp only [dep]
    have := deps_of (n := 0) (xs := ws.map D.str) fun x hx => by
      obtain ⟨w, hw, rfl⟩ := List.mem_map.mp hx
      exact Nat.le_refl _
    omega
theorem okD_str {l : Tx} (h : asc l) : okD (.str l) := ⟨chk_str h, by simp [dep]⟩

/-! ### the operations -/
section
variable {X : Cx}
def bAdd : B2
  | .int i, .int j, P => P (.d (.int (i + j)))
  | .str a, .str b, P => a.length + b.length ≤ 16777216 ∧ P (.d (.str (a ++ b)))
  | .lst a, .lst b, P => a.length + b.length ≤ 16777216 ∧ P (.o (.lst (a ++ b)))
  | _, _, _ => False
def rAddA : R2 := fun x y H Q => (∃ i j, x = .int i ∧ y = .int j ∧ Q (.int (i + j)) H) ∨ ((∃ i j, x = .str i ∧ y = .str j ∧ i.length + j.length ≤ sizeLine ∧ Q (.str (i ++ j)) H) ∨ rCat x y H Q)
theorem op_addA : OpR X (binaryOp .Add) rAddA := OpR.or op_add (OpR.or op_add_str op_cat)
theorem snd_add {K : PySem.W.Frag} : Snd2 K rAddA bAdd := fun S H x y v w P Q le dv dw b k => by
  unfold bAdd at b
  split at b
  · cases dv; cases dw
    exact .inl ⟨_, _, rfl, rfl, k.dat _ _ b (.int _)⟩
  · cases dv; cases dw
    refine .inr (.inl ⟨_, _, rfl, rfl, by rw [st_len, st_len]; exact b.1, ?_⟩)
    rw [st_app]
    exact k.dat _ _ b.2 (.str _)
  · obtain ⟨a1, vs, rfl, h1, h2⟩ := dv
    obtain ⟨a2, ws, rfl, h3, h4⟩ := dw
    exact .inr (.inr ⟨a1, a2, vs, ws, rfl, rfl, h1, h3, by rw [h2.length, h4.length]; exact b.1, fun p hp => k.lst p _ _ hp b.2 (h2.append h4)⟩)
  · exact b.elim
def bSub : B2
  | .int i, .int j, P => P (.d (.int (i - j)))
  | _, _, _ => False
theorem snd_sub {K : PySem.W.Frag} : Snd2 K (rI0 fun i j => .int (i - j)) bSub := fun S H x y v w P Q le dv dw b k => by
  unfold bSub at b
  split at b
  · cases dv; cases dw
    exact ⟨_, _, rfl, rfl, k.dat _ _ b (.int _)⟩
  · exact b.elim
def bDiv : B2
  | .int i, .int j, P => CDivW i j ∧ P (.d (.int (i / j)))
  | _, _, _ => False
theorem snd_div {K : PySem.W.Frag} : Snd2 K (rI CDivW fun i j => .int (i / j)) bDiv := fun S H x y v w P Q le dv dw b k => by
  unfold bDiv at b
  split at b
  · cases dv; cases dw
    exact ⟨_, _, rfl, rfl, b.1, k.dat _ _ b.2 (.int _)⟩
  · exact b.elim
def bMod : B2
  | .int i, .int j, P => 0 < j ∧ P (.d (.int (i % j)))
  | _, _, _ => False
theorem snd_mod {K : PySem.W.Frag} : Snd2 K (rI (fun _ j => 0 < j) fun i j => .int (i % j)) bMod := fun S H x y v w P Q le dv dw b k => by
  unfold bMod at b
  split at b
  · cases dv; cases dw
    exact ⟨_, _, rfl, rfl, b.1, k.dat _ _ b.2 (.int _)⟩
  · exact b.elim
def bPow : B2
  | .int i, .int j, P => CPow i j ∧ P (.d (.int (i ^ j.toNat)))
  | _, _, _ => False
theorem snd_pow {K : PySem.W.Frag} : Snd2 K (rI CPow fun i j => .int (i ^ j.toNat)) bPow := fun S H x y v w P Q le dv dw b k => by
  unfold bPow at b
  split at b
  · cases dv; cases dw
    exact ⟨_, _, rfl, rfl, b.1, k.dat _ _ b.2 (.int _)⟩
  · exact b.elim
/-! text * int -/
def MulSOk (n : Nat) (k : Int) : Prop := -(2 ^ 62) < k ∧ k < 2 ^ 62 ∧ n * k.toNat ≤ 16777216
theorem MulSOk.ok {l : Tx} {k : Int} (h : MulSOk l.length k) : PySem.MulOk (st l) k := by
  obtain ⟨h1, h2, h3⟩ := h
  refine ⟨?_, fun h4 h5 => ?_, fun h4 h5 => ?_⟩
  · rw [decide_eq_false (by omega), decide_eq_false (by omega)]; rfl
  · rw [st_len]
    have hk : 0 < k := by omega
    have hz : (l.length : Int) * k ≤ 16777216 := by
      have : ((l.length * k.toNat : Nat) : Int) ≤ 16777216 := by omega
      rw [Int.natCast_mul, Int.toNat_of_nonneg (by omega)] at this
      exact this
    have : (l.length : Int) ≤ (2 ^ 63 - 1) / k := (Int.le_ediv_iff_mul_le hk).mpr (by omega)
    omega
  · rw [st_len]
    unfold Builtin.Str.tooLong
    exact decide_eq_false (by
      have e : sizeLine = 16777216 := by decide
      rw [e]; omega)
theorem foldl_app : ∀ (n : Nat) (l acc : List Nat), ((List.replicate n l.toArray).foldl (· ++ ·) acc.toArray) = (acc ++ (List.replicate n l).flatten).toArray
  | 0, l, acc => by simp
  | n + 1, l, acc => by
    rw [List.replicate_succ, List.foldl_cons, List.replicate_succ, List.flatten_cons]
    have e : acc.toArray ++ l.toArray = (acc ++ l).toArray := by simp
    rw [e, foldl_app n l (acc ++ l), List.append_assoc]
theorem txt_mul (l : Tx) (k : Int) : Txt.mul (st l) k = st (List.replicate k.toNat l).flatten := by
  unfold Txt.mul
  by_cases h1 : k < 1
  · rw [if_pos h1]
    have : k.toNat = 0 := by omega
    rw [this]
    rfl
  · rw [if_neg h1]
    by_cases h2 : (k == 1 || (st l).length == 0) = true
    · rw [if_pos h2]
      rw [Bool.or_eq_true] at h2
      rcases h2 with h2 | h2
      · have : k = 1 := by simpa using h2
        subst this
        simp [st]
      · have : l = [] := by
          have := (beq_iff_eq.mp h2)
          rw [st_len] at this
          exact List.length_eq_zero_iff.mp this
        subst this
        simp [st]
    · rw [if_neg h2]
      have e := foldl_app k.toNat l []
      simp only [List.nil_append] at e
      show (⟨(List.replicate k.toNat l.toArray).foldl (· ++ ·) #[]⟩ : Str) = _
      rw [e]
      rfl
def rMulS : R2 := fun x y H Q => ∃ l k, x = .str (st l) ∧ y = .int k ∧ MulSOk l.length k ∧ Q (.str (st (List.replicate k.toNat l).flatten)) H
theorem op_mulS : OpR X (binaryOp .Mult) rMulS := fun pins s σ H x y v u Q I rx ry h => by
  obtain ⟨l, k, rfl, rfl, hk, q⟩ := h
  obtain ⟨t, rfl⟩ := rx
  obtain ⟨t', rfl⟩ := ry
  refine SB.mul hk.ok fun t2 n => ?_
  rw [txt_mul]
  exact ⟨.str _, H, I.tok _, ⟨t2, rfl⟩, q⟩
def bMul : B2
  | .int i, .int j, P => (CMul i j ∨ CMulW i j) ∧ P (.d (.int (i * j)))
  | .str a, .int k, P => MulSOk a.length k ∧ P (.d (.str (List.replicate k.toNat a).flatten))
  | .lst a, .int k, P => MulSOk a.length k ∧ P (.o (.lst (List.replicate k.toNat a).flatten))
  | _, _, _ => False
def rMulA : R2 := fun x y H Q => rI CMul (fun i j => .int (i * j)) x y H Q ∨ (rI CMulW (fun i j => .int (i * j)) x y H Q ∨ (rMulS x y H Q ∨ rRep x y H Q))
theorem op_mulA : OpR X (binaryOp .Mult) rMulA := OpR.or op_mul (OpR.or op_mulW (OpR.or op_mulS op_rep))
theorem DRs.rep {K : PySem.W.Frag} {H : Hp} {vs : List V} {ds : List D} (h : DRs K H vs ds) : ∀ k : Nat, DRs K H (List.replicate k vs).flatten (List.replicate k ds).flatten
  | 0 => .nil
  | k + 1 => by
    rw [List.replicate_succ, List.replicate_succ, List.flatten_cons, List.flatten_cons]
    exact h.append (DRs.rep h k)
theorem snd_mul {K : PySem.W.Frag} : Snd2 K rMulA bMul := fun S H x y v w P Q le dv dw b k => by
  unfold bMul at b
  split at b
  · cases dv; cases dw
    rcases b.1 with c | c
    · exact .inl ⟨_, _, rfl, rfl, c, k.dat _ _ b.2 (.int _)⟩
    · exact .inr (.inl ⟨_, _, rfl, rfl, c, k.dat _ _ b.2 (.int _)⟩)
  · cases dv; cases dw
    exact .inr (.inr (.inl ⟨_, _, rfl, rfl, b.1, k.dat _ _ b.2 (.str _)⟩))
  · obtain ⟨a1, vs, rfl, h1, h2⟩ := dv
    cases dw
    obtain ⟨⟨b1, b2, b3⟩, b4⟩ := b
    exact .inr (.inr (.inr ⟨a1, _, vs, rfl, rfl, h1, by omega, by omega, by rw [h2.length]; exact b3, fun p hp => k.lst p _ _ hp b4 (h2.rep _)⟩))
  · exact b.elim

/-! ### comparing -/
def bEq (f : Bool → Bool) : B2
  | .int i, .int j, P => P (.d (.bl (f (decide (i = j)))))
  | .str i, .str j, P => P (.d (.bl (f (decide (i = j)))))
  | .bl i, .bl j, P => P (.d (.bl (f (decide (i = j)))))
  | .non, .non, P => P (.d (.bl (f true)))
  | .non, .int _, P => P (.d (.bl (f false)))
  | .int _, .non, P => P (.d (.bl (f false)))
  | .non, .str _, P => P (.d (.bl (f false)))
  | .str _, .non, P => P (.d (.bl (f false)))
  | .dic a, .dic b, P => b = [] ∧ P (.d (.bl (f a.isEmpty)))
  | .dic _, _, _ => False
  | _, .dic _, _ => False
  | x, y, P => okD x ∧ okD y ∧ P (.d (.bl (f (deq x y))))
def rEqK (f : Bool → Bool) : R2 := fun x y H Q => ∃ a b kvs, x = .ref a ∧ y = .ref b ∧ Rd H a (.dK kvs) ∧ Rd H b (.dK []) ∧ Q (.bl (f kvs.isEmpty)) H
theorem len0 {α : Type} (l : List α) : (l.length == ([] : List α).length && true) = l.isEmpty := by cases l <;> rfl
theorem kv_empty {vs : List (Key × Value)} {kvs : List (Key × V)} (r : KV kvs vs) : vs.isEmpty = kvs.isEmpty := by
  have := r.length
  cases vs <;> cases kvs <;> simp_all
theorem op_eqK (hu : X.A.units < cLine) : OpR X (compareOp .Eq) (rEqK id) := fun pins s σ H x y v u Q I rx ry h => by
  obtain ⟨a, b, kvs, rfl, rfl, h1, h2, q⟩ := h
  cases rx; cases ry
  obtain ⟨_, na, va, ra, da⟩ := dk_rd I.hok h1
  obtain ⟨_, nb, vb, rb, db⟩ := dk_rd I.hok h2
  have eb : vb = [] := by
    have := rb.length
    exact List.length_eq_zero_iff.mp this.symm
  subst eb
  refine PySem.W.keq_eq na nb da db hu (r := true) (fun e => ?_) ?_
  · have : va = [] := List.length_eq_zero_iff.mp e
    subst this
    exact .nil
  · rw [len0, kv_empty ra]
    exact ⟨.bl _, H, I, rfl, q⟩
theorem op_neK (hu : X.A.units < cLine) : OpR X (compareOp .NotEq) (rEqK not) := fun pins s σ H x y v u Q I rx ry h => by
  obtain ⟨a, b, kvs, rfl, rfl, h1, h2, q⟩ := h
  cases rx; cases ry
  obtain ⟨_, na, va, ra, da⟩ := dk_rd I.hok h1
  obtain ⟨_, nb, vb, rb, db⟩ := dk_rd I.hok h2
  have eb : vb = [] := by
    have := rb.length
    exact List.length_eq_zero_iff.mp this.symm
  subst eb
  refine PySem.W.keq_ne na nb da db hu (r := true) (fun e => ?_) ?_
  · have : va = [] := List.length_eq_zero_iff.mp e
    subst this
    exact .nil
  · rw [len0, kv_empty ra]
    exact ⟨.bl _, H, I, rfl, q⟩
def rEqA (K : PySem.W.Frag) (f : Bool → Bool) : R2 := fun x y H Q => (scal x y = true ∧ Q (.bl (f (decide (x = y)))) H) ∨ ((∃ d e, Dp K H x d ∧ Dp K H y e ∧ SeqAt.shaped d = true ∧ SeqAt.shaped e = true ∧ Q (.bl (f (PyData.eqv d e))) H) ∨ rEqK f x y H Q)
theorem op_eqA (hu : X.A.units + 64 < cLine) : OpR X (compareOp .Eq) (rEqA X.K id) := OpR.or op_eq (OpR.or (op_eqD hu) (op_eqK (by omega)))
theorem op_neA (hu : X.A.units + 64 < cLine) : OpR X (compareOp .NotEq) (rEqA X.K not) := OpR.or op_ne (OpR.or (op_neD hu) (op_neK (by omega)))
theorem DRk.nil_iff {K : PySem.W.Frag} {H : Hp} {vs : List (Key × V)} {ds : List (Kd × D)} (h : DRk K H vs ds) : vs.isEmpty = ds.isEmpty := by
  have := h.length
  cases vs <;> cases ds <;> simp_all
theorem snd_eq {K : PySem.W.Frag} (f : Bool → Bool) : Snd2 K (rEqA K f) (bEq f) := fun S H x y v w P Q le dv dw b k => by
  unfold bEq at b
  split at b
  · cases dv; cases dw
    refine .inl ⟨rfl, ?_⟩
    have e : decide (V.int ‹Int› = V.int ‹Int›) = decide (‹Int› = ‹Int›) := by simp
    refine k.dat _ _ ?_ (.bl _)
    simpa using b
  · rename_i i j
    cases dv; cases dw
    refine .inl ⟨rfl, ?_⟩
    refine k.dat _ _ ?_ (.bl _)
    have e : decide (V.str (st i) = V.str (st j)) = decide (i = j) := by
      by_cases h : i = j
      · subst h; simp
      · rw [decide_eq_false h]
        exact decide_eq_false fun q => h (st_inj (V.str.inj q))
    rw [e]
    exact b
  · cases dv; cases dw
    refine .inl ⟨rfl, k.dat _ _ ?_ (.bl _)⟩
    simpa using b
  · cases dv; cases dw
    exact .inl ⟨rfl, k.dat _ _ (by simpa using b) (.bl _)⟩
  · cases dv; cases dw
    exact .inl ⟨rfl, k.dat _ _ (by simpa using b) (.bl _)⟩
  · cases dv; cases dw
    exact .inl ⟨rfl, k.dat _ _ (by simpa using b) (.bl _)⟩
  · cases dv; cases dw
    exact .inl ⟨rfl, k.dat _ _ (by simpa using b) (.bl _)⟩
  · cases dv; cases dw
    exact .inl ⟨rfl, k.dat _ _ (by simpa using b) (.bl _)⟩
  · obtain ⟨a1, vs, rfl, h1, h2⟩ := dv
    obtain ⟨a2, ws, rfl, h3, h4⟩ := dw
    obtain ⟨rfl, b⟩ := b
    cases h4
    refine .inr (.inr ⟨a1, a2, vs, rfl, rfl, h1, h3, ?_⟩)
    rw [h2.nil_iff]
    exact k.dat _ _ b (.bl _)
  · exact b.elim
  · exact b.elim
  · obtain ⟨b1, b2, b3⟩ := b
    exact .inr (.inl ⟨_, _, (dv.dr le).dp b1.1, (dw.dr le).dp b2.1, b1.shaped, b2.shaped, k.dat _ _ b3 (.bl _)⟩)
def bCmp (f : Int → Int → Bool) (g : Tx → Tx → Bool) : B2
  | .int i, .int j, P => P (.d (.bl (f i j)))
  | .str i, .str j, P => P (.d (.bl (g i j)))
  | _, _, _ => False
abbrev rCmpA (f : Int → Int → Bool) (g : Tx → Tx → Bool) : R2 := fun x y H Q => (∃ i j, x = .int i ∧ y = .int j ∧ Q (.bl (f i j)) H) ∨ (∃ i j : Str, x = .str i ∧ y = .str j ∧ Q (.bl (g i.cps.toList j.cps.toList)) H)
theorem snd_cmp {K : PySem.W.Frag} (f : Int → Int → Bool) (g : Tx → Tx → Bool) : Snd2 K (rCmpA f g) (bCmp f g) := fun S H x y v w P Q le dv dw b k => by
  unfold bCmp at b
  split at b
  · cases dv; cases dw
    exact .inl ⟨_, _, rfl, rfl, k.dat _ _ b (.bl _)⟩
  · cases dv; cases dw
    refine .inr ⟨_, _, rfl, rfl, ?_⟩
    rw [st_tl, st_tl]
    exact k.dat _ _ b (.bl _)
  · exact b.elim
abbrev bLt : B2 := bCmp (fun i j => decide (i < j)) (fun i j => decide (i < j))
abbrev bLe : B2 := bCmp (fun i j => decide (i ≤ j)) (fun i j => !decide (j < i))
abbrev bGt : B2 := bCmp (fun i j => decide (j < i)) (fun i j => decide (j < i))
abbrev bGe : B2 := bCmp (fun i j => decide (j ≤ i)) (fun i j => !decide (i < j))
theorem op_ltA : OpR X (compareOp .Lt) (rCmpA (fun i j => decide (i < j)) (fun i j => decide (i < j))) := OpR.or op_lt op_lt_str
theorem op_leA : OpR X (compareOp .LtE) (rCmpA (fun i j => decide (i ≤ j)) (fun i j => !decide (j < i))) := OpR.or op_le op_le_str
theorem op_gtA : OpR X (compareOp .Gt) (rCmpA (fun i j => decide (j < i)) (fun i j => decide (j < i))) := OpR.or op_gt op_gt_str
theorem op_geA : OpR X (compareOp .GtE) (rCmpA (fun i j => decide (j ≤ i)) (fun i j => !decide (i < j))) := OpR.or op_ge op_ge_str

/-! ### in -/
def kdOf : D → Option Kd
  | .int i => some (.inl i)
  | .str l => some (.inr l)
  | _ => none
def hasK (kvs : List (Kd × D)) (k : Kd) : Bool := kvs.any fun p => decide (p.1 = k)
def getK (kvs : List (Kd × D)) (k : Kd) : Option D := (kvs.find? fun p => decide (p.1 = k)).map (·.2)
theorem DRk.val {K : PySem.W.Frag} {S : Hp} {k : Kd} : ∀ {vs : List (Key × V)} {ds : List (Kd × D)}, DRk K S vs ds → (valV vs (kd k) = none ∧ getK ds k = none) ∨ ∃ v d, valV vs (kd k) = some v ∧ getK ds k = some d ∧ DR K S v d
  | _, _, .nil => .inl ⟨rfl, rfl⟩
  | _, _, .cons (k := j) (v := v) (vs := vs) (d := d) (ds := ds) r t => by
    by_cases e : j = k
    · subst e
      exact .inr ⟨v, d, valV_pos rfl, by simp [getK], r⟩
    · have e' : ¬ (kd j, v).1 = kd k := fun q => e (kd_inj q)
      rcases DRk.val (k := k) t with ⟨h1, h2⟩ | ⟨v', d', h1, h2, h3⟩
      · refine .inl ⟨(valV_neg e').trans h1, ?_⟩
        simp only [getK, List.find?_cons, decide_eq_false e] at h2 ⊢
        exact h2
      · refine .inr ⟨v', d', (valV_neg e').trans h1, ?_, h3⟩
        simp only [getK, List.find?_cons, decide_eq_false e] at h2 ⊢
        exact h2
theorem hasK_get (kvs : List (Kd × D)) (k : Kd) : hasK kvs k = (getK kvs k).isSome := by
  induction kvs with
  | nil => rfl
  | cons p r ih =>
    simp only [hasK, getK, List.any_cons, List.find?_cons] at ih ⊢
    by_cases e : p.1 = k
    · simp [e]
    · simp only [decide_eq_false e, Bool.false_or]
      exact ih
theorem DRk.has {K : PySem.W.Frag} {S : Hp} {k : Kd} {vs : List (Key × V)} {ds : List (Kd × D)} (h : DRk K S vs ds) : (valV vs (kd k)).isSome = hasK ds k := by
  rw [hasK_get]
  rcases h.val (k := k) with ⟨h1, h2⟩ | ⟨v, d, h1, h2, _⟩
  · rw [h1, h2]; rfl
  · rw [h1, h2]; rfl
def bIn (f : Bool → Bool) : B2
  | .str [c], .str z, P => P (.d (.bl (f (decide (c ∈ z)))))
  | .int i, .dic kvs, P => P (.d (.bl (f (hasK kvs (.inl i)))))
  | .str i, .dic kvs, P => P (.d (.bl (f (hasK kvs (.inr i)))))
  | x, .lst xs, P => okD x ∧ okD (.lst xs) ∧ P (.d (.bl (f (xs.any fun z => deq z x))))
  | _, _, _ => False
def rInA (K : PySem.W.Frag) (f : Bool → Bool) : R2 := fun x y H Q => (∃ (c : Nat) (z : Str), x = .str ⟨#[c]⟩ ∧ y = .str z ∧ Q (.bl (f (decide (c ∈ z.cps.toList)))) H) ∨
  ((∃ a o, y = .ref a ∧ DGet H a x o ∧ Q (.bl (f o.isSome)) H) ∨ (∃ d ds, Dp K H x d ∧ Dp K H y (.list ds) ∧ SeqAt.shaped d = true ∧ SeqAt.shaped (.list ds) = true ∧ Q (.bl (f (ds.any fun z => PyData.eqv z d))) H))
theorem op_dIn (hu : X.A.units + 1 < cLine) : OpR X (compareOp .In) (fun x y H Q => ∃ a o, y = .ref a ∧ DGet H a x o ∧ Q (.bl o.isSome) H) := fun pins s σ H x y v u Q I rx ry h => by
  obtain ⟨a, o, rfl, g, q⟩ := h
  cases ry
  exact d_in hu I g rx fun s' I' => ⟨.bl _, H, I', rfl, q⟩
theorem op_dNotIn (hu : X.A.units + 1 < cLine) : OpR X (compareOp .NotIn) (fun x y H Q => ∃ a o, y = .ref a ∧ DGet H a x o ∧ Q (.bl (!o.isSome)) H) := fun pins s σ H x y v u Q I rx ry h => by
  obtain ⟨a, o, rfl, g, q⟩ := h
  cases ry
  exact d_notIn hu I g rx fun s' I' => ⟨.bl _, H, I', rfl, q⟩
theorem op_inA (hu : X.A.units + 65 < cLine) : OpR X (compareOp .In) (rInA X.K id) := OpR.or op_in_sign (OpR.or (op_dIn (by omega)) (op_inD hu))
theorem op_notInA (hu : X.A.units + 65 < cLine) : OpR X (compareOp .NotIn) (rInA X.K not) := OpR.or op_notIn_sign (OpR.or (op_dNotIn (by omega)) (op_notInD hu))
theorem pys_any (g : PyData → Bool) : ∀ xs : List D, (pys xs).any g = xs.any fun z => g (py z)
  | [] => rfl
  | x :: r => by simp only [pys, List.any_cons, pys_any g r]
theorem snd_in {K : PySem.W.Frag} (f : Bool → Bool) : Snd2 K (rInA K f) (bIn f) := fun S H x y v w P Q le dv dw b k => by
  unfold bIn at b
  split at b
  · cases dv; cases dw
    refine .inl ⟨_, _, rfl, rfl, ?_⟩
    rw [st_tl]
    exact k.dat _ _ b (.bl _)
  · cases dv
    obtain ⟨a, vs, rfl, h1, h2⟩ := dw
    refine .inr (.inl ⟨a, _, rfl, .inl ⟨vs, kd (.inl _), h1, rfl, rfl⟩, ?_⟩)
    rw [h2.has]
    exact k.dat _ _ b (.bl _)
  · cases dv
    obtain ⟨a, vs, rfl, h1, h2⟩ := dw
    refine .inr (.inl ⟨a, _, rfl, .inl ⟨vs, kd (.inr _), h1, rfl, rfl⟩, ?_⟩)
    rw [h2.has]
    exact k.dat _ _ b (.bl _)
  · obtain ⟨b1, b2, b3⟩ := b
    have e := (DV.dr dw le).dp b2.1
    have s2 := b2.shaped
    simp only [py] at e s2
    refine .inr (.inr ⟨_, _, (dv.dr le).dp b1.1, e, b1.shaped, s2, ?_⟩)
    rw [pys_any]
    exact k.dat _ _ b3 (.bl _)
  · exact b.elim
/-! ### is -/
def bIs (f : Bool → Bool) : B2
  | .bl a, .bl b, P => P (.d (.bl (f (decide (a = b)))))
  | .non, .non, P => P (.d (.bl (f true)))
  | _, .non, P => P (.d (.bl (f false)))
  | _, _, _ => False
def rIsA (f : Bool → Bool) : R2 := fun x y H Q => (y = .non ∧ Q (.bl (f (decide (x = .non)))) H) ∨ (∃ a b : Bool, x = .bl a ∧ y = .bl b ∧ Q (.bl (f (decide (a = b)))) H)
theorem op_isA : OpR X (compareOp .Is) (rIsA id) := OpR.or op_isN op_isBl
theorem op_isNotA : OpR X (compareOp .IsNot) (rIsA not) := OpR.or op_notN op_notBl
theorem DV.non_iff {K : PySem.W.Frag} {S H : Hp} {v : V} {x : D} (h : DV K S H v x) : v = .non ↔ x = .non := by
  cases x with
  | non => cases h; simp
  | bl b => cases h; simp
  | int i => cases h; simp
  | str l => cases h; simp
  | lst ds => obtain ⟨a, vs, rfl, _⟩ := h; simp
  | tup ds => obtain ⟨a, vs, rfl, _⟩ := h; simp
  | dic ds => obtain ⟨a, vs, rfl, _⟩ := h; simp
  | dit ds => obtain ⟨a, vs, rfl, _⟩ := h; simp
  | scr ns => obtain ⟨a, rfl, _⟩ := h; simp
  | exc ns => obtain ⟨a, rfl, _⟩ := h; simp
theorem snd_is {K : PySem.W.Frag} (f : Bool → Bool) : Snd2 K (rIsA f) (bIs f) := fun S H x y v w P Q le dv dw b k => by
  unfold bIs at b
  split at b
  · cases dv; cases dw
    exact .inr ⟨_, _, rfl, rfl, k.dat _ _ b (.bl _)⟩
  · cases dv; cases dw
    exact .inl ⟨rfl, k.dat _ _ (by simpa using b) (.bl _)⟩
  · rename_i y hn
    cases dw
    have : decide (v = V.non) = false := decide_eq_false fun q => hn (dv.non_iff.mp q)
    refine .inl ⟨rfl, ?_⟩
    rw [this]
    exact k.dat _ _ b (.bl _)
  · exact b.elim
end
end PD

/-! PD, fifth part: tests, displays, calls of what is built in, items, slices. -/
namespace PD
open PySem L2

section
variable {X : Cx} {E : WX}
/-! ### tests and truth values -/
def pAnd (t u : PTT) : PTT := fun A P Y => t A (fun b A1 => if b = true then u A1 P Y else P false A1) Y
def pOr (t u : PTT) : PTT := fun A P Y => t A (fun b A1 => if b = true then P true A1 else u A1 P Y) Y
def pNot (t : PTT) : PTT := fun A P Y => t A (fun b A1 => P (!b) A1) Y
theorem sim_and {K : PySem.W.Frag} {t u : TT} {p q : PTT} (h1 : SimT K E t p) (h2 : SimT K E u q) : SimT K E (tAnd t u) (pAnd p q) := fun B σ H A P Y Q rel k c xq => by
  refine h1 B σ H A _ Y _ rel k (fun b A1 H1 p1 r1 => ?_) xq
  cases b with
  | true => exact h2 B σ H1 A1 P Y Q r1 (by simpa using p1) c xq
  | false => exact c false A1 H1 (by simpa using p1) r1
theorem sim_or {K : PySem.W.Frag} {t u : TT} {p q : PTT} (h1 : SimT K E t p) (h2 : SimT K E u q) : SimT K E (tOr t u) (pOr p q) := fun B σ H A P Y Q rel k c xq => by
  refine h1 B σ H A _ Y _ rel k (fun b A1 H1 p1 r1 => ?_) xq
  cases b with
  | true => exact c true A1 H1 (by simpa using p1) r1
  | false => exact h2 B σ H1 A1 P Y Q r1 (by simpa using p1) c xq
theorem sim_not {K : PySem.W.Frag} {t : TT} {p : PTT} (h1 : SimT K E t p) : SimT K E (tNot t) (pNot p) := fun B σ H A P Y Q rel k c xq => h1 B σ H A _ Y _ rel k (fun b A1 H1 p1 r1 => c (!b) A1 H1 p1 r1) xq
variable {a b c : Expr} {rest : List Expr} {pos : Pos}
theorem dw_and1 {t : TT} {p : PTT} (h : DT X E a t p) : DW X E (.BoolOp .And [a] pos) t p := ⟨pw_and1 h.pe, h.sim⟩
theorem dw_or1 {t : TT} {p : PTT} (h : DT X E a t p) : DW X E (.BoolOp .Or [a] pos) t p := ⟨pw_or1 h.pe, h.sim⟩
theorem dw_and {t u : TT} {p q : PTT} (h : DT X E a t p) (k : DW X E (.BoolOp .And (b :: rest) pos) u q) : DW X E (.BoolOp .And (a :: b :: rest) pos) (tAnd t u) (pAnd p q) := ⟨pw_and h.pe k.pe, sim_and h.sim k.sim⟩
theorem dw_or {t u : TT} {p q : PTT} (h : DT X E a t p) (k : DW X E (.BoolOp .Or (b :: rest) pos) u q) : DW X E (.BoolOp .Or (a :: b :: rest) pos) (tOr t u) (pOr p q) := ⟨pw_or h.pe k.pe, sim_or h.sim k.sim⟩
theorem dt_w {t : TT} {p : PTT} (h : DW X E a t p) : DT X E a t p := ⟨h.pe.pt, h.sim⟩
theorem dt_not {t : TT} {p : PTT} (h : DT X E a t p) : DT X E (.UnaryOp .Not a pos) (tNot t) (pNot p) := ⟨pt_not h.pe, sim_not h.sim⟩
def pAndV (pa pb : PTE) : PTE := fun A P Y => pa A (fun y A1 => match y with
  | .d (.bl b) => if b = true then pb A1 P Y else P (.d (.bl false)) A1
  | _ => False) Y
def pOrV (pa pb : PTE) : PTE := fun A P Y => pa A (fun y A1 => match y with
  | .d (.bl b) => if b = true then P (.d (.bl true)) A1 else pb A1 P Y
  | _ => False) Y
def pNotV (pa : PTE) : PTE := fun A P Y => pa A (fun y A1 => match y with
  | .d (.bl b) => P (.d (.bl (!b))) A1
  | _ => False) Y
theorem res_bl {K : PySem.W.Frag} {B : Bas} {A : Abs} {b : Bool} {v : V} {σ : St} {H : Hp} (h : Res K B A (.d (.bl b)) v σ H) : v = .bl b := let ⟨_, _, _, _, _, k⟩ := h; DR.bl_of k
theorem sim_andV {K : PySem.W.Frag} {t u : TE} {p q : PTE} (h1 : SimE K E t p) (h2 : SimE K E u q) : SimE K E (tAndV t u) (pAndV p q) := fun B σ H A P Y Q rel k c xq => by
  refine h1 B σ H A _ Y _ rel k (fun y A1 v H1 p1 r1 => ?_) xq
  split at p1
  · rename_i b
    cases res_bl r1
    refine ⟨b, rfl, ?_⟩
    cases b with
    | true => exact h2 B σ H1 A1 P Y Q r1.rel (by simpa using p1) c xq
    | false => exact c _ A1 _ H1 (by simpa using p1) (r1.rel.res fun _ => .bl _)
  · exact p1.elim
theorem sim_orV {K : PySem.W.Frag} {t u : TE} {p q : PTE} (h1 : SimE K E t p) (h2 : SimE K E u q) : SimE K E (tOrV t u) (pOrV p q) := fun B σ H A P Y Q rel k c xq => by
  refine h1 B σ H A _ Y _ rel k (fun y A1 v H1 p1 r1 => ?_) xq
  split at p1
  · rename_i b
    cases res_bl r1
    refine ⟨b, rfl, ?_⟩
    cases b with
    | true => exact c _ A1 _ H1 (by simpa using p1) (r1.rel.res fun _ => .bl _)
    | false => exact h2 B σ H1 A1 P Y Q r1.rel (by simpa using p1) c xq
  · exact p1.elim
theorem sim_notV {K : PySem.W.Frag} {t : TE} {p : PTE} (h1 : SimE K E t p) : SimE K E (tNotV t) (pNotV p) := fun B σ H A P Y Q rel k c xq => by
  refine h1 B σ H A _ Y _ rel k (fun y A1 v H1 p1 r1 => ?_) xq
  split at p1
  · rename_i b
    cases res_bl r1
    exact ⟨b, rfl, c _ A1 _ H1 p1 (r1.rel.res fun _ => .bl _)⟩
  · exact p1.elim
theorem de_one {op} {t : TE} {p : PTE} (h : DE X E a t p) : DE X E (.BoolOp op [a] pos) t p := ⟨pe_one h.pe, h.sim⟩
theorem de_and {t u : TE} {p q : PTE} (h : DE X E a t p) (k : DE X E (.BoolOp .And (b :: rest) pos) u q) : DE X E (.BoolOp .And (a :: b :: rest) pos) (tAndV t u) (pAndV p q) := ⟨pe_and h.pe k.pe, sim_andV h.sim k.sim⟩
theorem de_or {t u : TE} {p q : PTE} (h : DE X E a t p) (k : DE X E (.BoolOp .Or (b :: rest) pos) u q) : DE X E (.BoolOp .Or (a :: b :: rest) pos) (tOrV t u) (pOrV p q) := ⟨pe_or h.pe k.pe, sim_orV h.sim k.sim⟩
theorem de_not {t : TE} {p : PTE} (h : DE X E a t p) : DE X E (.UnaryOp .Not a pos) (tNotV t) (pNotV p) := ⟨pe_not h.pe, sim_notV h.sim⟩
def pIfE (t : PTT) (p q : PTE) : PTE := fun A P Y => t A (fun b A1 => if b = true then p A1 P Y else q A1 P Y) Y
theorem de_if {tc : TT} {ta tb : TE} {t : PTT} {p q : PTE} (hc : DT X E c tc t) (ha : DE X E a ta p) (hb : DE X E b tb q) : DE X E (.IfExp c a b pos) (tIf tc ta tb) (pIfE t p q) := by
  obtain ⟨h1, h2⟩ := hc
  obtain ⟨h3, h4⟩ := ha
  obtain ⟨h5, h6⟩ := hb
  refine ⟨pe_ifExp h1 h3 h5, fun B σ H A P Y Q rel k q xq => ?_⟩
  refine h2 B σ H A _ Y _ rel k (fun b A1 H1 p1 r1 => ?_) xq
  cases b with
  | true => exact h4 B σ H1 A1 P Y Q r1 (by simpa using p1) q xq
  | false => exact h6 B σ H1 A1 P Y Q r1 (by simpa using p1) q xq
/-- a chain a < b < c of ints or of texts -/
def cmpD (f : Int → Int → Bool) (g : Tx → Tx → Bool) : D → D → Option Bool
  | .int i, .int j => some (f i j)
  | .str i, .str j => some (g i j)
  | _, _ => none
theorem cmpD_ok {f : Int → Int → Bool} {g : Tx → Tx → Bool} {K : PySem.W.Frag} {S H : Hp} {x y : D} {v w : V} {b : Bool} {Q : VK} (e : cmpD f g x y = some b) (dv : DV K S H v x) (dw : DV K S H w y) (q : Q (.bl b) H) : rCmpA f g v w H Q := by
  unfold cmpD at e
  split at e
  · cases dv; cases dw; cases e
    exact .inl ⟨_, _, rfl, rfl, q⟩
  · cases dv; cases dw; cases e
    refine .inr ⟨_, _, rfl, rfl, ?_⟩
    rw [st_tl, st_tl]
    exact q
  · cases e
def pChain (f : Int → Int → Bool) (g : Tx → Tx → Bool) (f' : Int → Int → Bool) (g' : Tx → Tx → Bool) (pa pb pc : PTE) : PTE := fun A P Y => pa A (fun y1 A1 => match y1 with
  | .d x => pb A1 (fun y2 A2 => match y2 with
    | .d y => (match cmpD f g x y with
      | some k => if k = true then pc A2 (fun y3 A3 => match y3 with
          | .d w => (match cmpD f' g' y w with
            | some k' => P (.d (.bl k')) A3
            | none => False)
          | _ => False) Y else P (.d (.bl false)) A2
      | none => False)
    | _ => False) Y
  | _ => False) Y
theorem sim_chain {K : PySem.W.Frag} {f f' : Int → Int → Bool} {g g' : Tx → Tx → Bool} {ta tb tc : TE} {pa pb pc : PTE} (ha : SimE K E ta pa) (hb : SimE K E tb pb) (hc : SimE K E tc pc) : SimE K E (tChain (rCmpA f g) (rCmpA f' g') ta tb tc) (pChain f g f' g' pa pb pc) := fun B σ H A P Y Q rel p q xq => by
  refine ha B σ H A _ Y _ rel p (fun y1 A1 v1 H1 p1 res => ?_) xq
  split at p1
  · rename_i x
    obtain ⟨t, S, ρ, h, s, k⟩ := res
    refine hb _ σ H1 A1 _ Y _ ⟨t, S, _, h.rebase, s⟩ p1 (fun y2 A2 v2 H2 p2 res2 => ?_) (xq.back h)
    split at p2
    · rename_i y
      obtain ⟨t2, S2, ρ2, h2, s2, k2⟩ := res2
      have h3 := h.back h2
      have k1 : DR K S2 v1 x := DR.mono h2.ext.le k
      cases e : cmpD f g x y with
      | none => rw [e] at p2; exact p2.elim
      | some kk =>
        rw [e] at p2
        refine cmpD_ok e (k1.dv h2.le) (DR.dv k2 h2.le) ⟨kk, rfl, ?_⟩
        cases kk with
        | false => exact q (.d (.bl false)) A2 (.bl false) H2 (by simpa using p2) ⟨t2, S2, ρ2, h3, s2, DR.bl false⟩
        | true =>
          refine hc _ σ H2 A2 _ Y _ ⟨t2, S2, _, h3.rebase, s2⟩ (by simpa using p2) (fun y3 A3 v3 H3 p3 res3 => ?_) (xq.back h3)
          split at p3
          · rename_i w
            obtain ⟨t4, S4, ρ4, h4, s4, k4⟩ := res3
            have k2' : DR K S4 v2 y := DR.mono h4.ext.le k2
            cases e' : cmpD f' g' y w with
            | none => rw [e'] at p3; exact p3.elim
            | some k' =>
              rw [e'] at p3
              exact cmpD_ok e' (k2'.dv h4.le) (DR.dv k4 h4.le) (q (.d (.bl k')) A3 (.bl k') H3 p3 ⟨t4, S4, ρ4, h3.back h4, s4, DR.bl _⟩)
          · exact p3.elim
    · exact p2.elim
  · exact p1.elim
theorem de_chain {op op' : CmpOp} {ta tb tc : TE} {f f' : Int → Int → Bool} {g g' : Tx → Tx → Bool} {pa pb pc : PTE} (ho : OpR X (compareOp op) (rCmpA f g)) (ho' : OpR X (compareOp op') (rCmpA f' g')) (ha : DE X E a ta pa) (hb : DE X E b tb pb) (hc : DE X E c tc pc)
    (hm : lastMarks [op, op'] [b, c] = false := by with_unfolding_all rfl) : DE X E (.Compare a [op, op'] [b, c] pos) (tChain (rCmpA f g) (rCmpA f' g') ta tb tc) (pChain f g f' g' pa pb pc) := ⟨pe_chain ho ho' ha.pe hb.pe hc.pe hm, sim_chain ha.sim hb.sim hc.sim⟩
theorem dt_chain {op op' : CmpOp} {ta tb tc : TE} {f f' : Int → Int → Bool} {g g' : Tx → Tx → Bool} {pa pb pc : PTE} (ho : OpR X (compareOp op) (rCmpA f g)) (ho' : OpR X (compareOp op') (rCmpA f' g')) (ha : DE X E a ta pa) (hb : DE X E b tb pb) (hc : DE X E c tc pc)
    (hm : lastMarks [op, op'] [b, c] = false := by with_unfolding_all rfl) : DT X E (.Compare a [op, op'] [b, c] pos) (tTest (tChain (rCmpA f g) (rCmpA f' g') ta tb tc)) (pTest (pChain f g f' g' pa pb pc)) := ⟨pt_chain ho ho' ha.pe hb.pe hc.pe hm, sim_test (sim_chain ha.sim hb.sim hc.sim)⟩

/-! ### truth of a value that is no bool -/
def truD : D → Option Bool
  | .non => some false
  | .bl b => some b
  | .int i => some (i != 0)
  | .lst xs => some (!xs.isEmpty)
  | .tup xs => some (!xs.isEmpty)
  | _ => none
def pTru (p : PTE) : PTT := fun A P Y => p A (fun y A1 => match view A1.M y with
  | some x => (match truD x with
    | some b => P b A1
    | none => False)
  | none => False) Y
theorem DRs.nil_iff {K : PySem.W.Frag} {H : Hp} {vs : List V} {ds : List D} (h : DRs K H vs ds) : vs.isEmpty = ds.isEmpty := by
  have := h.length
  cases vs <;> cases ds <;> simp_all
def tTru (K : PySem.W.Frag) (t : TE) : TT := fun σ H Q => t σ H fun x H' => ∃ k, TruV K x H' k ∧ Q k H'
theorem dt_tru {t : TE} {p : PTE} (h : DE X E a t p) (he : ∀ whole, isTrue a X.env whole = (do let v ← whole; standAt a.pos; holding [v] (truthy v)) := by intro _; rfl) : DT X E a (tTru X.K t) (pTru p) := by
  obtain ⟨h1, h2⟩ := h
  refine ⟨pt_truth h1 he, fun B σ H A P Y Q rel k q xq => ?_⟩
  refine h2 B σ H A _ Y _ rel k (fun y A1 v H1 p1 r1 => ?_) xq
  split at p1
  · rename_i x ex
    obtain ⟨t, S, ρ, h, s, kk⟩ := id r1
    have dv := (Now.mk h s).view kk ex
    cases eb : truD x with
    | none => rw [eb] at p1; exact p1.elim
    | some b =>
      rw [eb] at p1
      refine ⟨b, ?_, q b A1 H1 p1 r1.rel⟩
      cases x with
      | non => cases dv; cases eb; rfl
      | bl b => cases dv; cases eb; rfl
      | int i => cases dv; cases eb; rfl
      | lst xs =>
        obtain ⟨a, vs, rfl, e1, e2⟩ := dv
        cases eb
        exact .inl ⟨vs, SqL.of e1, by rw [e2.nil_iff]⟩
      | tup xs =>
        obtain ⟨a, vs, rfl, e1, e2⟩ := dv
        cases eb
        exact .inr (.inl ⟨vs, SqT.of e1, by rw [e2.nil_iff]⟩)
      | dic xs => cases eb
      | str l => cases eb
      | dit l => cases eb
      | scr l => cases eb
      | exc l => cases eb
  · exact p1.elim

/-! ### displays -/
def pNil : PTA := fun A P _ => P [] A
def pCons (p : PTE) (q : PTA) : PTA := fun A P Y => p A (fun y A1 => match y.fz with
  | some z => q A1 (fun zs A2 => P (z :: zs) A2) Y
  | none => False) Y
theorem da_nil : DA X E [] tNil pNil := ⟨pa_nil, fun B σ H A P Y Q ⟨t, S, r, h, s⟩ k q _ => q [] A [] H k ⟨t, S, r, ⟨h, s⟩, .nil⟩⟩
theorem RL.ext {K : PySem.W.Frag} {S S' : Hp} {t t' : Nat → Addr} {m m' : Nat} (e : Ext t S m t' S' m') : ∀ {ys : List R} {vs : List V}, RL K S t m ys vs → RL K S' t' m' ys vs
  | _, _, .nil => .nil
  | _, _, .cons h1 h2 h3 => .cons h1 (fun r H => (h2 r H).ext h1 e) (RL.ext e h3)
theorem Rok.free {K : PySem.W.Frag} {S : Hp} {t : Nat → Addr} {m : Nat} {H : Hp} {r : Addr → Lb} {y : R} {v : V} (k : Rok K S r t m H y v) (hy : ∀ o, y ≠ .o o) : ∀ r H, Rok K S r t m H y v := fun r' H' => by
  cases y with
  | d x => exact k
  | p n => exact k
  | o x => exact absurd rfl (hy x)
theorem sim_cons {K : PySem.W.Frag} {te : TE} {ta : TA} {p : PTE} {q : PTA} (h1 : SimE K E te p) (h2 : SimA K E ta q) : SimA K E (tCons te ta) (pCons p q) := fun B σ H A P Y Q rel k c xq => by
  refine h1 B σ H A _ Y _ rel k (fun y A1 v H1 p1 res => ?_) xq
  cases e : y.fz with
  | none => rw [e] at p1; exact p1.elim
  | some z =>
    rw [e] at p1
    obtain ⟨t, S, ρ, h, s, k⟩ := res
    obtain ⟨S1, ρ1, n1, k1, _, _⟩ := Now.fz (x := .non) ⟨h, s⟩ k e
    refine h2 _ σ H1 A1 _ Y _ ⟨t, S1, _, n1.h.rebase, n1.s⟩ p1 (fun zs A2 vs H2 p2 ⟨t2, S2, ρ2, n2, rl⟩ => ?_) (xq.back n1.h)
    exact c (z :: zs) A2 (v :: vs) H2 p2 ⟨t2, S2, ρ2, ⟨n1.h.back n2.h, n2.s⟩, .cons (fz_no e) ((k1.ext (r' := ρ2) (H' := H2) (fz_no e) n2.h.ext).free (fz_no e)) rl⟩
theorem da_cons {e : Expr} {es : List Expr} {t : TE} {u : TA} {p : PTE} {q : PTA} (h : DE X E e t p) (k : DA X E es u q) (hs : starEach (e :: es) X.env = (false, eval e X.env) :: starEach es X.env := by rfl) : DA X E (e :: es) (tCons t u) (pCons p q) := ⟨pa_cons h.pe k.pe hs, sim_cons h.sim k.sim⟩
def dats : List R → Option (List D)
  | [] => some []
  | .d x :: r => (match dats r with
    | some xs => some (x :: xs)
    | none => none)
  | _ :: _ => none
theorem RL.dats {K : PySem.W.Frag} {S : Hp} {t : Nat → Addr} {m : Nat} : ∀ {ys : List R} {vs : List V} {ds : List D}, RL K S t m ys vs → PD.dats ys = some ds → DRs K S vs ds
  | _, _, _, .nil, e => by cases e; exact .nil
  | _, _, _, .cons (y := y) (ys := ys) h1 h2 h3, e => by
    cases y with
    | d x =>
      have e : (match PD.dats ys with
        | some xs => some (x :: xs)
        | none => none) = some _ := e
      cases e' : PD.dats ys with
      | none => rw [e'] at e; cases e
      | some xs =>
        rw [e'] at e
        cases e
        exact .cons (h2 (fun _ => none) (fun _ => none)) (RL.dats h3 e')
    | p n => cases e
    | o x => cases e
def pLst (q : PTA) : PTE := fun A P Y => q A (fun zs A1 => match dats zs with
  | some ds => ds.length ≤ 16777216 ∧ P (.o (.lst ds)) A1
  | none => False) Y
def pTup (q : PTA) : PTE := fun A P Y => q A (fun zs A1 => match dats zs with
  | some ds => ds.length ≤ 16777216 ∧ P (.d (.tup ds)) A1
  | none => False) Y
theorem de_lst {es : List Expr} {t : TA} {q : PTA} (h : DA X E es t q) : DE X E (.List es pos) (tLst t) (pLst q) := by
  obtain ⟨h1, h2⟩ := h
  refine ⟨pe_lst h1, fun B σ H A P Y Q rel k c xq => ?_⟩
  refine h2 B σ H A _ Y _ rel k (fun zs A1 vs H1 p1 ⟨t, S, ρ, n, rl⟩ => ?_) xq
  split at p1
  · rename_i ds ed
    have d := rl.dats ed
    exact ⟨by rw [d.length]; exact p1.1, fun p hp => (n.kont (P := fun y => P y A1) fun y v H' py ry => c y A1 v H' py ry).lst p vs ds hp p1.2 d⟩
  · exact p1.elim
theorem de_tup {es : List Expr} {t : TA} {q : PTA} {k} (h : DA X E es t q) : DE X E (.Tuple es k pos) (tTup t) (pTup q) := by
  obtain ⟨h1, h2⟩ := h
  refine ⟨pe_tup h1, fun B σ H A P Y Q rel k c xq => ?_⟩
  refine h2 B σ H A _ Y _ rel k (fun zs A1 vs H1 p1 ⟨t, S, ρ, n, rl⟩ => ?_) xq
  split at p1
  · rename_i ds ed
    have d := rl.dats ed
    exact ⟨by rw [d.length]; exact p1.1, fun p hp => (n.kont (P := fun y => P y A1) fun y v H' py ry => c y A1 v H' py ry).tup p vs ds hp p1.2 d⟩
  · exact p1.elim
def pDict0 : PTE := fun A P _ => P (.o (.dic [])) A
def pDict0T : PTE := fun A P _ => P (.o (.dit [])) A
theorem de_dict0 : DE X E (.Dict [] [] pos) tDNewK pDict0 := ⟨pe_dnewK, fun B σ H A P Y Q ⟨t, S, r, h, s⟩ k c _ => fun p hp => (Now.kont (P := fun y => P y A) ⟨h, s⟩ fun y v H' py ry => c y A v H' py ry).dic p [] [] hp k .nil⟩
theorem de_dict0T : DE X E (.Dict [] [] pos) tDNewT pDict0T := ⟨pe_dnewT, fun B σ H A P Y Q ⟨t, S, r, h, s⟩ k c _ => fun p hp => (Now.kont (P := fun y => P y A) ⟨h, s⟩ fun y v H' py ry => c y A v H' py ry).dit p [] [] hp k .nil⟩

/-! ### calls of what is built in -/
def views (M : List (Option O)) : List R → Option (List D)
  | [] => some []
  | y :: r => (match view M y, views M r with
    | some x, some xs => some (x :: xs)
    | _, _ => none)
inductive DVs (K : PySem.W.Frag) (S H : Hp) : List V → List D → Prop
  | nil : DVs K S H [] []
  | cons {v : V} {vs : List V} {d : D} {ds : List D} : DV K S H v d → DVs K S H vs ds → DVs K S H (v :: vs) (d :: ds)
abbrev BN := List D → (R → Prop) → Prop
def SndN (K : PySem.W.Frag) (r : List V → Hp → VK → Prop) (b : BN) : Prop := ∀ (S H : Hp) (xs : List D) (vs : List V) (P : R → Prop) (Q : VK), Le S H → DVs K S H vs xs → b xs P → Kont K S H P Q → r vs H Q
theorem Now.views {K : PySem.W.Frag} {B : Bas} {t : Nat → Addr} {S : Hp} {r : Addr → Lb} {A : Abs} {σ : St} {H : Hp} (n : Now K B t S r A σ H) : ∀ {ys : List R} {vs : List V} {ds : List D}, RL K S t A.M.length ys vs → PD.views A.M ys = some ds → DVs K S H vs ds
  | _, _, _, .nil, e => by cases e; exact .nil
  | _, _, _, .cons (y := y) (ys := ys) h1 h2 h3, e => by
    have e : (match PD.view A.M y, PD.views A.M ys with
      | some x, some xs => some (x :: xs)
      | _, _ => none) = some _ := e
    split at e
    · rename_i x xs e1 e2
      cases e
      exact .cons (n.view (h2 r H) e1) (Now.views n h3 e2)
    · cases e
def pCall (b : BN) (q : PTA) : PTE := fun A P Y => q A (fun zs A1 => match views A1.M zs with
  | some xs => b xs fun z => P z A1
  | none => False) Y
theorem sim_cb {K : PySem.W.Frag} {r : List V → Hp → VK → Prop} {b : BN} {t : TA} {q : PTA} (hs : SndN K r b) (h : SimA K E t q) : SimE K E (tCB r t) (pCall b q) := fun B σ H A P Y Q rel k c xq => by
  refine h B σ H A _ Y _ rel k (fun zs A1 vs H1 p1 ⟨t, S, ρ, n, rl⟩ => ?_) xq
  split at p1
  · rename_i xs e
    exact hs S H1 xs vs _ Q n.h.le (n.views rl e) p1 (n.kont fun y v H' py ry => c y A1 v H' py ry)
  · exact p1.elim
theorem de_cb {t : TA} {x : Str} {p : Pos} {e : Expr} {es : List Expr} {q : PTA} {id : String} {r : List V → Hp → VK → Prop} {b : BN} (hc : CallR X (.builtin id) r) (hs : SndN X.K r b) (hg : Gl X x) (hm : X.mg x = none) (hv : bootBuiltins x = some (.builtin id)) (ha : DA X E (e :: es) t q)
    (hn : x ≠ "__name__" := by decide) (hdb : (x == ("__debug__" : Str)) = false := by decide) (he : starEach (e :: es) X.env = (false, eval e X.env) :: starEach es X.env := by rfl) (hpl : (backTo pos (starEach es X.env)).any (·.1) = false := by rfl) : DE X E (.Call (.Name x p) (e :: es) [] pos) (tCB r t) (pCall b q) := ⟨pe_callB hc hg hm hv ha.pe hn hdb he hpl, sim_cb hs ha.sim⟩
theorem de_cty {t : TA} {x : Str} {p : Pos} {e : Expr} {es : List Expr} {q : PTA} {T : String} {r : List V → Hp → VK → Prop} {b : BN} (hc : CallR X (.type T) r) (hs : SndN X.K r b) (hg : Gl X x) (hm : X.mg x = none) (hv : bootBuiltins x = some (.type T)) (ha : DA X E (e :: es) t q)
    (hn : x ≠ "__name__" := by decide) (hdb : (x == ("__debug__" : Str)) = false := by decide) (he : starEach (e :: es) X.env = (false, eval e X.env) :: starEach es X.env := by rfl) (hpl : (backTo pos (starEach es X.env)).any (·.1) = false := by rfl) : DE X E (.Call (.Name x p) (e :: es) [] pos) (tCB r t) (pCall b q) := ⟨pe_callTy hc hg hm hv ha.pe hn hdb he hpl, sim_cb hs ha.sim⟩
end
end PD

/-! PD, sixth part: what is built in. -/
namespace PD
open PySem L2

section
variable {X : Cx} {E : WX}
/-! ### len -/
def cLen : BN
  | [.str l], P => l.length ≤ 16777216 ∧ P (.d (.int l.length))
  | [.lst xs], P => P (.d (.int xs.length))
  | [.tup xs], P => P (.d (.int xs.length))
  | [.dic xs], P => P (.d (.int xs.length))
  | [.scr xs], P => P (.d (.int xs.length))
  | _, _ => False
def rLenA (K : PySem.W.Frag) : List V → Hp → VK → Prop := fun xs H Q => (∃ x n, xs = [x] ∧ LenV K x H n ∧ Q (.int n) H) ∨ (∃ a kvs, xs = [V.ref a] ∧ Rd H a (.dK kvs) ∧ Q (.int kvs.length) H)
theorem call_lenA : CallR X (.builtin "len") (rLenA X.K) := CallR.or call_len fun pins s σ H xs us Q I r h => by
  obtain ⟨a, kvs, rfl, ha, q⟩ := h
  obtain ⟨u, rfl, ru⟩ := vals1 r
  cases ru
  exact d_len I ha fun t s' I' => ⟨.int kvs.length, H, I', ⟨t, rfl⟩, q⟩
theorem DVs.one {K : PySem.W.Frag} {S H : Hp} {vs : List V} {x : D} (h : DVs K S H vs [x]) : ∃ v, vs = [v] ∧ DV K S H v x := by
  cases h with
  | cons a b => cases b; exact ⟨_, rfl, a⟩
theorem DVs.two {K : PySem.W.Frag} {S H : Hp} {vs : List V} {x y : D} (h : DVs K S H vs [x, y]) : ∃ v w, vs = [v, w] ∧ DV K S H v x ∧ DV K S H w y := by
  cases h with
  | cons a b => cases b with
    | cons b c => cases c; exact ⟨_, _, rfl, a, b⟩
theorem snd_len {K : PySem.W.Frag} : SndN K (rLenA K) cLen := fun S H xs vs P Q le dv b k => by
  unfold cLen at b
  split at b
  · obtain ⟨v, rfl, h⟩ := dv.one
    cases h
    exact .inl ⟨_, _, rfl, ⟨by rw [st_len]; exact b.1, rfl⟩, by rw [st_len]; exact k.dat _ _ b.2 (.int _)⟩
  · obtain ⟨v, rfl, a, ws, rfl, h1, h2⟩ := dv.one
    exact .inl ⟨_, _, rfl, .inl ⟨ws, SqL.of h1, rfl⟩, by rw [h2.length]; exact k.dat _ _ b (.int _)⟩
  · obtain ⟨v, rfl, a, ws, rfl, h1, h2⟩ := dv.one
    exact .inl ⟨_, _, rfl, .inr ⟨ws, SqT.of h1, rfl⟩, by rw [h2.length]; exact k.dat _ _ b (.int _)⟩
  · obtain ⟨v, rfl, a, ws, rfl, h1, h2⟩ := dv.one
    exact .inr ⟨_, _, rfl, h1, by rw [h2.length]; exact k.dat _ _ b (.int _)⟩
  · obtain ⟨v, rfl, a, rfl, h1⟩ := dv.one
    exact .inl ⟨_, _, rfl, .inl ⟨_, h1, rfl⟩, by rw [List.length_map]; exact k.dat _ _ b (.int _)⟩
  · exact b.elim
def cMin2 : BN
  | [.int i, .int j], P => P (.d (.int (if j < i then j else i)))
  | _, _ => False
def cMax2 : BN
  | [.int i, .int j], P => P (.d (.int (if j > i then j else i)))
  | _, _ => False
theorem snd_min2 {K : PySem.W.Frag} : SndN K (fun xs H Q => ∃ i j, xs = [.int i, .int j] ∧ Q (.int (if j < i then j else i)) H) cMin2 := fun S H xs vs P Q le dv b k => by
  unfold cMin2 at b
  split at b
  · obtain ⟨v, w, rfl, h1, h2⟩ := dv.two
    cases h1; cases h2
    exact ⟨_, _, rfl, k.dat _ _ b (.int _)⟩
  · exact b.elim
theorem snd_max2 {K : PySem.W.Frag} : SndN K (fun xs H Q => ∃ i j, xs = [.int i, .int j] ∧ Q (.int (if j > i then j else i)) H) cMax2 := fun S H xs vs P Q le dv b k => by
  unfold cMax2 at b
  split at b
  · obtain ⟨v, w, rfl, h1, h2⟩ := dv.two
    cases h1; cases h2
    exact ⟨_, _, rfl, k.dat _ _ b (.int _)⟩
  · exact b.elim
def cInt : BN
  | [.int i], P => P (.d (.int i))
  | [.bl b], P => P (.d (.int (if b then 1 else 0)))
  | _, _ => False
theorem snd_int {K : PySem.W.Frag} : SndN K (fun xs H Q => (∃ i, xs = [.int i] ∧ Q (.int i) H) ∨ ∃ k, xs = [.bl k] ∧ Q (.int (if k then 1 else 0)) H) cInt := fun S H xs vs P Q le dv b k => by
  unfold cInt at b
  split at b
  · obtain ⟨v, rfl, h1⟩ := dv.one
    cases h1
    exact .inl ⟨_, rfl, k.dat _ _ b (.int _)⟩
  · obtain ⟨v, rfl, h1⟩ := dv.one
    cases h1
    exact .inr ⟨_, rfl, k.dat _ _ b (.int _)⟩
  · exact b.elim
/-! ### list(..) -/
def cList : BN
  | [.lst xs], P => P (.o (.lst xs))
  | [.tup xs], P => P (.o (.lst xs))
  | _, _ => False
theorem snd_list {K : PySem.W.Frag} : SndN K (fun xs H Q => ∃ p ys, xs = [.ref p] ∧ (SqL K H p ys ∨ SqT K H p ys) ∧ ∀ l, H l = none → Q (.ref l) (upd H l (.lst ys))) cList := fun S H xs vs P Q le dv b k => by
  unfold cList at b
  split at b
  · obtain ⟨v, rfl, a, ws, rfl, h1, h2⟩ := dv.one
    exact ⟨a, ws, rfl, .inl (SqL.of h1), fun l hl => k.lst l ws _ hl b h2⟩
  · obtain ⟨v, rfl, a, ws, rfl, h1, h2⟩ := dv.one
    exact ⟨a, ws, rfl, .inr (SqT.of h1), fun l hl => k.lst l ws _ hl b h2⟩
  · exact b.elim
/-! ### dict(..) -/
def kD : Kd → D
  | .inl i => .int i
  | .inr l => .str l
def pairD (p : Kd × D) : D := .tup [kD p.1, p.2]
def putD (kvs : List (Kd × D)) (k : Kd) (x : D) : List (Kd × D) := if hasK kvs k = true then kvs.map (fun p => if p.1 = k then (p.1, x) else p) else kvs ++ [(k, x)]
def mergeD (kvs more : List (Kd × D)) : List (Kd × D) := more.foldl (fun acc p => putD acc p.1 p.2) kvs
theorem DRk.any {K : PySem.W.Frag} {S : Hp} {k : Kd} : ∀ {vs : List (Key × V)} {ds : List (Kd × D)}, DRk K S vs ds → (vs.any fun kv => decide (kv.1 = kd k)) = hasK ds k
  | _, _, .nil => rfl
  | _, _, .cons (k := j) r t => by
    simp only [hasK, List.any_cons]
    have ih := DRk.any (k := k) t
    simp only [hasK] at ih
    rw [ih]
    by_cases e : j = k
    · subst e; simp
    · have : ¬ kd j = kd k := fun q => e (kd_inj q)
      simp [e, this]
theorem DRk.append {K : PySem.W.Frag} {S : Hp} : ∀ {vs ws : List (Key × V)} {ds es : List (Kd × D)}, DRk K S vs ds → DRk K S ws es → DRk K S (vs ++ ws) (ds ++ es)
  | _, _, _, _, .nil, h => h
  | _, _, _, _, .cons r t, h => .cons r (DRk.append t h)
theorem DRk.repl {K : PySem.W.Frag} {S : Hp} {k : Kd} {v : V} {x : D} (r : DR K S v x) : ∀ {vs : List (Key × V)} {ds : List (Kd × D)}, DRk K S vs ds →
    DRk K S (vs.map fun kv => if kv.1 = kd k then (kv.1, v) else kv) (ds.map fun p => if p.1 = k then (p.1, x) else p)
  | _, _, .nil => .nil
  | _, _, .cons (k := j) q t => by
    rw [List.map_cons, List.map_cons]
    by_cases e : j = k
    · subst e
      simp only [if_true]
      exact .cons r (DRk.repl r t)
    · have e' : ¬ kd j = kd k := fun q => e (kd_inj q)
      simp only [if_neg e, if_neg e']
      exact .cons q (DRk.repl r t)
theorem DRk.put {K : PySem.W.Frag} {S : Hp} {k : Kd} {v : V} {x : D} {vs : List (Key × V)} {ds : List (Kd × D)} (h : DRk K S vs ds) (r : DR K S v x) : DRk K S (putK vs (kd k) v) (putD ds k x) := by
  unfold putK putD
  rw [h.any (k := k)]
  by_cases e : hasK ds k = true
  · rw [if_pos e, if_pos e]
    exact h.repl r
  · rw [if_neg e, if_neg e]
    exact h.append (.cons r .nil)
theorem DRk.merge {K : PySem.W.Frag} {S : Hp} : ∀ {ws : List (Key × V)} {es : List (Kd × D)} {vs : List (Key × V)} {ds : List (Kd × D)}, DRk K S ws es → DRk K S vs ds → DRk K S (mergeK vs ws) (mergeD ds es)
  | _, _, vs, ds, .nil, h => h
  | _, _, vs, ds, .cons (k := k) r t, h => by
    have := DRk.merge t (h.put (k := k) r)
    exact this
theorem kV_kd : ∀ {k : Kd} {v : V} {K : PySem.W.Frag} {S : Hp}, DR K S v (kD k) → v = kV (kd k)
  | .inl i, _, _, _, h => h.int_of
  | .inr l, _, _, _, h => h.str_of
theorem prs_of {K : PySem.W.Frag} {S H : Hp} (le : Le S H) : ∀ {prs : List (Kd × D)} {vs : List V}, DRs K S vs (prs.map pairD) → ∃ (ps : List Addr) (kvs : List (Key × V)), vs = ps.map V.ref ∧ Paired (fun p kv => SqT K H p [kV kv.1, kv.2]) ps kvs ∧ DRk K S kvs prs
  | [], _, h => by
    cases h
    exact ⟨[], [], rfl, .nil, .nil⟩
  | (k, d) :: prs, _, h => by
    cases h with
    | cons a b =>
      obtain ⟨p, vs, rfl, h1, h2⟩ := a.tup_of
      cases h2 with
      | cons c e =>
        cases e with
        | cons e f =>
          cases f
          obtain ⟨ps, kvs, rfl, g1, g2⟩ := prs_of le b
          refine ⟨p :: ps, (kd k, _) :: kvs, rfl, .cons ?_ g1, .cons e g2⟩
          have := kV_kd c
          subst this
          exact SqT.of (le.tup h1)
def cDict : BN
  | [.dic kvs], P => P (.o (.dic kvs))
  | [.lst xs], P => ∃ prs : List (Kd × D), xs = prs.map pairD ∧ P (.o (.dic (mergeD [] prs)))
  | _, _ => False
def rDictA (K : PySem.W.Frag) : List V → Hp → VK → Prop := fun xs H Q => (∃ (a : Addr) (kvs : List (Key × V)), xs = [.ref a] ∧ Rd H a (.dK kvs) ∧ ∀ p, H p = none → Q (.ref p) (upd H p (.dK kvs))) ∨
  (∃ (a : Addr) (ps : List Addr) (kvs : List (Key × V)), xs = [.ref a] ∧ SqL K H a (ps.map V.ref) ∧ Paired (fun p kv => SqT K H p [kV kv.1, kv.2]) ps kvs ∧ ∀ p, H p = none → Q (.ref p) (upd H p (.dK (mergeK [] kvs))))
theorem call_dictA (hc : X.calm = true) : CallR X (.type "dict") (rDictA X.K) := CallR.or call_dictD (call_dictP hc)
theorem snd_dict {K : PySem.W.Frag} : SndN K (rDictA K) cDict := fun S H xs vs P Q le dv b k => by
  unfold cDict at b
  split at b
  · obtain ⟨v, rfl, a, ws, rfl, h1, h2⟩ := dv.one
    exact .inl ⟨a, ws, rfl, h1, fun p hp => k.dic p _ _ hp b h2⟩
  · obtain ⟨v, rfl, a, ws, rfl, h1, h2⟩ := dv.one
    obtain ⟨prs, rfl, b⟩ := b
    obtain ⟨ps, kvs, rfl, g1, g2⟩ := prs_of le h2
    exact .inr ⟨a, ps, kvs, rfl, SqL.of h1, g1, fun p hp => k.dic p _ _ hp b (g2.merge .nil)⟩
  · exact b.elim
/-! ### isinstance(.., T) -/
def tyn : D → String
  | .non => "NoneType"
  | .bl _ => "bool"
  | .int _ => "int"
  | .str _ => "str"
  | .lst _ => "list"
  | .tup _ => "tuple"
  | .dic _ => "dict"
  | .dit _ => "dict"
  | .scr _ => "list"
  | .exc _ => "ValueError"
def isiB (a T : String) : Bool := a == T || (a == "bool" && T == "int")
def okT : List String := ["int", "bool", "str", "list", "tuple", "dict"]
theorem kit_all : ∀ a ∈ ["NoneType", "bool", "int", "str", "list", "tuple", "dict"], ∀ T ∈ okT, kitB a T = some (isiB a T) := by decide +kernel
def plainD : D → Bool
  | .scr _ => false
  | .exc _ => false
  | .dit _ => false
  | _ => true
theorem tyn_mem {x : D} (h : plainD x = true) : tyn x ∈ ["NoneType", "bool", "int", "str", "list", "tuple", "dict"] := by cases x <;> simp_all [tyn, plainD]
def pIsi (T : String) (p : PTE) : PTE := fun A P Y => p A (fun y A1 => match view A1.M y with
  | some x => P (.d (.bl (isiB (tyn x) T))) A1
  | none => False) Y
theorem ty_frzT {K : PySem.W.Frag} {H : Hp} {a : Addr} {kvs : List (List Key × V)} (h : Rd H a (.dT kvs)) (hn : ∀ o, H a ≠ some (.frz o (.dT kvs))) : TyX K H (.ref a) (.type "dict") := by
  rcases h with h | ⟨o, h⟩
  · exact .base (.dT h)
  · exact absurd h (hn o)
theorem DV.ty {K : PySem.W.Frag} {S H : Hp} {v : V} {x : D} (h : DV K S H v x) (hs : plainD x = true) : TyX K H v (.type (tyn x)) := by
  cases x with
  | non => cases h; exact .base .non
  | bl b => cases h; exact .base (.bl b)
  | int i => cases h; exact .base (.int i)
  | str l => cases h; exact .base (.str _)
  | lst ds => obtain ⟨a, vs, rfl, h1, h2⟩ := h; exact .base (.lst h1)
  | tup ds => obtain ⟨a, vs, rfl, h1, h2⟩ := h; exact .base (.tup h1)
  | dic ds =>
    obtain ⟨a, vs, rfl, h1, h2⟩ := h
    rcases h1 with h1 | ⟨o, h1⟩
    · exact .base (.dK h1)
    · exact .fDict h1
  | dit ds => cases hs
  | scr ns => cases hs
  | exc ns => cases hs
def pIsiP (T : String) (p : PTE) : PTE := fun A P Y => p A (fun y A1 => match view A1.M y with
  | some x => plainD x = true ∧ P (.d (.bl (isiB (tyn x) T))) A1
  | none => False) Y
theorem de_isi {t : TE} {T : String} {e : Expr} {p : PTE} {x y : Str} {p1 p2 pos : Pos} (h : DE X E e t p) (hT : T ∈ okT) (hg : Gl X x) (hm : X.mg x = none) (hv : bootBuiltins x = some (.builtin "isinstance")) (hg2 : Gl X y) (hm2 : X.mg y = none) (hv2 : bootBuiltins y = some (.type T))
    (hn2 : y ≠ "__name__" := by decide) (hd2 : (y == ("__debug__" : Str)) = false := by decide)
    (hn : x ≠ "__name__" := by decide) (hdb : (x == ("__debug__" : Str)) = false := by decide) (he : starEach [e, .Name y p2] X.env = (false, eval e X.env) :: starEach [.Name y p2] X.env := by rfl) (hpl : (backTo pos (starEach [.Name y p2] X.env)).any (·.1) = false := by rfl)
    (he2 : starEach [.Name y p2] X.env = (false, eval (.Name y p2) X.env) :: starEach [] X.env := by rfl) : DE X E (.Call (.Name x p1) [e, .Name y p2] [] pos) (tCB (rIsi X.K) (tCons t (tCons (tC (.ty T)) tNil))) (pIsiP T p) := by
  obtain ⟨h1, h2⟩ := h
  refine ⟨pe_callB call_isi hg hm hv (pa_cons h1 (pa_cons (pe_bltn (v := .ty T) hg2 hm2 hv2 rfl hn2 hd2) pa_nil he2) he) hn hdb he hpl, fun B σ H A P Y Q rel k c xq => ?_⟩
  refine h2 B σ H A _ Y _ rel k (fun y A1 v H1 p1 r1 => ?_) xq
  split at p1
  · rename_i z ez
    obtain ⟨t, S, ρ, hh, ss, kk⟩ := id r1
    have dv := (Now.mk hh ss).view kk ez
    have ty := dv.ty p1.1
    exact ⟨v, .ty T, _, _, _, rfl, .ty T, ty, kit_ty (kit_all _ (tyn_mem p1.1) _ hT), c _ A1 _ H1 p1.2 (r1.rel.res fun _ => .bl _)⟩
  · exact p1.elim
/-! ### ''.join -/
def strsD : List D → Option (List Tx)
  | [] => some []
  | .str l :: r => (match strsD r with
    | some ls => some (l :: ls)
    | none => none)
  | _ :: _ => none
theorem strsD_map : ∀ ws : List Tx, strsD (ws.map D.str) = some ws
  | [] => rfl
  | w :: r => by simp only [List.map_cons, strsD, strsD_map r]
theorem strsD_of : ∀ {ds : List D} {ls : List Tx}, strsD ds = some ls → ds = ls.map D.str
  | [], ls, h => by cases h; rfl
  | .str l :: r, ls, h => by
    have h : (match strsD r with
      | some ls => some (l :: ls)
      | none => none) = some ls := h
    cases e : strsD r with
    | none => rw [e] at h; cases h
    | some ls' =>
      rw [e] at h
      cases h
      rw [strsD_of e]
      rfl
  | .non :: r, ls, h => by cases h
  | .bl _ :: r, ls, h => by cases h
  | .int _ :: r, ls, h => by cases h
  | .lst _ :: r, ls, h => by cases h
  | .tup _ :: r, ls, h => by cases h
  | .dic _ :: r, ls, h => by cases h
  | .dit _ :: r, ls, h => by cases h
  | .scr _ :: r, ls, h => by cases h
  | .exc _ :: r, ls, h => by cases h
theorem len_map_st (ws : List Tx) : ((ws.map st).map (·.length)).sum = (ws.map List.length).sum := by
  rw [List.map_map]
  have e : ((fun x : Str => x.length) ∘ st) = List.length := funext fun l => st_len l
  rw [e]
theorem map_tl_st (ws : List Tx) : (ws.map st).map TL.tl = ws := by
  rw [List.map_map]
  have : (TL.tl ∘ st) = id := funext fun l => st_tl l
  rw [this, List.map_id]
theorem join_st (a : Tx) (ws : List Tx) : Txt.join (st a) (ws.map st) = st (TL.joinL a ws) := by
  rw [TL.join_eq]
  apply TL.ext_tl
  rw [TL.tl_join, map_tl_st]
  show TL.joinL (st a).cps.toList ws = (st _).cps.toList
  rw [st_tl, st_tl]
/-- a method of a text with one argument: the receiver's text first -/
def pM1 (b : Tx → D → (R → Prop) → Prop) (pa pb : PTE) : PTE := fun A P Y => pa A (fun y1 A1 => match y1 with
  | .d (.str a) => pb A1 (fun y2 A2 => match view A2.M y2 with
    | some x => b a x fun z => P z A2
    | none => False) Y
  | _ => False) Y
def Snd1 (K : PySem.W.Frag) (r : V → List V → Hp → VK → Prop) (b : Tx → D → (R → Prop) → Prop) : Prop := ∀ (S H : Hp) (a : Tx) (x : D) (v : V) (P : R → Prop) (Q : VK), Le S H → DV K S H v x → b a x P → Kont K S H P Q → r (.str (st a)) [v] H Q
theorem sim_m1 {K : PySem.W.Frag} {r : V → List V → Hp → VK → Prop} {b : Tx → D → (R → Prop) → Prop} {ta tb : TE} {pa pb : PTE} (hr : Snd1 K r b) (ha : SimE K E ta pa) (hb : SimE K E tb pb) : SimE K E (tM1 r ta tb) (pM1 b pa pb) := fun B σ H A P Y Q rel p q xq => by
  refine ha B σ H A _ Y _ rel p (fun y1 A1 v1 H1 p1 res => ?_) xq
  split at p1
  · rename_i a
    obtain ⟨t, S, ρ, h, s, k⟩ := res
    cases DR.str_of k
    refine ⟨⟨_, rfl⟩, hb _ σ H1 A1 _ Y _ ⟨t, S, _, h.rebase, s⟩ p1 (fun y2 A2 v2 H2 p2 res2 => ?_) (xq.back h)⟩
    obtain ⟨t2, S2, ρ2, h2, s2, k2⟩ := res2
    have n2 : Now K B t2 S2 ρ2 A2 σ H2 := ⟨h.back h2, s2⟩
    split at p2
    · rename_i x ex
      exact hr S2 H2 a x v2 _ Q n2.h.le (n2.view k2 ex) p2 (n2.kont fun z v H' pz rz => q z A2 v H' pz rz)
    · exact p2.elim
  · exact p1.elim
theorem de_m1 {ta tb : TE} {id : String} {name : Str} {o e : Expr} {pa pb : PTE} {apos pos : Pos} {r : V → List V → Hp → VK → Prop} {b : Tx → D → (R → Prop) → Prop} (slot : Slot "str" name id) (ty : typeOf (.builtin id) = pure (.type "method_descriptor")) (rule : MtR X id r) (hr : Snd1 X.K r b)
    (ha : DE X E o ta pa) (hb : DE X E e tb pb) (hs : starEach [e] X.env = [(false, eval e X.env)] := by rfl) (hbase : attributeBase o name X.env (eval o X.env) = eval o X.env := by rfl) (hline : (apos.endLine == pos.line) = true := by rfl) :
    DE X E (.Call (.Attribute o name apos) [e] [] pos) (tM1 r ta tb) (pM1 b pa pb) := ⟨pe_m1 slot ty rule ha.pe hb.pe hs hbase hline, sim_m1 hr ha.sim hb.sim⟩
def bJoin (a : Tx) : D → (R → Prop) → Prop
  | .lst xs, P => ∃ ws : List Tx, xs = ws.map D.str ∧ (ws.map List.length).sum + ws.length * a.length ≤ 16777216 ∧ P (.d (.str (TL.joinL a ws)))
  | _, _ => False
def rJoin (K : PySem.W.Frag) : V → List V → Hp → VK → Prop := fun x xs H Q => ∃ a p, ∃ ys : List Str, x = .str a ∧ xs = [.ref p] ∧ (SqL K H p (ys.map V.str) ∨ SqT K H p (ys.map V.str)) ∧
    (ys.map (·.length)).sum + ys.length * a.length ≤ 16777216 ∧ Q (.str (Txt.join a ys)) H
theorem snd_join {K : PySem.W.Frag} : Snd1 K (rJoin K) bJoin := fun S H a x v P Q le dv b k => by
  unfold bJoin at b
  split at b
  · obtain ⟨p, vs, rfl, h1, h2⟩ := dv
    obtain ⟨ws, rfl, hl, b⟩ := b
    have e := h2.strs_of
    subst e
    refine ⟨_, p, ws.map st, rfl, rfl, .inl (SqL.of h1), by rw [len_map_st, st_len, List.length_map]; exact hl, ?_⟩
    rw [join_st]
    exact k.dat _ _ b (.str _)
  · exact b.elim
theorem de_join {ta tb : TE} {o e : Expr} {pa pb : PTE} {apos pos : Pos} (ha : DE X E o ta pa) (hb : DE X E e tb pb) (hs : starEach [e] X.env = [(false, eval e X.env)] := by rfl) (hbase : attributeBase o "join" X.env (eval o X.env) = eval o X.env := by rfl) (hline : (apos.endLine == pos.line) = true := by rfl) :
    DE X E (.Call (.Attribute o "join" apos) [e] [] pos) (tM1 (rJoin X.K) ta tb) (pM1 bJoin pa pb) := ⟨pe_join ha.pe hb.pe hs hbase hline, sim_m1 snd_join ha.sim hb.sim⟩

/-! ### items and slices -/
def bIx : B2
  | .lst xs, .int i, P => ∃ d, atI xs i = some d ∧ P (.d d)
  | .tup xs, .int i, P => ∃ d, atI xs i = some d ∧ P (.d d)
  | .str l, .int i, P => l.length ≤ 16777216 ∧ ∃ c, atI l i = some c ∧ P (.d (.str [c]))
  | .scr ns, .int i, P => ∃ n, atI ns i = some n ∧ P (.d (.int n))
  | .dic kvs, .int i, P => ∃ d, getK kvs (.inl i) = some d ∧ P (.d d)
  | .dic kvs, .str l, P => ∃ d, getK kvs (.inr l) = some d ∧ P (.d d)
  | _, _, _ => False
def rIxDk : R2 := fun x y H Q => ∃ p kvs k v, x = .ref p ∧ y = kV k ∧ Rd H p (.dK kvs) ∧ valV kvs k = some v ∧ Q v H
theorem ix_dk (hu : X.A.units + 1 < cLine) : IxR X rIxDk := by
  intro value slice pins s σ H x y v u Q I rx ry h hs
  obtain ⟨p, kvs, k, r, rfl, rfl, hd, e, q⟩ := h
  obtain rfl : v = Value.ref p := rx
  obtain ⟨z, lo, vs, rel, dd⟩ := dk_rd I.hok hd
  exact PyProof.Rows.tail_any dd.typeIs PySem.F.slot_dict_getitem.lookup (d_getItem hu I (.inl ⟨kvs, k, hd, rfl, e.symm⟩) ry fun w' s' I' r' => ⟨r, H, I', r', q⟩) hs
def rIxA (K : PySem.W.Frag) : R2 := fun x y H Q => rIx K x y H Q ∨ rIxDk x y H Q
theorem ix_A (hu : X.A.units + 1 < cLine) : IxR X (rIxA X.K) := IxR.or ix_seq (ix_dk hu)
theorem atI_map {α β : Type} (f : α → β) {xs : List α} {i : Int} {x : α} (h : atI xs i = some x) : atI (xs.map f) i = some (f x) := by
  unfold atI at h ⊢
  rw [List.length_map]
  cases e : ixN xs.length i with
  | none => rw [e] at h; cases h
  | some j =>
    rw [e] at h
    have h : xs[j]? = some x := h
    show (xs.map f)[j]? = some (f x)
    rw [List.getElem?_map, h]
    rfl
theorem atI_drs {K : PySem.W.Frag} {S : Hp} {vs : List V} {ds : List D} {i : Int} {d : D} (h : DRs K S vs ds) (e : atI ds i = some d) : ∃ v, atI vs i = some v ∧ DR K S v d := by
  unfold atI at e ⊢
  rw [h.length]
  cases q : ixN ds.length i with
  | none => rw [q] at e; cases e
  | some j =>
    rw [q] at e
    exact h.get' (i := j) e
theorem snd_ix {K : PySem.W.Frag} : Snd2 K (rIxA K) bIx := fun S H x y v w P Q le dv dw b k => by
  unfold bIx at b
  split at b
  · obtain ⟨a, vs, rfl, h1, h2⟩ := dv
    cases dw
    obtain ⟨d, e, b⟩ := b
    obtain ⟨u, e1, e2⟩ := atI_drs h2 e
    exact .inl (.inl ⟨a, vs, _, u, rfl, rfl, SqL.of h1, e1, k.dat _ _ b e2⟩)
  · obtain ⟨a, vs, rfl, h1, h2⟩ := dv
    cases dw
    obtain ⟨d, e, b⟩ := b
    obtain ⟨u, e1, e2⟩ := atI_drs h2 e
    exact .inl (.inr (.inl ⟨a, vs, _, u, rfl, rfl, SqT.of h1, e1, k.dat _ _ b e2⟩))
  · cases dv; cases dw
    obtain ⟨hl, c, e, b⟩ := b
    refine .inl (.inr (.inr ⟨_, _, c, rfl, rfl, by rw [st_len]; exact hl, by rw [st_tl]; exact e, ?_⟩))
    exact k.dat _ _ b (.str [c])
  · obtain ⟨a, rfl, h1⟩ := dv
    cases dw
    obtain ⟨n, e, b⟩ := b
    exact .inl (.inl ⟨a, _, _, _, rfl, rfl, h1, atI_map V.int e, k.dat _ _ b (.int n)⟩)
  · obtain ⟨a, vs, rfl, h1, h2⟩ := dv
    cases dw
    obtain ⟨d, e, b⟩ := b
    rcases h2.val (k := .inl _) with ⟨g1, g2⟩ | ⟨u, d', g1, g2, g3⟩
    · rw [e] at g2; cases g2
    · rw [e] at g2
      cases g2
      exact .inr ⟨a, vs, kd (.inl _), u, rfl, rfl, h1, g1, k.dat _ _ b g3⟩
  · obtain ⟨a, vs, rfl, h1, h2⟩ := dv
    cases dw
    obtain ⟨d, e, b⟩ := b
    rcases h2.val (k := .inr _) with ⟨g1, g2⟩ | ⟨u, d', g1, g2, g3⟩
    · rw [e] at g2; cases g2
    · rw [e] at g2
      cases g2
      exact .inr ⟨a, vs, kd (.inr _), u, rfl, rfl, h1, g1, k.dat _ _ b g3⟩
  · exact b.elim
theorem de_ix {ta tb : TE} {a b : Expr} {pa pb : PTE} {pos : Pos} (hu : X.A.units + 1 < cLine) (ha : DE X E a ta pa) (hb : DE X E b tb pb) (hs : PlainIx b) : DE X E (.Subscript a b pos) (tOp (rIxA X.K) ta tb) (pOp2 bIx pa pb) := ⟨pe_ix (ix_A hu) ha.pe hb.pe hs, sim_op2 snd_ix ha.sim hb.sim⟩
def cutL {α : Type} (xs : List α) (lo hi : Option Int) : List α := (xs.drop (HT.sIx xs.length 0 lo)).take (HT.sIx xs.length xs.length hi - HT.sIx xs.length 0 lo)
def bSl (lo hi : Option Int) : D → (R → Prop) → Prop
  | .str l, P => l.length ≤ 16777216 ∧ P (.d (.str (cutL l lo hi)))
  | .lst xs, P => P (.o (.lst (cutL xs lo hi)))
  | .scr ns, P => P (.o (.lst ((cutL ns lo hi).map D.int)))
  | _, _ => False
abbrev PTO := Abs → (Option Int → Abs → Prop) → PX → Prop
def SimO (K : PySem.W.Frag) (E : WX) (t : TO) (p : PTO) : Prop := ∀ (B : Bas) (σ : St) (H : Hp) (A : Abs) (P : Option Int → Abs → Prop) (Y : PX) (Q : Option Int → Hp → Prop),
  Rel K B A σ H → p A P Y → (∀ o A' H', P o A' → Rel K B A' σ H' → Q o H') → XQ K B E σ Y → t σ H Q
structure DO (X : Cx) (E : WX) (e : Option Expr) (t : TO) (p : PTO) : Prop where
  pe : PO X e t
  sim : SimO X.K E t p
def pNo : PTO := fun A P _ => P none A
def pPart (p : PTE) : PTO := fun A P Y => p A (fun y A1 => match y with
  | .d (.int i) => P (some i) A1
  | _ => False) Y
theorem do_no : DO X E none tNoPart pNo := ⟨po_none, fun B σ H A P Y Q rel k q _ => q none A H k rel⟩
theorem do_some {t : TE} {e : Expr} {p : PTE} (h : DE X E e t p) : DO X E (some e) (tPart t) (pPart p) := by
  obtain ⟨h1, h2⟩ := h
  refine ⟨po_some h1, fun B σ H A P Y Q rel k q xq => ?_⟩
  refine h2 B σ H A _ Y _ rel k (fun y A1 v H1 p1 r1 => ?_) xq
  split at p1
  · rename_i i
    obtain ⟨t, S, r, h, s, kk⟩ := id r1
    cases DR.int_of kk
    exact ⟨i, rfl, q _ A1 H1 p1 r1.rel⟩
  · exact p1.elim
def pSl (pa : PTE) (pl ph : PTO) : PTE := fun A P Y => pa A (fun y1 A1 => match y1.fz with
  | some z1 => pl A1 (fun l A2 => ph A2 (fun h A3 => match view A3.M z1 with
    | some x => bSl l h x fun z => P z A3
    | none => False) Y) Y
  | none => False) Y
def rSlA (K : PySem.W.Frag) : V → Option Int → Option Int → Hp → VK → Prop := fun x lo hi H Q => rSlS x lo hi H Q ∨ rSlL K x lo hi H Q
theorem sl_A : SlR X (rSlA X.K) := SlR.or sl_str sl_list
theorem DRs.cut {K : PySem.W.Frag} {S : Hp} {vs : List V} {ds : List D} (h : DRs K S vs ds) (lo hi : Option Int) : DRs K S (cutV vs lo hi) (cutL ds lo hi) := by
  unfold cutV cutL
  rw [h.length]
  exact (h.drop _).take _
theorem cut_map {α β : Type} (f : α → β) (xs : List α) (lo hi : Option Int) : cutL (xs.map f) lo hi = (cutL xs lo hi).map f := by
  unfold cutL
  rw [List.length_map, ← List.map_drop, ← List.map_take]
theorem cutS_st (l : Tx) (lo hi : Option Int) : cutS (st l) lo hi = st (cutL l lo hi) := by
  unfold cutS cutL
  rw [st_len, st_tl]
  rfl
theorem snd_sl {K : PySem.W.Frag} {S H : Hp} {lo hi : Option Int} {x : D} {v : V} {P : R → Prop} {Q : VK} (le : Le S H) (dv : DV K S H v x) (b : bSl lo hi x P) (k : Kont K S H P Q) : rSlA K v lo hi H Q := by
  unfold bSl at b
  split at b
  · cases dv
    refine .inl ⟨_, rfl, by rw [st_len]; exact b.1, ?_⟩
    rw [cutS_st]
    exact k.dat _ _ b.2 (.str _)
  · obtain ⟨a, vs, rfl, h1, h2⟩ := dv
    exact .inr ⟨a, vs, rfl, SqL.of h1, fun p hp => k.lst p _ _ hp b (h2.cut lo hi)⟩
  · rename_i ns
    obtain ⟨a, rfl, h1⟩ := dv
    refine .inr ⟨a, _, rfl, h1, fun p hp => k.lst p _ _ hp b ?_⟩
    have e : cutV (ns.map V.int) lo hi = (cutL ns lo hi).map V.int := by
      show cutL (ns.map V.int) lo hi = _
      exact cut_map V.int ns lo hi
    rw [e]
    exact DRs.ints
  · exact b.elim
theorem de_sl {ta : TE} {tl th : TO} {e : Expr} {lo hi : Option Expr} {pa : PTE} {pl ph : PTO} {pos p2 : Pos} (ha : DE X E e ta pa) (hl : DO X E lo tl pl) (hh : DO X E hi th ph) : DE X E (.Subscript e (.Slice lo hi none p2) pos) (tSl (rSlA X.K) ta tl th) (pSl pa pl ph) := by
  obtain ⟨h1, h2⟩ := ha
  obtain ⟨h3, h4⟩ := hl
  obtain ⟨h5, h6⟩ := hh
  refine ⟨pe_slice sl_A h1 h3 h5, fun B σ H A P Y Q rel p q xq => ?_⟩
  refine h2 B σ H A _ Y _ rel p (fun y1 A1 v1 H1 p1 res => ?_) xq
  cases e1 : y1.fz with
  | none => rw [e1] at p1; exact p1.elim
  | some z1 =>
    rw [e1] at p1
    obtain ⟨t, S, ρ, h, s, k⟩ := res
    obtain ⟨S1, ρ1, n1, k1, _, _⟩ := Now.fz (x := .non) ⟨h, s⟩ k e1
    refine h4 _ σ H1 A1 _ Y _ ⟨t, S1, _, n1.h.rebase, n1.s⟩ p1 (fun l A2 H2 p2 ⟨t2, S2, ρ2, g2, s2⟩ => ?_) (xq.back n1.h)
    have g2' := n1.h.back g2
    refine h6 _ σ H2 A2 _ Y _ ⟨t2, S2, _, g2'.rebase, s2⟩ p2 (fun u A3 H3 p3 ⟨t3, S3, ρ3, g3, s3⟩ => ?_) (xq.back g2')
    have n3 : Now X.K B t3 S3 ρ3 A3 σ H3 := ⟨g2'.back g3, s3⟩
    have k3 : Rok X.K S3 ρ3 t3 A3.M.length H3 z1 v1 := (k1.ext (r' := ρ2) (H' := H2) (fz_no e1) g2.ext).ext (fz_no e1) g3.ext
    split at p3
    · rename_i x ex
      exact snd_sl n3.h.le (n3.view k3 ex) p3 (n3.kont fun z v H' pz rz => q z A3 v H' pz rz)
    · exact p3.elim
end
end PD

/-! PD, seventh part: sorted. -/
namespace PD
open PySem L2

def leD (x y : D) : Bool := PySem.W.dataLe false py x y
def srt (xs : List D) : List D := xs.mergeSort leD
def srtOk (xs : List D) : Prop := PySem.W.AllAlike (xs.map py) ∧ PySem.W.Sortable (xs.map py) ∧ ∀ x ∈ xs, okD x
/-- values with what they bear -/
inductive DZ (K : PySem.W.Frag) (H : Hp) : List (V × D) → List V → List D → Prop
  | nil : DZ K H [] [] []
  | cons {v : V} {vs : List V} {d : D} {ds : List D} {zs : List (V × D)} : DR K H v d → DZ K H zs vs ds → DZ K H ((v, d) :: zs) (v :: vs) (d :: ds)
theorem DRs.zip {K : PySem.W.Frag} {H : Hp} : ∀ {vs : List V} {ds : List D}, DRs K H vs ds → ∀ p ∈ vs.zip ds, DR K H p.1 p.2
  | _, _, .nil, p, h => by simp at h
  | _, _, .cons a b, p, h => by
    rw [List.zip_cons_cons] at h
    rcases List.mem_cons.mp h with rfl | h
    · exact a
    · exact DRs.zip b p h
theorem DRs.of_zip {K : PySem.W.Frag} {H : Hp} : ∀ {zs : List (V × D)}, (∀ p ∈ zs, DR K H p.1 p.2) → DRs K H (zs.map (·.1)) (zs.map (·.2))
  | [], _ => .nil
  | z :: zs, h => .cons (h z (by simp)) (DRs.of_zip fun p hp => h p (by simp [hp]))
theorem Vals.each {vs : List V} {us : List Value} : ∀ {vs : List V} {us : List Value} {ds : List D}, Vals vs us → vs.length = ds.length → PySem.W.EachIs (fun (u : Value) (b : V × D) => RelV b.1 u) us (vs.zip ds)
  | _, _, [], .nil, _ => .nil
  | _, _, d :: ds, .cons r t, h => by
    rw [List.zip_cons_cons]
    exact .cons r (Vals.each (vs := []) (us := []) t (by simpa using h))
  | _, _, _ :: _, .nil, h => by simp at h
  | _, _, [], .cons _ _, h => by simp at h
theorem each_vals : ∀ {us : List Value} {zs : List (V × D)}, PySem.W.EachIs (fun (u : Value) (b : V × D) => RelV b.1 u) us zs → Vals (zs.map (·.1)) us
  | _, _, .nil => .nil
  | _, _, .cons r t => .cons r (each_vals t)
theorem zip_snd {vs : List V} {ds : List D} (h : vs.length = ds.length) : (vs.zip ds).map (fun p => py p.2) = ds.map py := by
  have : (fun p : V × D => py p.2) = py ∘ Prod.snd := rfl
  rw [this, ← List.map_map, List.map_snd_zip (by omega)]
section
variable {X : Cx} {E : WX}
theorem each_reads {pins : List (Addr × Obj)} {σ : St} {H : Hp} {s : Shared} (I : Inv X pins σ H s) : ∀ {vs : List V} {us : List Value} {ds : List D}, Vals vs us → DRs X.K H vs ds → (∀ x ∈ ds, chk x = true) →
    PySem.W.EachIs (fun (u : Value) (b : V × D) => ∃ as, Reads s.heap u (py b.2) as) us (vs.zip ds)
  | _, _, _, .nil, .nil, _ => .nil
  | _, _, _, .cons r t, .cons a b, h => by
    rw [List.zip_cons_cons]
    exact .cons (Dp.reads I _ _ _ (a.dp (h _ (by simp))) r) (each_reads I t b fun x hx => h x (by simp [hx]))
/-- what a sort leaves -/
theorem sort_end {K : PySem.W.Frag} {H : Hp} {vs : List V} {ds : List D} (h : DRs K H vs ds) {out : List Value} (e : PySem.W.EachIs (fun (u : Value) (b : V × D) => RelV b.1 u) out ((vs.zip ds).mergeSort (PySem.W.dataLe false fun b => py b.2))) :
    ∃ ws, Vals ws out ∧ DRs K H ws (srt ds) ∧ ws.length = vs.length := by
  refine ⟨_, each_vals e, ?_, ?_⟩
  · have e2 : ((vs.zip ds).mergeSort (PySem.W.dataLe false fun b => py b.2)).map (·.2) = srt ds := by
      unfold srt
      have := PySem.W.sort_maps (r := PySem.W.dataLe false fun b : V × D => py b.2) (s := leD) (fun p : V × D => p.2) (l := vs.zip ds) (fun a _ b _ => rfl)
      refine this.trans ?_
      rw [List.map_snd_zip (by rw [h.length]; exact Nat.le_refl _)]
    rw [← e2]
    exact DRs.of_zip fun p hp => h.zip p (List.mem_mergeSort.mp hp)
  · rw [List.length_map, List.length_mergeSort, List.length_zip, h.length, Nat.min_self]
def cSorted : BN
  | [.lst xs], P => srtOk xs ∧ P (.o (.lst (srt xs)))
  | [.dic kvs], P => srtOk (kvs.map fun p => kD p.1) ∧ P (.o (.lst (srt (kvs.map fun p => kD p.1))))
  | _, _ => False
def rSortA (K : PySem.W.Frag) : List V → Hp → VK → Prop := fun xs H Q => ∃ a S ds, xs = [V.ref a] ∧ Le S H ∧ srtOk ds ∧ ((∃ vs, H a = some (.lst vs) ∧ DRs K S vs ds) ∨ (∃ kvs, Rd H a (.dK kvs) ∧ DRs K S (kvs.map fun p => kV p.1) ds)) ∧
  ∀ ws p, H p = none → DRs K S ws (srt ds) → Q (.ref p) (upd H p (.lst ws))
theorem units2 {A : Around} (h : A.units + 64 < cLine) (n : Nat) (hn : n ≤ 60) : A.units + 2 + n < cLine := by omega
mutual
theorem reads_lt {h : Heap} : ∀ {v : Value} {d : PyData} {as : List Addr}, Reads h v d as → ∀ a ∈ as, a < h.objs.size
  | _, _, _, .none, a, m => by simp at m
  | _, _, _, .bool _, a, m => by simp at m
  | _, _, _, .int _ _, a, m => by simp at m
  | _, _, _, .str _ _, a, m => by simp at m
  | _, _, _, .list e _ _ r, a, m => by
    rcases List.mem_cons.mp m with rfl | m
    · exact Heap.lt_size e
    · exact readsAll_lt r a m
  | _, _, _, .tuple e _ _ r, a, m => readsAll_lt r a m
  | _, _, _, .dict e _ _ r1 r2, a, m => by
    rcases List.mem_append.mp m with m | m
    · rcases List.mem_cons.mp m with rfl | m
      · exact Heap.lt_size e
      · exact readsAll_lt r1 a m
    · exact readsAll_lt r2 a m
theorem readsAll_lt {h : Heap} : ∀ {v : List Value} {d : List PyData} {as : List Addr}, ReadsAll h v d as → ∀ a ∈ as, a < h.objs.size
  | _, _, _, .nil, a, m => by simp at m
  | _, _, _, .cons r t, a, m => by
    rcases List.mem_append.mp m with m | m
    · exact reads_lt r a m
    · exact readsAll_lt t a m
end
theorem each_and {α β : Type} {F G : α → β → Prop} : ∀ {xs : List α} {ys : List β}, PySem.W.EachIs F xs ys → (∀ a b, F a b → G a b) → PySem.W.EachIs G xs ys
  | _, _, .nil, _ => .nil
  | _, _, .cons r t, h => .cons (h _ _ r) (each_and t h)
/-- a list just laid is sorted -/
theorem sort_pushed {pins : List (Addr × Obj)} {σ : St} {H : Hp} {s : Shared} {h' : Heap} {tk : Nat} {its : List Value} {vs : List V} {ds : List D} {Q : VK} (hu : X.A.units + 64 < cLine) (I1 : Inv X pins σ H { s with heap := h', toks := tk })
    {S : Hp} (le : Le S H) (hV : Vals vs its) (hd : DRs X.K S vs ds) (ok : srtOk ds) (hz : vs.length ≤ sizeLine) (q : ∀ ws p, H p = none → DRs X.K S ws (srt ds) → Q (.ref p) (upd H p (.lst ws))) :
    wpAny (model X.prog X.w) X.A.in1 (call (.builtin "list.sort") [.ref h'.objs.size]) (fun _ s' => EP X pins σ Q (.ref h'.objs.size) s') X.xe { s with heap := h'.push (PyProof.Rows.seqObj "list" its.toArray 0), toks := tk } := by
  obtain ⟨ok1, ok2, ok3⟩ := ok
  have c3 : ∀ x ∈ ds, chk x = true := fun x hx => (ok3 x hx).1
  have hln := hd.length
  have hoL : (h'.push (PyProof.Rows.seqObj "list" its.toArray 0)).get? h'.objs.size = some (PyProof.Rows.seqObj "list" its.toArray 0) := Heap.get?_push_size _ rfl
  refine PySem.W.list_sort_data (s := { s with heap := h'.push (PyProof.Rows.seqObj "list" its.toArray 0), toks := tk }) (A := X.A.in1) (enc := fun b : V × D => py b.2) (R := fun u b => RelV b.1 u) (bs := vs.zip ds) (vs := its) hoL (Vals.each (vs := []) (us := []) hV hln) ?_ ?_ ?_ ?_ (fun b hb => ?_) fun out ho he => ?_
  · refine each_and (each_reads I1 hV (hd.mono le) c3) fun u b ⟨as, r⟩ => ⟨as, PyProof.Rows.Reads.keeps (fun b o e => Heap.get?_push_of_some _ e) r, fun m => ?_⟩
    exact absurd (reads_lt r _ m) (Nat.lt_irrefl _)
  · rw [zip_snd hln]; exact ok1
  · rw [zip_snd hln]; exact ok2
  · rw [List.length_zip]; omega
  · have := units2 hu _ (Nat.le_trans (py_dep b.2) (ok3 _ (List.of_mem_zip hb).2).2)
    show X.A.units + 1 + 1 + _ < cLine
    exact this
  · obtain ⟨ws, w1, w2, w3⟩ := sort_end hd he
    obtain ⟨e', he'⟩ := PyProof.Rows.sortedHeap_at (vs := its) (out := out.toArray) hoL
    refine ⟨.ref h'.objs.size, upd H h'.objs.size (.lst ws), I1.laid (t' := tk) (fun b u e => ?_) (Nat.le_refl _) (show ObjOk X.prog X.w _ _ _ (.lst ws) from ⟨by rw [w3]; exact hz, out, e', w1, ?_⟩), rfl, q ws _ (I1.hok.fresh (Nat.le_refl _)) w2⟩
    · have hb : b < h'.objs.size := Heap.lt_size e
      rw [PyProof.Rows.sortedHeap_old (Nat.ne_of_lt hb) (by show b < (h'.push _).objs.size; rw [PyProof.Rows.size_push']; exact Nat.lt_succ_of_lt hb)]
      exact Heap.get?_push_of_some _ e
    · simpa using he'
theorem call_sortA (hc : X.calm = true) (hu : X.A.units + 64 < cLine) : CallR X (.builtin "sorted") (rSortA X.K) := fun pins s σ H xs us Q I r h => by
  obtain ⟨a, S, ds, rfl, le, ok, src, q⟩ := h
  rw [Vals.ref1 r]
  rcases src with ⟨vs, ha, hd⟩ | ⟨kvs, ha, hd⟩
  · obtain ⟨ok1, ok2, ok3⟩ := ok
    have c3 : ∀ x ∈ ds, chk x = true := fun x hx => (ok3 x hx).1
    obtain ⟨its, rv, hl, hz⟩ := I.list (SqL.of ha)
    have hln := hd.length
    refine PySem.W.sorted_data (enc := fun b : V × D => py b.2) (R := fun u b => RelV b.1 u) (bs := vs.zip ds) hl.isList (Vals.each (vs := []) (us := []) rv hln) (each_reads I rv (hd.mono le) c3) ?_ ?_ ?_ (fun b hb => ?_) fun out ho he => ?_
    · rw [zip_snd hln]; exact ok1
    · rw [zip_snd hln]; exact ok2
    · rw [List.length_zip]; omega
    · exact units2 hu _ (Nat.le_trans (py_dep b.2) (ok3 _ (List.of_mem_zip hb).2).2)
    · obtain ⟨ws, w1, w2, w3⟩ := sort_end hd he
      obtain ⟨ep, he'⟩ := PyProof.Rows.sortedAll_at s.heap its out.toArray
      refine ⟨.ref _, upd H (s.heap.objs.size + 1) (.lst ws), I.laid (t' := s.toks) (fun _ _ => PyProof.Rows.sortedAll_old) (Nat.le_succ _) ⟨by rw [w3]; exact hz, out, ep, w1, ?_⟩, rfl, q ws _ (I.hok.fresh (Nat.le_succ _)) w2⟩
      simpa using he'
  · obtain ⟨z, lo, vs, rel, dd⟩ := dk_rd I.hok ha
    obtain ⟨ep, hat⟩ := dd.dictAt
    have hl : vs.length = kvs.length := rel.length.symm
    refine Calls.call_function_entry PyProof.Rows.kind_sorted PyProof.Rows.plain_sorted PyProof.Rows.entry_sorted (PyProof.Rows.args_sorted1 _) ?_
    unfold Builtin.«sorted»
    refine wpAny_bind (m := checkCount "sorted" 1 1 _) (wpAny_pure ?_)
    refine wpAny_bind (PySem.W.kdu_collect (A := X.A.in1) (PySem.W.kdl_dict (knd := mixKind X.prog X.w) (kvs := vs) (ep := ep) lo) (I.ok.hd hc) hat (by omega) fun h' tk acc hk hacc => ?_)
    have hal : acc.toList.length = vs.length := by rw [Array.length_toList, hacc.1]
    have hV : Vals (vs.map fun p => kV p.1) acc.toList := keys_at hal fun j v e => hacc.2 j v (by rw [← Array.getElem?_toList]; exact e)
    have hVk : Vals (kvs.map fun p => kV p.1) acc.toList := by
      have e : (vs.map fun p => kV p.1) = kvs.map fun p => kV p.1 := by
        have := rel.keys
        have e2 := congrArg (List.map kV) this
        rw [List.map_map, List.map_map] at e2
        exact e2.symm
      rw [← e]
      exact hV
    have I1 : Inv X pins σ H { s with heap := h', toks := tk } := I.kept hk
    refine wpAny_bind (wpAny_newList ?_ (by rw [hal]; omega))
    refine wpAny_bind (wpAny_holding (wpAny_mono (sort_pushed (Q := Q) hu I1 le hVk hd ok (by rw [List.length_map]; exact z) q) (fun _ s' x => ?_) fun _ _ e => e))
    exact wpAny_pure ⟨_, rfl, x⟩
theorem DRk.keys {K : PySem.W.Frag} {S : Hp} : ∀ {vs : List (Key × V)} {ds : List (Kd × D)}, DRk K S vs ds → DRs K S (vs.map fun p => kV p.1) (ds.map fun p => kD p.1)
  | _, _, .nil => .nil
  | _, _, .cons (k := k) r t => by
    refine .cons ?_ (DRk.keys t)
    cases k with
    | inl i => exact .int i
    | inr l => exact .str l
theorem snd_sorted {K : PySem.W.Frag} : SndN K (rSortA K) cSorted := fun S H xs vs P Q le dv b k => by
  unfold cSorted at b
  split at b
  · obtain ⟨v, rfl, a, ws, rfl, h1, h2⟩ := dv.one
    exact ⟨a, S, _, rfl, le, b.1, .inl ⟨ws, h1, h2⟩, fun us p hp h => k.lst p us _ hp b.2 h⟩
  · obtain ⟨v, rfl, a, ws, rfl, h1, h2⟩ := dv.one
    exact ⟨a, S, _, rfl, le, b.1, .inr ⟨ws, h1, h2.keys⟩, fun us p hp h => k.lst p us _ hp b.2 h⟩
  · exact b.elim
end
/-- new objects: at T they are data, at p the one at hand -/
theorem HR.grow {K : PySem.W.Frag} {B : Bas} {t : Nat → Addr} {S : Hp} {r : Addr → Lb} {M : List (Option O)} {H H1 : Hp} (h : HR K B t S r M H) (ext : ∀ b o, H b = some o → H1 b = some o) {T : Addr → Prop} [DecidablePred T] (hT : ∀ a, T a → H a = none)
    {p : Addr} (hp : H p = none) (np : ¬ T p) (hp1 : H1 p ≠ none) : HR K B t (fun a => if T a then H1 a else S a) (tmpT r p) M H1 where
  le := fun a u e => by
    dsimp only at e
    split at e
    · exact .inl e
    · rcases h.le a u e with z | ⟨z, o, y⟩
      · exact .inl (ext _ _ z)
      · exact .inr ⟨z, o, ext _ _ y⟩
  sep := fun a l e => by
    unfold tmpT at e
    split at e
    · rename_i q
      subst q
      exact ⟨(if_neg np).trans (h.of_none hp), hp1⟩
    · obtain ⟨h1, h2⟩ := h.sep a l (dropT_some e)
      refine ⟨(if_neg fun z => h2 (hT a z)).trans h1, ?_⟩
      cases q : H a with
      | none => exact absurd q h2
      | some o => rw [ext a o q]; simp
  lab := fun a n e => by
    unfold tmpT at e
    split at e
    · cases e
    · exact h.lab a n (dropT_some e)
  obj := fun n o e => by
    have own : ∀ b, r b = some (some n) → H b ≠ none := fun b hb => (h.sep b _ hb).2
    refine ((h.obj n o e).move (fun b u z => .inl ((if_neg fun y => ?_).trans z)) fun b hb => ?_).iff fun b => ?_
    · rcases h.le b u z with w | ⟨_, _, w⟩
      · rw [hT b y] at w; cases w
      · rw [hT b y] at w; cases w
    · cases q : H b with
      | none => exact absurd q (own b hb)
      | some o => exact ext b o q
    · unfold tmpT
      split
      · rename_i q
        subst q
        constructor
        · intro hb; exact absurd hp (own _ hb)
        · intro z; cases z
      · exact dropT_nm.symm
  keep := fun a o e nd => by
    rcases h.keep a o e nd with z | ⟨z1, z2, od, z3⟩
    · exact .inl (ext _ _ z)
    · exact .inr ⟨z1, z2, od, ext _ _ z3⟩
  own := fun a l e => by
    unfold tmpT at e
    split at e
    · rename_i q
      rw [q]
      exact h.fresh hp
    · exact h.own a l (dropT_some e)
  stb := fun a e => by
    by_cases q : T a
    · rcases h.fresh (hT a q) with z | z
      · exact .inr (.inr z)
      · exact .inr (.inl z)
    · have e : (if T a then H1 a else S a) ≠ none := e
      rw [if_neg q] at e
      exact h.stb a e
  bas := fun a o e => by
    have z := h.bas a o e
    refine (if_neg fun y => ?_).trans z
    · rcases h.le a o z with w | ⟨_, _, w⟩
      · rw [hT a y] at w; cases w
      · rw [hT a y] at w; cases w
  th := h.th
  nl := h.nl
theorem HR.grow_le {K : PySem.W.Frag} {B : Bas} {t : Nat → Addr} {S : Hp} {r : Addr → Lb} {M : List (Option O)} {H H1 : Hp} (h : HR K B t S r M H) {T : Addr → Prop} [DecidablePred T] (hT : ∀ a, T a → H a = none) : Ext t S M.length t (fun a => if T a then H1 a else S a) M.length := by
  refine ⟨fun b u z => (if_neg fun y => ?_).trans z, fun _ _ => rfl, Nat.le_refl _⟩
  rcases h.le b u z with w | ⟨_, _, w⟩
  · rw [hT b y] at w; cases w
  · rw [hT b y] at w; cases w
section
variable {X : Cx} {E : WX}
/-! ### sorted(d.items()) -/
theorem items_laid' {pins : List (Addr × Obj)} {σ : L2.St} {H : Hp} {s : Shared} {h' : Heap} {tk : Nat} {kvs : List (Key × V)} {vs : List (Key × Value)} {as : List Addr} {lo : Addr} (I : Inv X pins σ H s) (kv : KV kvs vs) (hlo : s.heap.objs.size ≤ lo)
    (hk : ∀ b o, s.heap.get? b = some o → h'.get? b = some o) (hl : as.length = vs.length) (hG : PySem.W.KdxG (mixKind X.prog X.w) vs lo h' as) :
    ∃ H' : Hp, (∀ b o, H b = some o → H' b = some o) ∧ (∀ t ∈ as, H t = none) ∧ (∀ b, b ∉ as → H' b = H b) ∧ Paired (fun (t : Addr) (q : Key × V) => H' t = some (.tup [kV q.1, q.2])) as kvs ∧ Inv X pins σ H' { s with heap := h', toks := tk } := by
  have lk : kvs.length = vs.length := Paired.length kv
  have nd : as.Nodup := List.Pairwise.imp (fun {a b} (h : a < b) => Nat.ne_of_lt h) hG.rise
  have new : ∀ t ∈ as, H t = none := fun t ht => I.hok.fresh (Nat.le_of_lt (Nat.lt_of_le_of_lt hlo (hG.above t ht)))
  have atP := LiI.putT_at as kvs H (by omega) nd
  have low : ∀ b o, s.heap.get? b = some o → b ∉ as := fun b o e z => absurd (Heap.lt_size e) (Nat.not_lt.mpr (Nat.le_of_lt (Nat.lt_of_le_of_lt hlo (hG.above b z))))
  have off : ∀ b, b ∉ as → LiI.putT H as kvs b = H b := fun b h1 => LiI.putT_off as kvs _ h1
  have kp : ∀ b u, H b = some u → LiI.putT H as kvs b = some u := fun b u e => by
    rw [off b (fun z => by rw [new b z] at e; cases e)]
    exact e
  refine ⟨LiI.putT H as kvs, kp, new, off, atP, ?_⟩
  refine I.call' (ch := []) rfl ⟨fun b o q _ _ _ => hk b o q, fun b o q _ _ _ => ⟨o.slots, hk b o q⟩, fun b o q n _ => ?_, fun b o q _ => ⟨o, hk b o q⟩, fun b xs q => kp b _ q, fun b o u q => kp b _ q, fun b ps q => ⟨#[], by rw [kp b _ q]; simp⟩⟩ (fun b u q => ?_) I.bare fun b z => by simp at z
  · rw [off b (low b o q)]
    exact n
  · by_cases hb : b ∈ as
    · obtain ⟨j, pk, e1, e2, e3⟩ := LiI.paired_ix atP hb
      rw [e3] at q
      cases q
      obtain ⟨key, k, x, f1, f2, f3⟩ := hG.pairs j b e1
      obtain ⟨qv, g1, g2, g3⟩ := LiI.paired_get kv e2
      rw [f1] at g1
      cases g1
      have rk : RelV (kV pk.1) key := by
        rw [g2]
        exact relV_key (show keyIs k key = true from f2)
      exact ⟨by show 2 ≤ sizeLine; decide, [key, x], .cons rk (.cons g3 .nil), ⟨_, f3, rfl, _, rfl⟩⟩
    · rw [off b hb] at q
      exact (I.hok b u q).stay (fun d v _ y => hk d v y) (fun d y => kp d _ y) fun d xs y => kp d _ y
def rSortI (K : PySem.W.Frag) : V → Hp → VK → Prop := fun x H Q => ∃ (d : Addr) (kvs : List (Key × V)) (S : Hp) (kds : List (Kd × D)), x = .ref d ∧ Rd H d (.dK kvs) ∧ Le S H ∧ DRk K S kvs kds ∧ srtOk (kds.map pairD) ∧
  ∀ (H1 : Hp) (as : List Addr) (ws : List V) (p : Addr), (∀ b o, H b = some o → H1 b = some o) → (∀ a ∈ as, H a = none) → (∀ b, b ∉ as → H1 b = H b) → (∀ a ∈ as, H1 a ≠ none) → H1 p = none → DRs K (fun a => if a ∈ as then H1 a else S a) ws (srt (kds.map pairD)) → Q (.ref p) (upd H1 p (.lst ws))
def tSortI (K : PySem.W.Frag) (te : TE) : TE := fun σ H Q => te σ H fun x H1 => rSortI K x H1 Q
theorem pairs_drs {K : PySem.W.Frag} {S S' : Hp} (e : Le S S') : ∀ {as : List Addr} {kvs : List (Key × V)} {kds : List (Kd × D)}, DRk K S kvs kds → Paired (fun (t : Addr) (q : Key × V) => S' t = some (.tup [kV q.1, q.2])) as kvs → DRs K S' (as.map V.ref) (kds.map pairD)
  | _, _, _, .nil, .nil => .nil
  | _, _, _, .cons (k := k) r t, .cons a b => by
    refine .cons (.tup a (.cons ?_ (.cons (r.mono e) .nil))) (pairs_drs e t b)
    cases k with
    | inl i => exact .int i
    | inr l => exact .str l
theorem paired_mem {α β : Type} {F G : α → β → Prop} : ∀ {xs : List α} {ys : List β}, Paired F xs ys → (∀ a b, a ∈ xs → F a b → G a b) → Paired G xs ys
  | _, _, .nil, _ => .nil
  | _, _, .cons r t, h => .cons (h _ _ (by simp) r) (paired_mem t fun a b m => h a b (by simp [m]))
theorem pe_sortI {e : Expr} {te : TE} {p apos cpos pos : Pos} (hc : X.calm = true) (hu : X.A.units + 64 < cLine) (he : PE X e te) (hg : Gl X "sorted") (hm : X.mg "sorted" = none) (hv : bootBuiltins "sorted" = some (.builtin "sorted")) (hbase : attributeBase e "items" X.env (eval e X.env) = eval e X.env := by rfl) (hline : (apos.endLine == cpos.line) = true := by rfl)
    (hs : starEach [.Call (.Attribute e "items" apos) [] [] cpos] X.env = (false, eval (.Call (.Attribute e "items" apos) [] [] cpos) X.env) :: starEach [] X.env := by rfl) (hpl : (backTo pos (starEach ([] : List Expr) X.env)).any (·.1) = false := by rfl) :
    PE X (.Call (.Name "sorted" p) [.Call (.Attribute e "items" apos) [] [] cpos] [] pos) (tSortI X.K te) := by
  refine ⟨fun pins s σ H Q I hq => ?_⟩
  refine wpAny_Call_Name_kw (ld_blt I hg hm hv ?_)
  refine PyProof.Rows.callWith_builtin1 ?_ hs hpl
  rw [hs]
  show wpAny _ _ (spliced ((false, eval (.Call (.Attribute e "items" apos) [] [] cpos) X.env) :: backTo pos (starEach [] X.env))) _ _ s
  refine Calls.spliced_cons ?_
  refine wpAny_Call_method (T := "dict") (id := "dict.items") hbase rfl hline PySem.F.plainAttrs_dict PySem.F.slot_dict_items PySem.F.type_dict_items (thn (he.run pins s σ H _ I hq) fun u s1 ⟨x, H1, I1, rx, d, kvs, S, kds, ex, hd, le, dr, ok, q⟩ => ?_)
  subst ex
  obtain rfl : u = Value.ref d := rx
  obtain ⟨hz, hs0, vs, kv, hdo⟩ := dk_rd I1.hok hd
  obtain ⟨ep, hat⟩ := hdo.dictAt
  have lk : kvs.length = vs.length := Paired.length kv
  have I2 : Inv X pins σ H1 { s1 with heap := s1.heap.push { cls := .type "dict_items", data := .fields #[.ref d] } } := I1.kept (t' := s1.toks) fun b ob q => Heap.get?_push_of_some _ q
  refine ⟨hdo.typeIs, hdo.mapOf.noDict, ?_⟩
  show wpAny _ _ (callWith cpos (.builtin "dict.items") [.ref d] [] []) _ X.xe s1
  refine method_meetsIn PySem.F.slot_dict_items PySem.F.entry_dict_items rfl (PySem.evalArgs_none ⟨rfl, hdo.typeIs, PySem.F.args_dict_items_1 _, _, meets_dict_items (mixKind X.prog X.w) d hs0, ⟨vs, hdo⟩, ?_⟩)
  refine Calls.spliced_nil ?_
  refine Calls.call_function_entry PyProof.Rows.kind_sorted PyProof.Rows.plain_sorted PyProof.Rows.entry_sorted (PyProof.Rows.args_sorted1 _) ?_
  unfold Builtin.«sorted»
  refine wpAny_bind (m := checkCount "sorted" 1 1 _) (wpAny_pure ?_)
  refine wpAny_bind (PySem.W.kdx_collect (A := X.A.in1) (knd := mixKind X.prog X.w) (kvs := vs) (ep := ep) (I1.ok.hd hc) ⟨_, Heap.get?_push_size _ rfl, rfl, rfl⟩ (hat.push _) (by omega) fun h' tk as hk hl hG => ?_)
  obtain ⟨H2, k1, k2, k3, k4, J⟩ := items_laid' (tk := tk) I2 kv (Nat.le_refl _) hk hl hG
  have leS : Le S (fun a => if a ∈ as then H2 a else S a) := fun b u z => .inl (by
    have : ¬ b ∈ as := fun y => by
      rcases le b u z with w | ⟨_, _, w⟩
      · rw [k2 b y] at w; cases w
      · rw [k2 b y] at w; cases w
    show (if b ∈ as then H2 b else S b) = some u
    rw [if_neg this]
    exact z)
  have le2 : Le (fun a => if a ∈ as then H2 a else S a) H2 := fun b u z => by
    dsimp only at z
    by_cases y : b ∈ as
    · rw [if_pos y] at z
      exact .inl z
    · rw [if_neg y] at z
      rcases le b u z with w | ⟨w, o, w2⟩
      · exact .inl (k1 _ _ w)
      · exact .inr ⟨w, o, k1 _ _ w2⟩
  have drs := pairs_drs leS dr (paired_mem k4 fun a b m h => by
    show (if a ∈ as then H2 a else S a) = _
    rw [if_pos m]
    exact h)
  refine wpAny_bind (wpAny_newList ?_ (by rw [List.length_map, hl]; omega))
  refine wpAny_bind (wpAny_holding (wpAny_mono (sort_pushed (Q := Q) hu J le2 (LiI.vals_refs as) drs ok (by rw [List.length_map, hl]; omega) fun ws p hp h => q H2 as ws p k1 k2 k3 (fun a ha => by
    obtain ⟨j, pk, _, _, e3⟩ := LiI.paired_ix k4 ha
    rw [e3]
    simp) hp h) (fun _ s' x => ?_) fun _ _ e => e))
  exact wpAny_pure ⟨_, rfl, x⟩
def pSortI (p : PTE) : PTE := fun A P Y => p A (fun y A1 => match view A1.M y with
  | some (.dic kds) => srtOk (kds.map pairD) ∧ P (.o (.lst (srt (kds.map pairD)))) A1
  | _ => False) Y
theorem de_sortI {t : TE} {e : Expr} {pe : PTE} {p apos cpos pos : Pos} (hc : X.calm = true) (hu : X.A.units + 64 < cLine) (he : DE X E e t pe) (hg : Gl X "sorted") (hm : X.mg "sorted" = none) (hv : bootBuiltins "sorted" = some (.builtin "sorted")) (hbase : attributeBase e "items" X.env (eval e X.env) = eval e X.env := by rfl) (hline : (apos.endLine == cpos.line) = true := by rfl)
    (hs : starEach [.Call (.Attribute e "items" apos) [] [] cpos] X.env = (false, eval (.Call (.Attribute e "items" apos) [] [] cpos) X.env) :: starEach [] X.env := by rfl) (hpl : (backTo pos (starEach ([] : List Expr) X.env)).any (·.1) = false := by rfl) :
    DE X E (.Call (.Name "sorted" p) [.Call (.Attribute e "items" apos) [] [] cpos] [] pos) (tSortI X.K t) (pSortI pe) := by
  obtain ⟨h1, h2⟩ := he
  refine ⟨pe_sortI hc hu h1 hg hm hv hbase hline hs hpl, fun B σ H A P Y Q rel k c xq => ?_⟩
  refine h2 B σ H A _ Y _ rel k (fun y A1 v H1 p1 r1 => ?_) xq
  split at p1
  · rename_i kds ez
    obtain ⟨t, S, ρ, hh, ss, kk⟩ := r1
    obtain ⟨a, vs, rfl, g1, g2⟩ := (Now.mk hh ss).view kk ez
    refine ⟨a, vs, S, kds, rfl, g1, hh.le, g2, p1.1, fun H2 as ws p k1 k2 k3 k5 hp h => ?_⟩
    have hp0 : H1 p = none := by
      cases q : H1 p with
      | none => rfl
      | some o => rw [k1 p o q] at hp; cases hp
    have np : ¬ p ∈ as := fun z => k5 p z hp
    refine c _ A1 _ _ p1.2 ⟨t, _, _, hh.grow (H1 := upd H2 p (.lst ws)) (T := fun a => a ∈ as) (p := p) (fun b o e => ?_) k2 hp0 np (by rw [upd_same]; simp), ss.ext (hh.grow_le k2), p, rfl, tmpT_self, ws, upd_same, ?_⟩
    · have : b ≠ p := fun z => by rw [z, hp0] at e; cases e
      rw [upd_ne this]
      exact k1 b o e
    · have e : (fun a => if a ∈ as then upd H2 p (.lst ws) a else S a) = fun a => if a ∈ as then H2 a else S a := funext fun a => by
        by_cases m : a ∈ as
        · rw [if_pos m, if_pos m, upd_ne (show a ≠ p from fun z => np (by rw [← z]; exact m))]
        · rw [if_neg m, if_neg m]
      show DRs _ (fun a => if a ∈ as then upd H2 p (.lst ws) a else S a) ws _
      rw [e]
      exact h
  · exact p1.elim
end
end PD

/-! PD, eighth part: statements. -/
namespace PD
open PySem L2

theorem SKont.back {K : PySem.W.Frag} {B : Bas} {E : WX} {P : PEnds} {D : Ends} {t : Nat → Addr} {S : Hp} {r : Addr → Lb} {M : List (Option O)} {H : Hp} (k : SKont K B E P D) (h : HR K B t S r M H) : SKont K (baseOf t S r M.length H) E P D where
  nx := fun A σ H' p ⟨t', S', r', h', s'⟩ => k.nx A σ H' p ⟨t', S', r', h.back h', s'⟩
  rt := fun y A v σ H' p ⟨t', S', r', h', s', q⟩ => k.rt y A v σ H' p ⟨t', S', r', h.back h', s', q⟩
  bk := fun A σ H' p ⟨t', S', r', h', s'⟩ => k.bk A σ H' p ⟨t', S', r', h.back h', s'⟩
  ct := fun A σ H' p ⟨t', S', r', h', s'⟩ => k.ct A σ H' p ⟨t', S', r', h.back h', s'⟩
  ex := fun σ => (k.ex σ).back h
section
variable {X : Cx} {E : WX}
def pSeq (p q : PTS) : PTS := fun P A => p { P with nx := fun A' => q P A' } A
def pNext : PTS := fun P A => P.nx A
def pNever : PTS := fun _ _ => False
def pBreak : PTS := fun P A => P.bk A
def pCont : PTS := fun P A => P.ct A
def pDrop (pe : PTE) : PTS := fun P A => pe A (fun _ A1 => P.nx A1) P.ex
def pRet (pe : PTE) : PTS := fun P A => pe A P.rt P.ex
def pRetN : PTS := fun P A => P.rt (.d .non) A
def pIf (t : PTT) (p q : PTS) : PTS := fun P A => t A (fun b A1 => if b = true then p P A1 else q P A1) P.ex
theorem sim_seq {K : PySem.W.Frag} {t u : TS} {p q : PTS} (h : SimS K E t p) (k : SimS K E u q) : SimS K E (tSeq t u) (pSeq p q) := fun B σ H A P D rel x c =>
  h B σ H A _ _ rel x ⟨fun A' σ' H' p' r' => k B σ' H' A' P D r' p' c, c.rt, c.bk, c.ct, c.ex⟩
theorem dss_nil : DSs X E [] tNext pNext := ⟨pss_nil, fun B σ H A P D rel x c => c.nx A σ H x rel⟩
theorem dss_cons {st : Stmt} {rest : List Stmt} {t u : TS} {p q : PTS} (h : DS X E st t p) (k : DSs X E rest u q) : DSs X E (st :: rest) (tSeq t u) (pSeq p q) := ⟨pss_cons h.pe k.pe, sim_seq h.sim k.sim⟩
theorem dss_one {st : Stmt} {t : TS} {p : PTS} (h : DS X E st t p) : DSs X E [st] t p := ⟨pss_one h.pe, h.sim⟩
theorem ds_never {st : Stmt} : DS X E st tNever pNever := ⟨ps_never, fun _ _ _ _ _ _ _ x _ => x⟩
theorem ds_pass {pos : Pos} : DS X E (.Pass pos) tNext pNext := ⟨ps_pass, fun B σ H A P D rel x c => c.nx A σ H x rel⟩
theorem ds_break {pos : Pos} : DS X E (.Break pos) tBreak pBreak := ⟨ps_break, fun B σ H A P D rel x c => c.bk A σ H x rel⟩
theorem ds_cont {pos : Pos} : DS X E (.Continue pos) tCont pCont := ⟨ps_continue, fun B σ H A P D rel x c => c.ct A σ H x rel⟩
theorem ds_expr {e : Expr} {te : TE} {p : PTE} {pos : Pos} (h : DE X E e te p) (hs : swapsWith e none pos.line X.env = pure false := by rfl) : DS X E (.Expr e pos) (tDrop te) (pDrop p) :=
  ⟨ps_expr h.pe hs, fun B σ H A P D rel x c => h.sim B σ H A _ _ _ rel x (fun y A' v H' p' r' => c.nx A' σ H' p' r'.rel) (c.ex _)⟩
theorem ds_ret {e : Expr} {te : TE} {p : PTE} {pos : Pos} (h : DE X E e te p) : DS X E (.Return (some e) pos) (tRet te) (pRet p) :=
  ⟨ps_ret h.pe, fun B σ H A P D rel x c => h.sim B σ H A _ _ _ rel x (fun y A' v H' p' r' => c.rt y A' v σ H' p' r') (c.ex _)⟩
theorem ds_retN {pos : Pos} : DS X E (.Return none pos) tRetN pRetN := ⟨ps_retN, fun B σ H A P D rel x c => c.rt _ A _ σ H x (rel.res fun _ => .non)⟩
theorem ds_if {c : Expr} {a b : List Stmt} {tc : TT} {t u : TS} {pc : PTT} {p q : PTS} {pos : Pos} (hc : DT X E c tc pc) (ha : DSs X E a t p) (hb : DSs X E b u q) : DS X E (.If c a b pos) (tIfS tc t u) (pIf pc p q) :=
  ⟨ps_if hc.pe ha.pe hb.pe, fun B σ H A P D rel x c => hc.sim B σ H A _ _ _ rel x (fun b A' H' p' r' => by
    cases b with
    | true => exact ha.sim B σ H' A' P D r' (by simpa using p') c
    | false => exact hb.sim B σ H' A' P D r' (by simpa using p') c) (c.ex _)⟩
/-! ### x = e -/
def setD (A : Abs) (i : Nat) (x : D) : Abs := ⟨A.env.set i (.d x), A.M⟩
def setP (A : Abs) (i : Nat) (n : Nat) : Abs := ⟨A.env.set i (.p n), A.M⟩
def setO (A : Abs) (i : Nat) (o : O) : Abs := ⟨A.env.set i (.p A.M.length), A.M ++ [some o]⟩
/-- what is new is owned by the name -/
def pSet (i : Nat) (pe : PTE) : PTS := fun P A => pe A (fun y A1 => match y with
  | .d x => P.nx (setD A1 i x)
  | .p n => P.nx (setP A1 i n)
  | .o o => P.nx (setO A1 i o)) P.ex
/-- what is new is data -/
def pSetD (i : Nat) (pe : PTE) : PTS := fun P A => pe A (fun y A1 => match y.fz with
  | some (.d x) => P.nx (setD A1 i x)
  | _ => False) P.ex
theorem Res.set {K : PySem.W.Frag} {B : Bas} {A : Abs} {y : R} {v : V} {σ : St} {H : Hp} (r : Res K B A y v σ H) (i : Nat) : Rel K B (match y with
  | .d x => setD A i x
  | .p n => setP A i n
  | .o o => setO A i o) (σ.set i (some v)) H := by
  obtain ⟨t, S, ρ, h, s, k⟩ := r
  cases y with
  | d x => exact ⟨t, S, ρ, h, s.set i ⟨v, rfl, k⟩⟩
  | p n =>
    obtain ⟨rfl, hn⟩ := k
    exact ⟨t, S, ρ, h, s.set i ⟨rfl, hn⟩⟩
  | o o =>
    obtain ⟨a, rfl, ok⟩ := k
    have ex : Ext t S A.M.length (nameA t A.M.length a) S (A.M ++ [some o]).length := ⟨fun _ _ e => e, fun n hn => by
      unfold nameA
      rw [if_neg (by omega)], by rw [List.length_append]; omega⟩
    refine ⟨nameA t A.M.length a, S, nameT ρ A.M.length, h.name ok, (s.ext ex).set i ⟨?_, by show A.M.length < (A.M ++ [some o]).length; rw [List.length_append, List.length_singleton]; omega⟩⟩
    unfold nameA
    rw [if_pos rfl]
theorem sim_set {K : PySem.W.Frag} {te : TE} {p : PTE} {i : Nat} (h : SimE K E te p) : SimS K E (tAsg te (gName i)) (pSet i p) := fun B σ H A P D rel x c =>
  h B σ H A _ _ _ rel x (fun y A' v H' p' r' => by
    have s := r'.set i
    cases y with
    | d x => exact c.nx _ _ H' p' s
    | p n => exact c.nx _ _ H' p' s
    | o o => exact c.nx _ _ H' p' s) (c.ex _)
theorem Res.fzD {K : PySem.W.Frag} {B : Bas} {A : Abs} {y z : R} {v : V} {σ : St} {H : Hp} (r : Res K B A y v σ H) (e : y.fz = some z) : Res K B A z v σ H := by
  obtain ⟨t, S, ρ, h, s, k⟩ := r
  obtain ⟨S1, ρ1, n1, k1, _, _⟩ := Now.fz (x := .non) ⟨h, s⟩ k e
  exact n1.res k1
theorem sim_setD {K : PySem.W.Frag} {te : TE} {p : PTE} {i : Nat} (h : SimE K E te p) : SimS K E (tAsg te (gName i)) (pSetD i p) := fun B σ H A P D rel x c =>
  h B σ H A _ _ _ rel x (fun y A' v H' p' r' => by
    split at p'
    · rename_i x e
      exact c.nx _ _ H' p' ((r'.fzD e).set i)
    · exact p'.elim) (c.ex _)
theorem ds_set (i : Nat) {x : Str} {e : Expr} {te : TE} {p : PTE} {pos pos' : Pos} (hN : X.N.Nodup) (h : DE X E e te p) (hi : X.N[i]? = some x := by rfl) (hx : Loc X.env.scope x := by first | exact Or.inl rfl | exact Or.inr rfl) (hs : swapsWith e (some (.Name x pos')) pos.line X.env = pure false := by rfl)
    (hf : X.fn x = true ∨ X.env.scope.names.lookup x = some .local := by first | exact .inl rfl | exact .inr rfl | assumption) : DS X E (.Assign [.Name x pos'] e pos) (tAsg te (gName i)) (pSet i p) := ⟨ps_set hN hi hx h.pe hs hf, sim_set h.sim⟩
theorem ds_setD (i : Nat) {x : Str} {e : Expr} {te : TE} {p : PTE} {pos pos' : Pos} (hN : X.N.Nodup) (h : DE X E e te p) (hi : X.N[i]? = some x := by rfl) (hx : Loc X.env.scope x := by first | exact Or.inl rfl | exact Or.inr rfl) (hs : swapsWith e (some (.Name x pos')) pos.line X.env = pure false := by rfl)
    (hf : X.fn x = true ∨ X.env.scope.names.lookup x = some .local := by first | exact .inl rfl | exact .inr rfl | assumption) : DS X E (.Assign [.Name x pos'] e pos) (tAsg te (gName i)) (pSetD i p) := ⟨ps_set hN hi hx h.pe hs hf, sim_setD h.sim⟩
/-! ### targets -/
abbrev PTG := D → List AV → Option (List AV)
def SimG (K : PySem.W.Frag) (g : TG) (tg : PTG) (ix : List Nat) : Prop := ∀ (S H : Hp) (t : Nat → Addr) (m : Nat) (x : D) (v : V) (env env' : List AV) (σ : St) (Q : St → Hp → Prop), Le S H → SR K S t m env σ → DR K S v x → tg x env = some env' →
  (∀ σ', SR K S t m env' σ' → (∀ vs, (∀ i ∈ ix, i ∈ vs) → wipe σ' vs = wipe σ vs) → Q σ' H) → g v σ H Q
def tgN (i : Nat) : PTG := fun x env => some (env.set i (.d x))
theorem wipe_get {σ : St} : ∀ {vs : List Nat} {j : Nat}, (wipe σ vs)[j]? = if j ∈ vs then (if j < σ.length then some none else none) else σ[j]?
  | [], j => by simp [wipe]
  | w :: vs, j => by
    show ((wipe σ vs).set w none)[j]? = _
    by_cases e : w = j
    · subst e
      rw [List.getElem?_set]
      simp [wipe_length]
    · rw [List.getElem?_set_ne e, wipe_get]
      have : (j ∈ w :: vs) ↔ j ∈ vs := by
        rw [List.mem_cons]
        exact ⟨fun h => h.resolve_left fun q => e q.symm, .inr⟩
      simp [this]
theorem wipe_set {σ : St} {i : Nat} {v : Option V} {vs : List Nat} (h : i ∈ vs) : wipe (σ.set i v) vs = wipe σ vs := by
  apply List.ext_getElem?
  intro j
  rw [wipe_get, wipe_get, List.length_set]
  by_cases hj : j ∈ vs
  · rw [if_pos hj, if_pos hj]
  · rw [if_neg hj, if_neg hj, List.getElem?_set_ne (show i ≠ j from fun e => hj (by rw [← e]; exact h))]
theorem simg_n {K : PySem.W.Frag} {i : Nat} : SimG K (gName i) (tgN i) [i] := fun S H t m x v env env' σ Q le s d e q => by
  cases e
  exact q _ (s.set i ⟨v, rfl, d⟩) fun vs hv => wipe_set (hv i (by simp))
def setsA : List Nat → List D → List AV → Option (List AV)
  | [], [], env => some env
  | i :: is, x :: xs, env => setsA is xs (env.set i (.d x))
  | _, _, _ => none
def tgT (is : List Nat) : PTG := fun x env => match x with
  | .tup xs => setsA is xs env
  | _ => none
def gNames : List Nat → TGs
  | [] => gNil
  | i :: is => gCons (gName i) (gNames is)
theorem sets_run {K : PySem.W.Frag} {S H : Hp} {t : Nat → Addr} {m : Nat} : ∀ {is : List Nat} {vs : List V} {xs : List D} {env env' : List AV} {σ : St} {Q : St → Hp → Prop}, SR K S t m env σ → DRs K S vs xs → setsA is xs env = some env' →
    (∀ σ', SR K S t m env' σ' → (∀ ws, (∀ i ∈ is, i ∈ ws) → wipe σ' ws = wipe σ ws) → Q σ' H) → gNames is vs σ H Q
  | [], _, _, _, _, _, _, s, .nil, e, q => by
    cases e
    exact ⟨rfl, q _ s fun _ _ => rfl⟩
  | i :: is, _, _, _, _, _, _, s, .cons a b, e, q => by
    refine ⟨_, _, rfl, ?_⟩
    exact sets_run (s.set (av := .d _) i ⟨_, rfl, a⟩) b e fun σ' s' hw => q σ' s' fun ws hws => (hw ws fun j hj => hws j (by simp [hj])).trans (wipe_set (hws i (by simp)))
  | [], _, _, _, _, _, _, _, .cons _ _, e, _ => by cases e
  | _ :: _, _, _, _, _, _, _, _, .nil, e, _ => by cases e
theorem setsA_len : ∀ {is : List Nat} {xs : List D} {env env' : List AV}, setsA is xs env = some env' → is.length = xs.length
  | [], [], _, _, _ => rfl
  | i :: is, x :: xs, _, _, e => by simp [setsA_len (is := is) (xs := xs) e]
  | [], _ :: _, _, _, e => by cases e
  | _ :: _, [], _, _, e => by cases e
theorem simg_t {K : PySem.W.Frag} {is : List Nat} : SimG K (gTup K is.length (gNames is)) (tgT is) is := fun S H t m x v env env' σ Q le s d e q => by
  unfold tgT at e
  split at e
  · rename_i xs
    obtain ⟨a, vs, rfl, h1, h2⟩ := d.tup_of
    exact ⟨a, vs, rfl, SqT.of (le.tup h1), by rw [h2.length]; exact (setsA_len e).symm, sets_run s h2 e q⟩
  · cases e
structure DG (X : Cx) (target : Expr) (g : TG) (tg : PTG) (ix : List Nat) : Prop where
  pg : PG X target g
  sim : SimG X.K g tg ix
theorem dg_n (i : Nat) {x : Str} {pos : Pos} (hN : X.N.Nodup) (hi : X.N[i]? = some x := by rfl) (hx : Loc X.env.scope x := by first | exact Or.inl rfl | exact Or.inr rfl) (hf : X.fn x = true ∨ X.env.scope.names.lookup x = some .local := by first | exact .inl rfl | exact .inr rfl | assumption) : DG X (.Name x pos) (gName i) (tgN i) [i] := ⟨pg_name hN hi hx hf, simg_n⟩
theorem dg_t (is : List Nat) {es : List Expr} {k : Nat} {pos : Pos} (hc : X.calm = true) (h : PGs X es (gNames is)) (hn : (assignEach es X.env).length = is.length := by rfl) (hst : (assignEach es X.env).findIdx? (·.1) = none := by rfl) : DG X (.Tuple es k pos) (gTup X.K is.length (gNames is)) (tgT is) is := ⟨pg_tup hc h hn hst, simg_t⟩
/-- a, b = e -/
def pAsg (pe : PTE) (tg : PTG) : PTS := fun P A => pe A (fun y A1 => match y.fz with
  | some (.d x) => (match tg x A1.env with
    | some env' => P.nx ⟨env', A1.M⟩
    | none => False)
  | _ => False) P.ex
theorem sim_asg {K : PySem.W.Frag} {te : TE} {p : PTE} {g : TG} {tg : PTG} {ix : List Nat} (h : SimE K E te p) (hg : SimG K g tg ix) : SimS K E (tAsg te g) (pAsg p tg) := fun B σ H A P D rel x c =>
  h B σ H A _ _ _ rel x (fun y A' v H' p' r' => by
    split at p'
    · rename_i x e
      obtain ⟨t, S, ρ, hh, s, k⟩ := r'.fzD e
      cases e2 : tg x A'.env with
      | none => rw [e2] at p'; exact p'.elim
      | some env' =>
        rw [e2] at p'
        exact hg S H' t _ x v _ _ σ _ hh.le s k e2 fun σ' s' _ => c.nx ⟨env', A'.M⟩ σ' H' p' ⟨t, S, ρ, hh, s'⟩
    · exact p'.elim) (c.ex _)
theorem ds_asg {tg e : Expr} {te : TE} {p : PTE} {g : TG} {pg : PTG} {ix : List Nat} {pos : Pos} (h : DE X E e te p) (hg : DG X tg g pg ix) (hs : swapsWithSole [tg] e pos.line X.env = pure false := by rfl) (hw : swappedStores [tg] e X.env = pure none := by rfl) (h1 : (assignEach [tg] X.env).map (·.2) = [assign tg X.env] := by rfl) :
    DS X E (.Assign [tg] e pos) (tAsg te g) (pAsg p pg) := ⟨ps_asg h.pe hg.pg hs hw h1, sim_asg h.sim hg.sim⟩
end
end PD

/-! PD, ninth part: stores, loops, comprehensions. -/
namespace PD
open PySem L2

section
variable {K : PySem.W.Frag} {B : Bas} {t : Nat → Addr} {S : Hp} {r : Addr → Lb} {M : List (Option O)} {H : Hp}
theorem HR.put (h : HR K B t S r M H) {n : Nat} {o o' : O} {u : HO} (e : M[n]? = some (some o)) (f : r (t n) = some (some n)) (ok : OOk K S (fun b => r b = some (some n)) (upd H (t n) u) (t n) o') : HR K B t S r (M.set n (some o')) (upd H (t n) u) :=
  h.mut (List.getElem?_eq_some_iff.mp e).1 (fun b hb => upd_ne fun z => hb (by rw [z]; exact f)) (fun b hb => by
    by_cases z : b = t n
    · rw [z, upd_same]; simp
    · rw [upd_ne z]; exact (h.sep b _ hb).2) ok
/-- the one at hand is changed -/
theorem HR.mutT (h : HR K B t S r M H) {p : Addr} (hp : r p = some none) (u : HO) : HR K B t S r M (upd H p u) where
  le := fun b w e => by
    have ne : b ≠ p := fun q => by rw [q, (h.sep p _ hp).1] at e; cases e
    rw [upd_ne ne]
    exact h.le b w e
  sep := fun b l e => by
    refine ⟨(h.sep b l e).1, ?_⟩
    by_cases q : b = p
    · rw [q, upd_same]; simp
    · rw [upd_ne q]; exact (h.sep b l e).2
  lab := h.lab
  obj := fun n o e => (h.obj n o e).move (Le.refl S) fun b hb => upd_ne fun q => by
    have hb : r b = some (some n) := hb
    rw [q, hp] at hb; cases hb
  keep := fun b o e nd => by
    have ne : b ≠ p := fun q => by
      rcases h.own p _ hp with z | z
      · exact nd (q ▸ z)
      · rw [q, z] at e; cases e
    rw [upd_ne ne]
    exact h.keep b o e nd
  own := h.own
  stb := h.stb
  bas := h.bas
  th := h.th
  nl := h.nl
/-- an object that nobody owns and that is new to the base is taken at hand -/
theorem HR.relabel (h : HR K B t S r M H) {p : Addr} (hs : S p = none) (hp : H p ≠ none) (hn : ∀ n, r p ≠ some (some n)) (ho : B.D p ∨ B.H p = none) : HR K B t S (tmpT r p) M H where
  le := h.le
  sep := fun a l e => by
    unfold tmpT at e
    split at e
    · rename_i q; rw [q]; exact ⟨hs, hp⟩
    · exact h.sep a l (dropT_some e)
  lab := fun a n e => by
    unfold tmpT at e
    split at e
    · cases e
    · exact h.lab a n (dropT_some e)
  obj := fun n o e => (h.obj n o e).iff fun b => by
    unfold tmpT
    split
    · rename_i q
      subst q
      exact ⟨fun z => absurd z (hn n), fun z => nomatch z⟩
    · exact dropT_nm.symm
  keep := h.keep
  own := fun a l e => by
    unfold tmpT at e
    split at e
    · rename_i q; rw [q]; exact ho
    · exact h.own a l (dropT_some e)
  stb := h.stb
  bas := h.bas
  th := h.th
  nl := h.nl
end
/-! ### o[i] = e -/
def rSetA : TSet := fun o i v H Q => rSetL o i v H Q ∨ rSetD o i v H Q
theorem set_A {X : Cx} (hu : X.A.units + 1 < cLine) : PSet X rSetA := fun pins s σ H o i v ov iv u Q I r1 r2 r3 h => by
  rcases h with h | h
  · exact set_list pins s σ H o i v ov iv u Q I r1 r2 r3 h
  · exact set_dict hu pins s σ H o i v ov iv u Q I r1 r2 r3 h
def kdsOf : List D → Option (List Kd)
  | [] => some []
  | x :: r => (match kdOf x, kdsOf r with
    | some k, some ks => some (k :: ks)
    | _, _ => none)
theorem kdOf_v {K : PySem.W.Frag} {S : Hp} {x : D} {k : Kd} {v : V} (e : kdOf x = some k) (d : DR K S v x) : v = kV (kd k) := by
  cases x with
  | int i => cases e; exact d.int_of
  | str l => cases e; exact d.str_of
  | non => cases e
  | bl b => cases e
  | lst b => cases e
  | tup b => cases e
  | dic b => cases e
  | dit b => cases e
  | scr b => cases e
  | exc b => cases e
theorem kdsOf_v {K : PySem.W.Frag} {S : Hp} : ∀ {xs : List D} {ks : List Kd} {vs : List V}, kdsOf xs = some ks → DRs K S vs xs → vs = (ks.map kd).map kV
  | [], ks, _, e, .nil => by cases e; rfl
  | x :: r, ks, _, e, .cons a b => by
    have e : (match kdOf x, kdsOf r with
      | some k, some ks => some (k :: ks)
      | _, _ => none) = some ks := e
    split at e
    · rename_i k ks' e1 e2
      cases e
      rw [kdOf_v e1 a, kdsOf_v e2 b]
      rfl
    · cases e
def putT (kvs : List (List Kd × D)) (k : List Kd) (x : D) : List (List Kd × D) := if (kvs.any fun p => decide (p.1 = k)) = true then kvs.map (fun p => if p.1 = k then (p.1, x) else p) else kvs ++ [(k, x)]
theorem DRt.any {K : PySem.W.Frag} {S : Hp} {k : List Kd} : ∀ {vs : List (List Key × V)} {ds : List (List Kd × D)}, DRt K S vs ds → (vs.any fun kv => decide (kv.1 = k.map kd)) = ds.any fun p => decide (p.1 = k)
  | _, _, .nil => rfl
  | _, _, .cons (k := j) r t => by
    simp only [List.any_cons]
    rw [DRt.any (k := k) t]
    by_cases e : j = k
    · subst e; simp
    · have : ¬ j.map kd = k.map kd := fun q => e (kds_inj q)
      simp [e, this]
theorem DRt.append {K : PySem.W.Frag} {S : Hp} : ∀ {vs ws : List (List Key × V)} {ds es : List (List Kd × D)}, DRt K S vs ds → DRt K S ws es → DRt K S (vs ++ ws) (ds ++ es)
  | _, _, _, _, .nil, h => h
  | _, _, _, _, .cons r t, h => .cons r (DRt.append t h)
theorem DRt.repl {K : PySem.W.Frag} {S : Hp} {k : List Kd} {v : V} {x : D} (r : DR K S v x) : ∀ {vs : List (List Key × V)} {ds : List (List Kd × D)}, DRt K S vs ds →
    DRt K S (vs.map fun kv => if kv.1 = k.map kd then (kv.1, v) else kv) (ds.map fun p => if p.1 = k then (p.1, x) else p)
  | _, _, .nil => .nil
  | _, _, .cons (k := j) q t => by
    rw [List.map_cons, List.map_cons]
    by_cases e : j = k
    · subst e
      simp only [if_true]
      exact .cons r (DRt.repl r t)
    · have e' : ¬ j.map kd = k.map kd := fun q => e (kds_inj q)
      simp only [if_neg e, if_neg e']
      exact .cons q (DRt.repl r t)
theorem DRt.put {K : PySem.W.Frag} {S : Hp} {k : List Kd} {v : V} {x : D} {vs : List (List Key × V)} {ds : List (List Kd × D)} (h : DRt K S vs ds) (r : DR K S v x) : DRt K S (putK vs (k.map kd) v) (putT ds k x) := by
  unfold putK putT
  rw [h.any (k := k)]
  by_cases e : (ds.any fun p => decide (p.1 = k)) = true
  · rw [if_pos e, if_pos e]
    exact h.repl r
  · rw [if_neg e, if_neg e]
    exact h.append (.cons r .nil)
/-- what the store leaves of an owned object -/
def storeO (k v : D) (P : O → Prop) : O → Prop
  | .lst xs => (match k with
    | .int j => ∃ jj, ixN xs.length j = some jj ∧ P (.lst (xs.set jj v))
    | _ => False)
  | .dic kvs => (match kdOf k with
    | some kk => kvs.length < 16777216 ∧ P (.dic (putD kvs kk v))
    | none => False)
  | .dit kvs => (match k with
    | .tup ks => (match kdsOf ks with
      | some kk => kvs.length < 16777216 ∧ P (.dit (putT kvs kk v))
      | none => False)
    | _ => False)
  | .res _ => False
  | .nst _ => False
def pSetIx (po pi pe : PTE) : PTS := fun P A => pe A (fun y A1 => match y.fz with
  | some (.d v) => po A1 (fun yo A2 => match yo with
    | .p n => pi A2 (fun yi A3 => match yi with
      | .d k => (match A3.M[n]? with
        | some (some o) => storeO k v (fun o' => P.nx ⟨A3.env, A3.M.set n (some o')⟩) o
        | _ => False)
      | _ => False) P.ex
    | _ => False) P.ex
  | _ => False) P.ex
section
variable {X : Cx} {E : WX}
theorem sim_setIx {K : PySem.W.Frag} {te to ti : TE} {pe po pi : PTE} (he : SimE K E te pe) (ho : SimE K E to po) (hi : SimE K E ti pi) : SimS K E (tAsg te (gSub to ti rSetA)) (pSetIx po pi pe) := fun B σ H A P D rel x c => by
  refine he B σ H A _ _ _ rel x (fun y A1 v H1 p1 r1 => ?_) (c.ex _)
  split at p1
  · rename_i w ew
    obtain ⟨t, S, ρ, h, s, k⟩ := r1.fzD ew
    have k : DR K S v w := k
    refine ho _ σ H1 A1 _ _ _ ⟨t, S, _, h.rebase, s⟩ p1 (fun yo A2 vo H2 p2 res2 => ?_) ((c.ex _).back h)
    split at p2
    · rename_i n
      obtain ⟨t2, S2, ρ2, h2, s2, k2⟩ := res2
      obtain ⟨rfl, hn⟩ := k2
      have h2' := h.back h2
      refine hi _ σ H2 A2 _ _ _ ⟨t2, S2, _, h2'.rebase, s2⟩ p2 (fun yi A3 vi H3 p3 res3 => ?_) ((c.ex _).back h2')
      split at p3
      · rename_i kk
        obtain ⟨t3, S3, ρ3, h3, s3, k3⟩ := res3
        have k3 : DR K S3 vi kk := k3
        have h3' := h2'.back h3
        have kv : DR K S3 v w := (k.mono h2.ext.le).mono h3.ext.le
        have et : t3 n = t2 n := h3.ext.th n hn
        split at p3
        · rename_i o eo
          have ok := h3'.obj n o eo
          rw [← et]
          have fin : ∀ (o' : O) (u : HO), ρ3 (t3 n) = some (some n) → OOk K S3 (fun b => ρ3 b = some (some n)) (upd H3 (t3 n) u) (t3 n) o' → P.nx ⟨A3.env, A3.M.set n (some o')⟩ → D.nx σ (upd H3 (t3 n) u) := fun o' u f ok' q =>
            c.nx ⟨A3.env, A3.M.set n (some o')⟩ σ _ q ⟨t3, S3, ρ3, h3'.put eo f ok', by
              show SR K S3 t3 (A3.M.set n (some o')).length A3.env σ
              rw [List.length_set]
              exact s3⟩
          cases o with
          | lst xs =>
            obtain ⟨f, vs, e1, e2⟩ := ok
            cases kk with
            | int j =>
              obtain ⟨jj, e3, q⟩ := p3
              cases k3.int_of
              exact .inl ⟨t3 n, vs, _, jj, rfl, rfl, e1, by rw [e2.length]; exact e3, fin (.lst _) _ f ⟨f, _, upd_same, e2.set kv jj⟩ q⟩
            | _ => exact False.elim p3
          | dic kvs =>
            obtain ⟨f, vs, e1, e2⟩ := ok
            simp only [storeO] at p3
            cases ekq : kdOf kk with
            | none => rw [ekq] at p3; exact p3.elim
            | some kq =>
              rw [ekq] at p3
              obtain ⟨hl, q⟩ := p3
              rw [kdOf_v ekq k3]
              exact .inr ⟨t3 n, _, rfl, DPut.k e1 (by rw [e2.length]; exact hl), fin (.dic _) _ f ⟨f, _, upd_same, e2.put kv⟩ q⟩
          | dit kvs =>
            obtain ⟨f, vs, e1, e2⟩ := ok
            cases kk with
            | tup ks =>
              obtain ⟨b, ws, rfl, g1, g2⟩ := k3.tup_of
              simp only [storeO] at p3
              cases ekq : kdsOf ks with
              | none => rw [ekq] at p3; exact p3.elim
              | some kq =>
                rw [ekq] at p3
                obtain ⟨hl, q⟩ := p3
                have := kdsOf_v ekq g2
                subst this
                exact .inr ⟨t3 n, _, rfl, DPut.t e1 (h3.le.tup g1) (by rw [e2.length]; exact hl), fin (.dit _) _ f ⟨f, _, upd_same, e2.put kv⟩ q⟩
            | _ => exact False.elim p3
          | res _ => exact False.elim p3
          | nst _ => exact False.elim p3
        · exact p3.elim
      · exact p3.elim
    · exact p2.elim
  · exact p1.elim
theorem ds_setIx {o i e : Expr} {te to ti : TE} {pe po pi : PTE} {pos pos' : Pos} (hu : X.A.units + 1 < cLine) (ho : DE X E o to po) (hi : DE X E i ti pi) (he : DE X E e te pe)
    (ha : ∀ v, assign (.Subscript o i pos') X.env v = (do
      let ov ← holding [v] (eval o X.env)
      let iv ← holding [v, ov] (eval i X.env)
      standAt pos'
      holding [v, ov, iv] (setItem ov iv v)
      release [v, ov, iv] []) := by intro _; rfl)
    (hs : swapsWithSole [.Subscript o i pos'] e pos.line X.env = pure false := by rfl) (hw : swappedStores [.Subscript o i pos'] e X.env = pure none := by rfl) (h1 : (assignEach [.Subscript o i pos'] X.env).map (·.2) = [assign (.Subscript o i pos') X.env] := by rfl) :
    DS X E (.Assign [.Subscript o i pos'] e pos) (tAsg te (gSub to ti rSetA)) (pSetIx po pi pe) := ⟨ps_asg he.pe (pg_sub ho.pe hi.pe (set_A hu) ha) hs hw h1, sim_setIx he.sim ho.sim hi.sim⟩

/-! ### methods that change an owned list -/
abbrev LM := List D → List D → (R → List D → Prop) → Prop
def SndL (K : PySem.W.Frag) (r : V → List V → Hp → VK → Prop) (lm : LM) : Prop := ∀ (S H : Hp) (a : Addr) (xs args : List D) (vs ws : List V) (P : R → List D → Prop) (Q : VK), Le S H → H a = some (.lst vs) → DRs K S vs xs → DRs K S ws args → lm xs args P →
  (∀ d v xs' vs', P (.d d) xs' → DR K S v d → DRs K S vs' xs' → Q v (upd H a (.lst vs'))) → r (.ref a) ws H Q
def pLM (lm : LM) (po : PTE) (pa : PTA) : PTE := fun A P Y => po A (fun yo A1 => match yo with
  | .p n => (match A1.M[n]? with
    | some (some (.lst _)) => pa A1 (fun zs A2 => match A2.M[n]?, dats zs with
      | some (some (.lst xs)), some args => lm xs args (fun y xs' => P y ⟨A2.env, A2.M.set n (some (.lst xs'))⟩)
      | _, _ => False) Y
    | _ => False)
  | _ => False) Y
theorem tyV_lst {K : PySem.W.Frag} {H : Hp} {a : Addr} {vs : List V} (h : H a = some (.lst vs)) : tyV K "list" (.ref a) H := .inl ⟨rfl, vs, SqL.of h⟩
theorem sim_lm {K : PySem.W.Frag} {r : V → List V → Hp → VK → Prop} {lm : LM} {to : TE} {ta : TA} {po : PTE} {pa : PTA} (hr : SndL K r lm) (ho : SimE K E to po) (ha : SimA K E ta pa) : SimE K E (tBM K "list" r to ta) (pLM lm po pa) := fun B σ H A P Y Q rel x q xq => by
  refine ho B σ H A _ _ _ rel x (fun yo A1 vo H1 p1 res => ?_) xq
  split at p1
  · rename_i n
    obtain ⟨t, S, ρ, h, s, k⟩ := res
    obtain ⟨rfl, hn⟩ := k
    split at p1
    · rename_i xs0 e0
      obtain ⟨_, vs0, e1, _⟩ := h.obj n _ e0
      refine ⟨tyV_lst e1, ha _ σ H1 A1 _ _ _ ⟨t, S, _, h.rebase, s⟩ p1 (fun zs A2 ws H2 p2 res2 => ?_) (xq.back h)⟩
      split at p2
      · rename_i xs args e2 e3
        obtain ⟨t2, S2, ρ2, n2, rl⟩ := res2
        have h2 := h.back n2.h
        have et : t2 n = t n := n2.h.ext.th n hn
        obtain ⟨f, vs, g1, g2⟩ := h2.obj n _ e2
        rw [← et]
        refine hr S2 H2 (t2 n) xs args vs ws _ Q n2.h.le g1 g2 (rl.dats e3) p2 fun d v xs' vs' pd dd dx => ?_
        refine q (.d d) ⟨A2.env, A2.M.set n (some (.lst xs'))⟩ v _ pd ⟨t2, S2, ρ2, h2.put e2 f ⟨f, vs', upd_same, dx⟩, ?_, dd⟩
        show SR K S2 t2 (A2.M.set n (some (.lst xs'))).length A2.env σ
        rw [List.length_set]
        exact n2.s
      · exact p2.elim
    · exact p1.elim
  · exact p1.elim
theorem de_lm {o e : Expr} {es : List Expr} {name : Str} {id : String} {r : V → List V → Hp → VK → Prop} {lm : LM} {to : TE} {ta : TA} {po : PTE} {pa : PTA} {apos cpos : Pos} (slot : Slot "list" name id) (hty : typeOf (.builtin id) = pure (.type "method_descriptor")) (hm : MtR X id r) (hr : SndL X.K r lm)
    (ho : DE X E o to po) (ha : DA X E (e :: es) ta pa) (hbase : attributeBase o name X.env (eval o X.env) = eval o X.env := by rfl)
    (hfew : ((backTo cpos (starEach (e :: es) X.env)).all (fun x => !x.1) && (backToKw cpos (keywordEach [] X.env)).all (fun x => x.1.isSome)
      && decide ((e :: es).length + ([] : List Keyword).length + (if ([] : List Keyword).isEmpty then 0 else 1) < 30)) = true := by rfl)
    (hline : (apos.endLine == cpos.line) = true := by rfl) (hs : starEach (e :: es) X.env = (false, eval e X.env) :: starEach es X.env := by rfl) (hplain : (backTo cpos (starEach es X.env)).any (·.1) = false := by rfl) :
    DE X E (.Call (.Attribute o name apos) (e :: es) [] cpos) (tBM X.K "list" r to ta) (pLM lm po pa) := ⟨pe_bm PySem.F.plainAttrs_list slot hty hm ho.pe ha.pe hbase hfew hline hs hplain, sim_lm hr ho.sim ha.sim⟩
def lAppend : LM
  | xs, [v], P => xs.length < 16777216 ∧ P (.d .non) (xs ++ [v])
  | _, _, _ => False
theorem snd_append {K : PySem.W.Frag} : SndL K rAppend lAppend := fun S H a xs args vs ws P Q le h1 h2 h3 b q => by
  unfold lAppend at b
  split at b
  · cases h3 with
    | cons g h => cases h; exact ⟨a, vs, _, rfl, rfl, h1, by rw [h2.length]; exact b.1, q .non _ _ _ b.2 .non (h2.snoc g)⟩
  · exact b.elim
def lInsert : LM
  | xs, [.int i, v], P => xs.length < 16777216 ∧ 0 ≤ i ∧ i < 2 ^ 63 ∧ P (.d .non) (xs.take i.toNat ++ [v] ++ xs.drop i.toNat)
  | _, _, _ => False
def lExtend : LM
  | xs, [.lst ys], P => xs.length + ys.length ≤ 16777216 ∧ P (.d .non) (xs ++ ys)
  | _, _, _ => False
theorem snd_extend {K : PySem.W.Frag} : SndL K rExtend lExtend := fun S H a xs args vs ws P Q le h1 h2 h3 b q => by
  unfold lExtend at b
  split at b
  · cases h3 with
    | cons g h =>
      cases h
      obtain ⟨p, us, rfl, g1, g2⟩ := g.lst_of
      exact ⟨a, p, vs, us, rfl, rfl, h1, le.lst g1, by rw [h2.length, g2.length]; exact b.1, q .non _ _ _ b.2 .non (h2.append g2)⟩
  · exact b.elim
def lPopAt : LM
  | xs, [.int i], P => -(2 ^ 63) ≤ i ∧ i < 2 ^ 63 ∧ ∃ k d, seqIndex? i xs.length = some k ∧ xs[k]? = some d ∧ P (.d d) (xs.eraseIdx k)
  | _, _, _ => False
theorem snd_popAt {K : PySem.W.Frag} : SndL K rPopAt lPopAt := fun S H a xs args vs ws P Q le h1 h2 h3 b q => by
  unfold lPopAt at b
  split at b
  · obtain ⟨b1, b2, k, d, b3, b4, b5⟩ := b
    cases h3 with
    | cons g h =>
      cases h
      cases g
      obtain ⟨v, e1, e2⟩ := h2.get' b4
      exact ⟨a, vs, _, k, v, rfl, rfl, h1, b1, b2, by rw [h2.length]; exact b3, e1, q _ _ _ _ b5 e2 (h2.eraseIdx k)⟩
  · exact b.elim
end
end PD

/-! PD, tenth part: loops and comprehensions. -/
namespace PD
open PySem L2

/-- what data stood locked stays so -/
def Kf (S Hb H' : Hp) : Prop := ∀ a od u, S a ≠ none → Hb a = some (.frz od u) → H' a = some (.frz od u)
theorem HR.kf {K : PySem.W.Frag} {B : Bas} {t : Nat → Addr} {S : Hp} {r : Addr → Lb} {M : List (Option O)} {H : Hp} (h : HR K B t S r M H) {t' : Nat → Addr} {S' : Hp} {r' : Addr → Lb} {M' : List (Option O)} {H' : Hp} (h' : HR K (baseOf t S r M.length H) t' S' r' M' H') : Kf S H H' := fun a od u hs e => by
  rcases h'.keep a _ e (fun ⟨n, z⟩ => hs (h.sep a _ z).1) with z | ⟨z, _⟩
  · exact z
  · cases z
/-- what is walked: n things, the i-th bears it i; C must hold of the owned objects meanwhile -/
structure Src (K : PySem.W.Frag) (J : It) (n : Nat) (it : Nat → D) (C : List (Option O) → Prop) (t : Nat → Addr) (S : Hp) (m : Nat) (Hb : Hp) : Prop where
  stop : ∀ (B' : Bas) t' S' r' M' H', HR K B' t' S' r' M' H' → Ext t S m t' S' M'.length → Kf S Hb H' → C M' → J.stop n H'
  go : ∀ (B' : Bas) t' S' r' M' H', HR K B' t' S' r' M' H' → Ext t S m t' S' M'.length → Kf S Hb H' → C M' → ∀ i, i < n → J.go i H' ∧ ∀ x H'', J.yld i H' x H'' →
    (∀ b o, H' b = some o → H'' b = some o) ∧ ∃ S'', HR K B' t' S'' r' M' H'' ∧ Ext t' S' M'.length t' S'' M'.length ∧ DR K S'' x (it i)
abbrev PTI := Abs → (Nat → (Nat → D) → (List (Option O) → Prop) → Abs → Prop) → PX → Prop
def SimI (K : PySem.W.Frag) (E : WX) (wi : TI) (ps : PTI) : Prop := ∀ (B : Bas) (σ : St) (H : Hp) (A : Abs) (P : Nat → (Nat → D) → (List (Option O) → Prop) → Abs → Prop) (Y : PX) (R : It → Hp → Prop),
  Rel K B A σ H → ps A P Y → (∀ n it C A' J H', P n it C A' → (∃ t S r, Now K B t S r A' σ H' ∧ Src K J n it C t S A'.M.length H') → R J H') → XQ K B E σ Y → wi σ H R
structure DI (X : Cx) (E : WX) (tg iter : Expr) (wi : TI) (ps : PTI) : Prop where
  pi : PI X tg iter wi
  sim : SimI X.K E wi ps

/-! ### for -/
def pFor (ps : PTI) (tg : PTG) (body : PTS) : PTS := fun P A => ps A (fun n it C A1 => ∃ Inv : Nat → Abs → Prop, Inv 0 A1 ∧ (∀ i A', i ≤ n → Inv i A' → C A'.M) ∧
  (∀ i A', i < n → Inv i A' → ∃ env', tg (it i) A'.env = some env' ∧ body { P with nx := Inv (i + 1), ct := Inv (i + 1), bk := P.nx } ⟨env', A'.M⟩) ∧ (∀ A', Inv n A' → P.nx A')) P.ex
theorem sim_for {K : PySem.W.Frag} {E : WX} {wi : TI} {ps : PTI} {g : TG} {tg : PTG} {ix : List Nat} {tb : TS} {pb : PTS} (hi : SimI K E wi ps) (hg : SimG K g tg ix) (hb : SimS K E tb pb) : SimS K E (tFor wi g tb) (pFor ps tg pb) := fun B σ H A P D rel x c => by
  refine hi B σ H A _ _ _ rel x (fun n it C A1 J H1 p1 ⟨t, S, ρ, nw, src⟩ => ?_) (c.ex _)
  obtain ⟨Inv, i0, iC, iS, iD⟩ := p1
  refine ⟨fun i m σ' H' => i + m = n ∧ ∃ A', Inv i A' ∧ Rel K (baseOf t S ρ A1.M.length H1) A' σ' H', ⟨n, by omega, A1, i0, t, S, _, nw.h.rebase, nw.s⟩, fun i m σ' H' ⟨em, A', iA, t', S', ρ', h', s'⟩ => ?_⟩
  have cb := c.back nw.h
  cases m with
  | zero =>
    have e : i = n := by omega
    subst e
    exact .inl ⟨src.stop _ _ _ _ _ _ h' h'.ext (nw.h.kf h') (iC _ _ (Nat.le_refl _) iA), cb.nx A' σ' H' (iD A' iA) ⟨t', S', ρ', h', s'⟩⟩
  | succ m =>
    have hlt : i < n := by omega
    obtain ⟨g1, g2⟩ := src.go _ _ _ _ _ _ h' h'.ext (nw.h.kf h') (iC _ _ (by omega) iA) i hlt
    refine .inr ⟨g1, fun σ2 H2 => ∃ A2, Inv (i + 1) A2 ∧ Rel K (baseOf t S ρ A1.M.length H1) A2 σ2 H2, fun σ2 H2 ⟨A2, i2, r2⟩ => ⟨m, by omega, by omega, A2, i2, r2⟩, fun v H2 y => ?_⟩
    obtain ⟨_, S2, h2, e2, d2⟩ := g2 v H2 y
    obtain ⟨env', e3, pb⟩ := iS i A' hlt iA
    refine hg S2 H2 t' _ _ v _ env' σ' _ h2.le (s'.ext e2) d2 e3 fun σ2 s2 _ => ?_
    refine hb (baseOf t S ρ A1.M.length H1) σ2 H2 ⟨env', A'.M⟩ _ _ ⟨t', S2, ρ', h2, s2⟩ pb ⟨fun A3 σ3 H3 p3 r3 => ⟨A3, p3, r3⟩, cb.rt, cb.nx, fun A3 σ3 H3 p3 r3 => ⟨A3, p3, r3⟩, cb.ex⟩
section
variable {X : Cx} {E : WX}
theorem ds_for {iter tg : Expr} {body : List Stmt} {wi : TI} {ps : PTI} {g : TG} {pg : PTG} {ix : List Nat} {tb : TS} {pb : PTS} {pos : Pos} (hp : PassesOwn (model X.prog X.w) X.A X.env X.xe) (hc : X.calm = true) (hi : DI X E tg iter wi ps) (hg : DG X tg g pg ix) (hb : DSs X E body tb pb)
    (hs : ∀ x, foldedSetIterable iter X.env x = pure x := by intro _; rfl) : DS X E (.For tg iter body [] pos) (tFor wi g tb) (pFor ps pg pb) := ⟨ps_for hp hc hi.pi hg.pg hb.pe hs, sim_for hi.sim hg.sim hb.sim⟩
/-! ### while -/
def pWhile (t : PTT) (body : PTS) : PTS := fun P A => ∃ W : Nat → Abs → Prop, (∃ m, W m A) ∧ ∀ m A', W m A' → t A' (fun b A1 => if b = true then body { P with nx := fun A2 => ∃ m', m' < m ∧ W m' A2, ct := fun A2 => ∃ m', m' < m ∧ W m' A2, bk := P.nx } A1 else P.nx A1) P.ex
theorem sim_while {K : PySem.W.Frag} {t : TT} {pt : PTT} {tb : TS} {pb : PTS} (ht : SimT K E t pt) (hb : SimS K E tb pb) : SimS K E (tWhile t tb) (pWhile pt pb) := fun B σ H A P D rel x c => by
  obtain ⟨W, ⟨m0, w0⟩, ws⟩ := x
  refine ⟨fun m σ' H' => ∃ A', W m A' ∧ Rel K B A' σ' H', ⟨m0, A, w0, rel⟩, fun m σ' H' ⟨A', wA, r'⟩ => ?_⟩
  refine ht B σ' H' A' _ _ _ r' (ws m A' wA) (fun b A1 H1 p1 r1 => ?_) (c.ex _)
  cases b with
  | false => exact c.nx A1 σ' H1 (by simpa using p1) r1
  | true =>
    refine ⟨fun σ2 H2 => ∃ A2, (∃ m', m' < m ∧ W m' A2) ∧ Rel K B A2 σ2 H2, fun σ2 H2 ⟨A2, ⟨m', hm, w2⟩, r2⟩ => ⟨m', hm, A2, w2, r2⟩, ?_⟩
    exact hb B σ' H1 A1 { P with nx := fun A2 => ∃ m', m' < m ∧ W m' A2, ct := fun A2 => ∃ m', m' < m ∧ W m' A2, bk := P.nx } _ r1 (by simpa using p1) ⟨fun A2 σ2 H2 p2 r2 => ⟨A2, p2, r2⟩, c.rt, c.nx, fun A2 σ2 H2 p2 r2 => ⟨A2, p2, r2⟩, c.ex⟩
theorem ds_while {c : Expr} {body : List Stmt} {t : TT} {pt : PTT} {tb : TS} {pb : PTS} {pos : Pos} (hp : PassesOwn (model X.prog X.w) X.A X.env X.xe) (hc : DT X E c t pt) (hb : DSs X E body tb pb) : DS X E (.While c body [] pos) (tWhile t tb) (pWhile pt pb) := ⟨ps_while hp hc.pe hb.pe, sim_while hc.sim hb.sim⟩
/-! ### what is walked -/
def yes : List (Option O) → Prop := fun _ => True
def itL (xs : List D) (i : Nat) : D := xs.getD i .non
theorem src_lst {K : PySem.W.Frag} {Hb : Hp} {t : Nat → Addr} {S : Hp} {m : Nat} {a : Addr} {vs : List V} {xs : List D} (h1 : S a = some (.lst vs)) (h2 : DRs K S vs xs) : Src K (Itl K a) xs.length (itL xs) yes t S m Hb where
  stop := fun B' t' S' r' M' H' h e _ _ => ⟨vs, SqL.of (h.le.lst (e.le.lst h1)), by rw [h2.length]; exact Nat.le_refl _⟩
  go := fun B' t' S' r' M' H' h e _ _ i hi => by
    have q : SqL K H' a vs := SqL.of (h.le.lst (e.le.lst h1))
    obtain ⟨x, ex⟩ : ∃ x, vs[i]? = some x := ⟨vs[i]'(by rw [h2.length]; exact hi), List.getElem?_eq_getElem _⟩
    refine ⟨⟨vs, x, q, ex⟩, fun y H'' hy => ?_⟩
    obtain ⟨rfl, hy⟩ := hy
    have := hy vs q
    rw [ex] at this
    cases this
    obtain ⟨d, e1, e2⟩ := h2.get ex
    have e3 : itL xs i = d := by
      unfold itL
      rw [List.getD_eq_getElem?_getD, e1]
      rfl
    rw [e3]
    exact ⟨fun _ _ z => z, S', h, Ext.refl, e2.mono e.le⟩
theorem src_lstP {K : PySem.W.Frag} {Hb : Hp} {t : Nat → Addr} {S : Hp} {m n : Nat} {xs : List D} (hn : n < m) : Src K (Itl K (t n)) xs.length (itL xs) (fun M => M[n]? = some (some (.lst xs))) t S m Hb where
  stop := fun B' t' S' r' M' H' h e _ c => by
    obtain ⟨_, vs, h1, h2⟩ := h.obj n _ c
    rw [e.th n hn] at h1
    exact ⟨vs, SqL.of h1, by rw [h2.length]; exact Nat.le_refl _⟩
  go := fun B' t' S' r' M' H' h e _ c i hi => by
    obtain ⟨_, vs, h1, h2⟩ := h.obj n _ c
    rw [e.th n hn] at h1
    have q : SqL K H' (t n) vs := SqL.of h1
    obtain ⟨x, ex⟩ : ∃ x, vs[i]? = some x := ⟨vs[i]'(by rw [h2.length]; exact hi), List.getElem?_eq_getElem _⟩
    refine ⟨⟨vs, x, q, ex⟩, fun y H'' hy => ?_⟩
    obtain ⟨rfl, hy⟩ := hy
    have := hy vs q
    rw [ex] at this
    cases this
    obtain ⟨d, e1, e2⟩ := h2.get ex
    have e3 : itL xs i = d := by
      unfold itL
      rw [List.getD_eq_getElem?_getD, e1]
      rfl
    rw [e3]
    exact ⟨fun _ _ z => z, S', h, Ext.refl, e2⟩
theorem src_scr {K : PySem.W.Frag} {Hb : Hp} {t : Nat → Addr} {S : Hp} {m : Nat} {a : Addr} {ns : List Int} (h1 : SqL K S a (ns.map V.int)) : Src K (Itl K a) ns.length (itL (ns.map D.int)) yes t S m Hb where
  stop := fun B' t' S' r' M' H' h e _ _ => ⟨_, h.le.sql (e.le.sql h1), by rw [List.length_map]; exact Nat.le_refl _⟩
  go := fun B' t' S' r' M' H' h e _ _ i hi => by
    have q : SqL K H' a (ns.map V.int) := h.le.sql (e.le.sql h1)
    have ex : (ns.map V.int)[i]? = some (V.int ns[i]) := by rw [List.getElem?_map, List.getElem?_eq_getElem hi]; rfl
    refine ⟨⟨_, _, q, ex⟩, fun y H'' hy => ?_⟩
    obtain ⟨rfl, hy⟩ := hy
    have := hy _ q
    rw [ex] at this
    cases this
    have e3 : itL (ns.map D.int) i = .int ns[i] := by
      unfold itL
      rw [List.getD_eq_getElem?_getD, List.getElem?_map, List.getElem?_eq_getElem hi]
      rfl
    rw [e3]
    exact ⟨fun _ _ z => z, S', h, Ext.refl, .int _⟩
def pItL (p : PTE) : PTI := fun A P Y => p A (fun y A1 => match y.fz with
  | some (.d (.lst xs)) => P xs.length (itL xs) yes A1
  | some (.d (.scr ns)) => P ns.length (itL (ns.map D.int)) yes A1
  | some (.p n) => (match A1.M[n]? with
    | some (some (.lst xs)) => P xs.length (itL xs) (fun M => M[n]? = some (some (.lst xs))) A1
    | _ => False)
  | _ => False) Y
theorem sim_itL {K : PySem.W.Frag} {te : TE} {p : PTE} (h : SimE K E te p) : SimI K E (iList K te) (pItL p) := fun B σ H A P Y R rel x q xq => by
  refine h B σ H A _ _ _ rel x (fun y A1 v H1 p1 r1 => ?_) xq
  split at p1
  · rename_i xs e
    obtain ⟨t, S, ρ, hh, s, k⟩ := r1.fzD e
    obtain ⟨a, vs, rfl, h1, h2⟩ := DR.lst_of k
    exact ⟨a, rfl, ⟨vs, SqL.of (hh.le.lst h1)⟩, q _ _ _ _ _ _ p1 ⟨t, S, ρ, ⟨hh, s⟩, src_lst h1 h2⟩⟩
  · rename_i ns e
    obtain ⟨t, S, ρ, hh, s, k⟩ := r1.fzD e
    obtain ⟨a, rfl, h1⟩ := DR.scr_of k
    exact ⟨a, rfl, ⟨_, hh.le.sql h1⟩, q _ _ _ _ _ _ p1 ⟨t, S, ρ, ⟨hh, s⟩, src_scr h1⟩⟩
  · rename_i n e
    obtain ⟨t, S, ρ, hh, s, k⟩ := r1.fzD e
    obtain ⟨rfl, hn⟩ := k
    split at p1
    · rename_i xs em
      obtain ⟨_, vs, h1, h2⟩ := hh.obj n _ em
      exact ⟨t n, rfl, ⟨vs, SqL.of h1⟩, q _ _ _ _ _ _ p1 ⟨t, S, ρ, ⟨hh, s⟩, src_lstP hn⟩⟩
    · exact p1.elim
  · exact p1.elim
theorem di_lst {tg e : Expr} {te : TE} {p : PTE} (h : DE X E e te p) : DI X E tg e (iList X.K te) (pItL p) := ⟨pi_list h.pe, sim_itL h.sim⟩
theorem src_rng {K : PySem.W.Frag} {Hb : Hp} {t : Nat → Addr} {S : Hp} {m n : Nat} {lo : Int} : Src K (Itr lo n) n (fun i => .int (lo + i)) yes t S m Hb where
  stop := fun _ _ _ _ _ _ _ _ _ _ => Nat.le_refl n
  go := fun B' t' S' r' M' H' h e _ _ i hi => ⟨hi, fun x H'' hy => by
    obtain ⟨rfl, rfl⟩ := hy
    exact ⟨fun _ _ z => z, S', h, Ext.refl, .int _⟩⟩
theorem src_rngC {K : PySem.W.Frag} {Hb : Hp} {t : Nat → Addr} {S : Hp} {m n : Nat} {lo c : Int} : Src K (Itc lo c n) n (fun i => .int (lo + (i : Nat) * c)) yes t S m Hb where
  stop := fun _ _ _ _ _ _ _ _ _ _ => Nat.le_refl n
  go := fun B' t' S' r' M' H' h e _ _ i hi => ⟨hi, fun x H'' hy => by
    obtain ⟨rfl, rfl⟩ := hy
    exact ⟨fun _ _ z => z, S', h, Ext.refl, .int _⟩⟩
def smallI (i : Int) : Prop := -(2 ^ 62) ≤ i ∧ i < 2 ^ 62
def pRng1 (q : PTA) : PTI := fun A P Y => q A (fun zs A1 => match zs with
  | [.d (.int j)] => smallI j ∧ P j.toNat (fun i => .int (0 + i)) yes A1
  | _ => False) Y
def pRng2 (q : PTA) : PTI := fun A P Y => q A (fun zs A1 => match zs with
  | [.d (.int i), .d (.int j)] => smallI i ∧ smallI j ∧ P (j - i).toNat (fun k => .int (i + k)) yes A1
  | _ => False) Y
/-- range(i, j, -1) -/
def pRng3 (q : PTA) : PTI := fun A P Y => q A (fun zs A1 => match zs with
  | [.d (.int i), .d (.int j), .d (.int c)] => ∃ n, RgC i j c n ∧ P n (fun k => .int (i + (k : Nat) * c)) yes A1
  | _ => False) Y
theorem RL.one {K : PySem.W.Frag} {S : Hp} {t : Nat → Addr} {m : Nat} {x : D} {vs : List V} (h : RL K S t m [.d x] vs) : ∃ v, vs = [v] ∧ DR K S v x := by
  cases h with
  | cons a b c => cases c; exact ⟨_, rfl, b (fun _ => none) (fun _ => none)⟩
theorem RL.uncons {K : PySem.W.Frag} {S : Hp} {t : Nat → Addr} {m : Nat} {x : D} {r : List R} {vs : List V} (h : RL K S t m (.d x :: r) vs) : ∃ v ws, vs = v :: ws ∧ DR K S v x ∧ RL K S t m r ws := by
  cases h with
  | cons a b c => exact ⟨_, _, rfl, b (fun _ => none) (fun _ => none), c⟩
theorem di_rng1 {tg a : Expr} {ta : TA} {q : PTA} {p pos : Pos} (hg : Gl X "range") (hm : X.mg "range" = none) (ha : DA X E [a] ta q) (hs : starEach [a] X.env = [(false, eval a X.env)] := by rfl) : DI X E tg (.Call (.Name "range" p) [a] [] pos) (iRng1 ta) (pRng1 q) :=
  ⟨pi_range1 hg hm ha.pe hs, fun B σ H A P Y R rel x k xq => ha.sim B σ H A _ _ _ rel x (fun zs A1 vs H1 p1 h1 => by
    split at p1
    · rename_i j
      obtain ⟨t, S, ρ, n, rl⟩ := h1
      obtain ⟨v, rfl, d⟩ := rl.one
      cases d.int_of
      exact ⟨j, rfl, p1.1.1, p1.1.2, k _ _ _ _ _ _ p1.2 ⟨t, S, ρ, n, src_rng⟩⟩
    · exact p1.elim) xq⟩
theorem di_rng2 {tg a b : Expr} {ta : TA} {q : PTA} {p pos : Pos} (hg : Gl X "range") (hm : X.mg "range" = none) (ha : DA X E [a, b] ta q) (hs : starEach [a, b] X.env = [(false, eval a X.env), (false, eval b X.env)] := by rfl) (hs2 : starEach [b] X.env = [(false, eval b X.env)] := by rfl) :
    DI X E tg (.Call (.Name "range" p) [a, b] [] pos) (iRng2 ta) (pRng2 q) :=
  ⟨pi_range2 hg hm ha.pe hs hs2, fun B σ H A P Y R rel x k xq => ha.sim B σ H A _ _ _ rel x (fun zs A1 vs H1 p1 h1 => by
    split at p1
    · rename_i i j
      obtain ⟨t, S, ρ, n, rl⟩ := h1
      obtain ⟨v, ws, rfl, d, rl⟩ := rl.uncons
      obtain ⟨w, rfl, d2⟩ := rl.one
      cases d.int_of
      cases d2.int_of
      exact ⟨i, j, rfl, ⟨p1.1.1, p1.1.2, p1.2.1.1, p1.2.1.2⟩, k _ _ _ _ _ _ p1.2.2 ⟨t, S, ρ, n, src_rng⟩⟩
    · exact p1.elim) xq⟩
theorem di_rng3 {tg a b c : Expr} {ta : TA} {q : PTA} {p pos : Pos} (hg : Gl X "range") (hm : X.mg "range" = none) (ha : DA X E [a, b, c] ta q)
    (hs : starEach [a, b, c] X.env = (false, eval a X.env) :: starEach [b, c] X.env := by rfl) (hpl : (backTo pos (starEach [b, c] X.env)).any (·.1) = false := by rfl) :
    DI X E tg (.Call (.Name "range" p) [a, b, c] [] pos) (iRng3 ta) (pRng3 q) :=
  ⟨pi_range3 hg hm ha.pe hs hpl, fun B σ H A P Y R rel x k xq => ha.sim B σ H A _ _ _ rel x (fun zs A1 vs H1 p1 h1 => by
    split at p1
    · rename_i i j c
      obtain ⟨t, S, ρ, nw, rl⟩ := h1
      obtain ⟨v, ws, rfl, d, rl⟩ := rl.uncons
      obtain ⟨v2, ws, rfl, d2, rl⟩ := rl.uncons
      obtain ⟨w, rfl, d3⟩ := rl.one
      cases d.int_of
      cases d2.int_of
      cases d3.int_of
      obtain ⟨n, hr, p1⟩ := p1
      exact ⟨i, j, c, n, rfl, hr, k _ _ _ _ _ _ p1 ⟨t, S, ρ, nw, src_rngC⟩⟩
    · exact p1.elim) xq⟩
/-- the signs of a text -/
theorem src_str {K : PySem.W.Frag} {Hb : Hp} {t : Nat → Addr} {S : Hp} {m : Nat} {l : Tx} : Src K (Its (st l)) l.length (fun i => .str [l.getD i 0]) yes t S m Hb where
  stop := fun _ _ _ _ _ _ _ _ _ _ => by
    show (st l).cps.size ≤ l.length
    simp [st]
  go := fun B' t' S' r' M' H' h e _ _ i hi => ⟨by show i < (st l).cps.size; simp [st]; exact hi, fun x H'' hy => by
    obtain ⟨rfl, c, hc, rfl⟩ := hy
    have : l[i]? = some c := by
      have e2 : (st l).cps[i]? = l[i]? := by simp [st]
      rw [← e2]; exact hc
    have e3 : l.getD i 0 = c := by rw [List.getD_eq_getElem?_getD, this]; rfl
    rw [e3]
    exact ⟨fun _ _ z => z, S', h, Ext.refl, .str [c]⟩⟩
def pItS (p : PTE) : PTI := fun A P Y => p A (fun y A1 => match y with
  | .d (.str l) => P l.length (fun i => .str [l.getD i 0]) yes A1
  | _ => False) Y
theorem di_str {tg e : Expr} {te : TE} {p : PTE} (h : DE X E e te p) : DI X E tg e (iStr te) (pItS p) :=
  ⟨pi_str h.pe, fun B σ H A P Y R rel x k xq => h.sim B σ H A _ _ _ rel x (fun y A1 v H1 p1 r1 => by
    split at p1
    · rename_i l
      obtain ⟨t, S, ρ, hh, s, kk⟩ := r1
      cases DR.str_of kk
      exact ⟨_, rfl, k _ _ _ _ _ _ p1 ⟨t, S, ρ, ⟨hh, s⟩, src_str⟩⟩
    · exact p1.elim) xq⟩

/-! ### comprehensions -/
def wipeA (env : List AV) : List Nat → List AV
  | [] => env
  | v :: vs => (wipeA env vs).set v .un
theorem SR.wipe {K : PySem.W.Frag} {S : Hp} {t : Nat → Addr} {m : Nat} {env : List AV} {σ : St} (s : SR K S t m env σ) : ∀ vs : List Nat, SR K S t m (wipeA env vs) (L2.wipe σ vs)
  | [] => s
  | v :: vs => by
    have ih := SR.wipe s vs
    refine ⟨by show ((wipeA env vs).set v AV.un).length = ((L2.wipe σ vs).set v none).length; rw [List.length_set, List.length_set]; exact ih.len, fun j w e => ?_⟩
    have e : ((wipeA env vs).set v AV.un)[j]? = some w := e
    show AVok K S t m w (((L2.wipe σ vs).set v none)[j]?)
    by_cases q : v = j
    · subst q
      have hi : v < (wipeA env vs).length := by
        have := (List.getElem?_eq_some_iff.mp e).1
        rwa [List.length_set] at this
      rw [List.getElem?_set_self hi] at e
      cases e
      trivial
    · rw [List.getElem?_set_ne q] at e ⊢
      exact ih.ok j w e
def pLc (ps : PTI) (tg : PTG) (tt : PTT) (pe : PTE) (vs : List Nat) : PTE := fun A P Y => ps A (fun n it C A1 => ∃ Inv : Nat → List D → List (Option O) → Prop, Inv 0 [] A1.M ∧ (∀ i acc M, i ≤ n → Inv i acc M → C M) ∧
  (∀ i acc M, i < n → Inv i acc M → ∃ env', tg (it i) (wipeA A1.env vs) = some env' ∧ tt ⟨env', M⟩ (fun b A2 => if b = true then pe A2 (fun y A3 => match y.fz with
      | some (.d d) => acc.length < 16777216 ∧ Inv (i + 1) (acc ++ [d]) A3.M
      | _ => False) noX else Inv (i + 1) acc A2.M) noX) ∧
  (∀ acc M, Inv n acc M → P (.o (.lst acc)) ⟨A1.env, M⟩)) Y
theorem sim_lc {K : PySem.W.Frag} {wi : TI} {ps : PTI} {g : TG} {tg : PTG} {ix : List Nat} {tt : TT} {pt : PTT} {te : TE} {pe : PTE} {vs : List Nat} (hi : SimI K E wi ps) (hg : SimG K g tg ix) (ht : SimT K E tt pt) (he : SimE K E te pe) (hix : ∀ i ∈ ix, i ∈ vs) :
    SimE K E (tLc wi g tt te vs) (pLc ps tg pt pe vs) := fun B σ H A P Y Q rel x q xq => by
  refine hi B σ H A _ _ _ rel x (fun n it C A1 J H1 p1 ⟨t, S, ρ, nw, src⟩ => ?_) xq
  obtain ⟨Inv, i0, iC, iS, iD⟩ := p1
  intro Dl hD
  refine ⟨fun i m H' => i + m = n ∧ ∃ acc M t' S' r' vsa, Inv i acc M ∧ HR K (baseOf t S ρ A1.M.length H1) t' S' r' M H' ∧ r' Dl = some none ∧ H' Dl = some (.lst vsa) ∧ DRs K S' vsa acc,
    ⟨n, by omega, [], A1.M, t, S, tmpT (dropT ρ) Dl, [], i0, nw.h.rebase.tmp hD _, tmpT_self, upd_same, .nil⟩, fun i m H' ⟨em, acc, M, t', S', r', vsa, iA, h', rD, hH, hd⟩ => ?_⟩
  cases m with
  | zero =>
    have e : i = n := by omega
    subst e
    refine .inl ⟨src.stop _ _ _ _ _ _ h' h'.ext (nw.h.kf h') (iC _ _ _ (Nat.le_refl _) iA), q (.o (.lst acc)) ⟨A1.env, M⟩ _ H' (iD acc M iA) ⟨t', S', r', nw.h.back h', nw.s.ext h'.ext, Dl, rfl, rD, vsa, hH, hd⟩⟩
  | succ m =>
    have hlt : i < n := by omega
    obtain ⟨g1, g2⟩ := src.go _ _ _ _ _ _ h' h'.ext (nw.h.kf h') (iC _ _ _ (by omega) iA) i hlt
    refine .inr ⟨g1, fun H2 => ∃ acc M t' S' r' vsa, Inv (i + 1) acc M ∧ HR K (baseOf t S ρ A1.M.length H1) t' S' r' M H2 ∧ r' Dl = some none ∧ H2 Dl = some (.lst vsa) ∧ DRs K S' vsa acc, fun H2 h2 => ⟨m, by omega, by omega, h2⟩, fun v H2 y => ?_⟩
    obtain ⟨kp, S2, h2, e2, d2⟩ := g2 v H2 y
    have hH2 : H2 Dl = some (.lst vsa) := kp _ _ hH
    obtain ⟨env', e3, pb⟩ := iS i acc M hlt iA
    have s2 : SR K S2 t' M.length (wipeA A1.env vs) (L2.wipe σ vs) := ((nw.s.ext h'.ext).ext e2).wipe vs
    refine hg S2 H2 t' _ _ v _ env' _ _ h2.le s2 d2 e3 fun σ2 s3 hw => ?_
    refine ⟨(hw vs hix).trans ?_, ?_⟩
    · have : ∀ ws : List Nat, L2.wipe (L2.wipe σ ws) ws = L2.wipe σ ws := fun ws => by
        apply List.ext_getElem?
        intro j
        rw [wipe_get, wipe_get, wipe_length]
        by_cases hj : j ∈ ws <;> simp [hj]
      exact this vs
    have nDl : ∀ n, r' Dl ≠ some (some n) := fun n z => by rw [rD] at z; cases z
    have back : ∀ {t4 S4 r4 M4 H4}, HR K (baseOf t' S2 r' M.length H2) t4 S4 r4 M4 H4 → H4 Dl = some (.lst vsa) ∧ HR K (baseOf t S ρ A1.M.length H1) t4 S4 (tmpT r4 Dl) M4 H4 := fun {t4 S4 r4 M4 H4} h4 => by
      have k1 : H4 Dl = some (.lst vsa) := by
        rcases h4.keep Dl _ hH2 (fun ⟨n, z⟩ => nDl n z) with z | ⟨z, _⟩
        · exact z
        · cases z
      refine ⟨k1, (h2.back h4).relabel ?_ (by rw [k1]; simp) (fun n z => ?_) (h2.own Dl _ rD)⟩
      · cases w : S4 Dl with
        | none => rfl
        | some o =>
          rcases h4.stb Dl (by rw [w]; simp) with z | z | ⟨n, z⟩
          · exact absurd (h2.sep Dl _ rD).1 z
          · have z : H2 Dl = none := z
            rw [hH2] at z; cases z
          · exact absurd z (nDl n)
      · rcases h4.own Dl _ z with ⟨n', w⟩ | w
        · exact absurd w (nDl n')
        · have w : H2 Dl = none := w
          rw [hH2] at w; cases w
    refine ht (baseOf t' S2 r' M.length H2) σ2 H2 ⟨env', M⟩ _ noX _ ⟨t', S2, _, h2.rebase, s3⟩ pb (fun b A2 H3 p2 r3 => ?_) (fun _ _ _ z => z.elim)
    cases b with
    | false =>
      obtain ⟨t4, S4, r4, h4, _⟩ := r3
      obtain ⟨k1, k2⟩ := back h4
      exact ⟨acc, A2.M, t4, S4, _, vsa, by simpa using p2, k2, tmpT_self, k1, (hd.mono e2.le).mono h4.ext.le⟩
    | true =>
      refine he (baseOf t' S2 r' M.length H2) σ2 H3 A2 _ noX _ r3 (by simpa using p2) (fun y A3 w H4 p3 r4 => ?_) (fun _ _ _ z => z.elim)
      split at p3
      · rename_i d ed
        obtain ⟨t4, S4, r4, h4, _, kk⟩ := r4.fzD ed
        have kk : DR K S4 w d := kk
        obtain ⟨k1, k2⟩ := back h4
        have hda : DRs K S4 vsa acc := (hd.mono e2.le).mono h4.ext.le
        exact ⟨vsa, k1, by rw [hda.length]; exact p3.1, acc ++ [d], A3.M, t4, S4, _, vsa ++ [w], p3.2, k2.mutT tmpT_self _, tmpT_self, upd_same, hda.snoc kk⟩
      · exact p3.elim
structure DTs (X : Cx) (E : WX) (ifs : List Expr) (t : TT) (p : PTT) : Prop where
  pe : PTs X ifs t
  sim : SimT X.K E t p
def pYes : PTT := fun A P _ => P true A
theorem dts_nil : DTs X E [] tYes pYes := ⟨pts_nil, fun B σ H A P Y Q rel x q _ => q true A H x rel⟩
theorem dts_one {c : Expr} {t : TT} {p : PTT} (h : DT X E c t p) : DTs X E [c] t p := ⟨pts_one h.pe, h.sim⟩
theorem de_lc {elt tg iter : Expr} {ifs : List Expr} {scope : Scope} {own : List (Str × Nat)} {pos : Pos} {wi : TI} {ps : PTI} {g : TG} {pg : PTG} {ix : List Nat} {tt : TT} {pt : PTT} {te : TE} {pe : PTE} (hc : X.calm = true) (hN : X.N.Nodup) (hi : DI X E tg iter wi ps) (ok : blkC X.N X.env.scope scope own = true)
    (hg : ∀ (s : Shared) (H : Hp) (C : Addr) (cl : List (Str × Addr)) (fp : List Addr), DG (X.blk s H scope (compEnvC scope cl C X.env) fp) tg g pg ix) (ht : ∀ (s : Shared) (H : Hp) (C : Addr) (cl : List (Str × Addr)) (fp : List Addr), DTs (X.blk s H scope (compEnvC scope cl C X.env) fp) E ifs tt pt)
    (he : ∀ (s : Shared) (H : Hp) (C : Addr) (cl : List (Str × Addr)) (fp : List Addr), DE (X.blk s H scope (compEnvC scope cl C X.env) fp) E elt te pe) (hix : ∀ i ∈ ix, i ∈ own.map (·.2)) (inh : Shared × Hp) (hs : ∀ x, foldedSetIterable iter X.env x = pure x := by intro _; rfl) :
    DE X E (.ListComp elt [⟨tg, iter, ifs, 0⟩] scope pos) (tLc wi g tt te (own.map (·.2))) (pLc ps pg pt pe (own.map (·.2))) :=
  ⟨pe_lc hc hN hi.pi (blkOk_by ok) (fun s H C cl fp => (hg s H C cl fp).pg) (fun s H C cl fp => (ht s H C cl fp).pe) (fun s H C cl fp => (he s H C cl fp).pe) hs,
    sim_lc hi.sim (hg inh.1 inh.2 0 [] []).sim (ht inh.1 inh.2 0 [] []).sim (he inh.1 inh.2 0 [] []).sim hix⟩
end
end PD

/-! PD, eleventh part: defs and their calls. -/
namespace PD
open PySem PySem.Spec PyProof.Rows L2

inductive AR where
  | d (x : D) | o (x : O)
def ownsA : List AR → List (Option O)
  | [] => []
  | .d _ :: r => ownsA r
  | .o x :: r => some x :: ownsA r
def envA : Nat → List AR → List AV
  | _, [] => []
  | k, .d x :: r => .d x :: envA k r
  | k, .o _ :: r => .p k :: envA (k + 1) r
theorem envA_len : ∀ (k : Nat) (ars : List AR), (envA k ars).length = ars.length
  | _, [] => rfl
  | k, .d x :: r => by simp [envA, envA_len k r]
  | k, .o _ :: r => by simp [envA, envA_len (k + 1) r]
/-- a def's promise over data -/
abbrev ASp := List AR → (R → List (Option O) → Prop) → (EN → List (Option O) → Prop) → Prop
def Fin (K : PySem.W.Frag) (B : Bas) (y : R) (os : List (Option O)) (v : V) (H' : Hp) : Prop := (∀ n, y ≠ .p n) ∧ ∃ t' S' r' M', HR K B t' S' r' M' H' ∧ os.length = B.n ∧ (∀ j, j < B.n → M'[j]? = os[j]?) ∧ Rok K S' r' t' M'.length H' y v
def FinX (K : PySem.W.Frag) (B : Bas) (os : List (Option O)) (H' : Hp) : Prop := ∃ t' S' r' M', HR K B t' S' r' M' H' ∧ os.length = B.n ∧ ∀ j, j < B.n → M'[j]? = os[j]?
def spA (K : PySem.W.Frag) (asp : ASp) : Sp := fun vs H Q E => ∃ (t : Nat → Addr) (S : Hp) (r : Addr → Lb) (ars : List AR), HR K (baseOf t S r (ownsA ars).length H) t S r (ownsA ars) H ∧ SR K S t (ownsA ars).length (envA 0 ars) (vs.map some) ∧
  asp ars (fun y os => ∀ v H', Fin K (baseOf t S r (ownsA ars).length H) y os v H' → Q v H') (fun C os => ∀ H', FinX K (baseOf t S r (ownsA ars).length H) os H' → E (ev K C) none H')
theorem HR.unname {K : PySem.W.Frag} {B : Bas} {t : Nat → Addr} {S : Hp} {r : Addr → Lb} {M : List (Option O)} {H : Hp} (h : HR K B t S r M H) {n : Nat} {o : O} (e : M[n]? = some (some o)) :
    ∃ r', HR K B t S r' (M.set n none) H ∧ OOk K S (fun a => r' a = some none) H (t n) o := by
  have hn : n < M.length := (List.getElem?_eq_some_iff.mp e).1
  have c1 : ∀ a k, k ≠ n → ((if r a = some none then none else if r a = some (some n) then some none else r a : Lb) = some (some k) ↔ r a = some (some k)) := fun a k hk => by
    by_cases h1 : r a = some none
    · simp [h1]
    · rw [if_neg h1]
      by_cases h2 : r a = some (some n)
      · rw [if_pos h2, h2]
        constructor
        · intro z; cases z
        · intro z
          have := Option.some.inj (Option.some.inj z)
          exact absurd this.symm hk
      · rw [if_neg h2]
  have c2 : ∀ a l, (if r a = some none then none else if r a = some (some n) then some none else r a : Lb) = some l → ∃ l', r a = some l' := fun a l z => by
    by_cases h1 : r a = some none
    · exact ⟨_, h1⟩
    · rw [if_neg h1] at z
      by_cases h2 : r a = some (some n)
      · exact ⟨_, h2⟩
      · rw [if_neg h2] at z
        exact ⟨_, z⟩
  refine ⟨fun a => if r a = some none then none else if r a = some (some n) then some none else r a, ⟨h.le, fun a l z => ?_, fun a k z => ?_, fun k o' z => ?_, h.keep, fun a l z => ?_, h.stb, h.bas, h.th, by rw [List.length_set]; exact h.nl⟩, ?_⟩
  · obtain ⟨l', q⟩ := c2 a l z
    exact h.sep a l' q
  · rw [List.length_set]
    by_cases hk : k = n
    · rw [hk]; exact hn
    · exact h.lab a k ((c1 a k hk).mp z)
  · by_cases hk : k = n
    · subst hk
      rw [List.getElem?_set_self hn] at z
      cases z
    · rw [List.getElem?_set_ne (Ne.symm hk)] at z
      exact (h.obj k o' z).iff fun b => (c1 b k hk).symm
  · obtain ⟨l', q⟩ := c2 a l z
    exact h.own a l' q
  · refine (h.obj n o e).iff fun b => ?_
    constructor
    · intro z
      show (if r b = some none then none else if r b = some (some n) then some none else r b : Lb) = some none
      rw [if_neg (by rw [z]; intro y; cases y), if_pos z]
    · intro z
      have z : (if r b = some none then none else if r b = some (some n) then some none else r b : Lb) = some none := z
      by_cases h1 : r b = some none
      · rw [if_pos h1] at z; cases z
      · rw [if_neg h1] at z
        by_cases h2 : r b = some (some n)
        · exact h2
        · rw [if_neg h2] at z
          exact absurd z h1
/-- what a def hands back -/
def retR (m : Nat) (post : R → List (Option O) → Prop) (y : R) (A : Abs) : Prop := match y with
  | .d x => post (.d x) (A.M.take m)
  | .o x => post (.o x) (A.M.take m)
  | .p n => m ≤ n ∧ (match A.M[n]? with
    | some (some o) => post (.o o) (A.M.take m)
    | _ => False)
def fnEnds (m : Nat) (post : R → List (Option O) → Prop) (xp : EN → List (Option O) → Prop) : PEnds := { nx := fun A => post (.d .non) (A.M.take m), rt := retR m post, ex := fun C A => xp C (A.M.take m) }
def fnAbs (N : List Str) (ars : List AR) : Abs := ⟨envA 0 ars ++ List.replicate (N.length - ars.length) .un, ownsA ars⟩
theorem take_ok {m : Nat} {M : List (Option O)} (h : m ≤ M.length) : (M.take m).length = m ∧ ∀ j, j < m → M[j]? = (M.take m)[j]? := ⟨by rw [List.length_take]; omega, fun j hj => by rw [List.getElem?_take, if_pos hj]⟩
theorem start_SR {K : PySem.W.Frag} {S : Hp} {t : Nat → Addr} {m : Nat} {ars : List AR} {vs : List V} {N : List Str} (s : SR K S t m (envA 0 ars) (vs.map some)) : SR K S t m (fnAbs N ars).env (L2.start N vs) := by
  have e : ars.length = vs.length := by
    have := s.len
    rw [envA_len, List.length_map] at this
    exact this
  refine ⟨by simp [fnAbs, L2.start, envA_len, e], fun i av h => ?_⟩
  show AVok K S t m av ((vs.map some ++ List.replicate (N.length - vs.length) none)[i]?)
  have h : (envA 0 ars ++ List.replicate (N.length - ars.length) AV.un)[i]? = some av := h
  by_cases hi : i < ars.length
  · rw [List.getElem?_append_left (by rw [envA_len]; exact hi)] at h
    rw [List.getElem?_append_left (by rw [List.length_map, ← e]; exact hi)]
    exact s.ok i av h
  · rw [List.getElem?_append_right (by rw [envA_len]; omega)] at h
    have := (List.getElem?_replicate.symm.trans h)
    split at this
    · cases this
      trivial
    · cases this
theorem body_kont {K : PySem.W.Frag} {t : Nat → Addr} {S : Hp} {r : Addr → Lb} {m : Nat} {H : Hp} {Q : VK} {E : XK} (post : R → List (Option O) → Prop) (xp : EN → List (Option O) → Prop)
    (hp : ∀ y os, post y os → ∀ v H', Fin K (baseOf t S r m H) y os v H' → Q v H') (hx : ∀ C os, xp C os → ∀ H', FinX K (baseOf t S r m H) os H' → E (ev K C) none H') :
    SKont K (baseOf t S r m H) (fun C d _ H => E C d H) (fnEnds m post xp) { nx := fun _ H' => Q .non H', rt := Q } where
  nx := fun A σ H' p ⟨t', S', r', h', s'⟩ => hp _ _ p _ _ ⟨fun n z => (by cases z), t', S', r', A.M, h', (take_ok h'.nl).1, (take_ok h'.nl).2, DR.non⟩
  rt := fun y A v σ H' p ⟨t', S', r', h', s', k⟩ => by
    cases y with
    | d x => exact hp _ _ p _ _ ⟨fun n z => (by cases z), t', S', r', A.M, h', (take_ok h'.nl).1, (take_ok h'.nl).2, k⟩
    | o x => exact hp _ _ p _ _ ⟨fun n z => (by cases z), t', S', r', A.M, h', (take_ok h'.nl).1, (take_ok h'.nl).2, k⟩
    | p n =>
      obtain ⟨rfl, hn⟩ := k
      have p : m ≤ n ∧ (match A.M[n]? with
        | some (some o) => post (.o o) (A.M.take m)
        | _ => False) := p
      obtain ⟨hmn, p⟩ := p
      split at p
      · rename_i o e
        obtain ⟨r2, h2, ok⟩ := h'.unname e
        refine hp _ _ p _ _ ⟨fun n z => (by cases z), t', S', r2, _, h2, (take_ok h'.nl).1, fun j hj => ?_, t' n, rfl, ok⟩
        have hj : j < m := hj
        rw [List.getElem?_set_ne (by omega)]
        exact (take_ok h'.nl).2 j hj
      · exact p.elim
  bk := fun A σ H' p _ => p.elim
  ct := fun A σ H' p _ => p.elim
  ex := fun σ C A H' p ⟨t', S', r', h', _⟩ => hx _ _ p _ ⟨t', S', r', A.M, h', (take_ok h'.nl).1, (take_ok h'.nl).2⟩
section
variable {P : Program} {w : World} {K : PySem.W.Frag} {mg : Str → Option Value} {base : Heap}
theorem spA_len {asp : ASp} {ps : List Str} (hl : ∀ ars post xp, asp ars post xp → ars.length = ps.length) : ∀ vs H Q E, spA K asp vs H Q E → vs.length = ps.length := fun vs H Q E ⟨t, S, r, ars, _, s, a⟩ => by
  have := s.len
  rw [envA_len, List.length_map] at this
  rw [← this]
  exact hl _ _ _ a
/-- a def that nothing leaves by an error -/
theorem fnA {x qual : Str} {st : Stmt} {f : Addr} {fd : FuncData} {N ps : List Str} {k : Nat} {asp : ASp} (F : Fun K x qual st f fd) (Sc : FnScope N ps (defScope st)) (hl : ∀ ars post xp, asp ars post xp → ars.length = ps.length)
    (hbody : ∀ (cdv : Value) (A : Around) (outer : List Env) (s : Shared) (H : Hp) (E : XK), Room k (A.deeper (envOfC qual (defScope st) s.heap.objs.size f cdv)) →
      ∃ t p, DSs (cxOf CX0 P w K mg base N qual (defScope st) f cdv A outer s H E).nox (fun C d _ H => E C d H) (defBody st) t p ∧ ∀ ars post xp, asp ars post xp → p (fnEnds (ownsA ars).length post xp) (fnAbs N ars)) :
    FnOk P w K mg base CX0 (k + 1) f fd ps (spA K asp) := by
  refine F.ok Sc (spA_len hl) fun cdv A outer s H vs Q E hr ⟨t, S, r, ars, h, sr, a⟩ => ?_
  obtain ⟨tt, p, d, q⟩ := hbody cdv A outer s H E hr
  refine ⟨tt, d.pe, d.sim (baseOf t S r (ownsA ars).length H) _ H (fnAbs N ars) _ _ ⟨t, S, r, h, start_SR sr⟩ (q ars _ _ a) (body_kont _ _ (fun y os z => z) fun C os z => z)⟩
/-- .. that an error may leave -/
theorem fnAX {x qual : Str} {st : Stmt} {f : Addr} {fd : FuncData} {N ps : List Str} {k : Nat} {asp : ASp} (F : Fun K x qual st f fd) (Sc : FnScope N ps (defScope st)) (hl : ∀ ars post xp, asp ars post xp → ars.length = ps.length)
    (hbody : ∀ (cdv : Value) (A : Around) (outer : List Env) (s : Shared) (H : Hp) (E : XK), Room k (A.deeper (envOfC qual (defScope st) s.heap.objs.size f cdv)) →
      ∃ t p, DSs (cxOf (L2.CX P w) P w K mg base N qual (defScope st) f cdv A outer s H E) (fun C d _ H => E C d H) (defBody st) t p ∧ ∀ ars post xp, asp ars post xp → p (fnEnds (ownsA ars).length post xp) (fnAbs N ars)) :
    FnOk P w K mg base (L2.CX P w) (k + 1) f fd ps (spA K asp) := by
  refine F.okX Sc (spA_len hl) fun cdv A outer s H vs Q E hr ⟨t, S, r, ars, h, sr, a⟩ => ?_
  obtain ⟨tt, p, d, q⟩ := hbody cdv A outer s H E hr
  refine ⟨tt, d.pe, d.sim (baseOf t S r (ownsA ars).length H) _ H (fnAbs N ars) _ _ ⟨t, S, r, h, start_SR sr⟩ (q ars _ _ a) (body_kont _ _ (fun y os z => z) fun C os z => z)⟩
end
/-! ### a call -/
/-- the arguments as the def sees them, and the names of the owned ones -/
def toAR (M : List (Option O)) : List R → Option (List AR × List Nat)
  | [] => some ([], [])
  | .d x :: r => (match toAR M r with
    | some (as, ns) => some (.d x :: as, ns)
    | none => none)
  | .p n :: r => (match M[n]?, toAR M r with
    | some (some o), some (as, ns) => some (.o o :: as, n :: ns)
    | _, _ => none)
  | .o _ :: _ => none
def putAll (M : List (Option O)) : List Nat → List (Option O) → List (Option O)
  | n :: ns, o :: os => (putAll M ns os).set n o
  | _, _ => M
theorem putAll_len (M : List (Option O)) : ∀ ns os, (putAll M ns os).length = M.length
  | [], _ => rfl
  | _ :: _, [] => rfl
  | n :: ns, o :: os => by simp [putAll, putAll_len M ns os]
theorem putAll_out (M : List (Option O)) {k : Nat} : ∀ ns os, k ∉ ns → (putAll M ns os)[k]? = M[k]?
  | [], _, _ => rfl
  | _ :: _, [], _ => rfl
  | n :: ns, o :: os, h => by
    show ((putAll M ns os).set n o)[k]? = _
    rw [List.getElem?_set_ne (fun e => h (by simp [e])), putAll_out M ns os fun z => h (by simp [z])]
theorem putAll_in (M : List (Option O)) : ∀ (ns : List Nat) (os : List (Option O)) (j k : Nat), ns.Nodup → ns.length = os.length → (∀ n ∈ ns, n < M.length) → ns[j]? = some k → (putAll M ns os)[k]? = os[j]?
  | n :: ns, o :: os, 0, k, nd, hl, hm, e => by
    have e : n = k := by simpa using e
    subst e
    show ((putAll M ns os).set n o)[n]? = _
    rw [List.getElem?_set_self (by rw [putAll_len]; exact hm n (by simp))]
    rfl
  | n :: ns, o :: os, j + 1, k, nd, hl, hm, e => by
    have e : ns[j]? = some k := by simpa using e
    rw [List.nodup_cons] at nd
    have ne : n ≠ k := fun q => nd.1 (by rw [q]; exact List.mem_of_getElem? e)
    show ((putAll M ns os).set n o)[k]? = _
    rw [List.getElem?_set_ne ne, putAll_in M ns os j k nd.2 (by simpa using hl) (fun m hm' => hm m (by simp [hm'])) e]
    simp
  | [], _, _, _, _, _, _, e => by simp at e
  | _ :: _, [], _, _, _, hl, _, _ => by simp at hl
theorem toAR_obj {M : List (Option O)} : ∀ {zs : List R} {ars : List AR} {ns : List Nat}, toAR M zs = some (ars, ns) → (ownsA ars).length = ns.length ∧ (∀ n ∈ ns, n < M.length) ∧ ∀ (j n : Nat), ns[j]? = some n → M[n]? = (ownsA ars)[j]?
  | [], _, _, e => by
    cases e
    exact ⟨rfl, fun n h => by simp at h, fun j n h => by simp at h⟩
  | .d x :: r, ars, ns, e => by
    simp only [toAR] at e
    cases q : toAR M r with
    | none => rw [q] at e; cases e
    | some p =>
      obtain ⟨as, ms⟩ := p
      rw [q] at e
      cases e
      obtain ⟨h1, h2, h3⟩ := toAR_obj q
      exact ⟨h1, h2, h3⟩
  | .p n :: r, ars, ns, e => by
    simp only [toAR] at e
    split at e
    · rename_i o as ms e1 e2
      cases e
      obtain ⟨h1, h2, h3⟩ := toAR_obj e2
      refine ⟨by simp [ownsA, h1], fun m hm => ?_, fun j m hj => ?_⟩
      · rcases List.mem_cons.mp hm with rfl | hm
        · exact (List.getElem?_eq_some_iff.mp e1).1
        · exact h2 m hm
      · cases j with
        | zero =>
          have : n = m := by simpa using hj
          subst this
          rw [e1]
          rfl
        | succ j =>
          have := h3 j m (by simpa using hj)
          rw [this]
          simp [ownsA]
    · cases e
  | .o _ :: _, _, _, e => by cases e
theorem toAR_env {K : PySem.W.Frag} {S : Hp} {t : Nat → Addr} {m : Nat} {M : List (Option O)} {t0 : Nat → Addr} {m0 : Nat} : ∀ {zs : List R} {vs : List V} {ars : List AR} {ns : List Nat} {k : Nat}, toAR M zs = some (ars, ns) → RL K S t m zs vs →
    (∀ (j n : Nat), ns[j]? = some n → t0 (k + j) = t n) → k + ns.length ≤ m0 → SR K S t0 m0 (envA k ars) (vs.map some)
  | [], _, _, _, k, e, .nil, h, hm => by
    cases e
    exact ⟨rfl, fun i av q => by simp [envA] at q⟩
  | .d x :: r, _, ars, ns, k, e, .cons h1 h2 h3, h, hm => by
    simp only [toAR] at e
    cases q : toAR M r with
    | none => rw [q] at e; cases e
    | some p =>
      obtain ⟨as, ms⟩ := p
      rw [q] at e
      cases e
      have ih := toAR_env (k := k) (t0 := t0) (m0 := m0) q h3 h hm
      refine ⟨by simp [envA]; have := ih.len; simp at this; omega, fun i av z => ?_⟩
      cases i with
      | zero =>
        have : AV.d x = av := by simpa [envA] using z
        subst this
        exact ⟨_, by simp, h2 (fun _ => none) (fun _ => none)⟩
      | succ i =>
        have := ih.ok i av (by simpa [envA] using z)
        simpa using this
  | .p n :: r, _, ars, ns, k, e, .cons h1 h2 h3, h, hm => by
    simp only [toAR] at e
    split at e
    · rename_i o as ms e1 e2
      cases e
      have ih := toAR_env (k := k + 1) (t0 := t0) (m0 := m0) e2 h3 (fun j n' z => by
        have := h (j + 1) n' (by simpa using z)
        rw [← this, Nat.add_assoc, Nat.add_comm 1 j]) (by simp at hm; omega)
      obtain ⟨rfl, _⟩ := h2 (fun _ => none) (fun _ => none)
      refine ⟨by simp [envA]; have := ih.len; simp at this; omega, fun i av z => ?_⟩
      cases i with
      | zero =>
        have : AV.p k = av := by simpa [envA] using z
        subst this
        have := h 0 n (by simp)
        rw [Nat.add_zero] at this
        exact ⟨by simp [this], by simp at hm; omega⟩
      | succ i =>
        have := ih.ok i av (by simpa [envA] using z)
        simpa using this
    · cases e
  | .o _ :: _, _, _, _, _, e, _, _, _ => by cases e
def lab0 (ρ : Addr → Lb) (ns : List Nat) : Addr → Lb := fun a => match ρ a with
  | some (some n) => (match ns.idxOf? n with
    | some j => some (some j)
    | none => none)
  | _ => none
theorem idx_some {ns : List Nat} {n j : Nat} (h : ns.idxOf? n = some j) : ns[j]? = some n := by
  induction ns generalizing j with
  | nil => simp [List.idxOf?] at h
  | cons m ns ih =>
    rw [List.idxOf?_cons] at h
    split at h
    · rename_i q
      cases h
      simpa using q
    · cases q : ns.idxOf? n with
      | none => rw [q] at h; cases h
      | some i =>
        rw [q] at h
        cases h
        simpa using ih q
theorem idx_of {ns : List Nat} {n j : Nat} (nd : ns.Nodup) (h : ns[j]? = some n) : ns.idxOf? n = some j := by
  induction ns generalizing j with
  | nil => simp at h
  | cons m ns ih =>
    rw [List.nodup_cons] at nd
    rw [List.idxOf?_cons]
    cases j with
    | zero =>
      have : m = n := by simpa using h
      simp [this]
    | succ j =>
      have h : ns[j]? = some n := by simpa using h
      have ne : ¬ m = n := fun q => nd.1 (by rw [q]; exact List.mem_of_getElem? h)
      rw [if_neg (by simpa using ne), ih nd.2 h]
      rfl
theorem lab0_iff {ρ : Addr → Lb} {ns : List Nat} (nd : ns.Nodup) {a : Addr} {j n : Nat} (h : ns[j]? = some n) : lab0 ρ ns a = some (some j) ↔ ρ a = some (some n) := by
  unfold lab0
  constructor
  · intro z
    split at z
    · rename_i k e
      split at z
      · rename_i i ei
        cases z
        have := idx_some ei
        rw [h] at this
        cases this
        exact e
      · cases z
    · cases z
  · intro z
    rw [z]
    simp only
    rw [idx_of nd h]
theorem lab0_some {ρ : Addr → Lb} {ns : List Nat} {a : Addr} {l : Option Nat} (h : lab0 ρ ns a = some l) : ∃ n j, ρ a = some (some n) ∧ ns[j]? = some n ∧ l = some j := by
  unfold lab0 at h
  split at h
  · rename_i k e
    split at h
    · rename_i i ei
      cases h
      exact ⟨k, i, e, idx_some ei, rfl⟩
    · cases h
  · cases h
theorem HR.forCall {K : PySem.W.Frag} {B : Bas} {t : Nat → Addr} {S : Hp} {ρ : Addr → Lb} {M : List (Option O)} {H : Hp} (h : HR K B t S ρ M H) {zs : List R} {ars : List AR} {ns : List Nat} (e : toAR M zs = some (ars, ns)) (nd : ns.Nodup) :
    HR K (baseOf (fun j => t (ns.getD j 0)) S (lab0 ρ ns) (ownsA ars).length H) (fun j => t (ns.getD j 0)) S (lab0 ρ ns) (ownsA ars) H := by
  obtain ⟨q1, q2, q3⟩ := toAR_obj e
  refine ⟨h.le, fun a l z => ?_, fun a j z => ?_, fun j o z => ?_, fun a o z _ => .inl z, fun a l z => ?_, fun a z => .inl z, fun a o z => z, fun _ _ => rfl, Nat.le_refl _⟩
  · obtain ⟨n, j, e1, _, _⟩ := lab0_some z
    exact h.sep a _ e1
  · obtain ⟨n, j', e1, e2, e3⟩ := lab0_some z
    cases e3
    rw [q1]
    exact (List.getElem?_eq_some_iff.mp e2).1
  · have hj : j < ns.length := by
      rw [← q1]
      exact (List.getElem?_eq_some_iff.mp z).1
    have ej : ns[j]? = some (ns.getD j 0) := by rw [List.getD_eq_getElem?_getD, List.getElem?_eq_getElem hj]; rfl
    have := h.obj (ns.getD j 0) o ((q3 j _ ej).trans z)
    exact this.iff fun b => (lab0_iff nd ej).symm
  · obtain ⟨n, j, e1, e2, e3⟩ := lab0_some z
    subst e3
    exact .inl ⟨j, z⟩
def labBack (ρ r' : Addr → Lb) (ns : List Nat) : Addr → Lb := fun a => match r' a with
  | some (some j) => (match ns[j]? with
    | some n => some (some n)
    | none => none)
  | some none => some none
  | none => (match ρ a with
    | some (some n) => if n ∈ ns then none else some (some n)
    | _ => none)
theorem HR.behindCall {K : PySem.W.Frag} {B : Bas} {t : Nat → Addr} {S : Hp} {ρ : Addr → Lb} {M : List (Option O)} {H : Hp} (h : HR K B t S ρ M H) {zs : List R} {ars : List AR} {ns : List Nat} (e : toAR M zs = some (ars, ns)) (nd : ns.Nodup)
    {t' : Nat → Addr} {S' : Hp} {r' : Addr → Lb} {M' : List (Option O)} {H' : Hp} {os : List (Option O)} (h' : HR K (baseOf (fun j => t (ns.getD j 0)) S (lab0 ρ ns) (ownsA ars).length H) t' S' r' M' H') (ol : os.length = (ownsA ars).length) (om : ∀ j, j < (ownsA ars).length → M'[j]? = os[j]?) :
    HR K (baseOf t S ρ M.length H) t S' (labBack ρ r' ns) (putAll M ns os) H' := by
  obtain ⟨q1, q2, q3⟩ := toAR_obj e
  have dn : ∀ a n, ρ a = some (some n) → n ∉ ns → r' a = none ∧ ¬ ∃ j, lab0 ρ ns a = some (some j) := fun a n ea hn => by
    have c : ¬ ∃ j, lab0 ρ ns a = some (some j) := fun ⟨j, z⟩ => by
      obtain ⟨n', j', e1, e2, _⟩ := lab0_some z
      rw [ea] at e1
      cases e1
      exact hn (List.mem_of_getElem? e2)
    refine ⟨?_, c⟩
    cases z : r' a with
    | none => rfl
    | some l =>
      rcases h'.own a l z with w | w
      · exact absurd w c
      · exact absurd w (h.sep a _ ea).2
  have kp : ∀ a n, ρ a = some (some n) → n ∉ ns → H' a = H a := fun a n ea hn => by
    cases z : H a with
    | none => exact absurd z (h.sep a _ ea).2
    | some o =>
      rcases h'.keep a o z (dn a n ea hn).2 with w | ⟨_, w, _⟩
      · exact w
      · have w : S a = some o := w
        rw [(h.sep a _ ea).1] at w
        cases w
  have some_cases : ∀ a l, labBack ρ r' ns a = some l → (∃ l', r' a = some l') ∨ ∃ n, r' a = none ∧ ρ a = some (some n) ∧ n ∉ ns ∧ l = some n := fun a l z => by
    unfold labBack at z
    split at z
    · rename_i j ej; exact .inl ⟨_, ej⟩
    · rename_i ej; exact .inl ⟨_, ej⟩
    · rename_i ej
      split at z
      · rename_i n en
        split at z
        · cases z
        · rename_i hn
          cases z
          exact .inr ⟨n, ej, en, hn, rfl⟩
      · cases z
  have nm_iff : ∀ a n, labBack ρ r' ns a = some (some n) ↔ (∃ j, r' a = some (some j) ∧ ns[j]? = some n) ∨ (r' a = none ∧ ρ a = some (some n) ∧ n ∉ ns) := fun a n => by
    unfold labBack
    constructor
    · intro z
      split at z
      · rename_i j ej
        split at z
        · rename_i m em
          cases z
          exact .inl ⟨j, ej, em⟩
        · cases z
      · cases z
      · rename_i ej
        split at z
        · rename_i m em
          split at z
          · cases z
          · rename_i hn
            cases z
            exact .inr ⟨ej, em, hn⟩
        · cases z
    · rintro (⟨j, e1, e2⟩ | ⟨e1, e2, e3⟩)
      · simp only [e1, e2]
      · simp only [e1, e2, if_neg e3]
  refine ⟨h'.le, fun a l z => ?_, fun a n z => ?_, fun n o z => ?_, fun a o z nd' => ?_, fun a l z => ?_, fun a z => ?_, fun a o z => h'.bas a o z, fun _ _ => rfl, by rw [putAll_len]; exact Nat.le_refl _⟩
  · rcases some_cases a l z with ⟨l', w⟩ | ⟨n, w1, w2, w3, _⟩
    · exact h'.sep a l' w
    · refine ⟨?_, by rw [kp a n w2 w3]; exact (h.sep a _ w2).2⟩
      cases q : S' a with
      | none => rfl
      | some o =>
        rcases h'.stb a (by rw [q]; simp) with y | y | y
        · exact absurd (h.sep a _ w2).1 y
        · exact absurd y (h.sep a _ w2).2
        · exact absurd y (dn a n w2 w3).2
  · rw [putAll_len]
    rcases (nm_iff a n).mp z with ⟨j, _, w⟩ | ⟨_, w, _⟩
    · exact q2 n (List.mem_of_getElem? w)
    · exact h.lab a n w
  · by_cases hn : n ∈ ns
    · obtain ⟨j, hj⟩ := List.mem_iff_getElem?.mp hn
      have hjl : j < (ownsA ars).length := by rw [q1]; exact (List.getElem?_eq_some_iff.mp hj).1
      rw [putAll_in M ns os j n nd (by rw [ol, q1]) q2 hj] at z
      have ok := h'.obj j o ((om j hjl).trans z)
      have et : t' j = t n := by
        have := h'.th j hjl
        rw [this]
        show t (ns.getD j 0) = t n
        rw [List.getD_eq_getElem?_getD, hj]
        rfl
      rw [et] at ok
      refine ok.iff fun b => ?_
      rw [nm_iff]
      constructor
      · intro w; exact .inl ⟨j, w, hj⟩
      · rintro (⟨j', w1, w2⟩ | ⟨_, _, w3⟩)
        · have : j' = j := by
            have a1 := idx_of nd w2
            have a2 := idx_of nd hj
            rw [a1] at a2
            exact Option.some.inj a2
          rw [← this]
          exact w1
        · exact absurd hn w3
    · rw [putAll_out M ns os hn] at z
      refine ((h.obj n o z).move (fun a u y => .inl (h'.bas a u y)) fun b hb => kp b n hb hn).iff fun b => ?_
      rw [nm_iff]
      constructor
      · intro w; exact .inr ⟨(dn b n w hn).1, w, hn⟩
      · rintro (⟨j', w1, w2⟩ | ⟨_, w2, _⟩)
        · exact absurd (List.mem_of_getElem? w2) hn
        · exact w2
  · refine h'.keep a o z fun ⟨j, w⟩ => ?_
    obtain ⟨n, _, e1, _, _⟩ := lab0_some w
    exact nd' ⟨n, e1⟩
  · rcases some_cases a l z with ⟨l', w⟩ | ⟨n, w1, w2, w3, _⟩
    · rcases h'.own a l' w with ⟨j, y⟩ | y
      · obtain ⟨n, _, e1, _, _⟩ := lab0_some y
        exact .inl ⟨n, e1⟩
      · exact .inr y
    · exact .inl ⟨n, w2⟩
  · rcases h'.stb a z with y | y | ⟨j, y⟩
    · exact .inl y
    · exact .inr (.inl y)
    · obtain ⟨n, _, e1, _, _⟩ := lab0_some y
      exact .inr (.inr ⟨n, e1⟩)
theorem labBack_t {ρ r' : Addr → Lb} {ns : List Nat} (a : Addr) : labBack ρ r' ns a = some none ↔ r' a = some none := by
  unfold labBack
  constructor
  · intro z
    split at z
    · split at z <;> cases z
    · assumption
    · split at z
      · split at z <;> cases z
      · cases z
  · intro z
    simp only [z]
section
def callA (asp : ASp) (zs : List R) (A : Abs) (P : R → Abs → Prop) (Y : PX) : Prop := match toAR A.M zs with
  | some (ars, ns) => ns.Nodup ∧ asp ars (fun y os => P y ⟨A.env, putAll A.M ns os⟩) (fun C os => Y C ⟨A.env, putAll A.M ns os⟩)
  | none => False
theorem run_callA {K : PySem.W.Frag} {asp : ASp} {B : Bas} {t : Nat → Addr} {S : Hp} {ρ : Addr → Lb} {A : Abs} {σ : L2.St} {H : Hp} {zs : List R} {vs : List V} {P : R → Abs → Prop} {Y : PX} {Q : VK} {E : XK} (n : Now K B t S ρ A σ H) (rl : RL K S t A.M.length zs vs)
    (mono : ∀ ars (post post' : R → List (Option O) → Prop) (xp xp' : EN → List (Option O) → Prop), (∀ y os, (∀ n, y ≠ .p n) → os.length = (ownsA ars).length → post y os → post' y os) → (∀ C os, os.length = (ownsA ars).length → xp C os → xp' C os) → asp ars post xp → asp ars post' xp')
    (h : callA asp zs A P Y) (q : ∀ y A' v H', P y A' → Res K B A' y v σ H' → Q v H') (xq : ∀ C A' H', Y C A' → Rel K B A' σ H' → E (ev K C) none H') : spA K asp vs H Q E := by
  unfold callA at h
  split at h
  · rename_i ars ns e
    obtain ⟨nd, a⟩ := h
    obtain ⟨q1, q2, q3⟩ := toAR_obj e
    refine ⟨_, _, _, ars, n.h.forCall e nd, ?_, mono ars _ _ _ _ (fun y os hy ho p v H' f => ?_) (fun C os ho p H' f => ?_) a⟩
    · exact toAR_env e rl (fun j m hj => by
        rw [Nat.zero_add, List.getD_eq_getElem?_getD, hj]
        rfl) (by omega)
    · obtain ⟨_, t', S', r', M', h', o1, o2, k⟩ := f
      have hb := n.h.behindCall e nd h' o1 o2
      have hh := n.h.back hb
      refine q y _ v H' p ⟨t, S', _, hh, ?_, ?_⟩
      · exact n.s.ext hb.ext
      · cases y with
        | d x => exact k
        | p m => exact absurd rfl (hy m)
        | o x =>
          obtain ⟨a, rfl, ok⟩ := k
          exact ⟨a, rfl, ok.iff fun b => (labBack_t b).symm⟩
    · obtain ⟨t', S', r', M', h', o1, o2⟩ := f
      have hb := n.h.behindCall e nd h' o1 o2
      exact xq C _ H' p ⟨t, S', _, n.h.back hb, n.s.ext hb.ext⟩
  · exact h.elim
end
end PD

/-! PD, twelfth part: promises of defs and their calls. -/
namespace PD
open PySem PySem.Spec PyProof.Rows L2

theorem DE.weak {X : Cx} {E : WX} {e : Expr} {t : TE} {p p' : PTE} (h : DE X E e t p) (k : ∀ A P Y, p' A P Y → p A P Y) : DE X E e t p' := ⟨h.pe, fun B σ H A P Y Q rel x => h.sim B σ H A P Y Q rel (k A P Y x)⟩
theorem DS.weak {X : Cx} {E : WX} {e : Stmt} {t : TS} {p p' : PTS} (h : DS X E e t p) (k : ∀ P A, p' P A → p P A) : DS X E e t p' := ⟨h.pe, fun B σ H A P D rel x => h.sim B σ H A P D rel (k P A x)⟩
def AR.toR : AR → R
  | .d x => .d x
  | .o x => .o x
/-- no wish -/
abbrev W0 : WX := fun _ _ _ _ => False
structure Con where
  pre : List AR → Prop
  ok : List AR → AR → List (Option O) → Prop
def Con.asp (c : Con) : ASp := fun ars post _ => c.pre ars ∧ ∀ y os, os.length = (ownsA ars).length → c.ok ars y os → post y.toR os
theorem toR_no (y : AR) : ∀ n, y.toR ≠ .p n := fun n z => by cases y <;> cases z
/-- what a def hands back -/
def retA (m : Nat) (ok : AR → List (Option O) → Prop) (y : R) (A : Abs) : Prop := match y with
  | .d x => ok (.d x) (A.M.take m)
  | .o x => ok (.o x) (A.M.take m)
  | .p n => m ≤ n ∧ ∃ o, A.M[n]? = some (some o) ∧ ok (.o o) (A.M.take m)
def endsA (m : Nat) (ok : AR → List (Option O) → Prop) : PEnds := { nx := fun A => ok (.d .non) (A.M.take m), rt := retA m ok }
structure Cal (P : Program) (w : World) (K : PySem.W.Frag) (mg : Str → Option Value) (base : Heap) (k : Nat) (x : Str) (sp : Sp) : Prop where
  ex : ∃ (f : Addr) (fd : FuncData) (ps : List Str), FnOk P w K mg base CX0 k f fd ps sp ∧ mg x = some (.ref f) ∧ PySem.W.keepIn K (.ref f) = true ∧ Binds K fd ps []
def ACal (P : Program) (w : World) (K : PySem.W.Frag) (mg : Str → Option Value) (base : Heap) (k : Nat) (x : Str) (c : Con) : Prop := Cal P w K mg base k x (spA K c.asp)
section
variable {P : Program} {w : World} {K : PySem.W.Frag} {mg : Str → Option Value} {base : Heap}
theorem acal {x qual : Str} {st : Stmt} {f : Addr} {fd : FuncData} {N ps : List Str} {k : Nat} {c : Con} {p : PTS} (F : Fun K x qual st f fd) (hm : mg x = some (.ref f)) (hb : Binds K fd ps []) (Sc : FnScope N ps (defScope st))
    (hbody : ∀ (cdv : Value) (A : Around) (outer : List Env) (s : Shared) (H : Hp) (E : XK), Room k (A.deeper (envOfC qual (defScope st) s.heap.objs.size f cdv)) →
      ∃ t, DSs (cxOf CX0 P w K mg base N qual (defScope st) f cdv A outer s H E).nox W0 (defBody st) t p)
    (law : ∀ ars, c.pre ars → ars.length = ps.length ∧ p (endsA (ownsA ars).length (c.ok ars)) (fnAbs N ars)) : ACal P w K mg base (k + 1) x c := by
  refine ⟨f, fd, ps, F.ok Sc (spA_len fun ars post xp h => (law ars h.1).1) fun cdv A outer s H vs Q E hr ⟨t, S, r, ars, h, sr, a⟩ => ?_, hm, F.kp, hb⟩
  obtain ⟨tt, d⟩ := hbody cdv A outer s H E hr
  refine ⟨tt, d.pe, d.sim (baseOf t S r (ownsA ars).length H) _ H (fnAbs N ars) _ _ ⟨t, S, r, h, start_SR sr⟩ (law ars a.1).2 ?_⟩
  refine { nx := fun A' σ H' q ⟨t', S', r', h', s'⟩ => ?_, rt := fun y A' v σ H' q ⟨t', S', r', h', s', kk⟩ => ?_, bk := fun A' σ H' q _ => q.elim, ct := fun A' σ H' q _ => q.elim, ex := fun _ C A' H' q => q.elim }
  · exact a.2 _ _ (take_ok h'.nl).1 q _ _ ⟨fun n z => (by cases z), t', S', r', A'.M, h', (take_ok h'.nl).1, (take_ok h'.nl).2, DR.non⟩
  · cases y with
    | d x => exact a.2 _ _ (take_ok h'.nl).1 q _ _ ⟨fun n z => (by cases z), t', S', r', A'.M, h', (take_ok h'.nl).1, (take_ok h'.nl).2, kk⟩
    | o x => exact a.2 _ _ (take_ok h'.nl).1 q _ _ ⟨fun n z => (by cases z), t', S', r', A'.M, h', (take_ok h'.nl).1, (take_ok h'.nl).2, kk⟩
    | p n =>
      obtain ⟨rfl, hn⟩ := kk
      obtain ⟨hmn, o, e, q⟩ := q
      obtain ⟨r2, h2, ok⟩ := h'.unname e
      refine a.2 _ _ (take_ok h'.nl).1 q _ _ ⟨fun n z => (by cases z), t', S', r2, _, h2, (take_ok h'.nl).1, fun j hj => ?_, t' n, rfl, ok⟩
      have hj : j < (ownsA ars).length := hj
      rw [List.getElem?_set_ne (by omega)]
      exact (take_ok h'.nl).2 j hj
end
def callG (c : Con) (zs : List R) (A : Abs) (P : R → Abs → Prop) : Prop := match toAR A.M zs with
  | some (ars, ns) => ns.Nodup ∧ c.pre ars ∧ ∀ y os, os.length = ns.length → c.ok ars y os → P y.toR ⟨A.env, putAll A.M ns os⟩
  | none => False
def pCalls (g : List R → Abs → (R → Abs → Prop) → Prop) (q : PTA) : PTE := fun A P Y => q A (fun zs A1 => g zs A1 P) Y
def Reads (c : Con) (g : List R → Abs → (R → Abs → Prop) → Prop) : Prop := ∀ zs A P, g zs A P → callG c zs A P
theorem reads_self (c : Con) : Reads c (callG c) := fun _ _ _ h => h
theorem sim_call {K : PySem.W.Frag} {E : WX} {c : Con} {ta : TA} {q : PTA} {g : List R → Abs → (R → Abs → Prop) → Prop} (hg : Reads c g) (h : SimA K E ta q) : SimE K E (tCall (spA K c.asp) [] E0 ta) (pCalls g q) := fun B σ H A P Y Q rel p k xq => by
  refine h B σ H A _ Y _ rel p (fun zs A1 vs H1 p1 ⟨t, S, r, n, rl⟩ => ?_) xq
  rw [List.append_nil]
  refine run_callA (P := P) (Y := fun _ _ => False) n rl (fun ars post post' xp xp' h1 h2 ⟨a1, a2⟩ => ⟨a1, fun y os hl ho => h1 _ _ (toR_no y) hl (a2 y os hl ho)⟩) ?_ k fun C A H z => z.elim
  have p1 := hg _ _ _ p1
  unfold callA
  unfold callG at p1
  split at p1
  · rename_i ars ns e
    obtain ⟨nd, pr, ok⟩ := p1
    try rw [e]
    exact ⟨nd, pr, fun y os hl ho => ok y os (by rw [hl, (toAR_obj e).1]) ho⟩
  · exact p1.elim
section
variable {X : Cx} {E : WX} {k j : Nat}
theorem de_call {x : Str} {c : Con} {g : List R → Abs → (R → Abs → Prop) → Prop} (rd : Reads c g) {p pos : Pos} {e : Expr} {es : List Expr} {ta : TA} {q : PTA} (h : ACal X.prog X.w X.K X.mg X.base k x c) (hr : Room j X.A) (hk : k ≤ j) (hg : Gl X x) (ha : DA X E (e :: es) ta q)
    (hdb : (x == ("__debug__" : Str)) = false := by decide) (he : starEach (e :: es) X.env = (false, eval e X.env) :: starEach es X.env := by rfl) (hpl : (backTo pos (starEach es X.env)).any (·.1) = false := by rfl) :
    DE X E (.Call (.Name x p) (e :: es) [] pos) (tCall (spA X.K c.asp) [] E0 ta) (pCalls g q) := by
  obtain ⟨f, fd, ps, F, hm, kp, b⟩ := h.ex
  exact ⟨pe_call F (hr.mono hk) hg hm kp b .nil pass0 ha.pe hdb he hpl, sim_call rd ha.sim⟩
end
/-! ### defs that only read -/
theorem putAll_same {M : List (Option O)} {zs : List R} {ars : List AR} {ns : List Nat} (nd : ns.Nodup) (e : toAR M zs = some (ars, ns)) : putAll M ns (ownsA ars) = M := by
  obtain ⟨q1, q2, q3⟩ := toAR_obj e
  apply List.ext_getElem?
  intro i
  by_cases hi : i ∈ ns
  · obtain ⟨j, hj⟩ := List.mem_iff_getElem?.mp hi
    rw [putAll_in M ns _ j i nd q1.symm q2 hj, q3 j i hj]
  · exact putAll_out M ns _ hi
def conN (pre : List AR → Prop) (ok : List AR → AR → Prop) : Con := ⟨pre, fun ars y os => ok ars y ∧ os = ownsA ars⟩
def conP (pre : List AR → Prop) (F : List AR → AR) : Con := conN pre fun ars y => y = F ars
def callN (pre : List AR → Prop) (ok : List AR → AR → Prop) (zs : List R) (A : Abs) (P : R → Abs → Prop) : Prop := match toAR A.M zs with
  | some (ars, ns) => ns.Nodup ∧ pre ars ∧ ∀ y, ok ars y → P y.toR A
  | none => False
def callP (pre : List AR → Prop) (F : List AR → AR) (zs : List R) (A : Abs) (P : R → Abs → Prop) : Prop := match toAR A.M zs with
  | some (ars, ns) => ns.Nodup ∧ pre ars ∧ P (F ars).toR A
  | none => False
theorem reads_N (pre : List AR → Prop) (ok : List AR → AR → Prop) : Reads (conN pre ok) (callN pre ok) := fun zs A P h => by
  unfold callN at h
  unfold callG
  split at h
  · rename_i ars ns e
    obtain ⟨nd, h0, h⟩ := h
    refine ⟨nd, h0, fun y' os hl ⟨h1, h2⟩ => ?_⟩
    rw [h2, putAll_same nd e]
    exact h _ h1
  · exact h.elim
theorem reads_P (pre : List AR → Prop) (F : List AR → AR) : Reads (conP pre F) (callP pre F) := fun zs A P h => reads_N _ _ zs A P (by
  unfold callP at h
  unfold callN
  split at h
  · exact ⟨h.1, h.2.1, fun y e => by rw [e]; exact h.2.2⟩
  · exact h.elim)
theorem hu65_of {A : Around} {k : Nat} (hr : Room k A) : A.units + 65 < cLine := by have := hr.un; omega
end PD

/-! PD, thirteenth part: names let go; a comprehension set to a name. -/
namespace PD
open PySem PySem.Spec PyProof.Rows L2

def truncE (m : Nat) : AV → AV
  | .p n => if n < m then .p n else .un
  | x => x
def trunc (m : Nat) (A : Abs) : Abs := ⟨A.env.map (truncE m), A.M.take m⟩
theorem HR.trunc {K : PySem.W.Frag} {B : Bas} {t : Nat → Addr} {S : Hp} {r : Addr → Lb} {M : List (Option O)} {H : Hp} (h : HR K B t S r M H) {m : Nat} (hm : B.n ≤ m) :
    ∃ r', HR K B t S r' (M.take m) H := by
  have c1 : ∀ a k, k < m → ((match r a with
    | some (some n) => if n < m then some (some n) else none
    | x => x : Lb) = some (some k) ↔ r a = some (some k)) := fun a k hk => by
    constructor
    · intro z
      split at z
      · rename_i n e
        split at z
        · cases z; exact e
        · cases z
      · exact z
    · intro z
      rw [z]
      simp only
      rw [if_pos hk]
  have c2 : ∀ a l, (match r a with
    | some (some n) => if n < m then some (some n) else none
    | x => x : Lb) = some l → r a = some l := fun a l z => by
    split at z
    · rename_i n e
      split at z
      · rw [e]; exact z
      · cases z
    · exact z
  refine ⟨fun a => match r a with
    | some (some n) => if n < m then some (some n) else none
    | x => x, h.le, fun a l z => h.sep a l (c2 a l z), fun a k z => ?_, fun k o z => ?_, h.keep, fun a l z => h.own a l (c2 a l z), h.stb, h.bas, h.th, ?_⟩
  · have z' := c2 a _ z
    have q := h.lab a k z'
    have : k < m := by
      have z : (match r a with
        | some (some n) => if n < m then some (some n) else none
        | x => x : Lb) = some (some k) := z
      rw [z'] at z
      simp only at z
      split at z
      · assumption
      · cases z
    rw [List.length_take]
    omega
  · have hk : k < m := by
      have := (List.getElem?_eq_some_iff.mp z).1
      rw [List.length_take] at this
      omega
    rw [List.getElem?_take, if_pos hk] at z
    exact (h.obj k o z).iff fun b => (c1 b k hk).symm
  · rw [List.length_take]
    have := h.nl
    omega
theorem Rel.trunc {K : PySem.W.Frag} {B : Bas} {A : Abs} {σ : L2.St} {H : Hp} (rel : Rel K B A σ H) {m : Nat} (hm : B.n ≤ m) : Rel K B (trunc m A) σ H := by
  obtain ⟨t, S, r, h, s⟩ := rel
  obtain ⟨r', h'⟩ := h.trunc hm
  refine ⟨t, S, r', h', by show (A.env.map (truncE m)).length = _; rw [List.length_map]; exact s.len, fun i av e => ?_⟩
  have e : (A.env.map (truncE m))[i]? = some av := e
  rw [List.getElem?_map] at e
  cases q : A.env[i]? with
  | none => rw [q] at e; cases e
  | some b =>
    rw [q] at e
    have e : truncE m b = av := by simpa using e
    have ok := s.ok i b q
    cases b with
    | un => subst e; trivial
    | d x => subst e; exact ok
    | p n =>
      simp only [truncE] at e
      split at e
      · rename_i hn
        subst e
        refine ⟨ok.1, ?_⟩
        show n < (A.M.take m).length
        rw [List.length_take]
        have := ok.2
        omega
      · subst e; trivial
/-- behind these statements what they made is let go -/
def pGc (p : PTS) : PTS := fun P A => p { P with nx := fun A' => P.nx (trunc A.M.length A'), ct := fun A' => P.ct (trunc A.M.length A'), bk := fun A' => P.bk (trunc A.M.length A') } A
theorem DSs.gc {X : Cx} {E : WX} {e : List Stmt} {t : TS} {p : PTS} (h : DSs X E e t p) : DSs X E e t (pGc p) := ⟨h.pe, fun B σ H A P D rel x c => by
  have hm : B.n ≤ A.M.length := by
    obtain ⟨t, S, r, h, s⟩ := rel
    exact h.nl
  exact h.sim B σ H A _ D rel x { nx := fun A' σ' H' q r => c.nx _ σ' H' q (r.trunc hm), rt := c.rt, bk := fun A' σ' H' q r => c.bk _ σ' H' q (r.trunc hm), ct := fun A' σ' H' q r => c.ct _ σ' H' q (r.trunc hm), ex := c.ex }⟩
section
variable {X : Cx} {E : WX}
theorem ds_setLc (i : Nat) {y : Str} {py : Pos} {elt tg iter : Expr} {ifs : List Expr} {scope : Scope} {own : List (Str × Nat)} {pos spos : Pos} {wi : TI} {ps : PTI} {g : TG} {pg : PTG} {ix : List Nat} {tt : TT} {pt : PTT} {te : TE} {pe : PTE} (hc : X.calm = true) (hN : X.N.Nodup) (hi : DI X E tg iter wi ps) (ok : blkC X.N X.env.scope scope own = true)
    (hg : ∀ (s : Shared) (H : Hp) (C : Addr) (cl : List (Str × Addr)) (fp : List Addr), DG (X.blk s H scope (compEnvC scope cl C X.env) fp) tg g pg ix) (ht : ∀ (s : Shared) (H : Hp) (C : Addr) (cl : List (Str × Addr)) (fp : List Addr), DTs (X.blk s H scope (compEnvC scope cl C X.env) fp) E ifs tt pt)
    (he : ∀ (s : Shared) (H : Hp) (C : Addr) (cl : List (Str × Addr)) (fp : List Addr), DE (X.blk s H scope (compEnvC scope cl C X.env) fp) E elt te pe) (hix : ∀ i ∈ ix, i ∈ own.map (·.2)) (inh : Shared × Hp) 
    (hy : X.N[i]? = some y := by rfl) (hyl : X.env.scope.names.lookup y = some .local := by rfl) (hsw : swapsWith (.ListComp elt [⟨tg, iter, ifs, 0⟩] scope pos) (some (.Name y py)) spos.line X.env = pure true := by exact sw_true rfl rfl rfl (by decide +kernel)) (hs : ∀ x, foldedSetIterable iter X.env x = pure x := by intro _; rfl) :
    DS X E (.Assign [.Name y py] (.ListComp elt [⟨tg, iter, ifs, 0⟩] scope pos) spos) (tAsg (tLc wi g tt te (own.map (·.2))) (gName i)) (pSet i (pLc ps pg pt pe (own.map (·.2)))) :=
  ⟨ps_setLc hc hN hy hyl hsw hi.pi (blkOk_by ok) (fun s H C cl fp => (hg s H C cl fp).pg) (fun s H C cl fp => (ht s H C cl fp).pe) (fun s H C cl fp => (he s H C cl fp).pe) hs,
    sim_set (sim_lc hi.sim (hg inh.1 inh.2 0 [] []).sim (ht inh.1 inh.2 0 [] []).sim (he inh.1 inh.2 0 [] []).sim hix)⟩
theorem ds_setLcD (i : Nat) {y : Str} {py : Pos} {elt tg iter : Expr} {ifs : List Expr} {scope : Scope} {own : List (Str × Nat)} {pos spos : Pos} {wi : TI} {ps : PTI} {g : TG} {pg : PTG} {ix : List Nat} {tt : TT} {pt : PTT} {te : TE} {pe : PTE} (hc : X.calm = true) (hN : X.N.Nodup) (hi : DI X E tg iter wi ps) (ok : blkC X.N X.env.scope scope own = true)
    (hg : ∀ (s : Shared) (H : Hp) (C : Addr) (cl : List (Str × Addr)) (fp : List Addr), DG (X.blk s H scope (compEnvC scope cl C X.env) fp) tg g pg ix) (ht : ∀ (s : Shared) (H : Hp) (C : Addr) (cl : List (Str × Addr)) (fp : List Addr), DTs (X.blk s H scope (compEnvC scope cl C X.env) fp) E ifs tt pt)
    (he : ∀ (s : Shared) (H : Hp) (C : Addr) (cl : List (Str × Addr)) (fp : List Addr), DE (X.blk s H scope (compEnvC scope cl C X.env) fp) E elt te pe) (hix : ∀ i ∈ ix, i ∈ own.map (·.2)) (inh : Shared × Hp) 
    (hy : X.N[i]? = some y := by rfl) (hyl : X.env.scope.names.lookup y = some .local := by rfl) (hsw : swapsWith (.ListComp elt [⟨tg, iter, ifs, 0⟩] scope pos) (some (.Name y py)) spos.line X.env = pure true := by exact sw_true rfl rfl rfl (by decide +kernel)) (hs : ∀ x, foldedSetIterable iter X.env x = pure x := by intro _; rfl) :
    DS X E (.Assign [.Name y py] (.ListComp elt [⟨tg, iter, ifs, 0⟩] scope pos) spos) (tAsg (tLc wi g tt te (own.map (·.2))) (gName i)) (pSetD i (pLc ps pg pt pe (own.map (·.2)))) :=
  ⟨ps_setLc hc hN hy hyl hsw hi.pi (blkOk_by ok) (fun s H C cl fp => (hg s H C cl fp).pg) (fun s H C cl fp => (ht s H C cl fp).pe) (fun s H C cl fp => (he s H C cl fp).pe) hs,
    sim_setD (sim_lc hi.sim (hg inh.1 inh.2 0 [] []).sim (ht inh.1 inh.2 0 [] []).sim (he inh.1 inh.2 0 [] []).sim hix)⟩
end
end PD

/-! PD, fourteenth part: the rules with the fragment named, so that they stand within comprehensions. -/
namespace PD
open PySem PySem.Spec PyProof.Rows L2
section
variable {X : Cx} {E : WX} {K : PySem.W.Frag}
theorem kisi {t : TE} {T : String} {e : Expr} {p : PTE} {x y : Str} {p1 p2 pos : Pos} (h : DE X E e t p) (hT : T ∈ okT) (hg : Gl X x) (hm : X.mg x = none) (hv : bootBuiltins x = some (.builtin "isinstance")) (hg2 : Gl X y) (hm2 : X.mg y = none) (hv2 : bootBuiltins y = some (.type T)) (hK : X.K = K := by rfl)
    (hn2 : y ≠ "__name__" := by decide) (hd2 : (y == ("__debug__" : Str)) = false := by decide)
    (hn : x ≠ "__name__" := by decide) (hdb : (x == ("__debug__" : Str)) = false := by decide) (he : starEach [e, .Name y p2] X.env = (false, eval e X.env) :: starEach [.Name y p2] X.env := by rfl) (hpl : (backTo pos (starEach [.Name y p2] X.env)).any (·.1) = false := by rfl)
    (he2 : starEach [.Name y p2] X.env = (false, eval (.Name y p2) X.env) :: starEach [] X.env := by rfl) : DE X E (.Call (.Name x p1) [e, .Name y p2] [] pos) (tCB (rIsi K) (tCons t (tCons (tC (.ty T)) tNil))) (pIsiP T p) := by
  subst hK
  exact de_isi h hT hg hm hv hg2 hm2 hv2 hn2 hd2 hn hdb he hpl he2
theorem kix {ta tb : TE} {a b : Expr} {pa pb : PTE} {pos : Pos} (hu : X.A.units + 1 < cLine) (ha : DE X E a ta pa) (hb : DE X E b tb pb) (hK : X.K = K := by rfl) (hs : PlainIx b := by exact fun _ _ => rfl) : DE X E (.Subscript a b pos) (tOp (rIxA K) ta tb) (pOp2 bIx pa pb) := by
  subst hK
  exact de_ix hu ha hb hs
theorem ksl {ta : TE} {tl th : TO} {e : Expr} {lo hi : Option Expr} {pa : PTE} {pl ph : PTO} {pos p2 : Pos} (ha : DE X E e ta pa) (hl : DO X E lo tl pl) (hh : DO X E hi th ph) (hK : X.K = K := by rfl) : DE X E (.Subscript e (.Slice lo hi none p2) pos) (tSl (rSlA K) ta tl th) (pSl pa pl ph) := by
  subst hK
  exact de_sl ha hl hh
theorem ksortI {t : TE} {e : Expr} {pe : PTE} {p apos cpos pos : Pos} (hc : X.calm = true) (hu : X.A.units + 64 < cLine) (he : DE X E e t pe) (hg : Gl X "sorted") (hm : X.mg "sorted" = none) (hv : bootBuiltins "sorted" = some (.builtin "sorted")) (hK : X.K = K := by rfl) (hbase : attributeBase e "items" X.env (eval e X.env) = eval e X.env := by rfl) (hline : (apos.endLine == cpos.line) = true := by rfl)
    (hs : starEach [.Call (.Attribute e "items" apos) [] [] cpos] X.env = (false, eval (.Call (.Attribute e "items" apos) [] [] cpos) X.env) :: starEach [] X.env := by rfl) (hpl : (backTo pos (starEach ([] : List Expr) X.env)).any (·.1) = false := by rfl) :
    DE X E (.Call (.Name "sorted" p) [.Call (.Attribute e "items" apos) [] [] cpos] [] pos) (tSortI K t) (pSortI pe) := by
  subst hK
  exact de_sortI hc hu he hg hm hv hbase hline hs hpl
theorem kjoin {ta tb : TE} {o e : Expr} {pa pb : PTE} {apos pos : Pos} (ha : DE X E o ta pa) (hb : DE X E e tb pb) (hK : X.K = K := by rfl) (hs : starEach [e] X.env = [(false, eval e X.env)] := by rfl) (hbase : attributeBase o "join" X.env (eval o X.env) = eval o X.env := by rfl) (hline : (apos.endLine == pos.line) = true := by rfl) :
    DE X E (.Call (.Attribute o "join" apos) [e] [] pos) (tM1 (rJoin K) ta tb) (pM1 bJoin pa pb) := by
  subst hK
  exact de_join ha hb hs hbase hline
theorem klm {o e : Expr} {es : List Expr} {name : Str} {id : String} {r : V → List V → Hp → VK → Prop} {lm : LM} {to : TE} {ta : TA} {po : PTE} {pa : PTA} {apos cpos : Pos} (slot : Slot "list" name id) (hty : typeOf (.builtin id) = pure (.type "method_descriptor")) (hm : MtR X id r) (hr : SndL K r lm)
    (ho : DE X E o to po) (ha : DA X E (e :: es) ta pa) (hK : X.K = K := by rfl) (hbase : attributeBase o name X.env (eval o X.env) = eval o X.env := by rfl)
    (hfew : ((backTo cpos (starEach (e :: es) X.env)).all (fun x => !x.1) && (backToKw cpos (keywordEach [] X.env)).all (fun x => x.1.isSome)
      && decide ((e :: es).length + ([] : List Keyword).length + (if ([] : List Keyword).isEmpty then 0 else 1) < 30)) = true := by rfl)
    (hline : (apos.endLine == cpos.line) = true := by rfl) (hs : starEach (e :: es) X.env = (false, eval e X.env) :: starEach es X.env := by rfl) (hplain : (backTo cpos (starEach es X.env)).any (·.1) = false := by rfl) :
    DE X E (.Call (.Attribute o name apos) (e :: es) [] cpos) (tBM K "list" r to ta) (pLM lm po pa) := by
  subst hK
  exact de_lm slot hty hm hr ho ha hbase hfew hline hs hplain
theorem ktru {a : Expr} {t : TE} {p : PTE} (h : DE X E a t p) (hK : X.K = K := by rfl) (he : ∀ whole, isTrue a X.env whole = (do let v ← whole; standAt a.pos; holding [v] (truthy v)) := by intro _; rfl) : DT X E a (tTru K t) (pTru p) := by
  subst hK
  exact dt_tru h he
theorem klst {tg e : Expr} {te : TE} {p : PTE} (h : DE X E e te p) (hK : X.K = K := by rfl) : DI X E tg e (iList K te) (pItL p) := by
  subst hK
  exact di_lst h
theorem kcall {k j : Nat} {x : Str} {c : Con} {g : List R → Abs → (R → Abs → Prop) → Prop} {p pos : Pos} {e : Expr} {es : List Expr} {ta : TA} {q : PTA} (rd : Reads c g) (h : ACal X.prog X.w K X.mg X.base k x c) (hr : Room j X.A) (hk : k ≤ j) (hg : Gl X x) (ha : DA X E (e :: es) ta q) (hK : X.K = K := by rfl)
    (hdb : (x == ("__debug__" : Str)) = false := by decide) (he : starEach (e :: es) X.env = (false, eval e X.env) :: starEach es X.env := by rfl) (hpl : (backTo pos (starEach es X.env)).any (·.1) = false := by rfl) :
    DE X E (.Call (.Name x p) (e :: es) [] pos) (tCall (spA K c.asp) [] E0 ta) (pCalls g q) := by
  subst hK
  exact de_call rd h hr hk hg ha hdb he hpl
theorem kdg_t (is : List Nat) {es : List Expr} {k : Nat} {pos : Pos} (hc : X.calm = true) (h : PGs X es (gNames is)) (hK : X.K = K := by rfl) (hn : (assignEach es X.env).length = is.length := by rfl) (hst : (assignEach es X.env).findIdx? (·.1) = none := by rfl) : DG X (.Tuple es k pos) (gTup K is.length (gNames is)) (tgT is) is := by
  subst hK
  exact dg_t is hc h hn hst
end
def rListA (K : PySem.W.Frag) : List V → Hp → VK → Prop := fun xs H Q => ∃ p ys, xs = [.ref p] ∧ (SqL K H p ys ∨ SqT K H p ys) ∧ ∀ l, H l = none → Q (.ref l) (upd H l (.lst ys))
/-! list.insert -/
def rInsert : V → List V → Hp → VK → Prop := fun x vs H Q => ∃ (l : Addr) (xs : List V) (i : Int) (y : V), x = .ref l ∧ vs = [.int i, y] ∧ H l = some (.lst xs) ∧ xs.length < sizeLine ∧ 0 ≤ i ∧ i < 2 ^ 63 ∧
    Q .non (upd H l (.lst (xs.take i.toNat ++ [y] ++ xs.drop i.toNat)))
end PD

/-! PD, fifteenth part: readings of loops. -/
namespace PD
open PySem PySem.Spec PyProof.Rows L2
/-- the list that a comprehension makes -/
def lcL (n : Nat) (o : Nat → Option D) : List D := (List.range n).filterMap o
theorem lcL_zero (o : Nat → Option D) : lcL 0 o = [] := rfl
theorem lcL_succ (n : Nat) (o : Nat → Option D) : lcL (n + 1) o = lcL n o ++ (match o n with
  | some d => [d]
  | none => []) := by
  unfold lcL
  rw [List.range_succ, List.filterMap_append]
  congr 1
  cases h : o n <;> simp [List.filterMap, h]
theorem lcL_len (n : Nat) (o : Nat → Option D) : (lcL n o).length ≤ n := by
  unfold lcL
  have := List.length_filterMap_le o (List.range n)
  rwa [List.length_range] at this
def LcP (n : Nat) (it : Nat → D) (C : List (Option O) → Prop) (tg : PTG) (tt : PTT) (pe : PTE) (vs : List Nat) (A1 : Abs) (P : R → Abs → Prop) (Y : PX) : Prop := ∃ Inv : Nat → List D → List (Option O) → Prop, Inv 0 [] A1.M ∧ (∀ i acc M, i ≤ n → Inv i acc M → C M) ∧
  (∀ i acc M, i < n → Inv i acc M → ∃ env', tg (it i) (wipeA A1.env vs) = some env' ∧ tt ⟨env', M⟩ (fun b A2 => if b = true then pe A2 (fun y A3 => match y.fz with
      | some (.d d) => acc.length < 16777216 ∧ Inv (i + 1) (acc ++ [d]) A3.M
      | _ => False) Y else Inv (i + 1) acc A2.M) Y) ∧
  (∀ acc M, Inv n acc M → P (.o (.lst acc)) ⟨A1.env, M⟩)
theorem pLc_eq (ps : PTI) (tg : PTG) (tt : PTT) (pe : PTE) (vs : List Nat) (A : Abs) (P : R → Abs → Prop) (Y : PX) : pLc ps tg tt pe vs A P Y = ps A (fun n it C A1 => LcP n it C tg tt pe vs A1 P noX) Y := rfl
/-- what a turn hands on -/
def Hand (J : Option D → List (Option O) → Prop) (pe : PTE) (Y : PX) : Bool → Abs → Prop := fun b A2 => if b = true then pe A2 (fun y A3 => match y.fz with
      | some (.d d) => J (some d) A3.M
      | _ => False) Y else J none A2.M
theorem lc_run {n : Nat} {it : Nat → D} {C : List (Option O) → Prop} {tg : PTG} {tt : PTT} {pe : PTE} {vs : List Nat} {A1 : Abs} {P : R → Abs → Prop} {Y : PX} (o : Nat → Option D) (hC : C A1.M) (hn : n ≤ 16777216)
    (hs : ∀ i, i < n → ∃ env', tg (it i) (wipeA A1.env vs) = some env' ∧ ∀ J : Option D → List (Option O) → Prop, J (o i) A1.M → tt ⟨env', A1.M⟩ (Hand J pe Y) Y) (hp : P (.o (.lst (lcL n o))) A1) : LcP n it C tg tt pe vs A1 P Y := by
  refine ⟨fun i acc M => M = A1.M ∧ acc = lcL i o, ⟨rfl, rfl⟩, fun i acc M _ ⟨h, _⟩ => by rw [h]; exact hC, fun i acc M hi ⟨h1, h2⟩ => ?_, fun acc M ⟨h1, h2⟩ => by rw [h1, h2]; exact hp⟩
  obtain ⟨env', e, k⟩ := hs i hi
  refine ⟨env', e, ?_⟩
  rw [h1]
  refine k (fun x M => match x with
    | some d => acc.length < 16777216 ∧ M = A1.M ∧ acc ++ [d] = lcL (i + 1) o
    | none => M = A1.M ∧ acc = lcL (i + 1) o) ?_
  have hl : acc.length < 16777216 := by
    rw [h2]
    have := lcL_len i o
    omega
  cases q : o i with
  | none => exact ⟨rfl, by rw [lcL_succ, q, h2, List.append_nil]⟩
  | some d => exact ⟨hl, rfl, by rw [lcL_succ, q, h2]⟩
/-- .. whose parts touch owned things: the state stays, what a turn gives is any of these -/
theorem lc_any {n : Nat} {it : Nat → D} {C : List (Option O) → Prop} {tg : PTG} {tt : PTT} {pe : PTE} {vs : List Nat} {A1 : Abs} {P : R → Abs → Prop} {Y : PX} (G : D → Prop) (hC : C A1.M) (hn : n ≤ 16777216)
    (hs : ∀ i, i < n → ∃ env', tg (it i) (wipeA A1.env vs) = some env' ∧ ∀ J : Option D → List (Option O) → Prop, (∀ d, G d → J (some d) A1.M) → tt ⟨env', A1.M⟩ (Hand J pe Y) Y) (hp : ∀ ds : List D, ds.length = n → (∀ d ∈ ds, G d) → P (.o (.lst ds)) A1) : LcP n it C tg tt pe vs A1 P Y := by
  refine ⟨fun i acc M => M = A1.M ∧ acc.length = i ∧ ∀ d ∈ acc, G d, ⟨rfl, rfl, fun d h => by simp at h⟩, fun i acc M _ ⟨h, _⟩ => by rw [h]; exact hC, fun i acc M hi ⟨h1, h2, h3⟩ => ?_, fun acc M ⟨h1, h2, h3⟩ => by rw [h1]; exact hp acc h2 h3⟩
  obtain ⟨env', e, k⟩ := hs i hi
  refine ⟨env', e, ?_⟩
  rw [h1]
  refine k (fun x M => match x with
    | some d => acc.length < 16777216 ∧ M = A1.M ∧ (acc ++ [d]).length = i + 1 ∧ ∀ z ∈ acc ++ [d], G z
    | none => M = A1.M ∧ acc.length = i + 1 ∧ ∀ d ∈ acc, G d) fun d hd => ⟨by omega, rfl, by simp [h2], fun z hz => ?_⟩
  rcases List.mem_append.mp hz with hz | hz
  · exact h3 z hz
  · rw [List.mem_singleton] at hz
    rw [hz]
    exact hd
def ForP (n : Nat) (it : Nat → D) (C : List (Option O) → Prop) (tg : PTG) (body : PTS) (P : PEnds) (A1 : Abs) : Prop := ∃ Inv : Nat → Abs → Prop, Inv 0 A1 ∧ (∀ i A', i ≤ n → Inv i A' → C A'.M) ∧
  (∀ i A', i < n → Inv i A' → ∃ env', tg (it i) A'.env = some env' ∧ body { P with nx := Inv (i + 1), ct := Inv (i + 1), bk := P.nx } ⟨env', A'.M⟩) ∧ (∀ A', Inv n A' → P.nx A')
theorem pFor_eq (ps : PTI) (tg : PTG) (body : PTS) (P : PEnds) (A : Abs) : pFor ps tg body P A = ps A (fun n it C A1 => ForP n it C tg body P A1) P.ex := rfl
def Then (q : PTS) (P : PEnds) (A : Abs) : Prop := q P A
theorem pSeq_then (p q : PTS) (P : PEnds) (A : Abs) : pSeq p q P A = p { P with nx := Then q P } A := rfl
def Law (p : PTS) (N : List Str) (m : Nat) (c : Con) : Prop := ∀ ars, c.pre ars → ars.length = m ∧ p (endsA (ownsA ars).length (c.ok ars)) (fnAbs N ars)
/-! sizes and layouts -/
def abc : Tx := [97, 98, 99, 100, 101, 102, 103, 104, 105, 106, 107, 108, 109, 110, 111, 112, 113, 114, 115, 116, 117, 118, 119, 120, 121, 122]
def small (l : Tx) : Bool := l.all fun c => decide (c ∈ abc)
def okX (l : Tx) : Prop := l.all (· < 0x110000) = true
theorem small_okX {l : Tx} (h : small l = true) : okX l := by
  unfold small at h
  unfold okX
  rw [List.all_eq_true] at h ⊢
  intro c hc
  have := of_decide_eq_true (h c hc)
  simp only [abc, List.mem_cons, List.not_mem_nil, or_false] at this
  simp only [decide_eq_true_eq]
  omega
theorem chks_map {α : Type} (f : α → D) (xs : List α) (h : ∀ x ∈ xs, chk (f x) = true) : chks (xs.map f) = true := by
  induction xs with
  | nil => rfl
  | cons a r ih =>
    simp only [List.map_cons, chks, Bool.and_eq_true]
    exact ⟨h a (by simp), ih fun x hx => h x (by simp [hx])⟩
theorem deps_le {m : Nat} : ∀ xs : List D, (∀ x ∈ xs, dep x ≤ m) → deps xs ≤ m
  | [], _ => Nat.zero_le _
  | a :: r, h => by
    simp only [deps]
    exact Nat.max_le.mpr ⟨h a (by simp), deps_le r fun x hx => h x (by simp [hx])⟩
theorem chks_all : ∀ xs : List D, (∀ x ∈ xs, chk x = true) → chks xs = true
  | [], _ => rfl
  | a :: r, h => by
    simp only [chks, Bool.and_eq_true]
    exact ⟨h a (by simp), chks_all r fun x hx => h x (by simp [hx])⟩
theorem okD_lst {xs : List D} {m : Nat} (hm : m < 60) (h : ∀ x ∈ xs, chk x = true ∧ dep x ≤ m) : okD (.lst xs) :=
  ⟨by simp only [chk]; exact chks_all xs fun x hx => (h x hx).1, by
    simp only [dep]
    have := deps_le xs fun x hx => (h x hx).2
    omega⟩
theorem okD_nil : okD (.lst []) := okD_lst (m := 0) (by decide) fun x h => by simp at h
theorem chkx_str {l : Tx} (h : okX l) : chk (.str l) = true ∧ dep (.str l) ≤ 0 := ⟨by simp only [chk]; exact h, Nat.le_refl _⟩
end PD

/-! PD, sixteenth part: slices. -/
namespace PD
open PySem PySem.Spec PyProof.Rows L2
theorem sIx_pos {n d : Nat} {a : Int} (h : 0 ≤ a) : HT.sIx n d (some a) = min a.toNat n := by
  obtain ⟨k, rfl⟩ := Int.eq_ofNat_of_zero_le h
  rw [HT.sIx_nat, Int.toNat_natCast]
theorem dropmin {α : Type} (l : List α) (a : Nat) : l.drop (min a l.length) = l.drop a := by
  by_cases h : a ≤ l.length
  · rw [Nat.min_eq_left h]
  · rw [Nat.min_eq_right (by omega), List.drop_eq_nil_of_le (Nat.le_refl _), List.drop_eq_nil_of_le (by omega)]
theorem cut_ab {α : Type} {l : List α} {a b : Int} (ha : 0 ≤ a) (hb : 0 ≤ b) : cutL l (some a) (some b) = (l.drop a.toNat).take (b.toNat - a.toNat) := by
  unfold cutL
  rw [sIx_pos ha, sIx_pos hb, dropmin]
  apply List.ext_getElem?
  intro i
  rw [List.getElem?_take, List.getElem?_take, List.getElem?_drop]
  by_cases h1 : i < b.toNat - a.toNat
  · rw [if_pos h1]
    by_cases h2 : i < min b.toNat l.length - min a.toNat l.length
    · rw [if_pos h2]
    · rw [if_neg h2, List.getElem?_eq_none (by omega)]
  · rw [if_neg h1]
    split
    · rw [List.getElem?_eq_none (by omega)]
    · rfl
theorem cut_a {α : Type} {l : List α} {a : Int} (ha : 0 ≤ a) : cutL l (some a) none = l.drop a.toNat := by
  unfold cutL
  rw [sIx_pos ha, dropmin]
  show (l.drop a.toNat).take (l.length - _) = _
  rw [List.take_of_length_le]
  rw [List.length_drop]
  omega
theorem cut_b {α : Type} {l : List α} {b : Int} (hb : 0 ≤ b) : cutL l none (some b) = l.take b.toNat := by
  unfold cutL
  rw [sIx_pos hb]
  show (l.drop 0).take (_ - 0) = _
  rw [List.drop_zero, Nat.sub_zero]
  by_cases h : b.toNat ≤ l.length
  · rw [Nat.min_eq_left h]
  · rw [Nat.min_eq_right (by omega), List.take_length, List.take_of_length_le (by omega)]
/-! lists by place -/
theorem lcL_take {α : Type} (xs : List α) (z : α) (p : α → Bool) (f : α → D) : ∀ n, n ≤ xs.length → lcL n (fun i => if p (xs.getD i z) = true then some (f (xs.getD i z)) else none) = ((xs.take n).filter p).map f
  | 0, _ => rfl
  | n + 1, h => by
    have hn : n < xs.length := by omega
    rw [lcL_succ, lcL_take xs z p f n (by omega), List.take_succ, List.getElem?_eq_getElem hn, List.filter_append, List.map_append]
    congr 1
    have : xs.getD n z = xs[n] := by rw [List.getD_eq_getElem?_getD, List.getElem?_eq_getElem hn]; rfl
    rw [this]
    cases q : p xs[n] <;> simp [List.filter, q]
theorem lcL_map {α : Type} (xs : List α) (z : α) (p : α → Bool) (f : α → D) : lcL xs.length (fun i => if p (xs.getD i z) = true then some (f (xs.getD i z)) else none) = (xs.filter p).map f := by
  rw [lcL_take xs z p f xs.length (Nat.le_refl _), List.take_length]
theorem lcL_all (n : Nat) (f : Nat → D) : lcL n (fun i => some (f i)) = (List.range n).map f := by
  unfold lcL
  induction List.range n with
  | nil => rfl
  | cons a r ih => simp [ih]
end PD

/-! PD, seventeenth part: more rules. -/
namespace PD
open PySem PySem.Spec PyProof.Rows L2
def pNeg (p : PTE) : PTE := fun A P Y => p A (fun y A1 => match y with
  | .d (.int i) => P (.d (.int (-i))) A1
  | _ => False) Y
section
variable {X : Cx} {E : WX} {K : PySem.W.Frag}
theorem de_neg {t : TE} {e : Expr} {p : PTE} {pos : Pos} (h : DE X E e t p) : DE X E (.UnaryOp .USub e pos) (tUn (rU fun i => .int (-i)) t) (pNeg p) := ⟨pe_un un_neg h.pe, fun B σ H A P Y Q rel k c xq => h.sim B σ H A _ Y _ rel k (fun y A1 v H1 p1 r1 => by
  split at p1
  · rename_i i
    obtain ⟨t, S, r, hh, s, kk⟩ := r1
    cases DR.int_of kk
    exact ⟨i, rfl, c _ A1 _ H1 p1 ⟨t, S, r, hh, s, .int _⟩⟩
  · exact p1.elim) xq⟩
theorem simg_u {is : List Nat} : SimG K (gUnl K is.length (gNames is)) (fun x env => match x with
  | .lst xs => setsA is xs env
  | _ => none) is := fun S H t m x v env env' σ Q le s d e q => by
  simp only at e
  split at e
  · rename_i xs
    obtain ⟨a, vs, rfl, h1, h2⟩ := d.lst_of
    exact ⟨a, vs, rfl, SqL.of (le.lst h1), by rw [h2.length]; exact (setsA_len e).symm, sets_run s h2 e q⟩
  · cases e
def tgU (is : List Nat) : PTG := fun x env => match x with
  | .lst xs => setsA is xs env
  | _ => none
theorem kdg_u (is : List Nat) {es : List Expr} {k : Nat} {pos : Pos} (hc : X.calm = true) (h : PGs X es (gNames is)) (hK : X.K = K := by rfl) (hn : (assignEach es X.env).length = is.length := by rfl) (hst : (assignEach es X.env).findIdx? (·.1) = none := by rfl) : DG X (.Tuple es k pos) (gUnl K is.length (gNames is)) (tgU is) is := by
  subst hK
  exact ⟨pg_unl hc h hn hst, simg_u⟩
/-! list(range(..)) -/
def rgD (a b : Int) : List D := (List.range (b - a).toNat).map fun i => D.int (a + (i : Nat))
theorem rgV_DRs {S : Hp} (a b : Int) : DRs K S (rgV a b) (rgD a b) := by
  unfold rgV rgD
  induction List.range (b - a).toNat with
  | nil => exact .nil
  | cons x r ih => exact .cons (.int _) ih
def pLr2 (pa pb : PTE) : PTE := fun A P Y => pa A (fun y1 A1 => match y1 with
  | .d (.int i) => pb A1 (fun y2 A2 => match y2 with
    | .d (.int j) => RgOk i j ∧ P (.o (.lst (rgD i j))) A2
    | _ => False) Y
  | _ => False) Y
theorem de_lr2 {a b : Expr} {ta tb : TE} {pa pb : PTE} {p p2 pos pos2 : Pos} (hc : X.calm = true) (hg : Gl X "list") (hm : X.mg "list" = none) (hg2 : Gl X "range") (hm2 : X.mg "range" = none) (ha : DE X E a ta pa) (hb : DE X E b tb pb)
    (na : starEach [a, b] X.env = (false, eval a X.env) :: starEach [b] X.env := by rfl) (nb : starEach [b] X.env = (false, eval b X.env) :: starEach [] X.env := by rfl) (hp2 : (backTo pos2 (starEach [b] X.env)).any (·.1) = false := by rfl) (ne : starEach [.Call (.Name "range" p2) [a, b] [] pos2] X.env = (false, eval (.Call (.Name "range" p2) [a, b] [] pos2) X.env) :: starEach [] X.env := by rfl) :
    DE X E (.Call (.Name "list" p) [.Call (.Name "range" p2) [a, b] [] pos2] [] pos) (tLstRg (tRg2 ta tb)) (pLr2 pa pb) := ⟨pe_listRg hc hg hm (prg_2 hg2 hm2 ha.pe hb.pe na nb (hp := hp2)) ne, fun B σ H A P Y Q rel k c xq => ha.sim B σ H A _ Y _ rel k (fun y1 A1 v1 H1 p1 r1 => by
  split at p1
  · rename_i i
    obtain ⟨t, S, r, hh, s, kk⟩ := id r1
    cases DR.int_of kk
    refine hb.sim B σ H1 A1 _ Y _ r1.rel p1 (fun y2 A2 v2 H2 p2 r2 => ?_) xq
    split at p2
    · rename_i j
      obtain ⟨t, S, r, hh, s, kk⟩ := id r2
      cases DR.int_of kk
      refine ⟨i, j, rfl, rfl, p2.1, fun q hq => ?_⟩
      exact ((Now.kont (P := fun y => P y A2) ⟨hh, s⟩ fun y v H' py ry => c y A2 v H' py ry).lst q _ _ hq p2.2 (rgV_DRs i j))
    · exact p2.elim
  · exact p1.elim) xq⟩
/-! displays of dicts with constants -/
/-- the pairs of a display that holds constants -/
inductive CPs (K : PySem.W.Frag) : List (TE × TE) → List (Kd × D) → Prop
  | nil : CPs K [] []
  | str {k : Str} {l : Tx} {v : V} {d : D} {r : List (TE × TE)} {q : List (Kd × D)} (h : k.cps.toList = l) (hv : ∀ S, DR K S v d) (t : CPs K r q) : CPs K ((tC (.str k), tC v) :: r) ((.inr l, d) :: q)
  | int {k : Int} {v : V} {d : D} {r : List (TE × TE)} {q : List (Kd × D)} (hv : ∀ S, DR K S v d) (t : CPs K r q) : CPs K ((tC (.int k), tC v) :: r) ((.inl k, d) :: q)
theorem CPs.run {σ : L2.St} {H : Hp} {trs : List (TE × TE)} {q : List (Kd × D)} (h : CPs K trs q) : ∃ kvs : List (Key × V), (∀ S, DRk K S kvs q) ∧ kvs.length = trs.length ∧ ∀ Q : List (V × V) → Hp → Prop, Q (kvs.map fun kv => (kV kv.1, kv.2)) H → tPairs trs σ H Q := by
  induction h with
  | nil => exact ⟨[], fun _ => .nil, rfl, fun Q q => q⟩
  | @str k l v d r q h hv t ih =>
    obtain ⟨kvs, h1, hl, h2⟩ := ih
    refine ⟨(kd (.inr l), v) :: kvs, fun S => .cons (hv S) (h1 S), by simp [hl], fun Q q => h2 _ ?_⟩
    have e : kV (kd (.inr l)) = V.str k := by
      subst h
      rfl
    rw [List.map_cons] at q
    simp only [e] at q
    exact q
  | @int k v d r q hv t ih =>
    obtain ⟨kvs, h1, hl, h2⟩ := ih
    exact ⟨(kd (.inl k), v) :: kvs, fun S => .cons (hv S) (h1 S), by simp [hl], fun Q q => h2 _ q⟩
def pDictC (kvs : List (Kd × D)) : PTE := fun A P _ => P (.o (.dic (mergeD [] kvs))) A
theorem kdictC {pos : Pos} {keys : List (Option Expr)} {values : List Expr} {trs : List (TE × TE)} {kvs : List (Kd × D)} (h : PPs X pos keys values trs) (c : CPs K trs kvs) (hK : X.K = K := by rfl) (h15' : trs.length ≤ 15 := by decide) (hall : keys.all (·.isSome) = true := by rfl) (hl : keys.length = values.length := by rfl) (h0 : keys ≠ [] := by exact fun z => nomatch z)
    (h15 : keys.length ≤ 15 := by decide) : DE X E (.Dict keys values pos) (tDisp trs) (pDictC kvs) := by
  subst hK
  refine ⟨pe_disp h hall hl h0 h15, fun B σ H A P Y Q rel p c' xq => ?_⟩
  intro a ha
  obtain ⟨ws, w1, w2, w3⟩ := c.run (σ := σ) (H := upd H a (.dK []))
  refine w3 _ ⟨upd_same, ws, rfl, by omega, ?_⟩
  obtain ⟨t, S, r, h, s⟩ := rel
  have := (Now.kont (P := fun y => P y A) ⟨h, s⟩ fun y v H' py ry => c' y A v H' py ry).dic a _ _ ha p ((w1 S).merge .nil)
  rwa [upd_upd]
end
/-! list.insert -/
theorem mt_insertA {X : Cx} : MtR X "list.insert" rInsert := mt_insert
theorem snd_insert {K : PySem.W.Frag} : SndL K rInsert lInsert := fun S H a xs args vs ws P Q le h1 h2 h3 b q => by
  unfold lInsert at b
  split at b
  · obtain ⟨b1, b2, b3, b4⟩ := b
    cases h3 with
    | cons g h =>
      cases g
      cases h with
      | cons g h =>
        cases h
        exact ⟨a, vs, _, _, rfl, rfl, h1, by rw [h2.length]; exact b1, b2, b3, q .non _ _ _ b4 .non (((DRs.take _ h2).append (.cons g .nil)).append (DRs.drop _ h2))⟩
  · exact b.elim
end PD

/-! PD, eighteenth part: list(range(i, j, c)). -/
namespace PD
open PySem PySem.Spec PyProof.Rows L2
def rg3V (a c : Int) (n : Nat) : List V := (List.range n).map fun i => V.int (a + (i : Nat) * c)
def rg3D (a c : Int) (n : Nat) : List D := (List.range n).map fun i => D.int (a + (i : Nat) * c)
theorem rg3_DRs {K : PySem.W.Frag} {S : Hp} (a c : Int) (n : Nat) : DRs K S (rg3V a c n) (rg3D a c n) := by
  unfold rg3V rg3D
  induction List.range n with
  | nil => exact .nil
  | cons x r ih => exact .cons (.int _) ih
theorem vals_rg3 {a c : Int} {n : Nat} {acc : Array Value} (h : ItemsOf (fun i v => ∃ t, v = .int (a + i * c) t) acc n) : Vals (rg3V a c n) acc.toList := by
  have e : acc.toList.length = n := by rw [Array.length_toList]; exact h.1
  unfold rg3V
  rw [← e]
  refine vals_of_get acc.toList _ fun j u hj => ?_
  obtain ⟨t, rfl⟩ := h.2 j u (by rw [← hj, Array.getElem?_toList])
  exact ⟨t, rfl⟩
def tLr3 (ta : TA) : TE := fun σ H Q => ta σ H fun vs H1 => ∃ (i j c : Int) (n : Nat), vs = [.int i, .int j, .int c] ∧ RgC i j c n ∧ n ≤ 2 ^ 24 ∧ ∀ q, H1 q = none → Q (.ref q) (upd H1 q (.lst (rg3V i c n)))
section
variable {X : Cx} {E : WX}
theorem pe_lr3 {a b c : Expr} {ta : TA} {p p2 pos pos2 : Pos} (hc : X.calm = true) (hg2 : Gl X "list") (hm2 : X.mg "list" = none) (hg : Gl X "range") (hm : X.mg "range" = none) (ha : PA X [a, b, c] ta)
    (hs : starEach [a, b, c] X.env = (false, eval a X.env) :: starEach [b, c] X.env := by rfl) (hpl : (backTo pos (starEach [b, c] X.env)).any (·.1) = false := by rfl)
    (na : starEach [.Call (.Name "range" p) [a, b, c] [] pos] X.env = (false, eval (.Call (.Name "range" p) [a, b, c] [] pos) X.env) :: starEach [] X.env := by rfl) :
    PE X (.Call (.Name "list" p2) [.Call (.Name "range" p) [a, b, c] [] pos] [] pos2) (tLr3 ta) := by
  refine ⟨fun pins s σ H Q I h => ?_⟩
  refine Call_ (ld_blt I hg2 hm2 boot_list (PyProof.Rows.callWith_type1 (args_cons ?_ na) na))
  refine Call_ (ld_blt I hg hm boot_range (PyProof.Rows.callWith_type1 (thn (ha.run pos pins s σ H _ I h) fun us s1 ⟨vs, H1, I1, r1, q1⟩ => ?_) hs hpl))
  obtain ⟨i, j, k, n, e, ⟨c0, c1, c2, c3⟩, hn, q⟩ := q1
  subst e
  cases r1 with
  | cons r rr =>
    cases rr with
    | cons r' rr =>
      cases rr with
      | cons r'' rr =>
        cases rr
        obtain ⟨t, rfl⟩ := r
        obtain ⟨t', rfl⟩ := r'
        obtain ⟨t'', rfl⟩ := r''
        refine call_range_3 c0 ?_ (.inl (PyProof.noPylong_small c1))
        have I2 : Inv X pins σ H1 { s1 with heap := s1.heap.push { cls := .type "range", data := .fields #[.int i t, .int j t', .int k t''] } } := I1.kept (t' := s1.toks) fun b o e => Heap.get?_push_of_some _ e
        refine args_nil ?_
        refine call_list_range (n := n) (I2.ok.hd hc) (IsRange.new ..) c2 c3 hn fun h' tk acc c' hk e' hi => ?_
        refine ⟨.ref _, upd H1 _ (.lst (rg3V i k n)), I2.laid hk (Nat.le_refl _) (show ObjOk X.prog X.w _ _ _ (.lst (rg3V i k n)) from ⟨?_, acc.toList, c', vals_rg3 hi, ?_⟩), rfl, q _ (I2.hok.fresh (Nat.le_refl _))⟩
        · unfold rg3V; rw [List.length_map, List.length_range, sizeLine_eq]; omega
        · rw [Array.toArray_toList]; exact e'
def pLr3 (q : PTA) : PTE := fun A P Y => q A (fun zs A1 => match zs with
  | [.d (.int i), .d (.int j), .d (.int c)] => ∃ n, RgC i j c n ∧ n ≤ 2 ^ 24 ∧ P (.o (.lst (rg3D i c n))) A1
  | _ => False) Y
theorem de_lr3 {a b c : Expr} {ta : TA} {qa : PTA} {p p2 pos pos2 : Pos} (hc : X.calm = true) (hg2 : Gl X "list") (hm2 : X.mg "list" = none) (hg : Gl X "range") (hm : X.mg "range" = none) (ha : DA X E [a, b, c] ta qa)
    (hs : starEach [a, b, c] X.env = (false, eval a X.env) :: starEach [b, c] X.env := by rfl) (hpl : (backTo pos (starEach [b, c] X.env)).any (·.1) = false := by rfl)
    (na : starEach [.Call (.Name "range" p) [a, b, c] [] pos] X.env = (false, eval (.Call (.Name "range" p) [a, b, c] [] pos) X.env) :: starEach [] X.env := by rfl) :
    DE X E (.Call (.Name "list" p2) [.Call (.Name "range" p) [a, b, c] [] pos] [] pos2) (tLr3 ta) (pLr3 qa) := ⟨pe_lr3 hc hg2 hm2 hg hm ha.pe hs hpl na, fun B σ H A P Y Q rel k c' xq => by
  refine ha.sim B σ H A _ Y _ rel k (fun zs A1 vs H1 p1 ⟨t, S, r, n, rl⟩ => ?_) xq
  split at p1
  ·
    obtain ⟨v1, w1, rfl, d1, rl⟩ := rl.uncons
    obtain ⟨v2, w2, rfl, d2, rl⟩ := rl.uncons
    obtain ⟨v3, rfl, d3⟩ := rl.one
    cases DR.int_of d1
    cases DR.int_of d2
    cases DR.int_of d3
    obtain ⟨m, rg, hm, pp⟩ := p1
    refine ⟨_, _, _, m, rfl, rg, hm, fun q hq => ?_⟩
    exact ((Now.kont (P := fun y => P y A1) n fun y v H' py ry => c' y A1 v H' py ry).lst q _ _ hq pp (rg3_DRs _ _ m))
  · exact p1.elim⟩
end
end PD

/-! PD, nineteenth part: a def's body under its promise; the law itself. -/
namespace PD
open PySem PySem.Spec PyProof.Rows L2
theorem body_run {X : Cx} {E : WX} {body : List Stmt} {tt : TS} {p : PTS} {N : List Str} {m : Nat} {c : Con} (d : DSs X E body tt p) (law : Law p N m c) {vs : List V} {H : Hp} {Q : VK} {E' : XK} (sp : spA X.K c.asp vs H Q E') : tt { nx := fun _ H' => Q .non H', rt := Q } (L2.start N vs) H := by
  obtain ⟨t, S, r, ars, h, sr, a⟩ := sp
  refine d.sim (baseOf t S r (ownsA ars).length H) _ H (fnAbs N ars) _ _ ⟨t, S, r, h, start_SR sr⟩ (law ars a.1).2 ?_
  refine { nx := fun A' σ H' q ⟨t', S', r', h', s'⟩ => ?_, rt := fun y A' v σ H' q ⟨t', S', r', h', s', kk⟩ => ?_, bk := fun A' σ H' q _ => q.elim, ct := fun A' σ H' q _ => q.elim, ex := fun _ C A' H' q => q.elim }
  · exact a.2 _ _ (take_ok h'.nl).1 q _ _ ⟨fun n z => (by cases z), t', S', r', A'.M, h', (take_ok h'.nl).1, (take_ok h'.nl).2, DR.non⟩
  · cases y with
    | d x => exact a.2 _ _ (take_ok h'.nl).1 q _ _ ⟨fun n z => (by cases z), t', S', r', A'.M, h', (take_ok h'.nl).1, (take_ok h'.nl).2, kk⟩
    | o x => exact a.2 _ _ (take_ok h'.nl).1 q _ _ ⟨fun n z => (by cases z), t', S', r', A'.M, h', (take_ok h'.nl).1, (take_ok h'.nl).2, kk⟩
    | p n =>
      obtain ⟨rfl, hn⟩ := kk
      obtain ⟨hmn, o, e, q⟩ := q
      obtain ⟨r2, h2, ok⟩ := h'.unname e
      refine a.2 _ _ (take_ok h'.nl).1 q _ _ ⟨fun n z => (by cases z), t', S', r2, _, h2, (take_ok h'.nl).1, fun j hj => ?_, t' n, rfl, ok⟩
      have hj : j < (ownsA ars).length := hj
      rw [List.getElem?_set_ne (by omega)]
      exact (take_ok h'.nl).2 j hj
section
variable {P : Program} {w : World} {K : PySem.W.Frag} {mg : Str → Option Value} {base : Heap}
theorem acalL {x qual : Str} {st : Stmt} {f : Addr} {fd : FuncData} {N ps : List Str} {k : Nat} {c : Con} {p : PTS} (F : Fun K x qual st f fd) (hm : mg x = some (.ref f)) (hb : Binds K fd ps []) (Sc : FnScope N ps (defScope st))
    (hbody : ∀ (cdv : Value) (A : Around) (outer : List Env) (s : Shared) (H : Hp) (E : XK), Room k (A.deeper (envOfC qual (defScope st) s.heap.objs.size f cdv)) →
      ∃ t, DSs (cxOf CX0 P w K mg base N qual (defScope st) f cdv A outer s H E).nox W0 (defBody st) t p) (law : Law p N ps.length c) : ACal P w K mg base (k + 1) x c :=
  ⟨f, fd, ps, F.ok Sc (spA_len fun ars post xp h => (law ars h.1).1) fun cdv A outer s H vs Q E hr sp => by
    obtain ⟨tt, d⟩ := hbody cdv A outer s H E hr
    exact ⟨tt, d.pe, body_run (X := (cxOf CX0 P w K mg base N qual (defScope st) f cdv A outer s H E).nox) d law sp⟩, hm, F.kp, hb⟩
/-- what the law is asked: a script of at most 63 whole numbers, answered by True -/
def spTrue (K : PySem.W.Frag) : Sp := fun vs H Q _ => ∃ (a : Addr) (ns : List Int), vs = [.ref a] ∧ SqL K H a (ns.map V.int) ∧ ns.length ≤ 63 ∧ ∀ H', Q (.bl true) H'
theorem law_start {K : PySem.W.Frag} {c : Con} (hpre : ∀ ns : List Int, ns.length ≤ 63 → c.pre [.d (.scr ns)]) (hok : ∀ (ns : List Int) y os, c.ok [.d (.scr ns)] y os → y = .d (.bl true)) {vs : List V} {H : Hp} {Q : VK} {E : XK} (sp : spTrue K vs H Q E) : spA K c.asp vs H Q E := by
  obtain ⟨a, ns, rfl, hS, hl, q⟩ := sp
  refine ⟨fun _ => 0, H, fun _ => none, [.d (.scr ns)], ⟨Le.refl H, fun a l e => (by cases e), fun a n e => (by cases e), fun n o e => (by cases e), fun a o e _ => .inl e, fun a l e => (by cases e), fun a e => .inl e, fun a o e => e, fun _ _ => rfl, Nat.le_refl _⟩, ⟨rfl, fun i av e => ?_⟩, hpre ns hl, fun y os _ ho v H' f => ?_⟩
  · cases i with
    | zero =>
      have e : some (AV.d (.scr ns)) = some av := e
      cases e
      exact ⟨_, rfl, .scr hS⟩
    | succ i => cases e
  · have := hok ns y os ho
    subst this
    obtain ⟨_, t', S', r', M', h', _, _, k⟩ := f
    have k : DR K S' v (.bl true) := k
    cases k
    exact q H'
theorem law_fn {x qual : Str} {st : Stmt} {f : Addr} {fd : FuncData} {N : List Str} {k : Nat} {c : Con} {p : PTS} (F : Fun K x qual st f fd) (Sc : FnScope N ["script"] (defScope st))
    (hbody : ∀ (cdv : Value) (A : Around) (outer : List Env) (s : Shared) (H : Hp) (E : XK), Room k (A.deeper (envOfC qual (defScope st) s.heap.objs.size f cdv)) →
      ∃ t, DSs (cxOf CX0 P w K mg base N qual (defScope st) f cdv A outer s H E).nox W0 (defBody st) t p) (law : Law p N 1 c)
    (hpre : ∀ ns : List Int, ns.length ≤ 63 → c.pre [.d (.scr ns)]) (hok : ∀ (ns : List Int) y os, c.ok [.d (.scr ns)] y os → y = .d (.bl true)) : FnOk P w K mg base CX0 (k + 1) f fd ["script"] (spTrue K) :=
  F.ok Sc (fun vs H Q E ⟨a, ns, e, _⟩ => by rw [e]; rfl) fun cdv A outer s H vs Q E hr sp => by
    obtain ⟨tt, d⟩ := hbody cdv A outer s H E hr
    exact ⟨tt, d.pe, body_run (X := (cxOf CX0 P w K mg base N qual (defScope st) f cdv A outer s H E).nox) d law (law_start hpre hok sp : spA K c.asp vs H Q E)⟩
end
theorem walk_law {k : Nat} {l : PySem.W.OpenLaw} {q : Program} {loose : List Str} {XP : (Str → Option Value) → Heap → Prop} {YP : World → Heap → Prop} {d : DefRec} {K : Params → PySem.W.Frag} (hk : Room k callerA) (hn : l.most = some 63) (hdf : d.params.defaults = [])
    (hY : ∀ (w : World) (h : Heap), YP w h → (K w.params).In h)
    (F : ∀ (w : World) (mg : Str → Option Value) (fa : Addr) (h : Heap), (K w.params).In h → h.Ns mainGlobals mg → mg d.name = some (.ref fa) →
      ∃ fd : FuncData, (∀ (s : Shared) (u : Value), BindsTo s fd ⟨[u], []⟩ [("script", u)]) ∧ ∀ base : Heap, (K w.params).In base → base.Ns mainGlobals mg → FnOk l.prog w (K w.params) mg base CX0 k fa fd ["script"] (spTrue (K w.params))) :
    PySem.W.WalkO q loose XP YP l.row.toRowW d [] (fun f vs => PySem.call f vs) :=
  L2.walk_of (n := 63) (k := k) (x := "script") (CX := fun _ => CX0) (sp := fun w => spTrue (K w.params)) hn (by decide) hdf hk hY F (fun _ _ a ns hl _ hS => ⟨a, ns, rfl, hS, hl, fun _ => rfl⟩) fun _ _ _ _ _ z => z
end PD

/-! PD, twentieth part: an owned object read as data from then on; x += e; {len(x): c}. -/
namespace PD
open PySem PySem.Spec PyProof.Rows L2
def pVarF (i : Nat) : PTE := fun A P _ => match A.env[i]? with
  | some (.d x) => P (.d x) A
  | some (.p n) => (match A.M[n]? with
    | some (some o) => (match o.toD with
      | some x => P (.d x) ⟨A.env.set i (.d x), A.M.set n none⟩
      | none => False)
    | _ => False)
  | _ => False
theorem sim_varF {K : PySem.W.Frag} {E : WX} {i : Nat} : SimE K E (tVar i) (pVarF i) := fun B σ H A P Y Q ⟨t, S, r, h, s⟩ k c _ => by
  unfold pVarF at k
  split at k
  · rename_i x e
    obtain ⟨v, e1, d⟩ := s.get e
    exact ⟨v, e1, c _ A v H k ⟨t, S, r, h, s, d⟩⟩
  · rename_i n e
    obtain ⟨e1, hn⟩ := s.getP e
    split at k
    · rename_i o eo
      split at k
      · rename_i x ex
        have ok := h.obj n o eo
        obtain ⟨ra, _, hu⟩ := ok.data ex H h.le rfl
        have ra : r (t n) = some (some n) := ra
        obtain ⟨u, hu⟩ := Option.ne_none_iff_exists'.mp hu
        have le := h.le_up (u := u) ra
        have ext : Ext t S A.M.length t (upd S (t n) u) (A.M.set n none).length := ⟨fun b w q => by
          rcases le b w q with z | ⟨_, _, z⟩
          · exact z
          · have ne : b ≠ t n := fun y => by rw [y, (h.sep _ _ ra).1] at q; cases q
            rw [upd_ne ne, q] at z
            rw [upd_ne ne]
            exact q, fun _ _ => rfl, by rw [List.length_set]; exact Nat.le_refl _⟩
        have hf := h.freeze ra hu (A.M.set n none) List.length_set fun m w q => by
          by_cases em : m = n
          · subst em
            rw [List.getElem?_set_self (by exact hn)] at q
            cases q
          · rw [List.getElem?_set_ne (Ne.symm em)] at q
            exact ⟨q, fun z => em (Option.some.inj z).symm⟩
        have dr := (ok.data ex (upd S (t n) u) le (by rw [upd_same, hu])).2.1
        have s2 := s.ext ext
        refine ⟨.ref (t n), e1, c _ _ _ H k ⟨t, _, _, hf, ⟨by show (A.env.set i _).length = _; rw [List.length_set]; exact s2.len, fun j av ej => ?_⟩, dr⟩⟩
        have ej : (A.env.set i (.d x))[j]? = some av := ej
        by_cases em : i = j
        · subst em
          have hi : i < A.env.length := (List.getElem?_eq_some_iff.mp e).1
          rw [List.getElem?_set_self hi] at ej
          cases ej
          exact ⟨_, e1, dr⟩
        · rw [List.getElem?_set_ne em] at ej
          exact s2.ok j av ej
      · exact k.elim
    · exact k.elim
  · exact k.elim
section
variable {X : Cx} {E : WX} {K : PySem.W.Frag}
theorem de_varF (i : Nat) {x : Str} {pos : Pos} (hN : X.N[i]? = some x := by rfl) (hv : Vis X.env.scope x := by first | exact Or.inl rfl | exact Or.inr (Or.inl rfl) | exact Or.inr (Or.inr rfl)) (hd : (x == ("__debug__" : Str)) = false := by decide)
    (hcd : (x == ("__classdict__" : Str)) = false := by decide) : DE X E (.Name x pos) (tVar i) (pVarF i) := ⟨pe_var hN hv hd hcd, sim_varF⟩
/-! x += e -/
def pAug (i : Nat) (f : Int → Int → Int) (pe : PTE) : PTS := fun P A => match A.env[i]? with
  | some (.d (.int a)) => pe A (fun y A1 => match y with
    | .d (.int b) => P.nx (setD A1 i (.int (f a b)))
    | _ => False) P.ex
  | _ => False
theorem sim_aug {i : Nat} {f : Int → Int → Int} {te : TE} {p : PTE} (h : SimE K E te p) : SimS K E (tAug i te (ipI f)) (pAug i f p) := fun B σ H A P D rel x c => by
  unfold pAug at x
  split at x
  · rename_i a e
    obtain ⟨t, S, r, hh, s⟩ := id rel
    obtain ⟨v, e1, d⟩ := s.get e
    cases DR.int_of d
    refine ⟨_, e1, h B σ H A _ _ _ rel x (fun y A1 w H1 p1 r1 => ?_) (c.ex _)⟩
    split at p1
    · rename_i b
      obtain ⟨t, S, r, hh, s, kk⟩ := id r1
      cases DR.int_of kk
      refine ⟨a, b, rfl, rfl, c.nx _ _ _ p1 ⟨t, S, r, hh, s.set i ⟨_, rfl, .int _⟩⟩⟩
    · exact p1.elim
  · exact x.elim
theorem ds_augAdd (i : Nat) {x : Str} {e : Expr} {te : TE} {p : PTE} {pos pos' : Pos} (hN : X.N.Nodup) (h : DE X E e te p) (hi : X.N[i]? = some x := by rfl) (hx : Loc X.env.scope x := by first | exact Or.inl rfl | exact Or.inr rfl)
    (hf : X.fn x = true ∨ X.env.scope.names.lookup x = some .local := by first | exact .inl rfl | exact .inr rfl | assumption) : DS X E (.AugAssign (.Name x pos') .Add e pos) (tAug i te (ipI fun i j => i + j)) (pAug i (fun i j => i + j) p) := ⟨ps_aug hN hi hx h.pe ip_add hf, sim_aug h.sim⟩
theorem ds_augSub (i : Nat) {x : Str} {e : Expr} {te : TE} {p : PTE} {pos pos' : Pos} (hN : X.N.Nodup) (h : DE X E e te p) (hi : X.N[i]? = some x := by rfl) (hx : Loc X.env.scope x := by first | exact Or.inl rfl | exact Or.inr rfl)
    (hf : X.fn x = true ∨ X.env.scope.names.lookup x = some .local := by first | exact .inl rfl | exact .inr rfl | assumption) : DS X E (.AugAssign (.Name x pos') .Sub e pos) (tAug i te (ipI fun i j => i - j)) (pAug i (fun i j => i - j) p) := ⟨ps_aug hN hi hx h.pe ip_sub hf, sim_aug h.sim⟩
/-! {len(x): c}, x a text in a slot -/
def pDictLen (i : Nat) (d : D) : PTE := fun A P _ => match A.env[i]? with
  | some (.d (.str l)) => l.length ≤ 16777216 ∧ P (.o (.dic [(.inl l.length, d)])) A
  | _ => False
theorem kdictLen {pos : Pos} {ke ve : Expr} {i : Nat} {v : V} {d : D} {q q2 : PTE} (hk : DE X E ke (tCB (rLenA K) (tCons (tVar i) tNil)) q) (hv : DE X E ve (tC v) q2) (hd : ∀ S, DR K S v d) (hK : X.K = K := by rfl) : DE X E (.Dict [some ke] [ve] pos) (tDisp [(tCB (rLenA K) (tCons (tVar i) tNil), tC v)]) (pDictLen i d) := by
  subst hK
  refine ⟨pe_disp (pps_cons hk.pe hv.pe pps_nil) rfl rfl (fun z => nomatch z) (show 1 ≤ 15 by decide), fun B σ H A P Y Q rel p c xq => ?_⟩
  unfold pDictLen at p
  split at p
  · rename_i l e
    obtain ⟨t, S, r, h, s⟩ := rel
    obtain ⟨w, e1, dr⟩ := s.get e
    intro a ha
    cases DR.str_of dr
    refine ⟨_, e1, .inl ⟨.str (st l), l.length, rfl, ⟨by rw [st_len]; exact p.1, (st_len l).symm⟩, ?_⟩⟩
    refine ⟨upd_same, [(kd (.inl (l.length : Int)), v)], rfl, by show 1 ≤ 15; decide, ?_⟩
    have := (Now.kont (P := fun y => P y A) ⟨h, s⟩ fun y v H' py ry => c y A v H' py ry).dic a _ _ ha p.2 (.cons (k := .inl (l.length : Int)) (hd S) .nil)
    rw [upd_upd]
    exact this
  · exact p.elim
end
end PD

/-! PD, twenty-first part: d.update(e), both dicts of ints and texts. -/
namespace PD
open PySem PySem.Spec PyProof.Rows L2
def rUpd : V → List V → Hp → VK → Prop := fun x vs H Q => ∃ (d o : Addr) (kvs more : List (Key × V)), x = .ref d ∧ vs = [.ref o] ∧ d ≠ o ∧ H d = some (.dK kvs) ∧ Rd H o (.dK more) ∧ kvs.length + more.length ≤ sizeLine ∧ Q .non (upd H d (.dK (mergeK kvs more)))
theorem mt_update {X : Cx} : MtR X "dict.update" rUpd := by
  intro pins s σ H x vs v us Q I rx rv h
  obtain ⟨d, o, kvs, more, rfl, rfl, hdo, hd, ho, hz, q⟩ := h
  cases rx
  obtain ⟨u, rfl, ru⟩ := rv.one
  cases ru
  obtain ⟨z, big, vs0, r0, dd⟩ := dk_of I.hok hd
  obtain ⟨z1, lo, vs1, r1, d1⟩ := dk_rd I.hok ho
  refine call_meetsIn PySem.F.slot_dict_update dd.typeIs PySem.F.entry_dict_update (PySem.F.args_dict_update_2 _ _) (meets_dict_update (mixKind X.prog X.w) d o hdo lo) ⟨vs0, vs1, dd, d1, by rw [← r0.length, ← r1.length]; exact hz, fun h' dd' ho' hs => ?_⟩
  have he : ∃ q, h'.get? d = some q := let ⟨q, _, _, hq, _⟩ := dd'; ⟨q, hq⟩
  refine ⟨.non, _, d_write I (by rw [hd]; exact True.intro) hs he (dk_new ?_ big (r1.merge r0) dd'), rfl, q⟩
  have := length_mergeK more kvs
  omega
end PD
namespace PD
open PySem PySem.Spec PyProof.Rows L2
/-! ### methods that change an owned dict -/
abbrev DM := List (Kd × D) → List D → (R → List (Kd × D) → Prop) → Prop
def SndD (K : PySem.W.Frag) (r : V → List V → Hp → VK → Prop) (dm : DM) : Prop := ∀ (S H : Hp) (a : Addr) (xs : List (Kd × D)) (args : List D) (vs : List (Key × V)) (ws : List V) (P : R → List (Kd × D) → Prop) (Q : VK), Le S H → S a = none → H a = some (.dK vs) → DRk K S vs xs → DRs K S ws args → dm xs args P →
  (∀ d v xs' vs', P (.d d) xs' → DR K S v d → DRk K S vs' xs' → Q v (upd H a (.dK vs'))) → r (.ref a) ws H Q
def pDM (dm : DM) (po : PTE) (pa : PTA) : PTE := fun A P Y => po A (fun yo A1 => match yo with
  | .p n => (match A1.M[n]? with
    | some (some (.dic _)) => pa A1 (fun zs A2 => match A2.M[n]?, dats zs with
      | some (some (.dic xs)), some args => dm xs args (fun y xs' => P y ⟨A2.env, A2.M.set n (some (.dic xs'))⟩)
      | _, _ => False) Y
    | _ => False)
  | _ => False) Y
theorem tyV_dic {K : PySem.W.Frag} {H : Hp} {a : Addr} {vs : List (Key × V)} (h : H a = some (.dK vs)) : tyV K "dict" (.ref a) H := .inr (.inr (.inl ⟨rfl, .inl ⟨vs, h⟩⟩))
theorem sim_dm {K : PySem.W.Frag} {r : V → List V → Hp → VK → Prop} {dm : DM} {to : TE} {ta : TA} {E : WX} {po : PTE} {pa : PTA} (hr : SndD K r dm) (ho : SimE K E to po) (ha : SimA K E ta pa) : SimE K E (tBM K "dict" r to ta) (pDM dm po pa) := fun B σ H A P Y Q rel x q xq => by
  refine ho B σ H A _ _ _ rel x (fun yo A1 vo H1 p1 res => ?_) xq
  split at p1
  · rename_i n
    obtain ⟨t, S, ρ, h, s, k⟩ := res
    obtain ⟨rfl, hn⟩ := k
    split at p1
    · rename_i xs0 e0
      obtain ⟨_, vs0, e1, _⟩ := h.obj n _ e0
      refine ⟨tyV_dic e1, ha _ σ H1 A1 _ _ _ ⟨t, S, _, h.rebase, s⟩ p1 (fun zs A2 ws H2 p2 res2 => ?_) (xq.back h)⟩
      split at p2
      · rename_i xs args e2 e3
        obtain ⟨t2, S2, ρ2, n2, rl⟩ := res2
        have h2 := h.back n2.h
        have et : t2 n = t n := n2.h.ext.th n hn
        obtain ⟨f, vs, g1, g2⟩ := h2.obj n _ e2
        rw [← et]
        refine hr S2 H2 (t2 n) xs args vs ws _ Q n2.h.le (h2.sep _ _ f).1 g1 g2 (rl.dats e3) p2 fun d v xs' vs' pd dd dx => ?_
        refine q (.d d) ⟨A2.env, A2.M.set n (some (.dic xs'))⟩ v _ pd ⟨t2, S2, ρ2, h2.put e2 f ⟨f, vs', upd_same, dx⟩, ?_, dd⟩
        show SR K S2 t2 (A2.M.set n (some (.dic xs'))).length A2.env σ
        rw [List.length_set]
        exact n2.s
      · exact p2.elim
    · exact p1.elim
  · exact p1.elim
theorem kdm {X : Cx} {E : WX} {K : PySem.W.Frag} {o e : Expr} {es : List Expr} {name : Str} {id : String} {r : V → List V → Hp → VK → Prop} {dm : DM} {to : TE} {ta : TA} {po : PTE} {pa : PTA} {apos cpos : Pos} (slot : Slot "dict" name id) (hty : typeOf (.builtin id) = pure (.type "method_descriptor")) (hm : MtR X id r) (hr : SndD K r dm)
    (ho : DE X E o to po) (ha : DA X E (e :: es) ta pa) (hK : X.K = K := by rfl) (hbase : attributeBase o name X.env (eval o X.env) = eval o X.env := by rfl)
    (hfew : ((backTo cpos (starEach (e :: es) X.env)).all (fun x => !x.1) && (backToKw cpos (keywordEach [] X.env)).all (fun x => x.1.isSome)
      && decide ((e :: es).length + ([] : List Keyword).length + (if ([] : List Keyword).isEmpty then 0 else 1) < 30)) = true := by rfl)
    (hline : (apos.endLine == cpos.line) = true := by rfl) (hs : starEach (e :: es) X.env = (false, eval e X.env) :: starEach es X.env := by rfl) (hplain : (backTo cpos (starEach es X.env)).any (·.1) = false := by rfl) :
    DE X E (.Call (.Attribute o name apos) (e :: es) [] cpos) (tBM K "dict" r to ta) (pDM dm po pa) := by
  subst hK
  exact ⟨pe_bm PySem.F.plainAttrs_dict slot hty hm ho.pe ha.pe hbase hfew hline hs hplain, sim_dm hr ho.sim ha.sim⟩
def dUpdate : DM
  | xs, [.dic more], P => xs.length + more.length ≤ 16777216 ∧ P (.d .non) (mergeD xs more)
  | _, _, _ => False
theorem snd_update {K : PySem.W.Frag} : SndD K rUpd dUpdate := fun S H a xs args vs ws P Q le sa h1 h2 h3 b q => by
  unfold dUpdate at b
  split at b
  · cases h3 with
    | cons g h =>
      cases h
      cases g with
      | @dic o kvs kds g1 g2 =>
        have ne : a ≠ o := fun e => by
          subst e
          rcases g1 with z | ⟨_, z⟩ <;> rw [sa] at z <;> cases z
        exact ⟨a, o, vs, kvs, rfl, rfl, ne, h1, le.rd g1, by rw [h2.length, g2.length]; exact b.1, q .non _ _ _ b.2 .non (g2.merge h2)⟩
  · exact b.elim
end PD

/-! DK: the deck, a list that holds a list of lists of whole numbers: readings by hand. -/
namespace PD
open PySem PySem.Spec PyProof.Rows L2
def EvS (t : TE) (σ : L2.St) (H : Hp) (v : V) : Prop := ∀ Q : VK, Q v H → t σ H Q
section
variable {K : PySem.W.Frag} {σ : L2.St} {H : Hp} {ta tb : TE}
theorem evs_var {i : Nat} {v : V} (h : σ[i]? = some (some v)) : EvS (tVar i) σ H v := fun Q q => ⟨v, h, q⟩
theorem evs_c {v : V} : EvS (tC v) σ H v := fun Q q => q
theorem evs_add {i j : Int} (ha : EvS ta σ H (.int i)) (hb : EvS tb σ H (.int j)) : EvS (tOp rAddA ta tb) σ H (.int (i + j)) := fun Q q => ha _ (hb _ (.inl ⟨i, j, rfl, rfl, q⟩))
theorem evs_mod {i j : Int} (ha : EvS ta σ H (.int i)) (hb : EvS tb σ H (.int j)) (h : 0 < j) : EvS (tOp (rI (fun _ j => 0 < j) fun i j => .int (i % j)) ta tb) σ H (.int (i % j)) := fun Q q => ha _ (hb _ ⟨i, j, rfl, rfl, h, q⟩)
theorem evs_div {i j : Int} (ha : EvS ta σ H (.int i)) (hb : EvS tb σ H (.int j)) (h : CDivW i j) : EvS (tOp (rI CDivW fun i j => .int (i / j)) ta tb) σ H (.int (i / j)) := fun Q q => ha _ (hb _ ⟨i, j, rfl, rfl, h, q⟩)
theorem evs_pow {i j : Int} (ha : EvS ta σ H (.int i)) (hb : EvS tb σ H (.int j)) (h : CPow i j) : EvS (tOp (rI CPow fun i j => .int (i ^ j.toNat)) ta tb) σ H (.int (i ^ j.toNat)) := fun Q q => ha _ (hb _ ⟨i, j, rfl, rfl, h, q⟩)
theorem evs_mul {i j : Int} (ha : EvS ta σ H (.int i)) (hb : EvS tb σ H (.int j)) (h : CMul i j) : EvS (tOp rMulA ta tb) σ H (.int (i * j)) := fun Q q => ha _ (hb _ (.inl ⟨i, j, rfl, rfl, h, q⟩))
theorem evs_ix {a : Addr} {vs : List V} {i : Int} {v : V} (ha : EvS ta σ H (.ref a)) (hb : EvS tb σ H (.int i)) (h : SqL K H a vs) (hi : atI vs i = some v) : EvS (tOp (rIxA K) ta tb) σ H v := fun Q q => ha _ (hb _ (.inl (.inl ⟨a, vs, i, v, rfl, rfl, h, hi, q⟩)))
theorem evs_gt {i j : Int} {f : Int → Int → Bool} {g : Tx → Tx → Bool} (ha : EvS ta σ H (.int i)) (hb : EvS tb σ H (.int j)) : EvS (tOp (rCmpA f g) ta tb) σ H (.bl (f i j)) := fun Q q => ha _ (hb _ (.inl ⟨i, j, rfl, rfl, q⟩))
theorem evs_eqi {i j : Int} (ha : EvS ta σ H (.int i)) (hb : EvS tb σ H (.int j)) : EvS (tOp (rEqA K id) ta tb) σ H (.bl (decide (V.int i = V.int j))) := fun Q q => ha _ (hb _ (.inl ⟨rfl, q⟩))
theorem evs_test {t : TE} {b : Bool} (h : EvS t σ H (.bl b)) (Q : Bool → Hp → Prop) (q : Q b H) : tTest t σ H Q := h _ ⟨b, rfl, q⟩
/-- pool[j] = e on an int list -/
theorem st_ix {te to ti : TE} {D : Ends} {a : Addr} {vs : List V} {k : Int} {j : Nat} {v : V} (he : EvS te σ H v) (ho : EvS to σ H (.ref a)) (hi : EvS ti σ H (.int k)) (h : H a = some (.lst vs)) (hk : ixN vs.length k = some j) (q : D.nx σ (upd H a (.lst (vs.set j v)))) : tAsg te (gSub to ti rSetA) D σ H :=
  he _ (ho _ (hi _ (.inl ⟨a, vs, k, j, rfl, rfl, h, hk, q⟩)))
theorem st_nm {te : TE} {D : Ends} {i : Nat} {v : V} (he : EvS te σ H v) (q : D.nx (σ.set i (some v)) H) : tAsg te (gName i) D σ H := he _ q
end
/-- a pool: a list of three whole numbers -/
def PoolAt (H : Hp) (p : Addr) : Prop := ∃ c b n : Int, H p = some (.lst [.int c, .int b, .int n])
structure DeckAt (f : Addr → Prop) (H : Hp) (a pa : Addr) (i : Int) (ps : List Addr) : Prop where
  fa : f a
  ha : H a = some (.lst [.ref pa, .int i])
  fp : f pa
  hp : H pa = some (.lst (ps.map V.ref))
  ne : ps ≠ []
  all : ∀ p ∈ ps, f p ∧ PoolAt H p
def deckRP : RP := ⟨fun _ f H a => ∃ pa i ps, DeckAt f H a pa i ps, fun K f H H' a e ⟨pa, i, ps, d⟩ => ⟨pa, i, ps, d.fa, by rw [e a d.fa]; exact d.ha, d.fp, by rw [e pa d.fp]; exact d.hp, d.ne, fun p hp => by
  obtain ⟨q1, c, b, n, q2⟩ := d.all p hp
  exact ⟨q1, c, b, n, by rw [e p q1]; exact q2⟩⟩⟩
def addT (r : Addr → Lb) (p : Addr) : Addr → Lb := fun a => if a = p then some none else r a
section
variable {K : PySem.W.Frag} {B : Bas} {t : Nat → Addr} {S : Hp} {r : Addr → Lb} {M : List (Option O)} {H : Hp}
theorem HR.add1 (h : HR K B t S r M H) {p : Addr} (hp : H p = none) (u : HO) : HR K B t S (addT r p) M (upd H p u) where
  le := fun a w e => by
    have ne : a ≠ p := fun q => by rw [q, h.of_none hp] at e; cases e
    rw [upd_ne ne]
    exact h.le a w e
  sep := fun a l e => by
    unfold addT at e
    split at e
    · rename_i q
      rw [q]
      exact ⟨h.of_none hp, by rw [upd_same]; simp⟩
    · rename_i ne
      have := h.sep a l (e)
      rw [upd_ne ne]
      exact this
  lab := fun a n e => by
    unfold addT at e
    split at e
    · cases e
    · exact h.lab a n (e)
  obj := fun n o e => by
    have np : ∀ b, r b = some (some n) → b ≠ p := fun b hb q => (h.sep b _ hb).2 (by rw [q]; exact hp)
    refine ((h.obj n o e).move (Le.refl S) fun b hb => upd_ne (np b hb)).iff fun b => ?_
    unfold addT
    split
    · rename_i q
      constructor
      · intro hb; exact absurd q (np b hb)
      · intro z; cases z
    · exact Iff.rfl
  keep := fun a o e nd => by
    have ne : a ≠ p := fun q => by
      subst q
      rcases h.keep a o e nd with z | ⟨_, _, _, z⟩
      · rw [hp] at z; cases z
      · rw [hp] at z; cases z
    rw [upd_ne ne]
    exact h.keep a o e nd
  own := fun a l e => by
    unfold addT at e
    split at e
    · rename_i q
      rw [q]
      exact h.fresh hp
    · exact h.own a l (e)
  stb := h.stb
  bas := h.bas
  th := h.th
  nl := h.nl
end
theorem pool_ne {H : Hp} {p q : Addr} {vs : List V} (h : PoolAt H p) (hq : H q = some (.lst vs)) (hv : ∀ c b n : Int, vs ≠ [.int c, .int b, .int n]) : q ≠ p := fun e => by
  obtain ⟨c, b, n, h⟩ := h
  rw [e, h] at hq
  cases hq
  exact hv _ _ _ rfl
theorem DeckAt.pool {f : Addr → Prop} {H : Hp} {a pa : Addr} {i : Int} {ps : List Addr} (d : DeckAt f H a pa i ps) {p : Addr} (hp : p ∈ ps) (c b n : Int) : DeckAt f (upd H p (.lst [.int c, .int b, .int n])) a pa i ps := by
  have q := (d.all p hp).2
  refine ⟨d.fa, ?_, d.fp, ?_, d.ne, fun x hx => ⟨(d.all x hx).1, ?_⟩⟩
  · rw [upd_ne (pool_ne q d.ha (fun c b n z => by cases z))]; exact d.ha
  · rw [upd_ne (pool_ne q d.hp (fun c b n z => by
      have hn := d.ne
      cases ps with
      | nil => exact hn rfl
      | cons x xs => cases z))]; exact d.hp
  · by_cases e : x = p
    · exact ⟨c, b, n, by rw [e, upd_same]⟩
    · obtain ⟨c', b', n', h'⟩ := (d.all x hx).2
      exact ⟨c', b', n', by rw [upd_ne e]; exact h'⟩
theorem DeckAt.step {f : Addr → Prop} {H : Hp} {a pa : Addr} {i : Int} {ps : List Addr} (d : DeckAt f H a pa i ps) (j : Int) : DeckAt f (upd H a (.lst [.ref pa, .int j])) a pa j ps := by
  have hpa : pa ≠ a := fun e => by
    have := d.hp
    rw [e, d.ha] at this
    have hn := d.ne
    cases ps with
    | nil => exact hn rfl
    | cons x xs =>
      cases xs with
      | nil => simp at this
      | cons y ys => simp at this
  refine ⟨d.fa, upd_same, d.fp, by rw [upd_ne hpa]; exact d.hp, d.ne, fun x hx => ⟨(d.all x hx).1, ?_⟩⟩
  obtain ⟨c', b', n', h'⟩ := (d.all x hx).2
  exact ⟨c', b', n', by rw [upd_ne (fun e => by rw [e, d.ha] at h'; cases h')]; exact h'⟩
end PD
namespace PD
open PySem PySem.Spec PyProof.Rows L2
theorem HR.rebaseN {K : PySem.W.Frag} {t : Nat → Addr} {S : Hp} {r : Addr → Lb} {M : List (Option O)} {H : Hp} {m : Nat} (h : HR K (baseOf t S r m H) t S r M H) : HR K (baseOf t S r m H) t S r M H := h
end PD
namespace PD
open PySem PySem.Spec PyProof.Rows L2
theorem evs_len {K : PySem.W.Frag} {σ : L2.St} {H : Hp} {ta : TE} {a : Addr} {vs : List V} (ha : EvS ta σ H (.ref a)) (h : SqL K H a vs) : EvS (tCB (rLenA K) (tCons ta tNil)) σ H (.int vs.length) := fun Q q => ha _ (.inl ⟨.ref a, vs.length, rfl, .inl ⟨vs, h, rfl⟩, q⟩)
theorem same_upd {f : Addr → Prop} {H H1 : Hp} {p : Addr} {u : HO} (hs : ∀ b, ¬ f b → H1 b = H b) (hf : f p) : ∀ b, ¬ f b → upd H1 p u b = H b := fun b hb => by
  rw [upd_ne (fun e => hb (by rw [e]; exact hf))]
  exact hs b hb
theorem there_upd {f : Addr → Prop} {H1 : Hp} {p : Addr} {u : HO} (ht : ∀ b, f b → H1 b ≠ none) : ∀ b, f b → upd H1 p u b ≠ none := fun b hb => by
  by_cases e : b = p
  · rw [e, upd_same]; simp
  · rw [upd_ne e]; exact ht b hb
theorem atI_mod {α : Type} {xs : List α} (h : 0 < xs.length) (i : Int) : ∃ x, atI xs (i % (xs.length : Int)) = some x ∧ x ∈ xs := by
  have h1 := Int.emod_nonneg i (b := (xs.length : Int)) (by omega)
  have h2 := Int.emod_lt_of_pos i (b := (xs.length : Int)) (by omega)
  have h3 : (i % (xs.length : Int)).toNat < xs.length := by omega
  refine ⟨xs[(i % (xs.length : Int)).toNat], ?_, List.getElem_mem h3⟩
  unfold atI ixN
  rw [if_pos h1, if_pos (by omega)]
  show xs[(i % (xs.length : Int)).toNat]? = _
  rw [List.getElem?_eq_getElem h3]
end PD
namespace PD
open PySem PySem.Spec PyProof.Rows L2
section
variable {K : PySem.W.Frag} {σ : L2.St} {H : Hp} {ta tb : TE}
theorem evs_max {i j : Int} (ha : EvS ta σ H (.int i)) (hb : EvS tb σ H (.int j)) : EvS (tCB (fun xs H Q => ∃ i j, xs = [V.int i, V.int j] ∧ Q (V.int (if j > i then j else i)) H) (tCons ta (tCons tb tNil))) σ H (.int (if j > i then j else i)) := fun Q q => ha _ (hb _ ⟨i, j, rfl, q⟩)
theorem evs_min {i j : Int} (ha : EvS ta σ H (.int i)) (hb : EvS tb σ H (.int j)) : EvS (tCB (fun xs H Q => ∃ i j, xs = [V.int i, V.int j] ∧ Q (V.int (if j < i then j else i)) H) (tCons ta (tCons tb tNil))) σ H (.int (if j < i then j else i)) := fun Q q => ha _ (hb _ ⟨i, j, rfl, q⟩)
theorem evs_intb {k : Bool} (ha : EvS ta σ H (.bl k)) : EvS (tCB (fun xs H Q => (∃ i, xs = [V.int i] ∧ Q (V.int i) H) ∨ ∃ k, xs = [V.bl k] ∧ Q (V.int (if k = true then 1 else 0)) H) (tCons ta tNil)) σ H (.int (if k = true then 1 else 0)) := fun Q q => ha _ (.inr ⟨k, rfl, q⟩)
theorem rng1_run {j : Int} {R : It → Hp → Prop} (ha : EvS ta σ H (.int j)) (h0 : -(2 ^ 62) ≤ j) (h1 : j < 2 ^ 62) (q : R (Itr 0 j.toNat) H) : iRng1 (tCons ta tNil) σ H R := ha _ ⟨j, rfl, h0, h1, q⟩
theorem lst3_run {tc : TE} {a b c : V} (ha : EvS ta σ H a) (hb : EvS tb σ H b) (hc : EvS tc σ H c) (Q : VK) (q : ∀ p, H p = none → Q (.ref p) (upd H p (.lst [a, b, c]))) : tLst (tCons ta (tCons tb (tCons tc tNil))) σ H Q := ha _ (hb _ (hc _ ⟨by show 3 ≤ sizeLine; decide, q⟩))
theorem lst2_run {a b : V} (ha : EvS ta σ H a) (hb : EvS tb σ H b) (Q : VK) (q : ∀ p, H p = none → Q (.ref p) (upd H p (.lst [a, b]))) : tLst (tCons ta (tCons tb tNil)) σ H Q := ha _ (hb _ ⟨by show 2 ≤ sizeLine; decide, q⟩)
end
end PD
namespace PD
open PySem PySem.Spec PyProof.Rows L2
theorem st_lst0 {D : Ends} {i : Nat} {σ : L2.St} {H : Hp} (q : ∀ pa, H pa = none → D.nx (σ.set i (some (.ref pa))) (upd H pa (.lst []))) : tAsg (tLst tNil) (gName i) D σ H := ⟨Nat.zero_le _, fun pa h => q pa h⟩
theorem for_rng1 {ta : TE} {kk : Nat} {tb u : TS} {D : Ends} {σ : L2.St} {H : Hp} {j : Int} (ha : EvS ta σ H (.int j)) (h0 : -(2 ^ 62) ≤ j) (h1 : j < 2 ^ 62)
    (q : ∃ W : Nat → Nat → L2.St → Hp → Prop, (∃ m, W 0 m σ H) ∧ ∀ i m σ H, W i m σ H → (j.toNat ≤ i ∧ u D σ H) ∨ (i < j.toNat ∧ ∃ N : L2.St → Hp → Prop, (∀ σ' H', N σ' H' → ∃ m', m' < m ∧ W (i + 1) m' σ' H') ∧ tb { D with nx := N, ct := N, bk := u D } (σ.set kk (some (.int (0 + i)))) H)) : tSeq (tFor (iRng1 (tCons ta tNil)) (gName kk) tb) u D σ H := by
  obtain ⟨W, w0, w1⟩ := q
  refine ha _ ⟨j, rfl, h0, h1, W, w0, fun i m σ H w => ?_⟩
  rcases w1 i m σ H w with ⟨a, b⟩ | ⟨a, N, b, c⟩
  · exact .inl ⟨a, b⟩
  · exact .inr ⟨a, N, b, fun v H' ⟨e1, e2⟩ => by subst e1 e2; exact c⟩
end PD
namespace PD
open PySem PySem.Spec PyProof.Rows L2
theorem cdivw {i m : Int} (h0 : 0 < m) (h1 : m < 2 ^ 64) : CDivW i m := ⟨h0, by
  have : m.natAbs < 2 ^ 64 := by omega
  have := Nat.log2_lt (n := m.natAbs) (k := 64) (by omega) |>.mpr this
  omega⟩
section
variable {K : PySem.W.Frag}
structure Making (K : PySem.W.Frag) (B : Bas) (t : Nat → Addr) (S : Hp) (pa : Addr) (n : Nat) (H : Hp) : Prop where
  ex : ∃ (r : Addr → Lb) (ps : List Addr), HR K B t S r [] H ∧ r pa = some none ∧ H pa = some (.lst (ps.map V.ref)) ∧ ps.length = n ∧ ∀ p ∈ ps, r p = some none ∧ PoolAt H p
theorem Making.more {B : Bas} {t : Nat → Addr} {S : Hp} {pa : Addr} {n : Nat} {H : Hp} (m : Making K B t S pa n H) (c b k : Int) (D : Ends) (σ : L2.St) {X : TE} (hX : ∀ Q : VK, (∀ p, H p = none → Q (.ref p) (upd H p (.lst [.int c, .int b, .int k]))) → X σ H Q) (hv : σ[1]? = some (some (V.ref pa))) (hn : n < 63) (q : ∀ H', Making K B t S pa (n + 1) H' → D.nx σ H') :
    tDrop (tBM K "list" rAppend (tVar 1) (tCons X tNil)) D σ H := by
  obtain ⟨r, ps, h, rp, hp, hl, all⟩ := m.ex
  refine ⟨_, hv, .inl ⟨rfl, _, SqL.of hp⟩, hX _ fun p hn' => ?_⟩
  have ne : pa ≠ p := fun e => by rw [← e, hp] at hn'; cases hn'
  refine ⟨pa, ps.map V.ref, .ref p, rfl, rfl, by rw [upd_ne ne]; exact hp, ?_, q _ ⟨addT r p, ps ++ [p], ?_, ?_, ?_, ?_, ?_⟩⟩
  · rw [List.length_map, hl]
    exact Nat.lt_of_lt_of_le hn (by decide)
  · exact (h.add1 hn' _).mutT (by unfold addT; rw [if_neg ne]; exact rp) _
  · unfold addT; rw [if_neg ne]; exact rp
  · rw [upd_same, List.map_append]; rfl
  · rw [List.length_append, hl]; rfl
  · intro x hx
    rcases List.mem_append.mp hx with hx | hx
    · obtain ⟨e1, c', b', n', e2⟩ := all x hx
      have nx : x ≠ p := fun e => by rw [e, hn'] at e2; cases e2
      have npa : x ≠ pa := fun e => by
        rw [e, hp] at e2
        cases ps with
        | nil => cases e2
        | cons y ys => cases e2
      exact ⟨by unfold addT; rw [if_neg nx]; exact e1, c', b', n', by rw [upd_ne npa, upd_ne nx]; exact e2⟩
    · rw [List.mem_singleton] at hx
      subst hx
      exact ⟨by unfold addT; rw [if_pos rfl], c, b, k, by rw [upd_ne (Ne.symm ne), upd_same]⟩
end
end PD

/-! PE, first part: dead slots wiped; loops over typed lists. -/
namespace PD
open PySem PySem.Spec PyProof.Rows L2
/-! ### wiping -/
def wipeS (ws : List Nat) (A : Abs) : Abs := ⟨wipeA A.env ws, A.M⟩
theorem SR.un {K : PySem.W.Frag} {S : Hp} {t : Nat → Addr} {m : Nat} {env : List AV} {σ : L2.St} (s : SR K S t m env σ) (i : Nat) : SR K S t m (env.set i .un) σ := ⟨by rw [List.length_set]; exact s.len, fun j av e => by
  by_cases h : i = j
  · subst h
    by_cases hi : i < env.length
    · rw [List.getElem?_set_self hi] at e
      cases e
      trivial
    · rw [List.getElem?_eq_none (by rw [List.length_set]; omega)] at e
      cases e
  · rw [List.getElem?_set_ne h] at e
    exact s.ok j av e⟩
theorem SR.wipes {K : PySem.W.Frag} {S : Hp} {t : Nat → Addr} {m : Nat} {env : List AV} {σ : L2.St} (s : SR K S t m env σ) : ∀ ws : List Nat, SR K S t m (wipeA env ws) σ
  | [] => s
  | w :: ws => (SR.wipes s ws).un w
theorem Rel.wipes {K : PySem.W.Frag} {B : Bas} {A : Abs} {σ : L2.St} {H : Hp} (r : Rel K B A σ H) (ws : List Nat) : Rel K B (wipeS ws A) σ H := by
  obtain ⟨t, S, ρ, h, s⟩ := r
  exact ⟨t, S, ρ, h, s.wipes ws⟩
/-- behind these statements what they made is let go, and the slots ws are forgotten -/
def pGw (ws wb : List Nat) (p : PTS) : PTS := fun P A => p { P with nx := fun A' => P.nx (wipeS ws (trunc A.M.length A')), ct := fun A' => P.ct (wipeS ws (trunc A.M.length A')), bk := fun A' => P.bk (wipeS wb (trunc A.M.length A')) } A
theorem DSs.gw {X : Cx} {E : WX} {e : List Stmt} {t : TS} {p : PTS} {ws wb : List Nat} (h : DSs X E e t p) : DSs X E e t (pGw ws wb p) := ⟨h.pe, fun B σ H A P D rel x c => by
  have hm : B.n ≤ A.M.length := by
    obtain ⟨t, S, r, h, s⟩ := rel
    exact h.nl
  exact h.sim B σ H A _ D rel x { nx := fun A' σ' H' q r => c.nx _ σ' H' q ((r.trunc hm).wipes ws), rt := c.rt, bk := fun A' σ' H' q r => c.bk _ σ' H' q ((r.trunc hm).wipes wb), ct := fun A' σ' H' q r => c.ct _ σ' H' q ((r.trunc hm).wipes ws), ex := c.ex }⟩
def pWip (ws : List Nat) (p : PTS) : PTS := fun P A => p P (wipeS ws A)
theorem DS.wip {X : Cx} {E : WX} {e : Stmt} {t : TS} {p : PTS} {ws : List Nat} (h : DS X E e t p) : DS X E e t (pWip ws p) := ⟨h.pe, fun B σ H A P D rel x c => h.sim B σ H _ P D (rel.wipes ws) x c⟩

/-! ### comprehensions over typed lists -/
theorem itL_map {α : Type} {xs : List α} {f : α → D} {i : Nat} (h : i < xs.length) : itL (xs.map f) i = f xs[i] := by
  unfold itL
  rw [List.getD_eq_getElem?_getD, List.getElem?_map, List.getElem?_eq_getElem h]
  rfl
theorem lcL_filter {α : Type} (xs : List α) (q : α → Bool) (g : α → D) : ∀ n, (h : n ≤ xs.length) → lcL n (fun i => if h : i < xs.length then (if q xs[i] = true then some (g xs[i]) else none) else none) = ((xs.take n).filter q).map g
  | 0, _ => by rw [List.take_zero]; rfl
  | n + 1, h => by
    have hn : n < xs.length := by omega
    rw [lcL_succ, lcL_filter xs q g n (by omega), List.take_succ, List.getElem?_eq_getElem hn, List.filter_append, List.map_append]
    congr 1
    rw [dif_pos hn]
    cases e : q xs[n] <;> simp [List.filter, e]
section
variable {α : Type} {n : Nat} {it : Nat → D} {C : List (Option O) → Prop} {tg : PTG} {tt : PTT} {pe : PTE} {vs : List Nat} {A1 : Abs} {P : R → Abs → Prop} {Y : PX}
theorem lc_gen {xs : List α} {f : α → D} (q : α → Bool) (g : α → D) (hl : n = xs.length) (hit : ∀ i, (h : i < xs.length) → it i = f xs[i]) (hC : C A1.M) (hn : xs.length ≤ 16777216)
    (hs : ∀ x ∈ xs, ∃ env', tg (f x) (wipeA A1.env vs) = some env' ∧ ∀ J : Option D → List (Option O) → Prop, (if q x = true then J (some (g x)) A1.M else J none A1.M) → tt ⟨env', A1.M⟩ (Hand J pe Y) Y)
    (hp : P (.o (.lst ((xs.filter q).map g))) A1) : LcP n it C tg tt pe vs A1 P Y := by
  subst hl
  refine lc_run (fun i => if h : i < xs.length then (if q xs[i] = true then some (g xs[i]) else none) else none) hC hn (fun i hi => ?_) ?_
  · obtain ⟨env', e, k⟩ := hs xs[i] (List.getElem_mem hi)
    rw [hit i hi]
    refine ⟨env', e, fun J hJ => k J ?_⟩
    rw [dif_pos hi] at hJ
    split
    · rename_i z; rw [if_pos z] at hJ; exact hJ
    · rename_i z; rw [if_neg z] at hJ; exact hJ
  · rw [lcL_filter xs q g xs.length (Nat.le_refl _), List.take_length]
    exact hp
theorem filter_all (xs : List α) : xs.filter (fun _ => true) = xs := by
  induction xs with
  | nil => rfl
  | cons x r ih => rw [List.filter_cons, if_pos rfl, ih]
/-- over a list, with a test -/
theorem lc_over {xs : List α} {f : α → D} (q : α → Bool) (g : α → D) (hC : C A1.M) (hn : xs.length ≤ 16777216)
    (hs : ∀ x ∈ xs, ∃ env', tg (f x) (wipeA A1.env vs) = some env' ∧ ∀ J : Option D → List (Option O) → Prop, (if q x = true then J (some (g x)) A1.M else J none A1.M) → tt ⟨env', A1.M⟩ (Hand J pe Y) Y)
    (hp : P (.o (.lst ((xs.filter q).map g))) A1) : LcP (xs.map f).length (itL (xs.map f)) C tg tt pe vs A1 P Y :=
  lc_gen q g (List.length_map f) (fun i h => itL_map h) hC hn hs hp
theorem lc_each {xs : List α} {f : α → D} (g : α → D) (hC : C A1.M) (hn : xs.length ≤ 16777216)
    (hs : ∀ x ∈ xs, ∃ env', tg (f x) (wipeA A1.env vs) = some env' ∧ ∀ J : Option D → List (Option O) → Prop, J (some (g x)) A1.M → tt ⟨env', A1.M⟩ (Hand J pe Y) Y)
    (hp : P (.o (.lst (xs.map g))) A1) : LcP (xs.map f).length (itL (xs.map f)) C tg tt pe vs A1 P Y :=
  lc_over (fun _ => true) g hC hn (fun x hx => by
    obtain ⟨env', e, k⟩ := hs x hx
    exact ⟨env', e, fun J hJ => k J hJ⟩) (by rw [filter_all]; exact hp)
/-- over a range -/
theorem lc_rng {lo : Int} (q : Nat → Bool) (g : Nat → D) (hC : C A1.M) (hn : n ≤ 16777216)
    (hs : ∀ i, i < n → ∃ env', tg (.int (lo + (i : Nat))) (wipeA A1.env vs) = some env' ∧ ∀ J : Option D → List (Option O) → Prop, (if q i = true then J (some (g i)) A1.M else J none A1.M) → tt ⟨env', A1.M⟩ (Hand J pe Y) Y)
    (hp : P (.o (.lst (((List.range n).filter q).map g))) A1) : LcP n (fun i => .int (lo + (i : Nat))) C tg tt pe vs A1 P Y :=
  lc_gen (xs := List.range n) (f := fun i : Nat => D.int (lo + (i : Nat))) q g List.length_range.symm (fun i h => by rw [List.getElem_range]) hC (by rw [List.length_range]; exact hn) (fun i hi => hs i (List.mem_range.mp hi)) hp
theorem lc_rng0 (q : Nat → Bool) (g : Nat → D) (hC : C A1.M) (hn : n ≤ 16777216)
    (hs : ∀ i, i < n → ∃ env', tg (.int (i : Nat)) (wipeA A1.env vs) = some env' ∧ ∀ J : Option D → List (Option O) → Prop, (if q i = true then J (some (g i)) A1.M else J none A1.M) → tt ⟨env', A1.M⟩ (Hand J pe Y) Y)
    (hp : P (.o (.lst (((List.range n).filter q).map g))) A1) : LcP n (fun i => .int (i : Nat)) C tg tt pe vs A1 P Y :=
  lc_gen (xs := List.range n) (f := fun i : Nat => D.int (i : Nat)) q g List.length_range.symm (fun i h => by rw [List.getElem_range]) hC (by rw [List.length_range]; exact hn) (fun i hi => hs i (List.mem_range.mp hi)) hp
theorem lc_rngA {lo : Int} (g : Nat → D) (hC : C A1.M) (hn : n ≤ 16777216)
    (hs : ∀ i, i < n → ∃ env', tg (.int (lo + (i : Nat))) (wipeA A1.env vs) = some env' ∧ ∀ J : Option D → List (Option O) → Prop, J (some (g i)) A1.M → tt ⟨env', A1.M⟩ (Hand J pe Y) Y)
    (hp : P (.o (.lst ((List.range n).map g))) A1) : LcP n (fun i => .int (lo + (i : Nat))) C tg tt pe vs A1 P Y :=
  lc_rng (fun _ => true) g hC hn (fun x hx => by
    obtain ⟨env', e, k⟩ := hs x hx
    exact ⟨env', e, fun J hJ => k J hJ⟩) (by rw [filter_all]; exact hp)
theorem lc_rngA0 (g : Nat → D) (hC : C A1.M) (hn : n ≤ 16777216)
    (hs : ∀ i, i < n → ∃ env', tg (.int (i : Nat)) (wipeA A1.env vs) = some env' ∧ ∀ J : Option D → List (Option O) → Prop, J (some (g i)) A1.M → tt ⟨env', A1.M⟩ (Hand J pe Y) Y)
    (hp : P (.o (.lst ((List.range n).map g))) A1) : LcP n (fun i => .int (i : Nat)) C tg tt pe vs A1 P Y :=
  lc_rng0 (fun _ => true) g hC hn (fun x hx => by
    obtain ⟨env', e, k⟩ := hs x hx
    exact ⟨env', e, fun J hJ => k J hJ⟩) (by rw [filter_all]; exact hp)
/-- over the signs of a text -/
theorem lc_str {l : Tx} (q : Nat → Bool) (g : Nat → D) (hC : C A1.M) (hn : l.length ≤ 16777216)
    (hs : ∀ c ∈ l, ∃ env', tg (.str [c]) (wipeA A1.env vs) = some env' ∧ ∀ J : Option D → List (Option O) → Prop, (if q c = true then J (some (g c)) A1.M else J none A1.M) → tt ⟨env', A1.M⟩ (Hand J pe Y) Y)
    (hp : P (.o (.lst ((l.filter q).map g))) A1) : LcP l.length (fun i => .str [l.getD i 0]) C tg tt pe vs A1 P Y :=
  lc_gen (xs := l) (f := fun c => D.str [c]) q g rfl (fun i h => by rw [List.getD_eq_getElem?_getD, List.getElem?_eq_getElem h]; rfl) hC hn hs hp
theorem lc_strA {l : Tx} (g : Nat → D) (hC : C A1.M) (hn : l.length ≤ 16777216)
    (hs : ∀ c ∈ l, ∃ env', tg (.str [c]) (wipeA A1.env vs) = some env' ∧ ∀ J : Option D → List (Option O) → Prop, J (some (g c)) A1.M → tt ⟨env', A1.M⟩ (Hand J pe Y) Y)
    (hp : P (.o (.lst (l.map g))) A1) : LcP l.length (fun i => .str [l.getD i 0]) C tg tt pe vs A1 P Y :=
  lc_str (fun _ => true) g hC hn (fun x hx => by
    obtain ⟨env', e, k⟩ := hs x hx
    exact ⟨env', e, fun J hJ => k J hJ⟩) (by rw [filter_all]; exact hp)
end
/-! ### for over typed lists -/
section
variable {α : Type} {n : Nat} {it : Nat → D} {C : List (Option O) → Prop} {tg : PTG} {body : PTS} {P : PEnds} {A1 : Abs}
theorem for_gen {xs : List α} {f : α → D} (hl : n = xs.length) (hit : ∀ i, (h : i < xs.length) → it i = f xs[i]) (Inv : List α → Abs → Prop) (h0 : Inv [] A1) (hC : ∀ pre A', Inv pre A' → C A'.M)
    (hs : ∀ pre x post A', xs = pre ++ x :: post → Inv pre A' → ∃ env', tg (f x) A'.env = some env' ∧ ∀ J Kb : Abs → Prop, (∀ A, Inv (pre ++ [x]) A → J A) → (∀ A, P.nx A → Kb A) → body { nx := J, rt := P.rt, bk := Kb, ct := J, ex := P.ex } ⟨env', A'.M⟩)
    (hd : ∀ A', Inv xs A' → P.nx A') : ForP n it C tg body P A1 := by
  subst hl
  refine ⟨fun i A => Inv (xs.take i) A, h0, fun i A' _ h => hC _ A' h, fun i A' hi hA => ?_, fun A' h => hd A' (by have h : Inv (xs.take xs.length) A' := h; rw [List.take_length] at h; exact h)⟩
  have e : xs = xs.take i ++ xs[i] :: xs.drop (i + 1) := by
    conv => lhs; rw [← List.take_append_drop i xs]
    rw [List.drop_eq_getElem_cons hi]
  obtain ⟨env', e1, k⟩ := hs _ _ _ A' e hA
  refine ⟨env', by rw [hit i hi]; exact e1, ?_⟩
  refine k _ _ (fun A h => ?_) (fun A h => h)
  have : xs.take (i + 1) = xs.take i ++ [xs[i]] := by
    rw [List.take_succ, List.getElem?_eq_getElem hi]
    rfl
  show Inv (xs.take (i + 1)) A
  rw [this]
  exact h
theorem for_over {xs : List α} {f : α → D} (Inv : List α → Abs → Prop) (h0 : Inv [] A1) (hC : ∀ pre A', Inv pre A' → C A'.M)
    (hs : ∀ pre x post A', xs = pre ++ x :: post → Inv pre A' → ∃ env', tg (f x) A'.env = some env' ∧ ∀ J Kb : Abs → Prop, (∀ A, Inv (pre ++ [x]) A → J A) → (∀ A, P.nx A → Kb A) → body { nx := J, rt := P.rt, bk := Kb, ct := J, ex := P.ex } ⟨env', A'.M⟩)
    (hd : ∀ A', Inv xs A' → P.nx A') : ForP (xs.map f).length (itL (xs.map f)) C tg body P A1 :=
  for_gen (List.length_map f) (fun i h => itL_map h) Inv h0 hC hs hd
theorem for_rng {lo : Int} (Inv : Nat → Abs → Prop) (h0 : Inv 0 A1) (hC : ∀ i A', i ≤ n → Inv i A' → C A'.M)
    (hs : ∀ i A', i < n → Inv i A' → ∃ env', tg (.int (lo + (i : Nat))) A'.env = some env' ∧ ∀ J Kb : Abs → Prop, (∀ A, Inv (i + 1) A → J A) → (∀ A, P.nx A → Kb A) → body { nx := J, rt := P.rt, bk := Kb, ct := J, ex := P.ex } ⟨env', A'.M⟩)
    (hd : ∀ A', Inv n A' → P.nx A') : ForP n (fun i => .int (lo + (i : Nat))) C tg body P A1 :=
  ⟨Inv, h0, hC, fun i A' hi hA => by
    obtain ⟨e, h1, h2⟩ := hs i A' hi hA
    exact ⟨e, h1, h2 _ _ (fun _ h => h) (fun _ h => h)⟩, hd⟩
theorem for_rng0 (Inv : Nat → Abs → Prop) (h0 : Inv 0 A1) (hC : ∀ i A', i ≤ n → Inv i A' → C A'.M)
    (hs : ∀ i A', i < n → Inv i A' → ∃ env', tg (.int (i : Nat)) A'.env = some env' ∧ ∀ J Kb : Abs → Prop, (∀ A, Inv (i + 1) A → J A) → (∀ A, P.nx A → Kb A) → body { nx := J, rt := P.rt, bk := Kb, ct := J, ex := P.ex } ⟨env', A'.M⟩)
    (hd : ∀ A', Inv n A' → P.nx A') : ForP n (fun i => .int (i : Nat)) C tg body P A1 :=
  ⟨Inv, h0, hC, fun i A' hi hA => by
    obtain ⟨e, h1, h2⟩ := hs i A' hi hA
    exact ⟨e, h1, h2 _ _ (fun _ h => h) (fun _ h => h)⟩, hd⟩
theorem for_any (Inv : Nat → Abs → Prop) (h0 : Inv 0 A1) (hC : ∀ i A', i ≤ n → Inv i A' → C A'.M)
    (hs : ∀ i A', i < n → Inv i A' → ∃ env', tg (it i) A'.env = some env' ∧ ∀ J Kb : Abs → Prop, (∀ A, Inv (i + 1) A → J A) → (∀ A, P.nx A → Kb A) → body { nx := J, rt := P.rt, bk := Kb, ct := J, ex := P.ex } ⟨env', A'.M⟩)
    (hd : ∀ A', Inv n A' → P.nx A') : ForP n it C tg body P A1 :=
  ⟨Inv, h0, hC, fun i A' hi hA => by
    obtain ⟨e, h1, h2⟩ := hs i A' hi hA
    exact ⟨e, h1, h2 _ _ (fun _ h => h) (fun _ h => h)⟩, hd⟩
theorem for_strs {l : Tx} (Inv : Tx → Abs → Prop) (h0 : Inv [] A1) (hC : ∀ pre A', Inv pre A' → C A'.M)
    (hs : ∀ pre c post A', l = pre ++ c :: post → Inv pre A' → ∃ env', tg (.str [c]) A'.env = some env' ∧ ∀ J Kb : Abs → Prop, (∀ A, Inv (pre ++ [c]) A → J A) → (∀ A, P.nx A → Kb A) → body { nx := J, rt := P.rt, bk := Kb, ct := J, ex := P.ex } ⟨env', A'.M⟩)
    (hd : ∀ A', Inv l A' → P.nx A') : ForP l.length (fun i => .str [l.getD i 0]) C tg body P A1 :=
  for_gen (f := fun c => D.str [c]) rfl (fun i h => by rw [List.getD_eq_getElem?_getD, List.getElem?_eq_getElem h]; rfl) Inv h0 hC hs hd
end
/-! ### while -/
def WhileP (t : PTT) (body : PTS) (P : PEnds) (A : Abs) : Prop := ∃ W : Nat → Abs → Prop, (∃ m, W m A) ∧ ∀ m A', W m A' → t A' (fun b A1 => if b = true then body { P with nx := fun A2 => ∃ m', m' < m ∧ W m' A2, ct := fun A2 => ∃ m', m' < m ∧ W m' A2, bk := P.nx } A1 else P.nx A1) P.ex
theorem pWhile_eq (t : PTT) (body : PTS) (P : PEnds) (A : Abs) : pWhile t body P A = WhileP t body P A := rfl
theorem while_run {t : PTT} {body : PTS} {P : PEnds} {A : Abs} (W : Nat → Abs → Prop) (m0 : Nat) (h0 : W m0 A)
    (hs : ∀ m A', W m A' → ∀ J Kb : Abs → Prop, (∀ m' A2, m' < m → W m' A2 → J A2) → (∀ A2, P.nx A2 → Kb A2) → t A' (fun b A1 => if b = true then body { nx := J, rt := P.rt, bk := Kb, ct := J, ex := P.ex } A1 else P.nx A1) P.ex) : WhileP t body P A :=
  ⟨W, ⟨m0, h0⟩, fun m A' h => hs m A' h _ _ (fun m' A2 h1 h2 => ⟨m', h1, h2⟩) (fun _ h => h)⟩
/-! ### places -/
theorem then_eq (q : PTS) (P : PEnds) (A : Abs) : Then q P A = q P A := rfl
theorem at_ex {α : Type} {xs : List α} {i : Int} {P : α → Prop} (h0 : 0 ≤ i) (h1 : i < xs.length) (h : ∀ d ∈ xs, P d) : ∃ d, atI xs i = some d ∧ P d := by
  have h3 : i.toNat < xs.length := by omega
  refine ⟨xs[i.toNat], ?_, h _ (List.getElem_mem h3)⟩
  unfold atI ixN
  rw [if_pos h0, if_pos h1]
  show xs[i.toNat]? = _
  rw [List.getElem?_eq_getElem h3]
theorem ixN_nat {n m : Nat} (h : m < n) : ixN n (m : Int) = some m := by
  unfold ixN
  rw [if_pos (by omega), if_pos (by omega), Int.toNat_natCast]
theorem atI_nat {α : Type} {xs : List α} {m : Nat} (h : m < xs.length) : atI xs (m : Int) = some xs[m] := by
  unfold atI
  rw [ixN_nat h]
  show xs[m]? = _
  rw [List.getElem?_eq_getElem h]
theorem atI_last {α : Type} (r : List α) (x : α) : atI (r ++ [x]) (-1) = some x := by
  unfold atI ixN
  rw [if_neg (by decide), if_pos (by rw [List.length_append, List.length_singleton]; omega)]
  show (r ++ [x])[(-1 + ((r ++ [x]).length : Int)).toNat]? = _
  have : (-1 + ((r ++ [x]).length : Int)).toNat = r.length := by rw [List.length_append, List.length_singleton]; omega
  rw [this, List.getElem?_append_right (Nat.le_refl _), Nat.sub_self]
  rfl
theorem getD_of {α : Type} {xs : List α} {i : Nat} (h : i < xs.length) (z : α) : xs.getD i z = xs[i] := by
  rw [List.getD_eq_getElem?_getD, List.getElem?_eq_getElem h]
  rfl
/-- the thing at a place of a list of a kind -/
theorem atI_of {α : Type} {xs : List α} {f : α → D} {i : Int} (z : α) (h0 : 0 ≤ i) (h1 : i < xs.length) : atI (xs.map f) i = some (f (xs.getD i.toNat z)) := by
  have h : i.toNat < (xs.map f).length := by rw [List.length_map]; omega
  have e := atI_nat h
  rw [Int.toNat_of_nonneg h0] at e
  rw [e, List.getElem_map, getD_of (by omega)]
theorem ixN_of {n : Nat} {i : Int} (h0 : 0 ≤ i) (h1 : i < n) : ixN n i = some i.toNat := by
  have := ixN_nat (n := n) (m := i.toNat) (by omega)
  rwa [Int.toNat_of_nonneg h0] at this
theorem rep_flat {α : Type} (x : α) : ∀ n : Nat, (List.replicate n [x]).flatten = List.replicate n x
  | 0 => rfl
  | n + 1 => by
    rw [List.replicate_succ, List.flatten_cons, rep_flat x n, List.replicate_succ]
    rfl
/-! ### equality of data -/
theorem deq_bl (a b : Bool) : deq (.bl a) (.bl b) = decide (a = b) := by cases a <;> cases b <;> rfl
theorem deqs_map {α : Type} [DecidableEq α] (f : α → D) (hf : ∀ x y, deq (f x) (f y) = decide (x = y)) : ∀ xs ys : List α, deqs (xs.map f) (ys.map f) = decide (xs = ys)
  | [], [] => rfl
  | [], _ :: _ => rfl
  | _ :: _, [] => rfl
  | x :: xs, y :: ys => by
    rw [List.map_cons, List.map_cons]
    show (deq (f x) (f y) && deqs (xs.map f) (ys.map f)) = _
    rw [hf, deqs_map f hf xs ys]
    simp [List.cons.injEq]
theorem okD_map {α : Type} {xs : List α} {f : α → D} {m : Nat} (hm : m < 60) (h : ∀ x ∈ xs, chk (f x) = true ∧ dep (f x) ≤ m) : okD (.lst (xs.map f)) := okD_lst hm fun x hx => by
  obtain ⟨y, hy, rfl⟩ := List.mem_map.mp hx
  exact h y hy
theorem okD_ints {xs : List Int} : okD (.lst (xs.map D.int)) := okD_map (m := 0) (by decide) fun x _ => ⟨rfl, Nat.le_refl _⟩
theorem okD_strX {xs : List Tx} (h : ∀ l ∈ xs, okX l) : okD (.lst (xs.map D.str)) := okD_map (m := 0) (by decide) fun x hx => chkx_str (h x hx)
theorem okD_strS {xs : List Tx} (h : ∀ l ∈ xs, small l = true) : okD (.lst (xs.map D.str)) := okD_strX fun l hl => small_okX (h l hl)
theorem map_isEmpty {α β : Type} (f : α → β) (xs : List α) : (xs.map f).isEmpty = xs.isEmpty := by cases xs <;> rfl
end PD

/-! PE, second part: sorting. -/
namespace PD
open PySem PySem.Spec PyProof.Rows L2
/-- the strict order of data -/
def dlt (x y : D) : Bool := PyProof.Rows.lexLt PyProof.Rows.itemOrd (PySem.W.keyToks (py x)) (PySem.W.keyToks (py y))
theorem leD_dlt (x y : D) : leD x y = !dlt y x := rfl
theorem dlt_int (a b : Int) : dlt (.int a) (.int b) = decide (a < b) := by
  unfold dlt
  show PyProof.Rows.lexLt PyProof.Rows.itemOrd [Sum.inl a] [Sum.inl b] = _
  rw [PyProof.Rows.lex_cons]
  show (decide (a < b) || (!decide (b < a) && false)) = _
  simp
theorem dlt_str (a b : Tx) : dlt (.str a) (.str b) = decide (a < b) := by
  unfold dlt
  show PyProof.Rows.lexLt PyProof.Rows.itemOrd [Sum.inr (st a).cps.toList] [Sum.inr (st b).cps.toList] = _
  rw [PyProof.Rows.lex_cons, st_tl, st_tl]
  show (decide (a < b) || (!decide (b < a) && false)) = _
  simp
theorem lex_pre {O : PyProof.Rows.KeyOrd} {x : O.α} {a b : List O.α} : PyProof.Rows.lexLt O (x :: a) (x :: b) = PyProof.Rows.lexLt O a b := PyProof.Rows.lex_self x a b
/-- pairs whose first things are texts, unlike -/
theorem dlt_pair {a b : Tx} {x y : D} (h : a ≠ b) : dlt (.tup [.str a, x]) (.tup [.str b, y]) = decide (a < b) := by
  unfold dlt
  show PyProof.Rows.lexLt PyProof.Rows.itemOrd (Sum.inl 1 :: Sum.inr (st a).cps.toList :: _) (Sum.inl 1 :: Sum.inr (st b).cps.toList :: _) = _
  rw [lex_pre, st_tl, st_tl, PyProof.Rows.lex_diff (fun e => h (Sum.inr.inj e))]
  rfl
theorem leD_trans (a b c : D) (h1 : leD a b = true) (h2 : leD b c = true) : leD a c = true := (PySem.W.sortLe_total (listOrd PyProof.Rows.itemOrd) false fun b : D => PySem.W.keyToks (py b)).trans a b c h1 h2
theorem leD_total (a b : D) : (leD a b || leD b a) = true := by
  have := (PySem.W.sortLe_total (listOrd PyProof.Rows.itemOrd) false fun b => PySem.W.keyToks (py b)).total a b
  rw [Bool.or_eq_true]
  exact this
theorem srt_sorted (xs : List D) : (srt xs).Pairwise (fun a b => leD a b = true) := List.pairwise_mergeSort (fun a b c => leD_trans a b c) leD_total xs
theorem srt_perm (xs : List D) : (srt xs).Perm xs := List.mergeSort_perm xs leD
theorem srt_uniq {xs ys : List D} (hp : ys.Perm xs) (hs : ys.Pairwise fun a b => leD a b = true) (ha : ∀ a ∈ xs, ∀ b ∈ xs, leD a b = true → leD b a = true → a = b) : srt xs = ys :=
  List.Perm.eq_of_pairwise (fun a b h1 h2 => ha a ((srt_perm xs).mem_iff.mp h1) b (hp.mem_iff.mp h2)) (srt_sorted xs) hs ((srt_perm xs).trans hp.symm)
theorem srt_mem {xs : List D} {x : D} : x ∈ srt xs ↔ x ∈ xs := (List.mergeSort_perm xs leD).mem_iff
theorem srt_len {xs : List D} : (srt xs).length = xs.length := (List.mergeSort_perm xs leD).length_eq
/-- a list of a kind, with its own strict order -/
theorem srt_map {α : Type} {f : α → D} {xs ys : List α} (hp : ys.Perm xs) (lt : α → α → Prop) (hlt : ∀ a ∈ xs, ∀ b ∈ xs, dlt (f a) (f b) = true ↔ lt a b) (hs : ys.Pairwise lt) (ht : ∀ a ∈ xs, ∀ b ∈ xs, ¬ lt a b → ¬ lt b a → a = b) (hn : ∀ a ∈ xs, ∀ b ∈ xs, lt a b → ¬ lt b a) : srt (xs.map f) = ys.map f := by
  refine srt_uniq (hp.map f) (List.pairwise_map.mpr ?_) ?_
  · refine hs.imp_of_mem fun {a b} ha hb h => ?_
    rw [leD_dlt]
    have ha := hp.mem_iff.mp ha
    have hb := hp.mem_iff.mp hb
    cases e : dlt (f b) (f a)
    · rfl
    · exact absurd ((hlt b hb a ha).mp e) (hn a ha b hb h)
  · rintro _ h1 _ h2 e1 e2
    obtain ⟨a, ha, rfl⟩ := List.mem_map.mp h1
    obtain ⟨b, hb, rfl⟩ := List.mem_map.mp h2
    rw [leD_dlt] at e1 e2
    have g1 : ¬ lt b a := fun z => by
      rw [(hlt b hb a ha).mpr z] at e1
      cases e1
    have g2 : ¬ lt a b := fun z => by
      rw [(hlt a ha b hb).mpr z] at e2
      cases e2
    rw [ht a ha b hb g2 g1]
theorem srt_ints {xs ys : List Int} (hp : ys.Perm xs) (hs : ys.Pairwise (· < ·)) : srt (xs.map .int) = ys.map .int :=
  srt_map hp (· < ·) (fun a _ b _ => by rw [dlt_int, decide_eq_true_eq]) hs (fun a _ b _ h1 h2 => by omega) (fun a _ b _ h => by omega)
theorem tx_total {a b : Tx} (h1 : ¬ a < b) (h2 : ¬ b < a) : a = b := List.le_antisymm (List.not_lt.mp h2) (List.not_lt.mp h1)
theorem tx_asymm {a b : Tx} (h : a < b) : ¬ b < a := fun z => List.lt_irrefl a (List.lt_trans h z)
theorem srt_strs {xs ys : List Tx} (hp : ys.Perm xs) (hs : ys.Pairwise (· < ·)) : srt (xs.map .str) = ys.map .str :=
  srt_map hp (· < ·) (fun a _ b _ => by rw [dlt_str, decide_eq_true_eq]) hs (fun a _ b _ h1 h2 => tx_total h1 h2) (fun a _ b _ h => tx_asymm h)
/-- texts sorted -/
def tle (a b : Tx) : Bool := !decide (b < a)
def srtT (xs : List Tx) : List Tx := xs.mergeSort tle
theorem srt_texts (xs : List Tx) : srt (xs.map .str) = (srtT xs).map .str := by
  unfold srt srtT
  exact (List.map_mergeSort fun a _ b _ => by rw [leD_dlt, dlt_str]; rfl).symm
theorem srtT_perm (xs : List Tx) : (srtT xs).Perm xs := List.mergeSort_perm xs tle
theorem tle_iff {a b : Tx} : tle a b = true ↔ a ≤ b := by
  unfold tle
  rw [Bool.not_eq_true', decide_eq_false_iff_not]
  exact List.not_lt
theorem srtT_sorted (xs : List Tx) : (srtT xs).Pairwise (· ≤ ·) := by
  have := List.pairwise_mergeSort (le := tle) (fun a b c h1 h2 => tle_iff.mpr (List.le_trans (tle_iff.mp h1) (tle_iff.mp h2))) (fun a b => by
    rw [Bool.or_eq_true, tle_iff, tle_iff]
    exact List.le_total a b) xs
  exact this.imp fun h => tle_iff.mp h
theorem srtT_strict {xs : List Tx} (h : xs.Nodup) : (srtT xs).Pairwise (· < ·) := by
  have h1 := srtT_sorted xs
  have h2 : (srtT xs).Nodup := (srtT_perm xs).nodup_iff.mpr h
  refine (h1.and h2).imp fun {a b} ⟨h1, h2⟩ => ?_
  by_cases e : a < b
  · exact e
  · exact absurd (List.le_antisymm h1 (List.not_lt.mp e)) h2
/-- pairs of a text and a thing, the texts unlike -/
theorem srt_pairs {α : Type} {g : α → D} {xs ys : List (Tx × α)} (hp : ys.Perm xs) (hs : (ys.map (·.1)).Pairwise (· < ·)) : srt (xs.map fun p => .tup [.str p.1, g p.2]) = ys.map fun p => .tup [.str p.1, g p.2] := by
  have hs' : ys.Pairwise fun a b => a.1 < b.1 := List.pairwise_map.mp hs
  have hn : ∀ a ∈ xs, ∀ b ∈ xs, a.1 = b.1 → a = b := by
    have hnd0 : (ys.map (·.1)).Nodup := hs.imp fun {a b} h e => by
      subst e
      exact List.lt_irrefl _ h
    have hnd : (xs.map (·.1)).Nodup := (hp.map (·.1)).nodup_iff.mp hnd0
    intro a ha b hb e
    rw [List.nodup_iff_pairwise_ne, List.pairwise_map] at hnd
    rcases List.mem_iff_getElem.mp ha with ⟨i, hi, rfl⟩
    rcases List.mem_iff_getElem.mp hb with ⟨j, hj, rfl⟩
    rw [List.pairwise_iff_getElem] at hnd
    rcases Nat.lt_trichotomy i j with h | h | h
    · exact absurd e (hnd i j hi hj h)
    · subst h; rfl
    · exact absurd e.symm (hnd j i hj hi h)
  refine srt_uniq (hp.map _) (List.pairwise_map.mpr (hs'.imp fun {a b} h => ?_)) ?_
  · rw [leD_dlt, dlt_pair (fun e => by rw [e] at h; exact List.lt_irrefl _ h)]
    rw [decide_eq_false (tx_asymm h)]
    rfl
  · rintro _ h1 _ h2 e1 e2
    obtain ⟨a, ha, rfl⟩ := List.mem_map.mp h1
    obtain ⟨b, hb, rfl⟩ := List.mem_map.mp h2
    by_cases e : a.1 = b.1
    · rw [hn a ha b hb e]
    · rw [leD_dlt, dlt_pair (Ne.symm e)] at e1
      rw [leD_dlt, dlt_pair e] at e2
      refine absurd (tx_total (a := a.1) (b := b.1) (fun z => ?_) (fun z => ?_)) e
      · rw [decide_eq_true z] at e2; cases e2
      · rw [decide_eq_true z] at e1; cases e1
/-! when sorting is allowed -/
theorem srtOk_ints {ls : List Int} : srtOk (ls.map D.int) := by
  refine ⟨?_, ?_, fun x hx => ?_⟩
  · rw [List.map_map]
    exact PySem.W.AllAlike.of fun b b' => rfl
  · rw [List.map_map]
    exact PySem.W.Sortable.others fun b => ⟨nofun, fun xs => nofun⟩
  · obtain ⟨l, hl, rfl⟩ := List.mem_map.mp hx
    exact ⟨rfl, Nat.zero_le _⟩
theorem srtOk_strs {ls : List Tx} (h : ∀ l ∈ ls, okX l) : srtOk (ls.map D.str) := by
  refine ⟨?_, ?_, fun x hx => ?_⟩
  · rw [List.map_map]
    exact PySem.W.AllAlike.of fun b b' => rfl
  · rw [List.map_map]
    exact PySem.W.Sortable.others fun b => ⟨nofun, fun xs => nofun⟩
  · obtain ⟨l, hl, rfl⟩ := List.mem_map.mp hx
    have := chkx_str (h l hl)
    exact ⟨this.1, by omega⟩
theorem srtOk_pairs {ls : List (Tx × Int)} (h : ∀ p ∈ ls, okX p.1) : srtOk (ls.map fun p => D.tup [.str p.1, .int p.2]) := by
  refine ⟨?_, ?_, fun x hx => ?_⟩
  · rw [List.map_map]
    exact PySem.W.AllAlike.of fun b b' => rfl
  · rw [List.map_map]
    exact PySem.W.Sortable.tuples fun b => ⟨_, _, rfl⟩
  · obtain ⟨p, hp, rfl⟩ := List.mem_map.mp hx
    have := (chkx_str (h p hp)).1
    refine ⟨?_, by simp [dep, deps]⟩
    simp only [chk, chks, Bool.and_true] at this ⊢
    exact this
end PD

/-! PE, third part: sum, abs, enumerate, slices with a step, beginnings and ends of texts, d[k] += x. -/
namespace PD
open PySem PySem.Spec PyProof.Rows L2
/-! ### sum, abs -/
def intsD : List D → Option (List Int)
  | [] => some []
  | .int i :: r => (match intsD r with
    | some is => some (i :: is)
    | none => none)
  | _ => none
theorem intsD_map : ∀ is : List Int, intsD (is.map D.int) = some is
  | [] => rfl
  | i :: r => by
    show (match intsD (r.map D.int) with
      | some is => some (i :: is)
      | none => none) = _
    rw [intsD_map r]
theorem intsD_of : ∀ {ds : List D} {is : List Int}, intsD ds = some is → ds = is.map D.int
  | [], is, h => by cases h; rfl
  | .int i :: r, is, h => by
    unfold intsD at h
    split at h
    · rename_i js e
      cases h
      rw [intsD_of e]
      rfl
    · cases h
  | .non :: _, _, h => nomatch h
  | .bl _ :: _, _, h => nomatch h
  | .str _ :: _, _, h => nomatch h
  | .lst _ :: _, _, h => nomatch h
  | .tup _ :: _, _, h => nomatch h
  | .dic _ :: _, _, h => nomatch h
  | .dit _ :: _, _, h => nomatch h
  | .scr _ :: _, _, h => nomatch h
  | .exc _ :: _, _, h => nomatch h
def cSum : BN
  | [.lst xs], P => ∃ is : List Int, xs = is.map D.int ∧ P (.d (.int is.sum))
  | _, _ => False
theorem snd_sum {K : PySem.W.Frag} : SndN K (rSum K) cSum := fun S H xs vs P Q le dv b k => by
  unfold cSum at b
  split at b
  · obtain ⟨v, rfl, d⟩ := dv.one
    obtain ⟨a, ws, rfl, h1, h2⟩ := d
    obtain ⟨is, rfl, b⟩ := b
    have e := h2.ints_of
    subst e
    exact ⟨a, is, rfl, SqL.of h1, k.dat _ _ b (.int _)⟩
  · exact b.elim
def cAbs : BN
  | [.int i], P => P (.d (.int (if i < 0 then -i else i)))
  | _, _ => False
theorem snd_abs {K : PySem.W.Frag} : SndN K (fun xs H Q => ∃ i, xs = [.int i] ∧ Q (.int (if i < 0 then -i else i)) H) cAbs := fun S H xs vs P Q le dv b k => by
  unfold cAbs at b
  split at b
  · obtain ⟨v, rfl, d⟩ := dv.one
    cases d
    exact ⟨_, rfl, k.dat _ _ b (.int _)⟩
  · exact b.elim
/-! ### enumerate -/
def itE (it : Nat → D) (i : Nat) : D := .tup [.int (i : Nat), it i]
theorem src_enumL {K : PySem.W.Frag} {Hb : Hp} {t : Nat → Addr} {S : Hp} {m : Nat} {a : Addr} {vs : List V} {xs : List D} (h1 : ∀ H, Le S H → SqL K H a vs) (h2 : DRs K S vs xs) : Src K (Ite K a) xs.length (itE (itL xs)) yes t S m Hb where
  stop := fun B' t' S' r' M' H' h e _ _ => ⟨vs, h1 _ (e.le.trans h.le), by rw [h2.length]; exact Nat.le_refl _⟩
  go := fun B' t' S' r' M' H' h e _ _ i hi => by
    have q : SqL K H' a vs := h1 _ (e.le.trans h.le)
    obtain ⟨x, ex⟩ : ∃ x, vs[i]? = some x := ⟨vs[i]'(by rw [h2.length]; exact hi), List.getElem?_eq_getElem _⟩
    refine ⟨⟨vs, x, q, ex⟩, fun y H'' hy => ?_⟩
    obtain ⟨T, z, rfl, hT, rfl, hy⟩ := hy
    have := hy vs q
    rw [ex] at this
    cases this
    obtain ⟨d, e1, e2⟩ := h2.get ex
    have e3 : itL xs i = d := by
      unfold itL
      rw [List.getD_eq_getElem?_getD, e1]
      rfl
    have ext : Ext t' S' M'.length t' (upd S' T (.tup [.int (i : Nat), x])) M'.length := ⟨fun b o z => by
      have ne : b ≠ T := fun y => by rw [y, h.of_none hT] at z; cases z
      rw [upd_ne ne]
      exact z, fun _ _ => rfl, Nat.le_refl _⟩
    refine ⟨fun b o z => ?_, upd S' T (.tup [.int (i : Nat), x]), h.stable hT _, ext, ?_⟩
    · have ne : b ≠ T := fun y => by rw [y, hT] at z; cases z
      rw [upd_ne ne]
      exact z
    · unfold itE
      rw [e3]
      exact .tup upd_same (.cons (.int _) (.cons ((e2.mono e.le).mono ext.le) .nil))
def pEnum (q : PTE) : PTI := fun A P Y => q A (fun y A1 => match y.fz with
  | some (.d (.lst xs)) => P xs.length (itE (itL xs)) yes A1
  | some (.d (.scr ns)) => P ns.length (itE (itL (ns.map D.int))) yes A1
  | _ => False) Y
theorem sim_enum {K : PySem.W.Frag} {E : WX} {te : TE} {p : PTE} (h : SimE K E te p) : SimI K E (iEnum K (tCons te tNil)) (pEnum p) := fun B σ H A P Y R rel x q xq => by
  refine h B σ H A _ _ _ rel x (fun y A1 v H1 p1 r1 => ?_) xq
  split at p1
  · rename_i xs e
    obtain ⟨t, S, ρ, hh, s, k⟩ := r1.fzD e
    obtain ⟨a, vs, rfl, h1, h2⟩ := DR.lst_of k
    exact ⟨a, vs, rfl, SqL.of (hh.le.lst h1), q _ _ _ _ _ _ p1 ⟨t, S, ρ, ⟨hh, s⟩, src_enumL (fun H le => SqL.of (le.lst h1)) h2⟩⟩
  · rename_i ns e
    obtain ⟨t, S, ρ, hh, s, k⟩ := r1.fzD e
    obtain ⟨a, rfl, h1⟩ := DR.scr_of k
    have := src_enumL (K := K) (Hb := H1) (t := t) (S := S) (m := A1.M.length) (a := a) (xs := ns.map D.int) (fun H le => le.sql h1) DRs.ints
    rw [List.length_map] at this
    exact ⟨a, _, rfl, hh.le.sql h1, q _ _ _ _ _ _ p1 ⟨t, S, ρ, ⟨hh, s⟩, this⟩⟩
  · exact p1.elim
theorem di_enum {X : Cx} {E : WX} {K : PySem.W.Frag} {elts : List Expr} {kk : Nat} {tpos p pos : Pos} {e : Expr} {te : TE} {q : PTE} (hg : Gl X "enumerate") (hm : X.mg "enumerate" = none) (h : DE X E e te q) (hK : X.K = K := by rfl)
    (hs : starEach [e] X.env = [(false, eval e X.env)] := by rfl) (hs2 : starEach [e] X.env = (false, eval e X.env) :: starEach [] X.env := by rfl) :
    DI X E (.Tuple elts kk tpos) (.Call (.Name "enumerate" p) [e] [] pos) (iEnum K (tCons te tNil)) (pEnum q) := by
  subst hK
  exact ⟨pi_enum hg hm (pa_cons h.pe pa_nil hs2) hs, sim_enum h.sim⟩
/-! ### text[lo::step] -/
def stepS (z : Str) (l : Option Int) (k : Int) : Str := ⟨((Builtin.Str.strSliceIndices l none k z.length).filterMap (z.cps[·]?)).toArray⟩
def tStepS (te : TE) (tl ts : TO) : TE := fun σ H Q => te σ H fun x H1 => tl σ H1 fun l H2 => ts σ H2 fun s H3 => ∃ z k, x = .str z ∧ s = some k ∧ k ≠ 0 ∧ k ≠ 1 ∧ z.length ≤ sizeLine ∧ (stepS z l k).length ≤ sizeLine ∧ Q (.str (stepS z l k)) H3
theorem pe_stepS {X : Cx} {e st : Expr} {lo : Option Expr} {te : TE} {tl ts : TO} {p3 pos : Pos} (he : PE X e te) (hl : PO X lo tl) (hst : PO X (some st) ts) : PE X (.Subscript e (.Slice lo none (some st) p3) pos) (tStepS te tl ts) := by
  refine ⟨fun pins s σ H Q I h => ?_⟩
  refine Subscript_ (thn (he.run pins s σ H _ I h) fun v s1 ⟨x, H1, I1, r1, q1⟩ => ?_)
  refine wpAny_Slice (thn (hl.run pins s1 σ H1 _ I1 q1) fun vl s2 ⟨l, H2, I2, pl, q2⟩ => ?_)
  refine thn (po_none.run pins s2 σ H2 (fun o H3 => o = none ∧ H3 = H2) I2 ⟨rfl, rfl⟩) fun vu s3 ⟨u, H3, I3, pu, eu, e3⟩ => ?_
  subst eu e3
  refine thn (hst.run pins s3 σ H3 _ I3 q2) fun vs s4 ⟨o, H4, I4, ps, q4⟩ => ?_
  obtain ⟨z, k, ex, es, k0, k1, hz, hz2, q⟩ := q4
  subst ex es
  obtain ⟨t, rfl⟩ := r1
  obtain ⟨ll, rfl, el⟩ := IsPart.raw pl
  obtain ⟨uu, rfl, eu⟩ := IsPart.raw pu
  obtain ⟨kk, rfl, ek⟩ := IsPart.raw ps
  have I5 : Inv X pins σ H4 { s4 with heap := s4.heap.push { cls := .type "slice", data := .fields #[partValue ll, partValue uu, partValue kk] } } := I4.kept (t' := s4.toks) fun b ob q => Heap.get?_push_of_some _ q
  show wpAny (model X.prog X.w) X.A (subscriptTail e (.Slice lo none (some st) p3) (.str z t) (.ref s4.heap.objs.size)) (EP X pins σ Q) X.xe { s4 with heap := s4.heap.push { cls := .type "slice", data := .fields #[partValue ll, partValue uu, partValue kk] } }
  refine tail_any (ops := [.ref s4.heap.objs.size, .str z t]) (typeIs_str _ _ _) F.slot_str_getitem.lookup ?_ (by with_unfolding_all rfl)
  refine wpAny_getItem_str_slice (l := ll) (u := uu) (st := kk) ⟨_, Heap.get?_push_size _ rfl, rfl, rfl⟩ (by rw [ek]; simpa using k0) ?_
  have e1 : PySem.slicePicked z ll uu kk = Builtin.Str.strSliceIndices l none k z.length := by
    unfold PySem.slicePicked
    rw [el, eu, ek]
    rfl
  unfold PySem.sliceMade
  rw [e1, ek]
  rw [if_neg (by
    intro hh
    rw [Bool.and_eq_true] at hh
    have := hh.1
    simp at this
    exact k1 this)]
  exact ⟨hz2, .str _, H4, I5.tok _, ⟨_, rfl⟩, q⟩
def stepT (l : Tx) (lo : Option Int) (k : Int) : Tx := (Builtin.Str.strSliceIndices lo none k l.length).filterMap (l[·]?)
theorem stepS_st (l : Tx) (lo : Option Int) (k : Int) : stepS (st l) lo k = st (stepT l lo k) := by
  unfold stepS stepT st
  have e : (⟨l.toArray⟩ : Str).length = l.length := st_len l
  rw [e]
  congr 2
  refine congrArg (fun g => List.filterMap g _) (funext fun x => ?_)
  show l.toArray[x]? = l[x]?
  exact List.getElem?_toArray
def pStepS (pa : PTE) (pl ps : PTO) : PTE := fun A P Y => pa A (fun y1 A1 => match y1 with
  | .d (.str l) => pl A1 (fun lo A2 => ps A2 (fun s A3 => match s with
    | some k => k ≠ 0 ∧ k ≠ 1 ∧ l.length ≤ 16777216 ∧ (stepT l lo k).length ≤ 16777216 ∧ P (.d (.str (stepT l lo k))) A3
    | none => False) Y) Y
  | _ => False) Y
theorem de_stepS {X : Cx} {E : WX} {e st : Expr} {lo : Option Expr} {te : TE} {tl ts : TO} {pa : PTE} {pl ps : PTO} {p3 pos : Pos} (ha : DE X E e te pa) (hl : DO X E lo tl pl) (hs : DO X E (some st) ts ps) : DE X E (.Subscript e (.Slice lo none (some st) p3) pos) (tStepS te tl ts) (pStepS pa pl ps) := by
  refine ⟨pe_stepS ha.pe hl.pe hs.pe, fun B σ H A P Y Q rel p q xq => ?_⟩
  refine ha.sim B σ H A _ Y _ rel p (fun y1 A1 v1 H1 p1 res => ?_) xq
  split at p1
  · rename_i l
    obtain ⟨t, S, ρ, h, s, k⟩ := res
    cases DR.str_of k
    refine hl.sim B σ H1 A1 _ Y _ ⟨t, S, ρ, h, s⟩ p1 (fun lo A2 H2 p2 rel2 => ?_) xq
    refine hs.sim B σ H2 A2 _ Y _ rel2 p2 (fun o A3 H3 p3 rel3 => ?_) xq
    split at p3
    · rename_i k
      obtain ⟨k0, k1, h1, h2, p3⟩ := p3
      refine ⟨_, k, rfl, rfl, k0, k1, by rw [st_len]; exact h1, by rw [stepS_st, st_len]; exact h2, ?_⟩
      rw [stepS_st]
      obtain ⟨t3, S3, ρ3, h3, s3⟩ := rel3
      exact q _ A3 _ H3 p3 ⟨t3, S3, ρ3, h3, s3, .str _⟩
    · exact p3.elim
  · exact p1.elim
/-! ### xs[::-1] -/
def pRevL (pa : PTE) : PTE := fun A P Y => pa A (fun y A1 => match view A1.M y with
  | some (.lst xs) => P (.o (.lst xs.reverse)) A1
  | _ => False) Y
theorem de_revL {X : Cx} {E : WX} {K : PySem.W.Frag} {e : Expr} {te : TE} {pa : PTE} {k : Nat} {p1 p2 p3 pos : Pos} (ha : DE X E e te pa) (hK : X.K = K := by rfl) : DE X E (.Subscript e (.Slice none none (some (.UnaryOp .USub (.Constant (.int 1) k p1) p2)) p3) pos) (tRevL K te) (pRevL pa) := by
  subst hK
  refine ⟨pe_revL ha.pe, fun B σ H A P Y Q rel p q xq => ?_⟩
  refine ha.sim B σ H A _ Y _ rel p (fun y1 A1 v1 H1 p1 res => ?_) xq
  split at p1
  · rename_i xs ex
    obtain ⟨t, S, ρ, h, s, kk⟩ := res
    have n : Now X.K B t S ρ A1 σ H1 := ⟨h, s⟩
    obtain ⟨a, vs, rfl, h1, h2⟩ := n.view kk ex
    refine ⟨a, vs, rfl, SqL.of h1, fun pp hp => ?_⟩
    exact (n.kont (P := fun z => P z A1) fun z v H' pz rz => q z A1 v H' pz rz).lst pp _ _ hp p1 h2.reverse
  · exact p1.elim
/-! ### text.startswith, text.endswith -/
theorem starts_st (a b : Tx) : Txt.startswith (st a) (st b) = decide (b <+: a) := by
  unfold Txt.startswith
  rw [StrLaws.subAt_eq, st_len, st_len, st_tl, st_tl, List.drop_zero, Nat.zero_add]
  rw [Bool.eq_iff_iff, Bool.and_eq_true, decide_eq_true_eq, beq_iff_eq, decide_eq_true_eq, List.prefix_iff_eq_take]
  constructor
  · exact fun h => h.2.symm
  · intro h
    refine ⟨?_, h.symm⟩
    have := congrArg List.length h
    rw [List.length_take] at this
    omega
theorem ends_st (a b : Tx) : Txt.endswith (st a) (st b) = decide (b <:+ a) := by
  unfold Txt.endswith
  rw [StrLaws.subAt_eq, st_len, st_len, st_tl, st_tl, Nat.zero_add]
  rw [Bool.eq_iff_iff, Bool.and_eq_true, decide_eq_true_eq, beq_iff_eq, decide_eq_true_eq, List.suffix_iff_eq_drop]
  constructor
  · rintro ⟨h1, h2⟩
    rw [List.take_of_length_le (by rw [List.length_drop]; omega)] at h2
    exact h2.symm
  · intro h
    have hl := congrArg List.length h
    rw [List.length_drop] at hl
    refine ⟨by omega, ?_⟩
    rw [List.take_of_length_le (by rw [List.length_drop]; omega)]
    exact h.symm
def bStarts (a : Tx) : D → (R → Prop) → Prop
  | .str b, P => P (.d (.bl (decide (b <+: a))))
  | _, _ => False
def bEnds (a : Tx) : D → (R → Prop) → Prop
  | .str b, P => P (.d (.bl (decide (b <:+ a))))
  | _, _ => False
theorem snd_starts {K : PySem.W.Frag} : Snd1 K (fun x xs H Q => ∃ a b, x = .str a ∧ xs = [.str b] ∧ Q (.bl (Txt.startswith a b)) H) bStarts := fun S H a x v P Q le dv b k => by
  unfold bStarts at b
  split at b
  · cases dv
    refine ⟨_, _, rfl, rfl, ?_⟩
    rw [starts_st]
    exact k.dat _ _ b (.bl _)
  · exact b.elim
theorem snd_ends {K : PySem.W.Frag} : Snd1 K (fun x xs H Q => ∃ a b, x = .str a ∧ xs = [.str b] ∧ Q (.bl (Txt.endswith a b)) H) bEnds := fun S H a x v P Q le dv b k => by
  unfold bEnds at b
  split at b
  · cases dv
    refine ⟨_, _, rfl, rfl, ?_⟩
    rw [ends_st]
    exact k.dat _ _ b (.bl _)
  · exact b.elim
theorem km1 {X : Cx} {E : WX} {K : PySem.W.Frag} {ta tb : TE} {id : String} {name : Str} {o e : Expr} {pa pb : PTE} {apos pos : Pos} {r : V → List V → Hp → VK → Prop} {b : Tx → D → (R → Prop) → Prop} (slot : Slot "str" name id) (ty : typeOf (.builtin id) = pure (.type "method_descriptor")) (rule : MtR X id r) (hr : Snd1 K r b)
    (ha : DE X E o ta pa) (hb : DE X E e tb pb) (hK : X.K = K := by rfl) (hs : starEach [e] X.env = [(false, eval e X.env)] := by rfl) (hbase : attributeBase o name X.env (eval o X.env) = eval o X.env := by rfl) (hline : (apos.endLine == pos.line) = true := by rfl) :
    DE X E (.Call (.Attribute o name apos) [e] [] pos) (tM1 r ta tb) (pM1 b pa pb) := by
  subst hK
  exact de_m1 slot ty rule hr ha hb hs hbase hline
/-! ### d[k] += x, a dict of whole numbers -/
def pAugK (f : Int → Int → Int) (po pi pe : PTE) : PTS := fun P A => po A (fun yo A1 => match yo with
  | .p n => pi A1 (fun yi A2 => match yi with
    | .d k => (match A2.M[n]? with
      | some (some (.dic kvs)) => (match kdOf k with
        | some kk => ∃ a, getK kvs kk = some (.int a) ∧ pe A2 (fun y A3 => match y with
          | .d (.int b) => (match A3.M[n]? with
            | some (some (.dic kvs')) => kvs'.length < 16777216 ∧ P.nx ⟨A3.env, A3.M.set n (some (.dic (putD kvs' kk (.int (f a b)))))⟩
            | _ => False)
          | _ => False) P.ex
        | none => False)
      | _ => False)
    | _ => False) P.ex
  | _ => False) P.ex
theorem sim_augK {K : PySem.W.Frag} {E : WX} {f : Int → Int → Int} {rd : V → V → Hp → VK → Prop} (hrd : rd = fun x y H Q => ∃ i j, x = .int i ∧ y = .int j ∧ Q (.int (f i j)) H) {te to ti : TE} {pe po pi : PTE} (ho : SimE K E to po) (hi : SimE K E ti pi) (he : SimE K E te pe) : SimS K E (sDAug to ti te rd) (pAugK f po pi pe) := fun B σ H A P D rel x c => by
  subst hrd
  refine ho B σ H A _ _ _ rel x (fun yo A1 vo H1 p1 res1 => ?_) (c.ex _)
  split at p1
  · rename_i n
    obtain ⟨t, S, ρ, h, s, k⟩ := res1
    obtain ⟨rfl, hn⟩ := k
    refine hi _ σ H1 A1 _ _ _ ⟨t, S, _, h.rebase, s⟩ p1 (fun yi A2 vi H2 p2 res2 => ?_) ((c.ex _).back h)
    split at p2
    · rename_i kk
      obtain ⟨t2, S2, ρ2, h2, s2, k2⟩ := res2
      have k2 : DR K S2 vi kk := k2
      have h2' := h.back h2
      have et : t2 n = t n := h2.ext.th n hn
      split at p2
      · rename_i kvs e2
        cases ekq : kdOf kk with
        | none => rw [ekq] at p2; exact p2.elim
        | some kq =>
          rw [ekq] at p2
          obtain ⟨a, ea, p2⟩ := p2
          obtain ⟨f2, vs, e3, e4⟩ := h2'.obj n _ e2
          have hv : ∃ v, valV vs (kd kq) = some v ∧ v = V.int a := by
            rcases e4.val (k := kq) with ⟨_, z⟩ | ⟨v, d, g1, g2, g3⟩
            · rw [ea] at z; cases z
            · rw [ea] at g2
              cases g2
              exact ⟨v, g1, g3.int_of⟩
          obtain ⟨_, g1, rfl⟩ := hv
          rw [kdOf_v ekq k2]
          refine ⟨t n, V.int a, rfl, ?_, ?_⟩
          · have := DGet.k (H := H2) (a := t2 n) (kvs := vs) (k := kd kq) e3
            rw [g1] at this
            rw [← et]
            exact this
          · refine he _ σ H2 A2 _ _ _ ⟨t2, S2, _, h2'.rebase, s2⟩ p2 (fun y A3 v3 H3 p3 res3 => ?_) ((c.ex _).back h2')
            split at p3
            · rename_i b
              obtain ⟨t3, S3, ρ3, h3, s3, k3⟩ := res3
              cases DR.int_of k3
              have h3' := h2'.back h3
              have hn2 : n < A2.M.length := (List.getElem?_eq_some_iff.mp e2).1
              have et3 : t3 n = t2 n := h3.ext.th n hn2
              refine ⟨a, b, rfl, rfl, ?_⟩
              split at p3
              · rename_i kvs' e5
                obtain ⟨hl, q⟩ := p3
                obtain ⟨f3, vs3, e6, e7⟩ := h3'.obj n _ e5
                rw [← et, ← et3]
                refine ⟨_, DPut.k e6 (by rw [e7.length]; exact hl), c.nx ⟨A3.env, _⟩ σ _ q ⟨t3, S3, ρ3, h3'.put e5 f3 ⟨f3, _, upd_same, e7.put (.int _)⟩, ?_⟩⟩
                show SR K S3 t3 (A3.M.set n _).length A3.env σ
                rw [List.length_set]
                exact s3
              · exact p3.elim
            · exact p3.elim
      · exact p2.elim
    · exact p2.elim
  · exact p1.elim
theorem ds_augK {X : Cx} {E : WX} {o i e : Expr} {to ti te : TE} {po pi pe : PTE} {tpos pos : Pos} (hu : X.A.units + 1 < cLine) (ho : DE X E o to po) (hi : DE X E i ti pi) (he : DE X E e te pe)
    (ha : ∀ ov iv new, augStore i ov iv new = (do holding [new, ov, iv] (setItem ov iv new); release [new, ov, iv] []; pure .next) := by intros; rfl) :
    DS X E (.AugAssign (.Subscript o i tpos) .Add e pos) (sDAug to ti te rAdd) (pAugK (fun i j => i + j) po pi pe) := ⟨ps_daug hu ho.pe hi.pe he.pe in_add ha, sim_augK rfl ho.sim hi.sim he.sim⟩
end PD

/-! PE, fourth part: walks over dicts that are data; owned things taken as data from a statement on. -/
namespace PD
open PySem PySem.Spec PyProof.Rows L2
/-! ### a dict is locked for good -/
def tLkP (t : TE) : TE := fun σ H Q => t σ H fun x H1 => ∃ d u, x = .ref d ∧ ((H1 d = some u ∧ Mut (some u) ∧ ∀ od, Q x (upd H1 d (.frz od u))) ∨ ((∃ od, H1 d = some (.frz od u)) ∧ Q x H1))
theorem pe_lockP {X : Cx} {e : Expr} {t : TE} (h : PE X e t) : PE X e (tLkP t) := by
  refine ⟨fun pins s σ H Q I hw => ?_⟩
  refine thn (h.run pins s σ H _ I hw) fun v s1 ⟨x, H1, I1, r, d, u, ex, q⟩ => ?_
  rcases q with ⟨hd, mu, q⟩ | ⟨_, q⟩
  · obtain ⟨od, I2⟩ := I1.lock hd mu
    exact ⟨x, _, I2, by subst ex; exact r, q od⟩
  · exact ⟨x, H1, I1, r, q⟩
theorem HR.lockd {K : PySem.W.Frag} {B : Bas} {t : Nat → Addr} {S : Hp} {r : Addr → Lb} {M : List (Option O)} {H : Hp} (h : HR K B t S r M H) {d : Addr} {u : HO} (hd : isD u = true) (hs : S d = some u) (hh : H d = some u) (od : Obj) : HR K B t S r M (upd H d (.frz od u)) where
  le := fun a w e => by
    by_cases q : a = d
    · subst q
      rw [hs] at e
      cases e
      exact .inr ⟨hd, od, upd_same⟩
    · rw [upd_ne q]
      exact h.le a w e
  sep := fun a l e => by
    have q : a ≠ d := fun z => by rw [z] at e; rw [(h.sep d l e).1] at hs; cases hs
    rw [upd_ne q]
    exact h.sep a l e
  lab := h.lab
  obj := fun n o e => (h.obj n o e).move (Le.refl S) fun b hb => upd_ne fun z => by
    rw [z] at hb
    rw [(h.sep d _ hb).1] at hs
    cases hs
  keep := fun a o e nd => by
    by_cases q : a = d
    · subst q
      rcases h.keep a o e nd with z | ⟨z1, z2, od', z3⟩
      · rw [hh] at z
        cases z
        refine .inr ⟨hd, ?_, od, upd_same⟩
        rcases h.stb a (by rw [hs]; simp) with w | w | w
        · cases q2 : B.S a with
          | none => exact absurd q2 w
          | some o' =>
            have := h.bas a o' q2
            rw [hs] at this
            exact this.symm
        · rw [w] at e; cases e
        · exact absurd w nd
      · rw [hh] at z3
        cases z3
        cases hd
    · rw [upd_ne q]
      exact h.keep a o e nd
  own := h.own
  stb := h.stb
  bas := h.bas
  th := h.th
  nl := h.nl
def itK (kvs : List (Kd × D)) (i : Nat) : D := ((kvs.map fun p => kD p.1)[i]?).getD .non
theorem itK_itL (kvs : List (Kd × D)) : itK kvs = itL (kvs.map fun p => kD p.1) := by
  funext i
  unfold itK itL
  rw [List.getD_eq_getElem?_getD]
theorem DRk.key {K : PySem.W.Frag} {S : Hp} : ∀ {vs : List (Key × V)} {ds : List (Kd × D)} {i : Nat} {k : Key} {v : V}, DRk K S vs ds → vs[i]? = some (k, v) → ∃ kd' d, ds[i]? = some (kd', d) ∧ k = kd kd'
  | _, _, _, _, _, .nil, e => by simp at e
  | _, _, 0, _, _, .cons r _, e => by
    simp at e
    exact ⟨_, _, rfl, e.1.symm⟩
  | _, _, i + 1, k, v, .cons _ t, e => by
    obtain ⟨a, b, h1, h2⟩ := DRk.key (i := i) t (by simpa using e)
    exact ⟨a, b, by simpa using h1, h2⟩
theorem DR.kD {K : PySem.W.Frag} {S : Hp} : ∀ k : Kd, DR K S (kV (kd k)) (kD k)
  | .inl i => .int i
  | .inr l => .str l
theorem src_keys {K : PySem.W.Frag} {Hb : Hp} {t : Nat → Addr} {S : Hp} {m : Nat} {d : Addr} {od : Obj} {vs : List (Key × V)} {kvs : List (Kd × D)} (hs : S d ≠ none) (hb : Hb d = some (.frz od (.dK vs))) (h2 : DRk K S vs kvs) : Src K (Itk d od vs) (kvs.map fun p => kD p.1).length (itL (kvs.map fun p => kD p.1)) yes t S m Hb where
  stop := fun B' t' S' r' M' H' h e kf _ => ⟨kf d od _ hs hb, by rw [List.length_map, h2.length]; exact Nat.le_refl _⟩
  go := fun B' t' S' r' M' H' h e kf _ i hi => by
    rw [List.length_map] at hi
    refine ⟨⟨kf d od _ hs hb, by rw [h2.length]; exact hi⟩, fun x H'' hy => ?_⟩
    obtain ⟨rfl, k, v, e1, rfl⟩ := hy
    obtain ⟨k', d', g1, rfl⟩ := h2.key e1
    refine ⟨fun _ _ z => z, S', h, Ext.refl, ?_⟩
    have : itL (kvs.map fun p => PD.kD p.1) i = PD.kD k' := by
      unfold itL
      rw [List.getD_eq_getElem?_getD, List.getElem?_map, g1]
      rfl
    rw [this]
    exact DR.kD k'
def pItK (p : PTE) : PTI := fun A P Y => p A (fun y A1 => match y.fz with
  | some (.d (.dic kvs)) => P (kvs.map fun p => kD p.1).length (itL (kvs.map fun p => kD p.1)) yes A1
  | _ => False) Y
theorem sim_itK {K : PySem.W.Frag} {E : WX} {te : TE} {p : PTE} (h : SimE K E te p) : SimI K E (iKeys (tLkP te)) (pItK p) := fun B σ H A P Y R rel x q xq => by
  refine h B σ H A _ _ _ rel x (fun y A1 v H1 p1 r1 => ?_) xq
  split at p1
  · rename_i kvs e
    obtain ⟨t, S, ρ, hh, s, k⟩ := r1.fzD e
    obtain ⟨a, vs, rfl, h1, h2⟩ := DR.dic_of k
    rcases h1 with h1 | ⟨od, h1⟩
    · rcases hh.le a _ h1 with z | ⟨_, od, z⟩
      · refine ⟨a, _, rfl, .inl ⟨z, True.intro, fun od => ⟨a, od, rfl, .inl ⟨vs, upd_same, ?_⟩⟩⟩⟩
        refine q _ _ _ A1 _ _ p1 ⟨t, S, ρ, ⟨hh.lockd rfl h1 z od, s⟩, src_keys (by rw [h1]; simp) upd_same h2⟩
      · refine ⟨a, .dK vs, rfl, .inr ⟨⟨od, z⟩, a, od, rfl, .inl ⟨vs, z, ?_⟩⟩⟩
        exact q _ _ _ A1 _ _ p1 ⟨t, S, ρ, ⟨hh, s⟩, src_keys (by rw [h1]; simp) z h2⟩
    · have z : H1 a = some (.frz od (.dK vs)) := by
        rcases hh.le a _ h1 with z | ⟨z, _⟩
        · exact z
        · cases z
      refine ⟨a, .dK vs, rfl, .inr ⟨⟨od, z⟩, a, od, rfl, .inl ⟨vs, z, ?_⟩⟩⟩
      exact q _ _ _ A1 _ _ p1 ⟨t, S, ρ, ⟨hh, s⟩, src_keys (by rw [h1]; simp) z h2⟩
  · exact p1.elim
theorem di_keys {X : Cx} {E : WX} {tg e : Expr} {te : TE} {p : PTE} (h : DE X E e te p) : DI X E tg e (iKeys (tLkP te)) (pItK p) := ⟨pi_keys (pe_lockP h.pe), sim_itK h.sim⟩
/-! ### an owned thing is data from here on -/
def pFz (i : Nat) (p : PTS) : PTS := fun P A => match A.env[i]? with
  | some (.d _) => p P A
  | some (.p n) => (match A.M[n]? with
    | some (some o) => (match o.toD with
      | some x => p P ⟨A.env.set i (.d x), A.M.set n none⟩
      | none => False)
    | _ => False)
  | _ => False
theorem DS.fz {X : Cx} {E : WX} {e : Stmt} {t : TS} {p : PTS} (i : Nat) (h : DS X E e t p) : DS X E e t (pFz i p) := ⟨h.pe, fun B σ H A P D rel x c => by
  unfold pFz at x
  split at x
  · exact h.sim B σ H A P D rel x c
  · rename_i n e
    split at x
    · rename_i o eo
      split at x
      · rename_i y ey
        have key := sim_varF (K := X.K) (E := E) (i := i) B σ H A (fun y' A' => p P A') (fun _ _ => False) (fun v H' => ∃ A', p P A' ∧ Rel X.K B A' σ H') rel (by
          unfold pVarF
          rw [e]
          dsimp only
          rw [eo]
          dsimp only
          rw [ey]
          exact x) (fun y' A' v H' h1 h2 => ⟨A', h1, h2.rel⟩) (fun _ _ _ z => z.elim)
        obtain ⟨v, _, A', h1, h2⟩ := key
        exact h.sim B σ H A' P D h2 h1 c
      · exact x.elim
    · exact x.elim
  · exact x.elim⟩
end PD

/-! PE, fifth part: a comprehension that keeps any of the things. -/
namespace PD
open PySem PySem.Spec PyProof.Rows L2
theorem then_go {q : PTS} {P : PEnds} {A : Abs} (h : q P A) : Then q P A := h
theorem lc_sub {α : Type} {C : List (Option O) → Prop} {tg : PTG} {tt : PTT} {pe : PTE} {vs : List Nat} {A1 : Abs} {P : R → Abs → Prop} {Y : PX} {xs : List α} {f : α → D} (g : α → D) (hC : C A1.M) (hn : xs.length ≤ 16777216)
    (hs : ∀ x ∈ xs, ∃ env', tg (f x) (wipeA A1.env vs) = some env' ∧ ∀ J : Option D → List (Option O) → Prop, J (some (g x)) A1.M → J none A1.M → tt ⟨env', A1.M⟩ (Hand J pe Y) Y)
    (hp : ∀ ys : List α, ys.Sublist xs → P (.o (.lst (ys.map g))) A1) : LcP (xs.map f).length (itL (xs.map f)) C tg tt pe vs A1 P Y := by
  refine ⟨fun i acc M => M = A1.M ∧ ∃ ys : List α, ys.Sublist (xs.take i) ∧ acc = ys.map g, ⟨rfl, [], by simp, rfl⟩, fun i acc M _ ⟨h, _⟩ => by rw [h]; exact hC, fun i acc M hi ⟨h1, ys, h2, h3⟩ => ?_, fun acc M ⟨h1, ys, h2, h3⟩ => ?_⟩
  · rw [List.length_map] at hi
    rw [itL_map hi]
    obtain ⟨env', e, k⟩ := hs xs[i] (List.getElem_mem hi)
    refine ⟨env', e, ?_⟩
    rw [h1]
    have st : xs.take (i + 1) = xs.take i ++ [xs[i]] := by
      rw [List.take_succ, List.getElem?_eq_getElem hi]
      rfl
    have hl : acc.length < 16777216 := by
      rw [h3, List.length_map]
      have := h2.length_le
      rw [List.length_take] at this
      omega
    refine k (fun x M => match x with
      | some d => acc.length < 16777216 ∧ M = A1.M ∧ ∃ ys : List α, ys.Sublist (xs.take (i + 1)) ∧ acc ++ [d] = ys.map g
      | none => M = A1.M ∧ ∃ ys : List α, ys.Sublist (xs.take (i + 1)) ∧ acc = ys.map g) ⟨hl, rfl, ys ++ [xs[i]], ?_, ?_⟩ ⟨rfl, ys, ?_, h3⟩
    · rw [st]
      exact h2.append (List.Sublist.refl _)
    · rw [List.map_append, h3]
      rfl
    · rw [st]
      exact h2.trans (List.sublist_append_left _ _)
  · rw [h1, h3]
    rw [List.length_map, List.take_length] at h2
    exact hp ys h2
end PD

/-! PE, sixth part: [[..], [..], ..][i] of lists of constants, the one at i is owned. -/
namespace PD
open PySem PySem.Spec PyProof.Rows L2
theorem cmulR {i j : Int} (h1 : -(2 ^ 64) < j) (h2 : j < 2 ^ 64) : CMul i j ∨ CMulW i j := .inl (.inr ⟨h1, h2⟩)
theorem cmulL {i j : Int} (h1 : -(2 ^ 64) < i) (h2 : i < 2 ^ 64) : CMul i j ∨ CMulW i j := .inl (.inl ⟨h1, h2⟩)
theorem smallI_of {i : Int} (h1 : -(2 ^ 62) ≤ i) (h2 : i < 2 ^ 62) : smallI i := ⟨h1, h2⟩
theorem HR.junk {K : PySem.W.Frag} {B : Bas} {t : Nat → Addr} {S : Hp} {r : Addr → Lb} {M : List (Option O)} {H H' : Hp} (h : HR K B t S r M H) (hk : ∀ b, H b ≠ none → H' b = H b) : HR K B t S r M H' where
  le := fun a w e => by
    have z := h.le a w e
    have ne : H a ≠ none := by
      rcases z with z | ⟨_, _, z⟩ <;> rw [z] <;> simp
    rw [hk a ne]
    exact z
  sep := fun a l e => ⟨(h.sep a l e).1, by rw [hk a (h.sep a l e).2]; exact (h.sep a l e).2⟩
  lab := h.lab
  obj := fun n o e => (h.obj n o e).move (Le.refl S) fun b hb => hk b (h.sep b _ hb).2
  keep := fun a o e nd => by
    have z := h.keep a o e nd
    have ne : H a ≠ none := by
      rcases z with z | ⟨_, _, _, z⟩ <;> rw [z] <;> simp
    rw [hk a ne]
    exact z
  own := h.own
  stb := h.stb
  bas := h.bas
  th := h.th
  nl := h.nl
/-- what nobody owns is at hand -/
theorem HR.take {K : PySem.W.Frag} {B : Bas} {t : Nat → Addr} {S : Hp} {r : Addr → Lb} {M : List (Option O)} {H : Hp} (h : HR K B t S r M H) {p : Addr} (hs : S p = none) (hh : H p ≠ none) (hr : r p = none) (ho : B.D p ∨ B.H p = none) : HR K B t S (tmpT r p) M H where
  le := h.le
  sep := fun a l e => by
    unfold tmpT at e
    split at e
    · rename_i q; rw [q]; exact ⟨hs, hh⟩
    · exact h.sep a l (dropT_some e)
  lab := fun a n e => by
    unfold tmpT at e
    split at e
    · cases e
    · exact h.lab a n (dropT_some e)
  obj := fun n o e => (h.obj n o e).iff fun b => by
    unfold tmpT
    split
    · rename_i q
      rw [q, hr]
      constructor <;> (intro z; cases z)
    · exact dropT_nm.symm
  keep := h.keep
  own := fun a l e => by
    unfold tmpT at e
    split at e
    · rename_i q; rw [q]; exact ho
    · exact h.own a l (dropT_some e)
  stb := h.stb
  bas := h.bas
  th := h.th
  nl := h.nl
/-- constants in a row -/
def CstA (ta : TA) (cs : List D) : Prop := ∀ (σ : L2.St) (H : Hp) (Q : List V → Hp → Prop), (∀ vs, vs.length = cs.length → (∀ K S, DRs K S vs cs) → Q vs H) → ta σ H Q
theorem cst_nil : CstA tNil [] := fun σ H Q q => q [] rfl fun _ _ => .nil
theorem cst_str {ta : TA} {cs : List D} {x : Str} {l : Tx} (h : x.cps.toList = l) (k : CstA ta cs) : CstA (tCons (tC (.str x)) ta) (.str l :: cs) := fun σ H Q q => k σ H _ fun vs hl hd => q (.str x :: vs) (by rw [List.length_cons, List.length_cons, hl]) fun K S => .cons (DR.str' h) (hd K S)
theorem cst_int {ta : TA} {cs : List D} {x : Int} (k : CstA ta cs) : CstA (tCons (tC (.int x)) ta) (.int x :: cs) := fun σ H Q q => k σ H _ fun vs hl hd => q (.int x :: vs) (by rw [List.length_cons, List.length_cons, hl]) fun K S => .cons (.int x) (hd K S)
/-- lists of constants in a row -/
def MksA (ta : TA) (css : List (List D)) : Prop := ∀ (σ : L2.St) (H : Hp) (Q : List V → Hp → Prop),
  (∀ (as : List Addr) (H' : Hp), as.length = css.length → (∀ a ∈ as, H a = none) → (∀ b, H b ≠ none → H' b = H b) → (∀ (i : Nat) (a : Addr) (cs : List D), as[i]? = some a → css[i]? = some cs → ∃ vs, H' a = some (.lst vs) ∧ ∀ K S, DRs K S vs cs) → Q (as.map V.ref) H') → ta σ H Q
theorem mks_nil : MksA tNil [] := fun σ H Q q => q [] H rfl (by simp) (fun _ _ => rfl) fun i a cs e => by simp at e
theorem mks_cons {tc ta : TA} {cs : List D} {css : List (List D)} (hc : CstA tc cs) (hl : cs.length ≤ 1000) (k : MksA ta css) : MksA (tCons (tLst tc) ta) (cs :: css) := fun σ H Q q => by
  refine hc σ H _ fun vs hvl hvd => ?_
  refine ⟨by rw [hvl]; exact Nat.le_trans hl (by decide), fun p hp => ?_⟩
  refine k σ _ _ fun as H' h1 h2 h3 h4 => ?_
  have hH' : H' p = some (.lst vs) := by rw [h3 p (by rw [upd_same]; simp), upd_same]
  refine q (p :: as) H' (by rw [List.length_cons, List.length_cons, h1]) (fun a ha => ?_) (fun b hb => ?_) fun i a ds e1 e2 => ?_
  · rcases List.mem_cons.mp ha with rfl | ha
    · exact hp
    · have := h2 a ha
      have ne : a ≠ p := fun z => by rw [z, upd_same] at this; cases this
      rw [upd_ne ne] at this
      exact this
  · have ne : b ≠ p := fun z => hb (by rw [z]; exact hp)
    rw [h3 b (by rw [upd_ne ne]; exact hb), upd_ne ne]
  · cases i with
    | zero =>
      simp at e1 e2
      subst e1 e2
      exact ⟨vs, hH', hvd⟩
    | succ i => exact h4 i a ds (by simpa using e1) (by simpa using e2)
def pPickL (css : List (List D)) (pi : PTE) : PTE := fun A P Y => pi A (fun y A1 => match y with
  | .d (.int i) => ∃ cs, atI css i = some cs ∧ P (.o (.lst cs)) A1
  | _ => False) Y
theorem sim_pickL {K : PySem.W.Frag} {E : WX} {ta : TA} {ti : TE} {css : List (List D)} {pi : PTE} (hm : MksA ta css) (hl : css.length ≤ 1000) (hi : SimE K E ti pi) : SimE K E (tOp (rIxA K) (tLst ta) ti) (pPickL css pi) := fun B σ H A P Y Q rel p q xq => by
  obtain ⟨t, S, r, h, s⟩ := rel
  refine hm σ H _ fun as H' h1 h2 h3 h4 => ?_
  refine ⟨by rw [List.length_map, h1]; exact Nat.le_trans hl (by decide), fun o ho => ?_⟩
  have hj : HR K B t S r A.M (upd H' o (.lst (as.map V.ref))) := h.junk fun b hb => by
    have ne : b ≠ o := fun z => by rw [z] at hb; rw [← h3 o hb] at hb; exact hb ho
    rw [upd_ne ne]
    exact h3 b hb
  refine hi _ σ _ A _ Y _ ⟨t, S, _, hj.rebase, s⟩ p (fun y A1 v H1 p1 res => ?_) (xq.back hj)
  split at p1
  · rename_i i
    obtain ⟨cs, e, p1⟩ := p1
    obtain ⟨t1, S1, r1, g1, s1, k1⟩ := res
    cases DR.int_of k1
    have keep : ∀ a u, H a = none → upd H' o (.lst (as.map V.ref)) a = some u → isD u = false → H1 a = some u := fun a u ha hu hd => by
      rcases g1.keep a u hu (fun ⟨n, z⟩ => (h.sep a _ z).2 ha) with z | ⟨z, _⟩
      · exact z
      · rw [hd] at z; cases z
    have ho' : H o = none := by
      cases z : H o with
      | none => rfl
      | some u => rw [h3 o (by rw [z]; simp), z] at ho; cases ho
    have ho1 := keep o _ ho' upd_same rfl
    obtain ⟨j, hj1, hj2⟩ : ∃ j, ixN css.length i = some j ∧ css[j]? = some cs := by
      unfold atI at e
      cases z : ixN css.length i with
      | none => rw [z] at e; cases e
      | some j => rw [z] at e; exact ⟨j, rfl, e⟩
    have hjl : j < as.length := by rw [h1]; exact (List.getElem?_eq_some_iff.mp hj2).1
    have ea : as[j]? = some as[j] := List.getElem?_eq_getElem hjl
    obtain ⟨vs, f1, f2⟩ := h4 j as[j] cs ea hj2
    have ha : H as[j] = none := h2 _ (List.getElem_mem hjl)
    have neo : as[j] ≠ o := fun z => by rw [z, ho] at f1; cases f1
    have a1 := keep as[j] (.lst vs) ha (by rw [upd_ne neo]; exact f1) rfl
    have b1 := hj.back g1
    have rn : r1 as[j] = none := by
      cases z : r1 as[j] with
      | none => rfl
      | some l =>
        rcases g1.own _ l z with ⟨n, y⟩ | y
        · exact absurd ha (h.sep _ _ y).2
        · have y : upd H' o (.lst (as.map V.ref)) as[j] = none := y
          rw [upd_ne neo, f1] at y
          cases y
    have sn : S1 as[j] = none := by
      cases z : S1 as[j] with
      | none => rfl
      | some u =>
        rcases g1.stb _ (by rw [z]; simp) with y | y | ⟨n, y⟩
        · exact absurd (h.of_none ha) y
        · have y : upd H' o (.lst (as.map V.ref)) as[j] = none := y
          rw [upd_ne neo, f1] at y
          cases y
        · exact absurd ha (h.sep _ _ y).2
    refine .inl (.inl ⟨o, as.map V.ref, i, .ref as[j], rfl, rfl, SqL.of ho1, ?_, ?_⟩)
    · unfold atI
      rw [List.length_map, h1, hj1]
      show (as.map V.ref)[j]? = _
      rw [List.getElem?_map, ea]
      rfl
    · refine q _ A1 _ H1 p1 ⟨t1, S1, _, b1.take sn (by rw [a1]; simp) rn (h.fresh ha), s1, as[j], rfl, tmpT_self, vs, a1, f2 _ _⟩
  · exact p1.elim
theorem kpick {X : Cx} {E : WX} {K : PySem.W.Frag} {es : List Expr} {e : Expr} {ta : TA} {ti : TE} {css : List (List D)} {q : PTA} {pi : PTE} {pos pos2 : Pos} (hu : X.A.units + 1 < cLine) (hd : DA X E es ta q) (hm : MksA ta css) (hi : DE X E e ti pi) (hl : css.length ≤ 1000 := by decide) (hK : X.K = K := by rfl) (hs : PlainIx e := by exact fun _ _ => rfl) :
    DE X E (.Subscript (.List es pos) e pos2) (tOp (rIxA K) (tLst ta) ti) (pPickL css pi) := by
  subst hK
  exact ⟨(de_ix hu (de_lst hd) hi hs).pe, sim_pickL hm hl hi.sim⟩
end PD

/-! Q: what the defs of books tell, in Lean. -/
namespace PD
open PySem PySem.Spec PyProof.Rows L2
def pre_is_whole : List AR → Prop
  | [.d (.int _)] => True
  | _ => False
def f_is_whole : List AR → AR := fun _ => .d (.bl true)
def pre_is_text : List AR → Prop
  | [.d (.str l)] => okX l ∧ l.length ≤ 16777216
  | _ => False
def f_is_text : List AR → AR
  | [.d (.str l)] => .d (.bl (small l))
  | _ => .d .non
def pre_need_text : List AR → Prop
  | [.d (.str l)] => small l = true ∧ l.length ≤ 16777216
  | _ => False
def f_need_text : List AR → AR := fun _ => .d .non
def unpair : D → Kd × D
  | .tup [.str l, x] => (.inr l, x)
  | .tup [.int l, x] => (.inl l, x)
  | _ => (.inl 0, .non)
def dictOf (ds : List D) : List (Kd × D) := mergeD [] (ds.map unpair)
def isPairs (ds : List D) : Prop := ds = (ds.map unpair).map pairD
def pre_only_words : List AR → Prop
  | [.d (.lst ds)] => isPairs ds
  | _ => False
def f_only_words : List AR → AR
  | [.d (.lst ds)] => .o (.dic (dictOf ds))
  | _ => .d .non
/-- the words from a place -/
def wordsFrom (kvs : List (Kd × D)) (l : Tx) (p : Nat) : List Tx := ((List.range (min 12 (l.length - p))).map fun k => (l.drop p).take (k + 1)).filter fun x => hasK kvs (.inr x)
def pre_words_from : List AR → Prop
  | [.d (.dic _), .d (.str l), .d (.int p)] => 0 ≤ p ∧ p ≤ l.length ∧ l.length ≤ 16777216
  | _ => False
def f_words_from : List AR → AR
  | [.d (.dic kvs), .d (.str l), .d (.int p)] => .o (.lst ((wordsFrom kvs l p.toNat).map .str))
  | _ => .d .non
def pre_words_at : List AR → Prop
  | [.d (.lst ds), .d (.str l), .d (.int p)] => isPairs ds ∧ small l = true ∧ 0 ≤ p ∧ p ≤ l.length ∧ l.length ≤ 16777216
  | _ => False
def f_words_at : List AR → AR
  | [.d (.lst ds), .d (.str l), .d (.int p)] => .o (.lst ((wordsFrom (dictOf ds) l p.toNat).map .str))
  | _ => .d .non
def isWord (l : Tx) : Prop := small l = true ∧ 1 ≤ l.length ∧ l.length ≤ 12
/-- a dict of words and whole numbers -/
def WDict (kvs : List (Kd × D)) : Prop := ∃ ps : List (Tx × Int), kvs = ps.map (fun p => (.inr p.1, .int p.2)) ∧ (∀ p ∈ ps, isWord p.1) ∧ (ps.map (·.1)).Nodup
/-- the rows of a book -/
def Book (ds : List D) : Prop := ∃ ps : List (Tx × Int), ds = ps.map (fun p => pairD (.inr p.1, .int p.2)) ∧ (∀ p ∈ ps, isWord p.1) ∧ (ps.map (·.1)).Pairwise (· < ·)
/-- which places are led to, behind k places looked at -/
def ledStep (W : Nat → List Tx) (k : Nat) (L : List Bool) : List Bool := if L.getD k false = true then (W k).foldl (fun L w => L.set (k + w.length) true) L else L
def ledUp (W : Nat → List Tx) (n : Nat) : Nat → List Bool
  | 0 => true :: List.replicate n false
  | k + 1 => ledStep W k (ledUp W n k)
def ledPl (W : Nat → List Tx) (n : Nat) : List Int := ((List.range (n + 1)).filter fun q => (ledUp W n n).getD q false).map fun q : Nat => (q : Int)
def pre_led_places : List AR → Prop
  | [.d (.lst ds), .d (.str l)] => isPairs ds ∧ small l = true ∧ l.length ≤ 1000000
  | _ => False
def f_led_places : List AR → AR
  | [.d (.lst ds), .d (.str l)] => .o (.lst ((ledPl (wordsFrom (dictOf ds) l) l.length).map .int))
  | _ => .d .non
def pre_least_bar : List AR → Prop := pre_led_places
def f_least_bar : List AR → AR
  | [.d (.lst ds), .d (.str l)] => if (ledUp (wordsFrom (dictOf ds) l) l.length l.length).getD l.length false = true then .d .non else .o (.lst ((ledPl (wordsFrom (dictOf ds) l) l.length).map .int))
  | _ => .d .non
/-- which of the last k + 1 places of n lead on to the end -/
def back (W : Nat → List Tx) (n : Nat) : Nat → List Bool
  | 0 => [true]
  | k + 1 => ((W (n - (k + 1))).any fun w => (back W n k).getD (w.length - 1) false) :: back W n k
def wds (ds : List D) (l : Tx) (p : Nat) : List Tx := wordsFrom (dictOf ds) l p
def goods (ds : List D) (l : Tx) : List Bool := back (wds ds l) l.length l.length
def path (W : Nat → List Tx) (g : List Bool) (n : Nat) : Nat → Nat → List Tx
  | 0, _ => []
  | f + 1, p => if p < n then (match (W p).find? (fun w => g.getD (p + w.length) false) with
    | some w => w :: path W g n f (p + w.length)
    | none => []) else []
def firstCut (ds : List D) (l : Tx) : D := if (goods ds l).getD 0 false = true then .lst ((path (wds ds l) (goods ds l) l.length (l.length + 1) 0).map .str) else .non
def pre_places_back : List AR → Prop
  | [.d (.lst ds), .d (.str l)] => isPairs ds ∧ small l = true ∧ l.length ≤ 1000000
  | _ => False
def f_places_back : List AR → AR
  | [.d (.lst ds), .d (.str l)] => .o (.lst ((goods ds l).map .bl))
  | _ => .d .non
def pre_first_cut : List AR → Prop := pre_places_back
def f_first_cut : List AR → AR
  | [.d (.lst ds), .d (.str l)] => (match firstCut ds l with
    | .lst xs => .o (.lst xs)
    | x => .d x)
  | _ => .d .non
end PD

namespace PD
open PySem PySem.Spec PyProof.Rows L2
def p_is_text : PTS :=
  (pRet (pAndV (pIsiP "str" (pVar 0)) (pOp2 (bEq id) (pLc (pItS (pVar 0)) (tgN 1) (pTest (pOp2 (bIn not) (pVar 1) (pC (.str abc)))) (pVar 1) [1]) (pLst pNil))))
abbrev N_is_text : List Str := ["thing", "sign"]
def p_need_text : PTS :=
  (pIf (pNot (pTest (pCalls (callP pre_is_text f_is_text) (pCons (pVar 0) pNil)))) pNever
  pNext)
abbrev N_need_text : List Str := ["thing"]
def p_only_words : PTS :=
  (pRet (pCall cDict (pCons (pVar 0) pNil)))
abbrev N_only_words : List Str := ["book"]
def p_words_from : PTS :=
  (pSeq (pSet 3 (pLc (pRng2 (pCons (pC (.int 1)) (pCons (pOp2 bAdd (pCall cMin2 (pCons (pC (.int 12)) (pCons (pOp2 bSub (pCall cLen (pCons (pVar 1) pNil)) (pVar 2)) pNil))) (pC (.int 1))) pNil))) (tgN 4) pYes (pSl (pVar 1) (pPart (pVar 2)) (pPart (pOp2 bAdd (pVar 2) (pVar 4)))) [4]))
  (pRet (pLc (pItL (pVar 3)) (tgN 5) (pTest (pOp2 (bIn id) (pVar 5) (pVar 0))) (pVar 5) [5])))
abbrev N_words_from : List Str := ["words", "text", "place", "pieces", "many", "piece"]
def p_led_places : PTS :=
  (pSeq (pDrop (pCalls (callP pre_need_text f_need_text) (pCons (pVar 1) pNil)))
  (pSeq (pSetD 2 (pCalls (callP pre_only_words f_only_words) (pCons (pVar 0) pNil)))
  (pSeq (pSet 3 (pOp2 bAdd (pLst (pCons (pC (.bl true)) pNil)) (pOp2 bMul (pLst (pCons (pC (.bl false)) pNil)) (pCall cLen (pCons (pVar 1) pNil)))))
  (pSeq (pFor (pRng1 (pCons (pCall cLen (pCons (pVar 1) pNil)) pNil)) (tgN 4) (pGc (pIf (pTru (pOp2 bIx (pVar 3) (pVar 4))) (pFor (pItL (pCalls (callP pre_words_from f_words_from) (pCons (pVar 2) (pCons (pVar 1) (pCons (pVar 4) pNil))))) (tgN 5) (pGc (pSetIx (pVar 3) (pOp2 bAdd (pVar 4) (pCall cLen (pCons (pVar 5) pNil))) (pC (.bl true)))))
  pNext)))
  (pRet (pLc (pRng1 (pCons (pOp2 bAdd (pCall cLen (pCons (pVar 1) pNil)) (pC (.int 1))) pNil)) (tgN 4) (pTru (pOp2 bIx (pVar 3) (pVar 4))) (pVar 4) [4]))))))
abbrev N_led_places : List Str := ["book", "text", "words", "led", "place", "word"]
def p_least_bar : PTS :=
  (pSeq (pSet 2 (pCalls (callP pre_led_places f_led_places) (pCons (pVar 0) (pCons (pVar 1) pNil))))
  (pSeq (pIf (pTest (pOp2 (bEq id) (pOp2 bIx (pVar 2) (pNeg (pC (.int 1)))) (pCall cLen (pCons (pVar 1) pNil)))) (pRet (pC .non))
  pNext)
  (pRet (pVar 2))))
abbrev N_least_bar : List Str := ["book", "text", "found"]
def p_places_back : PTS :=
  (pSeq (pDrop (pCalls (callP pre_need_text f_need_text) (pCons (pVar 1) pNil)))
  (pSeq (pSetD 2 (pCalls (callP pre_only_words f_only_words) (pCons (pVar 0) pNil)))
  (pSeq (pSet 3 (pOp2 bAdd (pOp2 bMul (pLst (pCons (pC (.bl false)) pNil)) (pCall cLen (pCons (pVar 1) pNil))) (pLst (pCons (pC (.bl true)) pNil))))
  (pSeq (pFor (pRng3 (pCons (pOp2 bSub (pCall cLen (pCons (pVar 1) pNil)) (pC (.int 1))) (pCons (pNeg (pC (.int 1))) (pCons (pNeg (pC (.int 1))) pNil)))) (tgN 4) (pGc (pSetIx (pVar 3) (pVar 4) (pOp2 (bIn id) (pC (.bl true)) (pLc (pItL (pCalls (callP pre_words_from f_words_from) (pCons (pVar 2) (pCons (pVar 1) (pCons (pVar 4) pNil))))) (tgN 5) pYes (pOp2 bIx (pVar 3) (pOp2 bAdd (pVar 4) (pCall cLen (pCons (pVar 5) pNil)))) [5])))))
  (pRet (pVar 3))))))
abbrev N_places_back : List Str := ["book", "text", "words", "good", "place", "word"]
def p_first_cut : PTS :=
  (pSeq (pSetD 2 (pCalls (callP pre_places_back f_places_back) (pCons (pVar 0) (pCons (pVar 1) pNil))))
  (pSeq (pIf (pNot (pTru (pOp2 bIx (pVar 2) (pC (.int 0))))) (pRet (pC .non))
  pNext)
  (pSeq (pSetD 3 (pCalls (callP pre_only_words f_only_words) (pCons (pVar 0) pNil)))
  (pSeq (pSet 4 (pLst pNil))
  (pSeq (pSet 5 (pC (.int 0)))
  (pSeq (pWhile (pTest (pOp2 bLt (pVar 5) (pCall cLen (pCons (pVar 1) pNil)))) (pGc (pSeq (pSet 6 (pOp2 bIx (pLc (pItL (pCalls (callP pre_words_from f_words_from) (pCons (pVar 3) (pCons (pVar 1) (pCons (pVar 5) pNil))))) (tgN 7) (pTru (pOp2 bIx (pVar 2) (pOp2 bAdd (pVar 5) (pCall cLen (pCons (pVar 7) pNil))))) (pVar 7) [7]) (pC (.int 0))))
  (pSeq (pDrop (pLM lAppend (pVar 4) (pCons (pVar 6) pNil)))
  (pAug 5 (fun i j => i + j) (pCall cLen (pCons (pVar 6) pNil)))))))
  (pRet (pVar 4))))))))
abbrev N_first_cut : List Str := ["book", "text", "good", "words", "found", "place", "word", "one"]
def p_is_whole : PTS :=
  (pRet (pAndV (pIsiP "int" (pVar 0)) (pNotV (pIsiP "bool" (pVar 0)))))
abbrev N_is_whole : List Str := ["thing"]
def p_words_at : PTS :=
  (pSeq (pDrop (pCalls (callP pre_need_text f_need_text) (pCons (pVar 1) pNil)))
  (pSeq (pIf (pOr (pNot (pTest (pCalls (callP pre_is_whole f_is_whole) (pCons (pVar 2) pNil)))) (pNot (pTest (pChain (fun i j => decide (i ≤ j)) (fun i j => !decide (j < i)) (fun i j => decide (i ≤ j)) (fun i j => !decide (j < i)) (pC (.int 0)) (pVar 2) (pCall cLen (pCons (pVar 1) pNil)))))) pNever
  pNext)
  (pRet (pCalls (callP pre_words_from f_words_from) (pCons (pCalls (callP pre_only_words f_only_words) (pCons (pVar 0) pNil)) (pCons (pVar 1) (pCons (pVar 2) pNil)))))))
abbrev N_words_at : List Str := ["book", "text", "place"]
end PD

/-! Q: readings. -/
namespace PD
open PySem L2
local macro_rules | `(tactic| walk_at "rd") => `(tactic| simp only [pSeq_then, pNext, pNever, pBreak, pCont, pDrop, pRet, pRetN, pIf, pSet, pSetD, setD, setP, setO, pVar, pC, pOp2, pTest, pAnd, pOr, pNot, pAndV, pOrV, pNotV, pIfE, pNil, pCons, pLst, pTup, pDict0, pCall, pIsiP, pM1, pNo, pPart, pSl, pSortI, pLM, pLc_eq, pFor_eq, pItL, pItS, pRng1, pRng2, pCalls, callP, callN, toAR, R.fz, view, views, dats, O.toD, AR.toR, bAdd, bSub, bEq, bCmp, bIn, bIs, bIx, bSl, cLen, cMin2, cMax2, cInt, cList, cDict, cSorted, plainD, isiB, tyn, pAsg, pChain, cmpD, pYes, pTru, truD, Hand, pGc, tgN, wipeA, fnAbs, envA, ownsA, retA, conP, conN, List.set, List.set_cons_zero, List.set_cons_succ, List.set_nil, List.getElem?_cons_zero, List.getElem?_cons_succ, List.getElem?_nil, List.length_cons, List.length_nil, List.cons_append, List.nil_append, List.append_nil, List.replicate, Nat.reduceSub, Nat.reduceAdd, Nat.zero_add, true_and, and_true, reduceIte, Bool.false_eq_true, id, Bool.not_true, Bool.not_false, List.nodup_nil, List.nodup_cons, List.not_mem_nil, not_false_eq_true, List.take_zero, List.take_succ_cons, List.take_nil])
theorem r_is_text : Law p_is_text ["thing", "sign"] 1 (conP pre_is_text f_is_text) := fun ars h => by
  have h : pre_is_text ars := h
  unfold pre_is_text at h
  split at h
  · rename_i l _
    refine ⟨rfl, ?_⟩
    unfold p_is_text endsA f_is_text
    walk_at "rd"
    simp only [BEq.rfl, Bool.true_or]
    walk_at "rd"
    refine lc_run (fun i => if l.getD i 0 ∈ abc then none else some (.str [l.getD i 0])) trivial h.2 (fun i hi => ⟨_, rfl, fun J hJ => ?_⟩) ?_
    · walk_at "rd"
      by_cases q : l.getD i 0 ∈ abc
      · rw [if_pos q] at hJ
        rw [decide_eq_true q]
        exact hJ
      · rw [if_neg q] at hJ
        rw [decide_eq_false q]
        exact hJ
    · walk_at "rd"
      refine ⟨Nat.zero_le _, okD_lst (m := 0) (by decide) fun x hx => ?_, okD_nil, ?_⟩
      · unfold lcL at hx
        obtain ⟨i, hi, e⟩ := List.mem_filterMap.mp hx
        rw [List.mem_range] at hi
        split at e
        · cases e
        · cases e
          refine chkx_str ?_
          have := h.1
          unfold okX at this ⊢
          rw [List.all_eq_true] at this
          simp only [List.all_cons, List.all_nil, Bool.and_true]
          refine this _ ?_
          rw [List.getD_eq_getElem?_getD, List.getElem?_eq_getElem hi]
          exact List.getElem_mem hi
      · rw [deq_lst, deqs_nil]
        congr 3
        rw [Bool.eq_iff_iff]
        unfold small lcL
        rw [List.isEmpty_iff, List.filterMap_eq_nil_iff, List.all_eq_true]
        constructor
        · intro z c hc
          obtain ⟨i, hi, e⟩ := List.mem_iff_getElem.mp hc
          have := z i (List.mem_range.mpr hi)
          rw [List.getD_eq_getElem?_getD, List.getElem?_eq_getElem hi, Option.getD_some, e] at this
          split at this
          · rename_i q; exact decide_eq_true q
          · cases this
        · intro z i hi
          rw [List.mem_range] at hi
          have := of_decide_eq_true (z _ (List.getElem_mem hi))
          rw [List.getD_eq_getElem?_getD, List.getElem?_eq_getElem hi, Option.getD_some, if_pos this]
  · exact h.elim
theorem r_need_text : Law p_need_text ["thing"] 1 (conP pre_need_text f_need_text) := fun ars h => by
  have h : pre_need_text ars := h
  unfold pre_need_text at h
  split at h
  · rename_i l _
    refine ⟨rfl, ?_⟩
    unfold p_need_text endsA
    walk_at "rd"
    simp only [pre_is_text, f_is_text, h.1, small_okX h.1, h.2]
    walk_at "rd"
    trivial
  · exact h.elim
theorem r_only_words : Law p_only_words ["book"] 1 (conP pre_only_words f_only_words) := fun ars h => by
  have h : pre_only_words ars := h
  unfold pre_only_words at h
  split at h
  · refine ⟨rfl, ?_⟩
    unfold p_only_words endsA
    walk_at "rd"
    exact ⟨_, h, rfl⟩
  · exact h.elim
theorem r_words_from : Law p_words_from ["words", "text", "place", "pieces", "many", "piece"] 3 (conP pre_words_from f_words_from) := fun ars h => by
  have h : pre_words_from ars := h
  unfold pre_words_from at h
  split at h
  · rename_i kvs l p _
    obtain ⟨h1, h2, h3⟩ := h
    refine ⟨rfl, ?_⟩
    unfold p_words_from endsA
    walk_at "rd"
    have hn : ((if (l.length : Int) - p < 12 then (l.length : Int) - p else 12) + 1 - 1).toNat = min 12 (l.length - p.toNat) := by split <;> omega
    refine ⟨h3, by unfold smallI; omega, by unfold smallI; split <;> omega, ?_⟩
    rw [hn]
    refine lc_run (fun k => some (.str ((l.drop p.toNat).take (k + 1)))) trivial (by omega) (fun k hk => ⟨_, rfl, fun J hJ => ?_⟩) ?_
    · walk_at "rd"
      rw [cut_ab h1 (by omega)]
      refine ⟨h3, ?_⟩
      have e : (p + (1 + (k : Int))).toNat - p.toNat = k + 1 := by omega
      rw [e]
      exact hJ
    · rw [lcL_all]
      unfold Then
      walk_at "rd"
      have e : (List.range (min 12 (l.length - p.toNat))).map (fun k => D.str (List.take (k + 1) (List.drop p.toNat l))) = ((List.range (min 12 (l.length - p.toNat))).map fun k => List.take (k + 1) (List.drop p.toNat l)).map D.str := by rw [List.map_map]; rfl
      rw [e]
      generalize hx : ((List.range (min 12 (l.length - p.toNat))).map fun k => List.take (k + 1) (List.drop p.toNat l)) = xs
      have hl : xs.length ≤ 12 := by rw [← hx, List.length_map, List.length_range]; omega
      have e2 : ∀ i, i < xs.length → itL (xs.map D.str) i = .str (xs.getD i []) := fun i hi => by
        unfold itL
        rw [List.getD_eq_getElem?_getD, List.getD_eq_getElem?_getD, List.getElem?_map, List.getElem?_eq_getElem hi]
        rfl
      refine lc_run (fun i => if hasK kvs (.inr (xs.getD i [])) = true then some (.str (xs.getD i [])) else none) rfl (by rw [List.length_map]; omega) (fun k hk => ?_) ?_
      · rw [List.length_map] at hk
        rw [e2 k hk]
        refine ⟨_, rfl, fun J hJ => ?_⟩
        walk_at "rd"
        cases q : hasK kvs (.inr (xs.getD k []))
        · rw [q] at hJ
          walk_at "rd"
          exact hJ
        · rw [q] at hJ
          walk_at "rd"
          exact hJ
      · rw [List.length_map, lcL_map xs [] (fun x => hasK kvs (.inr x)) D.str]
        walk_at "rd"
        unfold f_words_from wordsFrom
        rw [← hx]
  · exact h.elim
local macro_rules | `(tactic| walk_at "rd") => `(tactic| simp (config := { decide := true }) only [pSeq_then, pNext, pNever, pBreak, pCont, pDrop, pRet, pRetN, pIf, pSet, pSetD, setD, setP, setO, pVar, pC, pOp2, pTest, pAnd, pOr, pNot, pAndV, pOrV, pNotV, pIfE, pNil, pCons, pLst, pTup, pDict0, pDictC, pCall, pIsiP, pM1, bJoin, pNo, pPart, pSl, pSortI, pLM, lAppend, lInsert, lExtend, lPopAt, pLc_eq, pFor_eq, pItL, pItS, pRng1, pRng2, pLr3, pNeg, pCalls, callP, toAR, R.fz, view, views, dats, O.toD, AR.toR, bAdd, bSub, bMul, bDiv, bMod, bPow, bEq, bCmp, bIn, bIs, bIx, bSl, cLen, cMin2, cMax2, cInt, cList, cDict, cSorted, plainD, isiB, tyn, pAsg, tgT, tgU, setsA, pSetIx, storeO, kdOf, pChain, cmpD, pYes, pTru, truD, Hand, tgN, wipeA, fnAbs, envA, ownsA, retA, conP, conN, List.set, List.set_cons_zero, List.set_cons_succ, List.set_nil, List.getElem?_cons_zero, List.getElem?_cons_succ, List.getElem?_nil, List.length_cons, List.length_nil, List.cons_append, List.nil_append, List.append_nil, List.replicate, Nat.reduceSub, Nat.reduceAdd, Nat.zero_add, true_and, and_true, reduceIte, Bool.false_eq_true, id, Bool.not_true, Bool.not_false, List.nodup_nil, List.nodup_cons, List.not_mem_nil, not_false_eq_true, List.take_zero, List.take_succ_cons, List.take_nil, List.map_cons, List.map_nil])
theorem for_run {n : Nat} {it : Nat → D} {C : List (Option O) → Prop} {tg : PTG} {body : PTS} {P : PEnds} {A1 : Abs} (Inv : Nat → Abs → Prop) (h0 : Inv 0 A1) (hC : ∀ i A', i ≤ n → Inv i A' → C A'.M)
    (hs : ∀ i A', i < n → Inv i A' → ∃ env', tg (it i) A'.env = some env' ∧ ∀ J : Abs → Prop, (∀ A, Inv (i + 1) A → J A) → body { P with nx := J, ct := J, bk := P.nx } ⟨env', A'.M⟩) (hd : ∀ A', Inv n A' → P.nx A') : ForP n it C tg body P A1 :=
  ⟨Inv, h0, hC, fun i A' hi hA => by
    obtain ⟨e, h1, h2⟩ := hs i A' hi hA
    exact ⟨e, h1, h2 _ fun _ h => h⟩, hd⟩
theorem p64 : (1000000000 : Int) = 10 ^ Int.toNat 9 := by decide
theorem small_append {a b : Tx} (ha : small a = true) (hb : small b = true) : small (a ++ b) = true := by
  unfold small at *
  rw [List.all_append, ha, hb]
  rfl
theorem small_take {a : Tx} (ha : small a = true) (n : Nat) : small (a.take n) = true := by
  unfold small at *
  rw [List.all_eq_true] at *
  exact fun x hx => ha x (List.mem_of_mem_take hx)
theorem small_drop {a : Tx} (ha : small a = true) (n : Nat) : small (a.drop n) = true := by
  unfold small at *
  rw [List.all_eq_true] at *
  exact fun x hx => ha x (List.mem_of_mem_drop hx)
theorem small_one {l : Tx} {c : Nat} (h : small l = true) (hc : c ∈ l) : small [c] = true := by
  unfold small at *
  rw [List.all_eq_true] at h
  simp only [List.all_cons, List.all_nil, Bool.and_true]
  exact h c hc
theorem kvs_keys {ps : List (Tx × Int)} : (ps.map fun p => ((.inr p.1, .int p.2) : Kd × D)).map (fun p => kD p.1) = (ps.map (·.1)).map D.str := by
  rw [List.map_map, List.map_map]
  rfl
theorem join_small {a : Tx} {ls : List Tx} (h : ∀ l ∈ ls, small l = true) : small ls.flatten = true := by
  unfold small
  rw [List.all_eq_true]
  intro c hc
  obtain ⟨l, hl, hcl⟩ := List.mem_flatten.mp hc
  have := h l hl
  unfold small at this
  rw [List.all_eq_true] at this
  exact this c hcl
theorem putD_words {ps : List (Tx × Int)} {k : Tx} {v : Int} (hw : ∀ p ∈ ps, isWord p.1) (hn : (ps.map (·.1)).Nodup) (hk : isWord k) :
    ∃ qs : List (Tx × Int), putD (ps.map fun p => (.inr p.1, .int p.2)) (.inr k) (.int v) = qs.map (fun p => (.inr p.1, .int p.2)) ∧ (∀ p ∈ qs, isWord p.1) ∧ (qs.map (·.1)).Nodup ∧ qs.length ≤ ps.length + 1 := by
  unfold putD
  split
  · refine ⟨ps.map fun p => if p.1 = k then (p.1, v) else p, ?_, fun p hp => ?_, ?_, by rw [List.length_map]; omega⟩
    · rw [List.map_map, List.map_map]
      apply List.map_congr_left
      intro p hp
      simp only [Function.comp]
      by_cases e : p.1 = k
      · simp [e]
      · simp [e]
    · obtain ⟨q, hq, rfl⟩ := List.mem_map.mp hp
      split
      · exact hw q hq
      · exact hw q hq
    · rw [List.map_map]
      have e : ((fun p : Tx × Int => p.1) ∘ fun p : Tx × Int => if p.1 = k then (p.1, v) else p) = fun p => p.1 := by
        funext p
        simp only [Function.comp]
        split <;> rfl
      rw [e]
      exact hn
  · rename_i hh
    refine ⟨ps ++ [(k, v)], by simp, fun p hp => ?_, ?_, by simp⟩
    · rcases List.mem_append.mp hp with hp | hp
      · exact hw p hp
      · rw [List.mem_singleton] at hp
        rw [hp]
        exact hk
    · rw [List.map_append, List.nodup_append]
      refine ⟨hn, by simp, fun x hx y hy e => ?_⟩
      have : y = k := by simpa using hy
      subst this
      subst e
      obtain ⟨p, hp, rfl⟩ := List.mem_map.mp hx
      apply hh
      unfold hasK
      rw [List.any_eq_true]
      exact ⟨(.inr p.1, .int p.2), List.mem_map.mpr ⟨p, hp, rfl⟩, by simp⟩
/-- pairs sorted by their words -/
def srtP (ps : List (Tx × Int)) : List (Tx × Int) := ps.mergeSort fun a b => tle a.1 b.1
theorem srtP_perm (ps : List (Tx × Int)) : (srtP ps).Perm ps := List.mergeSort_perm _ _
theorem srtP_strict {ps : List (Tx × Int)} (hn : (ps.map (·.1)).Nodup) : ((srtP ps).map (·.1)).Pairwise (· < ·) := by
  have h1 : (srtP ps).Pairwise fun a b => tle a.1 b.1 = true := List.pairwise_mergeSort (le := fun a b : Tx × Int => tle a.1 b.1) (fun a b c h1 h2 => tle_iff.mpr (List.le_trans (tle_iff.mp h1) (tle_iff.mp h2))) (fun a b => by
    rw [Bool.or_eq_true, tle_iff, tle_iff]
    exact List.le_total a.1 b.1) ps
  have h2 : ((srtP ps).map (·.1)).Nodup := ((srtP_perm ps).map (·.1)).nodup_iff.mpr hn
  rw [List.pairwise_map]
  rw [List.nodup_iff_pairwise_ne, List.pairwise_map] at h2
  refine (h1.and h2).imp fun {a b} ⟨h1, h2⟩ => ?_
  by_cases e : a.1 < b.1
  · exact e
  · exact absurd (List.le_antisymm (tle_iff.mp h1) (List.not_lt.mp e)) h2
theorem srt_rows {ps : List (Tx × Int)} (hn : (ps.map (·.1)).Nodup) : srt (ps.map fun p => pairD (.inr p.1, .int p.2)) = (srtP ps).map fun p => pairD (.inr p.1, .int p.2) :=
  srt_pairs (g := D.int) (srtP_perm ps) (srtP_strict hn)
theorem pairs_sorted {ps : List (Tx × Int)} (hw : ∀ p ∈ ps, isWord p.1) (hn : (ps.map (·.1)).Nodup) : srtOk ((ps.map fun p => ((.inr p.1, .int p.2) : Kd × D)).map pairD) ∧ Book (srt ((ps.map fun p => ((.inr p.1, .int p.2) : Kd × D)).map pairD)) := by
  have e : (ps.map fun p => ((.inr p.1, .int p.2) : Kd × D)).map pairD = ps.map fun p => pairD (.inr p.1, .int p.2) := by rw [List.map_map]; rfl
  rw [e]
  exact ⟨srtOk_pairs fun p hp => small_okX (hw p hp).1, srtP ps, srt_rows hn, fun p hp => hw p ((srtP_perm ps).mem_iff.mp hp), srtP_strict hn⟩
theorem mem_book {ds : List D} (h : Book ds) {d : D} (hd : d ∈ ds) : ∃ l v, d = .tup [.str l, .int v] ∧ isWord l := by
  obtain ⟨ps, rfl, hw, _⟩ := h
  obtain ⟨p, hp, rfl⟩ := List.mem_map.mp hd
  exact ⟨_, _, rfl, hw p hp⟩
theorem book_okD {ds : List D} (h : Book ds) : okD (.lst ds) := okD_lst (m := 1) (by decide) fun x hx => by
  obtain ⟨l, v, rfl, hl⟩ := mem_book h hx
  have := chkx_str (small_okX hl.1)
  refine ⟨?_, by simp [dep, deps]⟩
  simp only [chk, chks, Bool.and_true]
  have := this.1
  simp only [chk] at this
  exact this
theorem for_run2 {n : Nat} {it : Nat → D} {C : List (Option O) → Prop} {tg : PTG} {body : PTS} {P : PEnds} {A1 : Abs} (Inv : Nat → Abs → Prop) (h0 : Inv 0 A1) (hC : ∀ i A', i ≤ n → Inv i A' → C A'.M)
    (hs : ∀ i A', i < n → Inv i A' → ∃ env', tg (it i) A'.env = some env' ∧ ∀ J Kb : Abs → Prop, (∀ A, Inv (i + 1) A → J A) → body { nx := J, rt := P.rt, bk := Kb, ct := J, ex := P.ex } ⟨env', A'.M⟩) (hd : ∀ A', Inv n A' → P.nx A') : ForP n it C tg body P A1 :=
  ⟨Inv, h0, hC, fun i A' hi hA => by
    obtain ⟨e, h1, h2⟩ := hs i A' hi hA
    exact ⟨e, h1, h2 _ _ fun _ h => h⟩, hd⟩
local macro_rules | `(tactic| walk_at "rd") => `(tactic| simp (config := { decide := true }) only [pSeq_then, pNext, pNever, pBreak, pCont, pDrop, pRet, pRetN, pIf, pSet, pSetD, setD, setP, setO, pVar, pC, pOp2, pTest, pAnd, pOr, pNot, pAndV, pOrV, pNotV, pIfE, pNil, pCons, pLst, pTup, pDict0, pDictC, pCall, pIsiP, pM1, bJoin, pNo, pPart, pSl, pSortI, pLM, lAppend, lInsert, lExtend, lPopAt, pLc_eq, pFor_eq, pItL, pItS, pRng1, pRng2, pLr3, pNeg, pCalls, callP, toAR, R.fz, view, views, dats, O.toD, AR.toR, bAdd, bSub, bMul, bDiv, bMod, bPow, bEq, bCmp, bIn, bIs, bIx, bSl, cLen, cMin2, cMax2, cInt, cList, cDict, cSorted, plainD, isiB, tyn, pAsg, tgT, tgU, setsA, pSetIx, storeO, kdOf, pChain, cmpD, pYes, pTru, truD, Hand, tgN, wipeA, fnAbs, envA, ownsA, retA, conP, conN, List.set, List.set_cons_zero, List.set_cons_succ, List.set_nil, List.getElem?_cons_zero, List.getElem?_cons_succ, List.getElem?_nil, List.length_cons, List.length_nil, List.cons_append, List.nil_append, List.append_nil, List.replicate, Nat.reduceSub, Nat.reduceAdd, Nat.zero_add, true_and, and_true, reduceIte, Bool.false_eq_true, id, Bool.not_true, Bool.not_false, List.nodup_nil, List.nodup_cons, List.not_mem_nil, not_false_eq_true, List.take_zero, List.take_succ_cons, List.take_nil, List.map_cons, List.map_nil])
theorem book_un {ds : List D} (h : Book ds) : ds = (ds.map unpair).map pairD := by
  obtain ⟨ps, rfl, _, _⟩ := h
  rw [List.map_map, List.map_map]
  rfl
theorem words_ok {kvs : List (Kd × D)} {l : Tx} (p : Nat) (hl : small l = true) : okD (.lst ((wordsFrom kvs l p).map .str)) := okD_lst (m := 0) (by decide) fun x hx => by
  obtain ⟨w, hw, rfl⟩ := List.mem_map.mp hx
  refine chkx_str (small_okX ?_)
  unfold wordsFrom at hw
  obtain ⟨k, _, rfl⟩ := List.mem_map.mp (List.mem_filter.mp hw).1
  exact small_take (small_drop hl _) _
theorem words_len {kvs : List (Kd × D)} {l : Tx} (p : Nat) : (wordsFrom kvs l p).length ≤ 12 := by
  unfold wordsFrom
  refine Nat.le_trans (List.length_filter_le _ _) ?_
  rw [List.length_map, List.length_range]
  omega
theorem itL_mem {xs : List D} {i : Nat} (h : i < xs.length) : itL xs i ∈ xs := by
  unfold itL
  rw [List.getD_eq_getElem?_getD, List.getElem?_eq_getElem h]
  exact List.getElem_mem h
local macro_rules | `(tactic| walk_at "rd") => `(tactic| simp (config := { decide := true }) only [pSeq_then, pNext, pNever, pBreak, pCont, pDrop, pRet, pRetN, pIf, pSet, pSetD, setD, setP, setO, pVar, pC, pOp2, pTest, pAnd, pOr, pNot, pAndV, pOrV, pNotV, pIfE, pNil, pCons, pLst, pTup, pDict0, pDictC, pCall, pIsiP, pM1, bJoin, pNo, pPart, pSl, pSortI, pLM, lAppend, lInsert, lExtend, lPopAt, pLc_eq, pFor_eq, pItL, pItS, pRng1, pRng2, pLr3, pNeg, pCalls, callP, toAR, R.fz, view, views, dats, O.toD, AR.toR, bAdd, bSub, bMul, bDiv, bMod, bPow, bEq, bCmp, bIn, bIs, bIx, bSl, cLen, cMin2, cMax2, cInt, cList, cDict, cSorted, plainD, isiB, tyn, pAsg, tgT, tgU, setsA, pSetIx, storeO, kdOf, pChain, cmpD, pYes, pTru, truD, Hand, tgN, wipeA, fnAbs, envA, ownsA, retA, conP, conN, List.set, List.set_cons_zero, List.set_cons_succ, List.set_nil, List.getElem?_cons_zero, List.getElem?_cons_succ, List.getElem?_nil, List.length_cons, List.length_nil, List.cons_append, List.nil_append, List.append_nil, List.replicate, Nat.reduceSub, Nat.reduceAdd, Nat.zero_add, true_and, and_true, reduceIte, Bool.false_eq_true, id, Bool.not_true, Bool.not_false, List.nodup_nil, List.nodup_cons, List.not_mem_nil, not_false_eq_true, List.take_zero, List.take_succ_cons, List.take_nil, List.map_cons, List.map_nil])
local macro_rules | `(tactic| walk_at "rd") => `(tactic| simp only [pSeq_then, pNext, pNever, pBreak, pCont, pDrop, pRet, pRetN, pIf, pSet, pSetD, setD, setP, setO, pVar, pC, pOp2, pTest, pAnd, pOr, pNot, pAndV, pOrV, pNotV, pIfE, pNil, pCons, pLst, pTup, pDict0, pCall, pIsiP, pM1, pNo, pPart, pSl, pSortI, pLM, pLc_eq, pFor_eq, pItL, pItS, pRng1, pRng2, pCalls, callP, callN, toAR, R.fz, view, views, dats, O.toD, AR.toR, bAdd, bSub, bEq, bCmp, bIn, bIs, bIx, bSl, cLen, cMin2, cMax2, cInt, cList, cDict, cSorted, plainD, isiB, tyn, pAsg, pChain, cmpD, pYes, pTru, truD, Hand, pGc, tgN, wipeA, fnAbs, envA, ownsA, retA, conP, conN, List.set, List.set_cons_zero, List.set_cons_succ, List.set_nil, List.getElem?_cons_zero, List.getElem?_cons_succ, List.getElem?_nil, List.length_cons, List.length_nil, List.cons_append, List.nil_append, List.append_nil, List.replicate, Nat.reduceSub, Nat.reduceAdd, Nat.zero_add, true_and, and_true, reduceIte, Bool.false_eq_true, id, Bool.not_true, Bool.not_false, List.nodup_nil, List.nodup_cons, List.not_mem_nil, not_false_eq_true, List.take_zero, List.take_succ_cons, List.take_nil])
theorem r_is_whole : Law p_is_whole ["thing"] 1 (conP pre_is_whole f_is_whole) := fun ars h => by
  have h : pre_is_whole ars := h
  unfold pre_is_whole at h
  split at h
  · refine ⟨rfl, ?_⟩
    unfold p_is_whole endsA f_is_whole
    walk_at "rd"
    simp
  · exact h.elim
theorem r_words_at : Law p_words_at ["book", "text", "place"] 3 (conP pre_words_at f_words_at) := fun ars h => by
  have h : pre_words_at ars := h
  unfold pre_words_at at h
  split at h
  · rename_i ds l p _
    obtain ⟨h0, h1, h2, h3, h4⟩ := h
    refine ⟨rfl, ?_⟩
    unfold p_words_at endsA
    walk_at "rd"
    simp only [pre_need_text, h1, h4, f_need_text]
    walk_at "rd"
    unfold Then
    walk_at "rd"
    simp only [pre_is_whole, f_is_whole]
    walk_at "rd"
    rw [decide_eq_true h2, decide_eq_true h3]
    walk_at "rd"
    refine ⟨h4, ?_⟩
    unfold Then
    walk_at "rd"
    simp only [pre_only_words, h0, f_only_words, pre_words_from, h2, h3, h4, f_words_from]
    walk_at "rd"
    exact ⟨⟨h2, h3, h4⟩, rfl⟩
  · exact h.elim
local macro_rules | `(tactic| walk_at "rd") => `(tactic| simp (config := { decide := true }) only [pSeq_then, pNext, pNever, pBreak, pCont, pDrop, pRet, pRetN, pIf, pSet, pSetD, setD, setP, setO, pVar, pC, pOp2, pTest, pAnd, pOr, pNot, pAndV, pOrV, pNotV, pIfE, pNil, pCons, pLst, pTup, pDict0, pDictC, pCall, pIsiP, pM1, bJoin, pNo, pPart, pSl, pSortI, pLM, lAppend, lInsert, lExtend, lPopAt, pLc_eq, pFor_eq, pItL, pItS, pRng1, pRng2, pRng3, pVarF, pAug, pDictLen, pLr3, pNeg, pCalls, callP, f_only_words, f_words_from, f_need_text, toAR, R.fz, view, views, dats, O.toD, AR.toR, bAdd, bSub, bMul, bDiv, bMod, bPow, bEq, bCmp, bIn, bIs, bIx, bSl, cLen, cMin2, cMax2, cInt, cList, cDict, cSorted, plainD, isiB, tyn, pAsg, tgT, tgU, setsA, pSetIx, storeO, kdOf, pChain, cmpD, pYes, pTru, truD, Hand, tgN, wipeA, fnAbs, envA, ownsA, retA, conP, conN, List.set, List.set_cons_zero, List.set_cons_succ, List.set_nil, List.getElem?_cons_zero, List.getElem?_cons_succ, List.getElem?_nil, List.length_cons, List.length_nil, List.cons_append, List.nil_append, List.append_nil, List.replicate, Nat.reduceSub, Nat.reduceAdd, Nat.zero_add, true_and, and_true, reduceIte, Bool.false_eq_true, id, Bool.not_true, Bool.not_false, List.nodup_nil, List.nodup_cons, List.not_mem_nil, not_false_eq_true, List.take_zero, List.take_succ_cons, List.take_nil, List.map_cons, List.map_nil])
theorem back_len (W : Nat → List Tx) (n : Nat) : ∀ k, (back W n k).length = k + 1
  | 0 => rfl
  | k + 1 => by show ((_ : Bool) :: back W n k).length = _; rw [List.length_cons, back_len W n k]
theorem wds_eq (kvs : List (Kd × D)) (l : Tx) (p : Nat) : ∀ w ∈ wordsFrom kvs l p, 1 ≤ w.length ∧ p + w.length ≤ l.length ∧ w.length ≤ 12 := fun w hw => by
  unfold wordsFrom at hw
  obtain ⟨k, hk, rfl⟩ := List.mem_map.mp (List.mem_filter.mp hw).1
  rw [List.mem_range] at hk
  rw [List.length_take, List.length_drop]
  omega
theorem rep_set {α : Type} (x b : α) (B : List α) : ∀ m : Nat, (List.replicate (m + 1) x ++ B).set m b = List.replicate m x ++ b :: B
  | 0 => rfl
  | m + 1 => by
    rw [List.replicate_succ, List.cons_append, List.set_cons_succ, rep_set x b B m, List.replicate_succ, List.cons_append]
theorem any_bl (xs : List Bool) : (xs.map D.bl).any (fun z => deq z (.bl true)) = xs.any id := by
  induction xs with
  | nil => rfl
  | cons x r ih =>
    rw [List.map_cons, List.any_cons, List.any_cons, ih, deq_bl]
    cases x <;> rfl
theorem range_getD {α β : Type} (xs : List α) (z : α) (g : α → β) : (List.range xs.length).map (fun i => g (xs.getD i z)) = xs.map g := by
  apply List.ext_getElem?
  intro i
  rw [List.getElem?_map, List.getElem?_map]
  by_cases h : i < xs.length
  · rw [List.getElem?_range h, List.getElem?_eq_getElem h]
    show some (g (xs.getD i z)) = some (g xs[i])
    rw [List.getD_eq_getElem?_getD, List.getElem?_eq_getElem h]
    rfl
  · rw [List.getElem?_eq_none (by rw [List.length_range]; omega), List.getElem?_eq_none (by omega)]
    rfl
theorem r_places_back : Law p_places_back ["book", "text", "words", "good", "place", "word"] 2 (conP pre_places_back f_places_back) := fun ars h => by
  have h : pre_places_back ars := h
  unfold pre_places_back at h
  split at h
  · rename_i ds l _
    obtain ⟨hB, hl, hll⟩ := h
    refine ⟨rfl, ?_⟩
    unfold p_places_back endsA
    walk_at "rd"
    refine ⟨⟨hl, by omega⟩, ?_⟩
    rw [then_eq]
    walk_at "rd"
    refine ⟨hB, ?_⟩
    rw [then_eq]
    walk_at "rd"
    rw [Int.toNat_natCast, rep_flat]
    refine ⟨by omega, ⟨by omega, by omega, by omega⟩, by rw [List.length_replicate]; omega, ?_⟩
    rw [then_eq]
    walk_at "rd"
    have hrn : ((l.length : Int) - 1 - -1).toNat = l.length := by omega
    refine ⟨by omega, l.length, by have := RgC.neg (i := (l.length : Int) - 1) (j := -1) (by omega) (by omega) (by omega) (by omega); rwa [hrn] at this, ?_⟩
    let W := wds ds l
    refine for_run2 (fun k A => ∃ x : AV, A = ⟨[AV.d (.lst ds), AV.d (.str l), AV.d (.dic (dictOf ds)), AV.p 0, x, .un], [some (.lst ((List.replicate (l.length - k) false ++ back W l.length k).map .bl))]⟩)
      ⟨.un, by rw [List.map_append, List.map_replicate]; rfl⟩ (fun _ _ _ _ => trivial) ?_ ?_
    · rintro k A hk ⟨x, rfl⟩
      refine ⟨_, rfl, fun J Kb hJ => ?_⟩
      obtain ⟨m, hm⟩ : ∃ m, l.length = k + m + 1 := ⟨l.length - k - 1, by omega⟩
      have e : (l.length : Int) - 1 + (k : Int) * -1 = (m : Int) := by omega
      have e2 : l.length - k = m + 1 := by omega
      have e3 : l.length - (k + 1) = m := by omega
      have hlen : ((List.replicate (l.length - k) false ++ back W l.length k).map D.bl).length = l.length + 1 := by
        rw [List.length_map, List.length_append, List.length_replicate, back_len]; omega
      rw [e]
      unfold pGc
      dsimp only
      walk_at "rd"
      refine ⟨⟨by omega, by omega, by omega⟩, ?_⟩
      refine lc_run (fun i => some (.bl ((back W l.length k).getD (((wordsFrom (dictOf ds) l m).getD i []).length - 1) false))) trivial (by rw [List.length_map]; have := words_len (kvs := dictOf ds) (l := l) (m : Int).toNat; omega) (fun i hi => ?_) ?_
      · rw [List.length_map] at hi
        have hi : i < (wordsFrom (dictOf ds) l m).length := hi
        have ei : itL ((wordsFrom (dictOf ds) l (m : Int).toNat).map D.str) i = .str ((wordsFrom (dictOf ds) l m).getD i []) := by
          unfold itL
          show ((wordsFrom (dictOf ds) l m).map D.str).getD i .non = _
          rw [List.getD_eq_getElem?_getD, List.getD_eq_getElem?_getD, List.getElem?_map, List.getElem?_eq_getElem hi]
          rfl
        rw [ei]
        refine ⟨_, rfl, fun J2 hJ2 => ?_⟩
        have hw : (wordsFrom (dictOf ds) l m).getD i [] ∈ wordsFrom (dictOf ds) l m := by
          rw [List.getD_eq_getElem?_getD, List.getElem?_eq_getElem hi]
          exact List.getElem_mem hi
        obtain ⟨h1, h2, h3⟩ := wds_eq _ _ _ _ hw
        generalize (wordsFrom (dictOf ds) l m).getD i [] = w at h1 h2 h3 hJ2 ⊢
        walk_at "rd"
        have ea : (m : Int) + (w.length : Int) = ((m + w.length : Nat) : Int) := by omega
        refine ⟨by omega, _, by rw [ea]; exact atI_nat (by rw [hlen]; omega), ?_⟩
        have eq : (List.map D.bl (List.replicate (l.length - k) false ++ back W l.length k))[m + w.length]'(by rw [hlen]; omega) = .bl ((back W l.length k).getD (w.length - 1) false) := by
          rw [List.getElem_map, List.getElem_append_right (by rw [List.length_replicate]; omega), getD_of (by rw [back_len]; omega)]
          congr 2
          rw [List.length_replicate]
          omega
        rw [eq]
        exact hJ2
      · walk_at "rd"
        have eL : lcL (List.map D.str (wordsFrom (dictOf ds) l (m : Int).toNat)).length (fun i => some (D.bl ((back W l.length k).getD (((wordsFrom (dictOf ds) l m).getD i []).length - 1) false))) = ((wordsFrom (dictOf ds) l m).map fun w => (back W l.length k).getD (w.length - 1) false).map D.bl := by
          rw [lcL_all, List.length_map]
          show (List.range (wordsFrom (dictOf ds) l m).length).map (fun i => D.bl ((back W l.length k).getD (((wordsFrom (dictOf ds) l m).getD i []).length - 1) false)) = _
          rw [range_getD (wordsFrom (dictOf ds) l m) [] (fun w => D.bl ((back W l.length k).getD (w.length - 1) false)), List.map_map]
          rfl
        rw [eL, any_bl]
        refine ⟨⟨rfl, Nat.zero_le _⟩, okD_lst (m := 0) (by decide) fun x hx => ?_, m, by rw [hlen]; exact ixN_nat (by omega), ?_⟩
        · obtain ⟨b, _, rfl⟩ := List.mem_map.mp hx
          exact ⟨rfl, Nat.le_refl _⟩
        · refine hJ _ ⟨.d (.int m), ?_⟩
          have st : (List.map D.bl (List.replicate (l.length - k) false ++ back W l.length k)).set m (D.bl ((List.map (fun w => (back W l.length k).getD (w.length - 1) false) (wordsFrom (dictOf ds) l m)).any id)) = List.map D.bl (List.replicate (l.length - (k + 1)) false ++ back W l.length (k + 1)) := by
            rw [← List.map_set, e2, rep_set, e3]
            show _ = List.map D.bl (List.replicate m false ++ (((W (l.length - (k + 1))).any fun w => (back W l.length k).getD (w.length - 1) false) :: back W l.length k))
            rw [e3, List.any_map]
            rfl
          rw [st]
          rfl
    · rintro A ⟨x, rfl⟩
      dsimp only
      rw [then_eq]
      walk_at "rd"
      refine ⟨_, rfl, ?_⟩
      rw [Nat.sub_self]
      rfl
  · exact h.elim
theorem path_small {kvs : List (Kd × D)} {l : Tx} {g : List Bool} {n : Nat} (hl : small l = true) : ∀ (f p : Nat) (w : Tx), w ∈ path (wordsFrom kvs l) g n f p → small w = true
  | 0, _, _, h => by simp [path] at h
  | f + 1, p, w, h => by
    unfold path at h
    split at h
    · split at h
      · rename_i v e
        rcases List.mem_cons.mp h with rfl | h
        · have := List.mem_of_find?_eq_some e
          unfold wordsFrom at this
          obtain ⟨k, _, rfl⟩ := List.mem_map.mp (List.mem_filter.mp this).1
          exact small_take (small_drop hl _) _
        · exact path_small hl f _ w h
      · simp at h
    · simp at h
theorem back_drop (W : Nat → List Tx) (n k : Nat) : ∀ j, (back W n (j + k)).drop j = back W n k
  | 0 => by rw [Nat.zero_add]; rfl
  | j + 1 => by
    have : j + 1 + k = (j + k) + 1 := by omega
    rw [this]
    show ((_ : Bool) :: back W n (j + k)).drop (j + 1) = _
    rw [List.drop_succ_cons, back_drop W n k j]
theorem back_get (W : Nat → List Tx) {n k : Nat} (hk : k ≤ n) (i : Nat) : (back W n n).getD (n - k + i) false = (back W n k).getD i false := by
  have := back_drop W n k (n - k)
  rw [Nat.sub_add_cancel hk] at this
  rw [← this, List.getD_eq_getElem?_getD, List.getD_eq_getElem?_getD, List.getElem?_drop]
theorem good_at (W : Nat → List Tx) {n p : Nat} (hW : ∀ w ∈ W p, 1 ≤ w.length) (hp : p < n) : (back W n n).getD p false = (W p).any fun w => (back W n n).getD (p + w.length) false := by
  obtain ⟨k, hk⟩ : ∃ k, n = p + k + 1 := ⟨n - p - 1, by omega⟩
  have e := back_get W (n := n) (k := k + 1) (by omega) 0
  have e1 : n - (k + 1) + 0 = p := by omega
  rw [e1] at e
  rw [e]
  have e2 : n - (k + 1) = p := by omega
  show (((W (n - (k + 1))).any fun w => (back W n k).getD (w.length - 1) false) :: back W n k).getD 0 false = _
  rw [e2]
  show ((W p).any fun w => (back W n k).getD (w.length - 1) false) = _
  rw [Bool.eq_iff_iff, List.any_eq_true, List.any_eq_true]
  have q : ∀ w ∈ W p, (back W n k).getD (w.length - 1) false = (back W n n).getD (p + w.length) false := fun w hw => by
    rw [← back_get W (n := n) (k := k) (by omega) (w.length - 1)]
    have := hW w hw
    congr 1
    omega
  exact ⟨fun ⟨w, hw, h⟩ => ⟨w, hw, by rw [← q w hw]; exact h⟩, fun ⟨w, hw, h⟩ => ⟨w, hw, by rw [q w hw]; exact h⟩⟩
theorem path_end (W : Nat → List Tx) (g : List Bool) {n p : Nat} (h : n ≤ p) : ∀ f, path W g n f p = []
  | 0 => rfl
  | f + 1 => by
    unfold path
    rw [if_neg (by omega)]
theorem path_step (W : Nat → List Tx) (g : List Bool) {n p f : Nat} {w : Tx} (h : p < n) (e : (W p).find? (fun w => g.getD (p + w.length) false) = some w) : path W g n (f + 1) p = w :: path W g n f (p + w.length) := by
  show (if p < n then _ else _) = _
  rw [if_pos h, e]
theorem find_filter {α : Type} (q : α → Bool) : ∀ xs : List α, (∃ x ∈ xs, q x = true) → ∃ w r, xs.filter q = w :: r ∧ xs.find? q = some w
  | [], h => by obtain ⟨x, hx, _⟩ := h; simp at hx
  | a :: r, h => by
    cases e : q a with
    | true => exact ⟨a, r.filter q, by rw [List.filter_cons, if_pos e], by rw [List.find?_cons, e]⟩
    | false =>
      obtain ⟨x, hx, hq⟩ := h
      have hx : x ∈ r := by
        rcases List.mem_cons.mp hx with rfl | hx
        · rw [e] at hq; cases hq
        · exact hx
      obtain ⟨w, r', h1, h2⟩ := find_filter q r ⟨x, hx, hq⟩
      exact ⟨w, r', by rw [List.filter_cons, if_neg (by rw [e]; exact Bool.false_ne_true)]; exact h1, by rw [List.find?_cons, e]; exact h2⟩
theorem goods_len (ds : List D) (l : Tx) : (goods ds l).length = l.length + 1 := back_len _ _ _
theorem itL_strs {xs : List Tx} {i : Nat} (h : i < xs.length) : itL (xs.map D.str) i = .str (xs.getD i []) := by
  unfold itL
  rw [List.getD_eq_getElem?_getD, List.getD_eq_getElem?_getD, List.getElem?_map, List.getElem?_eq_getElem h]
  rfl
theorem getD_mem {xs : List Tx} {i : Nat} (h : i < xs.length) : xs.getD i [] ∈ xs := by
  rw [List.getD_eq_getElem?_getD, List.getElem?_eq_getElem h]
  exact List.getElem_mem h
theorem r_first_cut : Law p_first_cut ["book", "text", "good", "words", "found", "place", "word", "one"] 2 (conP pre_first_cut f_first_cut) := fun ars h => by
  have h : pre_places_back ars := h
  unfold pre_places_back at h
  split at h
  · rename_i ds l _
    obtain ⟨hB, hl, hll⟩ := h
    refine ⟨rfl, ?_⟩
    unfold p_first_cut endsA
    walk_at "rd"
    refine ⟨⟨hB, hl, hll⟩, ?_⟩
    simp only [f_places_back]
    rw [then_eq]
    walk_at "rd"
    have gl := goods_len ds l
    have g0 : atI (List.map D.bl (goods ds l)) 0 = some (.bl ((goods ds l).getD 0 false)) := by
      rw [getD_of (by omega), ← List.getElem_map (f := D.bl) (h := by rw [List.length_map]; omega)]
      exact atI_nat (m := 0) (by rw [List.length_map]; omega)
    refine ⟨_, g0, ?_⟩
    dsimp only
    unfold f_first_cut firstCut
    cases hg : (goods ds l).getD 0 false
    · walk_at "rd"
      rw [hg]
      rfl
    · walk_at "rd"
      rw [then_eq]
      walk_at "rd"
      refine ⟨hB, ?_⟩
      rw [then_eq]
      walk_at "rd"
      rw [then_eq]
      walk_at "rd"
      rw [then_eq]
      rw [pSeq_then]
      unfold pWhile
      refine ⟨fun m A => ∃ (p f : Nat) (found : List Tx) (x : AV), A = ⟨[AV.d (.lst ds), AV.d (.str l), AV.d (.lst ((goods ds l).map .bl)), AV.d (.dic (dictOf ds)), AV.p 0, AV.d (.int p), x, .un], [some (.lst (found.map .str))]⟩ ∧ (∀ m, truncE m x = x) ∧ p ≤ l.length ∧ l.length < f + p ∧ found.length ≤ p ∧ (goods ds l).getD p false = true ∧
        found ++ path (wds ds l) (goods ds l) l.length f p = path (wds ds l) (goods ds l) l.length (l.length + 1) 0 ∧ m = l.length - p, ⟨_, 0, l.length + 1, [], .un, rfl, fun _ => rfl, by omega, by omega, Nat.le_refl _, hg, rfl, rfl⟩, ?_⟩
      rintro m A ⟨p, f, found, x, rfl, hx, hp, hf, hfl, hgp, hpa, rfl⟩
      walk_at "rd"
      refine ⟨by omega, ?_⟩
      split
      · rename_i hlt
        have hlt : p < l.length := by
          have := of_decide_eq_true hlt
          omega
        unfold pGc
        walk_at "rd"
        refine ⟨⟨by omega, by omega, by omega⟩, ?_⟩
        rw [Int.toNat_natCast]
        let q : Tx → Bool := fun w => (goods ds l).getD (p + w.length) false
        have hwd : ∀ w ∈ wordsFrom (dictOf ds) l p, 1 ≤ w.length ∧ p + w.length ≤ l.length ∧ w.length ≤ 12 := wds_eq (dictOf ds) l p
        have hany : ∃ w ∈ wordsFrom (dictOf ds) l p, q w = true := by
          have := good_at (wds ds l) (n := l.length) (p := p) (fun w hw => (hwd w hw).1) hlt
          have this : (goods ds l).getD p false = (wordsFrom (dictOf ds) l p).any q := this
          rw [hgp] at this
          exact List.any_eq_true.mp this.symm
        obtain ⟨w, r, hfil, hfind⟩ := find_filter q _ hany
        have hwm : w ∈ wordsFrom (dictOf ds) l p ∧ q w = true := by
          have : w ∈ (wordsFrom (dictOf ds) l p).filter q := by rw [hfil]; simp
          exact List.mem_filter.mp this
        obtain ⟨hw1, hw2, hw3⟩ := hwd w hwm.1
        refine lc_run (fun i => if q ((wordsFrom (dictOf ds) l p).getD i []) = true then some (.str ((wordsFrom (dictOf ds) l p).getD i [])) else none) trivial (by rw [List.length_map]; have := words_len (kvs := dictOf ds) (l := l) p; omega) (fun i hi => ?_) ?_
        · rw [List.length_map] at hi
          rw [itL_strs hi]
          refine ⟨_, rfl, fun J2 hJ2 => ?_⟩
          obtain ⟨h1, h2, h3⟩ := hwd _ (getD_mem hi)
          generalize (wordsFrom (dictOf ds) l p).getD i [] = v at h1 h2 h3 hJ2 ⊢
          walk_at "rd"
          have ea : (p : Int) + (v.length : Int) = ((p + v.length : Nat) : Int) := by omega
          have eq : (List.map D.bl (goods ds l))[p + v.length]'(by rw [List.length_map]; omega) = .bl (q v) := by
            rw [List.getElem_map]
            show _ = D.bl ((goods ds l).getD (p + v.length) false)
            rw [getD_of (by omega)]
          refine ⟨by omega, _, by rw [ea]; exact atI_nat (by rw [List.length_map]; omega), ?_⟩
          rw [eq]
          dsimp only
          cases hq : q v
          · rw [hq] at hJ2
            walk_at "rd"
            exact hJ2
          · rw [hq] at hJ2
            walk_at "rd"
            exact hJ2
        · rw [List.length_map, lcL_map (wordsFrom (dictOf ds) l p) [] q D.str, hfil]
          walk_at "rd"
          refine ⟨.str w, atI_nat (m := 0) (by simp), ?_⟩
          rw [then_eq]
          walk_at "rd"
          refine ⟨by rw [List.length_map]; omega, ?_⟩
          rw [then_eq]
          walk_at "rd"
          refine ⟨by omega, ?_⟩
          cases f with
          | zero => omega
          | succ f =>
            rw [path_step (wds ds l) (goods ds l) hlt hfind] at hpa
            refine ⟨l.length - (p + w.length), by omega, p + w.length, f, found ++ [w], .d (.str w), ?_, fun _ => rfl, by omega, by omega, by rw [List.length_append, List.length_singleton]; omega, hwm.2, by rw [List.append_assoc]; exact hpa, rfl⟩
            rw [List.map_append]
            rfl
      · rename_i hlt
        have hle : l.length ≤ p := by
          have : ¬ ((p : Int) < l.length) := fun z => hlt (decide_eq_true z)
          omega
        rw [then_eq]
        walk_at "rd"
        rw [path_end _ _ hle, List.append_nil] at hpa
        exact ⟨_, rfl, by rw [← hpa]⟩
  · exact h.elim
theorem hasK_put (kvs : List (Kd × D)) (k j : Kd) (v : D) : hasK (putD kvs k v) j = (hasK kvs j || decide (k = j)) := by
  unfold putD
  split
  · rename_i h
    unfold hasK at h ⊢
    rw [List.any_map]
    have e : ((fun p : Kd × D => decide (p.1 = j)) ∘ fun p : Kd × D => if p.1 = k then (p.1, v) else p) = fun p => decide (p.1 = j) := by
      funext p
      simp only [Function.comp]
      split <;> rfl
    rw [e]
    by_cases q : k = j
    · subst q
      rw [h]
      rfl
    · rw [decide_eq_false q, Bool.or_false]
  · unfold hasK
    rw [List.any_append]
    simp only [List.any_cons, List.any_nil, Bool.or_false]
theorem putD_len (kvs : List (Kd × D)) (k : Kd) (v : D) : (putD kvs k v).length ≤ kvs.length + 1 := by
  unfold putD
  split
  · rw [List.length_map]; omega
  · rw [List.length_append]; exact Nat.le_refl _
def GoodD (W : Nat → List Tx) (n k : Nat) (gd : List (Kd × D)) : Prop := gd.length ≤ k + 1 ∧ ∀ q : Nat, hasK gd (.inl (q : Int)) = (decide (n - k ≤ q) && (back W n n).getD q false)
theorem back_over (W : Nat → List Tx) {n q : Nat} (h : n < q) : (back W n n).getD q false = false := by
  rw [List.getD_eq_getElem?_getD, List.getElem?_eq_none (by rw [back_len]; omega)]
  rfl
theorem back_last (W : Nat → List Tx) (n : Nat) : (back W n n).getD n false = true := by
  have := back_get W (n := n) (k := 0) (Nat.zero_le n) 0
  rw [Nat.sub_zero, Nat.add_zero] at this
  rw [this]
  rfl
theorem GoodD_zero (W : Nat → List Tx) (n : Nat) (d : D) : GoodD W n 0 [(.inl (n : Int), d)] := by
  refine ⟨Nat.le_refl _, fun q => ?_⟩
  unfold hasK
  simp only [List.any_cons, List.any_nil, Bool.or_false, Nat.sub_zero]
  by_cases h : q = n
  · subst h
    rw [back_last, decide_eq_true rfl, decide_eq_true (Nat.le_refl _)]
    rfl
  · rw [decide_eq_false (fun e => h (by have := Sum.inl.inj e; omega))]
    by_cases h2 : n ≤ q
    · rw [back_over W (by omega), Bool.and_false]
    · rw [decide_eq_false h2, Bool.false_and]
theorem GoodD_yes {W : Nat → List Tx} {n k m : Nat} {gd : List (Kd × D)} (h : GoodD W n k gd) (hm : n = k + m + 1) (hg : (back W n n).getD m false = true) (d : D) : GoodD W n (k + 1) (putD gd (.inl (m : Int)) d) := by
  refine ⟨by have := putD_len gd (.inl (m : Int)) d; have := h.1; omega, fun q => ?_⟩
  rw [hasK_put, h.2 q]
  by_cases e : q = m
  · subst e
    rw [hg, decide_eq_true rfl, decide_eq_true (by omega : n - (k + 1) ≤ q), Bool.or_true]
    rfl
  · rw [decide_eq_false (fun z : (Sum.inl (m : Int) : Kd) = .inl (q : Int) => e (by have := Sum.inl.inj z; omega)), Bool.or_false]
    by_cases h2 : n - k ≤ q
    · rw [decide_eq_true h2, decide_eq_true (by omega : n - (k + 1) ≤ q)]
    · rw [decide_eq_false h2, decide_eq_false (by omega : ¬ n - (k + 1) ≤ q)]
theorem GoodD_no {W : Nat → List Tx} {n k m : Nat} {gd : List (Kd × D)} (h : GoodD W n k gd) (hm : n = k + m + 1) (hg : (back W n n).getD m false = false) : GoodD W n (k + 1) gd := by
  refine ⟨by have := h.1; omega, fun q => ?_⟩
  rw [h.2 q]
  by_cases e : q = m
  · subst e
    rw [hg, Bool.and_false, Bool.and_false]
  · by_cases h2 : n - k ≤ q
    · rw [decide_eq_true h2, decide_eq_true (by omega : n - (k + 1) ≤ q)]
    · rw [decide_eq_false h2, decide_eq_false (by omega : ¬ n - (k + 1) ≤ q)]
theorem filter_empty {α : Type} (q : α → Bool) (f : α → D) : ∀ xs : List α, ((xs.filter q).map f).isEmpty = !(xs.any q)
  | [] => rfl
  | x :: r => by
    rw [List.filter_cons, List.any_cons]
    cases q x
    · rw [if_neg Bool.false_ne_true, filter_empty q f r, Bool.false_or]
    · rw [if_pos rfl, Bool.true_or]
      rfl
theorem strs_ok {xs : List Tx} (h : ∀ w ∈ xs, small w = true) : okD (.lst (xs.map .str)) := okD_lst (m := 0) (by decide) fun x hx => by
  obtain ⟨w, hw, rfl⟩ := List.mem_map.mp hx
  exact chkx_str (small_okX (h w hw))
theorem from_small {kvs : List (Kd × D)} {l : Tx} (hl : small l = true) (p : Nat) : ∀ w ∈ wordsFrom kvs l p, small w = true := fun w hw => by
  unfold wordsFrom at hw
  obtain ⟨k, _, rfl⟩ := List.mem_map.mp (List.mem_filter.mp hw).1
  exact small_take (small_drop hl _) _
local macro_rules | `(tactic| walk_at "rd") => `(tactic| simp (config := { decide := true }) only [pSeq_then, pNext, pNever, pBreak, pCont, pDrop, pRet, pRetN, pIf, pSet, pSetD, setD, setP, setO, pVar, pC, pOp2, pTest, pAnd, pOr, pNot, pAndV, pOrV, pNotV, pIfE, pNil, pCons, pLst, pTup, pDict0, pDictC, pCall, pIsiP, pM1, bJoin, pNo, pPart, pSl, pSortI, pLM, lAppend, lInsert, lExtend, lPopAt, pLc_eq, pFor_eq, pItL, pItS, pRng1, pRng2, pRng3, pVarF, pAug, pDictLen, pLr3, pNeg, pCalls, callP, f_only_words, f_words_from, f_need_text, toAR, R.fz, view, views, dats, O.toD, AR.toR, bAdd, bSub, bMul, bDiv, bMod, bPow, bEq, bCmp, bIn, bIs, bIx, bSl, cLen, cMin2, cMax2, cInt, cList, cDict, cSorted, plainD, isiB, tyn, pAsg, tgT, tgU, setsA, pSetIx, storeO, kdOf, pChain, cmpD, pYes, pTru, truD, Hand, tgN, wipeA, fnAbs, envA, ownsA, retA, conP, conN, List.set, List.set_cons_zero, List.set_cons_succ, List.set_nil, List.getElem?_cons_zero, List.getElem?_cons_succ, List.getElem?_nil, List.length_cons, List.length_nil, List.cons_append, List.nil_append, List.append_nil, List.replicate, Nat.reduceSub, Nat.reduceAdd, Nat.zero_add, true_and, and_true, reduceIte, Bool.false_eq_true, id, Bool.not_true, Bool.not_false, List.nodup_nil, List.nodup_cons, List.not_mem_nil, not_false_eq_true, List.take_zero, List.take_succ_cons, List.take_nil, List.map_cons, List.map_nil])
theorem set_all (W : List Tx) (k : Nat) : ∀ (L : List Bool) (q : Nat), (W.foldl (fun L w => L.set (k + w.length) true) L).getD q false = (L.getD q false || (decide (q < L.length) && W.any fun w => decide (k + w.length = q))) := by
  induction W with
  | nil => intro L q; simp
  | cons w r ih =>
    intro L q
    rw [List.foldl_cons, ih, List.length_set, List.any_cons]
    by_cases h : k + w.length = q
    · rw [decide_eq_true h]
      by_cases hq : q < L.length
      · rw [decide_eq_true hq]
        have : (L.set (k + w.length) true).getD q false = true := by
          rw [List.getD_eq_getElem?_getD, h, List.getElem?_set_self hq]
          rfl
        rw [this]
        simp
      · rw [decide_eq_false hq]
        have e1 : (L.set (k + w.length) true).getD q false = false := by
          rw [List.getD_eq_getElem?_getD, List.getElem?_eq_none (by rw [List.length_set]; omega)]
          rfl
        have e2 : L.getD q false = false := by
          rw [List.getD_eq_getElem?_getD, List.getElem?_eq_none (by omega)]
          rfl
        rw [e1, e2]
        rfl
    · rw [decide_eq_false h, Bool.false_or]
      have : (L.set (k + w.length) true).getD q false = L.getD q false := by
        rw [List.getD_eq_getElem?_getD, List.getElem?_set_ne h, List.getD_eq_getElem?_getD]
      rw [this]
theorem led_len (W : Nat → List Tx) (n : Nat) : ∀ k, (ledUp W n k).length = n + 1
  | 0 => by show (_ :: List.replicate n false).length = _; rw [List.length_cons, List.length_replicate]
  | k + 1 => by
    have fl : ∀ (ws : List Tx) (L : List Bool), (ws.foldl (fun L w => L.set (k + w.length) true) L).length = L.length := fun ws => by
      induction ws with
      | nil => intro L; rfl
      | cons w r ih => intro L; rw [List.foldl_cons, ih, List.length_set]
    show (ledStep W k (ledUp W n k)).length = _
    unfold ledStep
    split
    · rw [fl, led_len W n k]
    · exact led_len W n k
theorem r_led_places : Law p_led_places ["book", "text", "words", "led", "place", "word"] 2 (conP pre_led_places f_led_places) := fun ars h => by
  have h : pre_led_places ars := h
  unfold pre_led_places at h
  split at h
  · rename_i ds l _
    obtain ⟨hB, hl, hll⟩ := h
    refine ⟨rfl, ?_⟩
    unfold p_led_places endsA
    walk_at "rd"
    refine ⟨⟨hl, by omega⟩, ?_⟩
    rw [then_eq]
    walk_at "rd"
    refine ⟨hB, ?_⟩
    rw [then_eq]
    walk_at "rd"
    rw [Int.toNat_natCast, rep_flat]
    refine ⟨by omega, ⟨by omega, by omega, by omega⟩, by rw [List.length_replicate]; omega, ?_⟩
    rw [then_eq]
    walk_at "rd"
    refine ⟨by omega, by unfold smallI; omega, ?_⟩
    let W := wordsFrom (dictOf ds) l
    have hwd : ∀ p, ∀ w ∈ wordsFrom (dictOf ds) l p, 1 ≤ w.length ∧ p + w.length ≤ l.length ∧ w.length ≤ 12 := wds_eq (dictOf ds) l
    refine for_run2 (fun k A => ∃ x y : AV, A = ⟨[AV.d (.lst ds), AV.d (.str l), AV.d (.dic (dictOf ds)), AV.p 0, x, y], [some (.lst ((ledUp W l.length k).map .bl))]⟩ ∧ (∀ m, truncE m x = x) ∧ ∀ m, truncE m y = y)
      ⟨.un, .un, by show _ = (⟨_, [some (.lst ((true :: List.replicate l.length false).map D.bl))]⟩ : Abs); rw [List.map_cons, List.map_replicate], fun _ => rfl, fun _ => rfl⟩ (fun _ _ _ _ => trivial) ?_ ?_
    · rintro k A hk ⟨x, y, rfl, hx, hy⟩
      have hk : k < l.length := by simpa using hk
      refine ⟨_, rfl, fun J Kb hJ => ?_⟩
      have e0 : (0 : Int) + (k : Int) = (k : Int) := by omega
      rw [e0]
      have ll := led_len W l.length k
      unfold pGc
      dsimp only
      walk_at "rd"
      refine ⟨.bl ((ledUp W l.length k).getD k false), by rw [getD_of (by omega), ← List.getElem_map (f := D.bl) (h := by rw [List.length_map]; omega)]; exact atI_nat (by rw [List.length_map]; omega), ?_⟩
      dsimp only
      have done : ∀ (L : List Bool) (y' : AV), (∀ m, truncE m y' = y') → L = ledUp W l.length (k + 1) → J (trunc 1 ⟨[AV.d (.lst ds), AV.d (.str l), AV.d (.dic (dictOf ds)), AV.p 0, .d (.int k), y'], [some (.lst (L.map .bl))]⟩) := fun L y' h1 h2 => hJ _ ⟨.d (.int k), y', by
        rw [h2]
        show (⟨[_, _, _, _, _, truncE 1 y'], _⟩ : Abs) = _
        rw [h1]
        rfl, fun _ => rfl, h1⟩
      cases hg : (ledUp W l.length k).getD k false
      · rw [if_neg Bool.false_ne_true]
        refine done _ y hy ?_
        show _ = ledStep W k (ledUp W l.length k)
        unfold ledStep
        rw [if_neg (by rw [hg]; exact Bool.false_ne_true)]
      · rw [if_pos rfl]
        refine ⟨⟨by omega, by omega, by omega⟩, ?_⟩
        rw [Int.toNat_natCast]
        refine for_run2 (fun j A => ∃ y' : AV, A = ⟨[AV.d (.lst ds), AV.d (.str l), AV.d (.dic (dictOf ds)), AV.p 0, .d (.int k), y'], [some (.lst ((((W k).take j).foldl (fun L w => L.set (k + w.length) true) (ledUp W l.length k)).map .bl))]⟩ ∧ ∀ m, truncE m y' = y') ⟨y, by rw [List.take_zero]; rfl, hy⟩ (fun _ _ _ _ => trivial) ?_ ?_
        · rintro j A hj ⟨y', rfl, hy'⟩
          rw [List.length_map] at hj
          have hj : j < (wordsFrom (dictOf ds) l k).length := hj
          rw [itL_strs hj]
          refine ⟨_, rfl, fun J2 Kb2 hJ2 => ?_⟩
          obtain ⟨h1, h2, h3⟩ := hwd k _ (getD_mem hj)
          have fl : ∀ (ws : List Tx) (L : List Bool), (ws.foldl (fun L w => L.set (k + w.length) true) L).length = L.length := fun ws => by
            induction ws with
            | nil => intro L; rfl
            | cons w r ih => intro L; rw [List.foldl_cons, ih, List.length_set]
          walk_at "rd"
          have ea : (k : Int) + (((wordsFrom (dictOf ds) l k).getD j []).length : Int) = ((k + ((wordsFrom (dictOf ds) l k).getD j []).length : Nat) : Int) := by omega
          refine ⟨by omega, k + ((wordsFrom (dictOf ds) l k).getD j []).length, by rw [ea]; exact ixN_nat (by rw [List.length_map, fl, ll]; omega), hJ2 _ ⟨.d (.str ((wordsFrom (dictOf ds) l k).getD j [])), ?_, fun _ => rfl⟩⟩
          have st : List.take (j + 1) (W k) = List.take j (W k) ++ [(wordsFrom (dictOf ds) l k).getD j []] := by
            show List.take (j + 1) (wordsFrom (dictOf ds) l k) = _
            rw [List.take_succ, List.getElem?_eq_getElem hj, getD_of hj]
            rfl
          rw [st, List.foldl_append, ← List.map_set]
          rfl
        · rintro A ⟨y', rfl, hy'⟩
          dsimp only
          refine done _ y' hy' ?_
          show _ = ledStep W k (ledUp W l.length k)
          unfold ledStep
          rw [if_pos hg, List.length_map]
          show List.foldl _ _ (List.take (W k).length (W k)) = _
          rw [List.take_length]
    · rintro A ⟨x, y, rfl, hx, hy⟩
      dsimp only
      rw [then_eq]
      walk_at "rd"
      have e1 : ((l.length : Int) + 1).toNat = l.length + 1 := by omega
      rw [e1, Int.toNat_natCast]
      have ll := led_len W l.length l.length
      refine ⟨by omega, by unfold smallI; omega, ?_⟩
      refine lc_run (fun i => if (ledUp W l.length l.length).getD i false = true then some (.int (i : Int)) else none) trivial (by omega) (fun i hi => ⟨_, rfl, fun J hJ => ?_⟩) ?_
      · have e0 : (0 : Int) + (i : Int) = (i : Int) := by omega
        rw [e0]
        walk_at "rd"
        refine ⟨.bl ((ledUp W l.length l.length).getD i false), by rw [getD_of (by omega), ← List.getElem_map (f := D.bl) (h := by rw [List.length_map]; omega)]; exact atI_nat (by rw [List.length_map]; omega), ?_⟩
        dsimp only
        cases q : (ledUp W l.length l.length).getD i false
        · rw [q] at hJ
          walk_at "rd"
          exact hJ
        · rw [q] at hJ
          walk_at "rd"
          exact hJ
      · walk_at "rd"
        have eL : ∀ n, lcL n (fun i => if (ledUp W l.length l.length).getD i false = true then some (.int (i : Int)) else none) = (((List.range n).filter fun q => (ledUp W l.length l.length).getD q false).map fun q : Nat => (q : Int)).map D.int := fun n => by
          induction n with
          | zero => rfl
          | succ n ih =>
            rw [lcL_succ, ih, List.range_succ, List.filter_append, List.map_append, List.map_append]
            congr 1
            rw [List.filter_cons, List.filter_nil]
            cases q : (ledUp W l.length l.length).getD n false
            · rw [if_neg Bool.false_ne_true]
              rfl
            · rw [if_pos rfl]
              rfl
        rw [eL]
        rfl
  · exact h.elim
theorem led_zero (W : Nat → List Tx) (n k : Nat) : (ledUp W n k).getD 0 false = true := by
  induction k with
  | zero => rfl
  | succ k ih =>
    show (ledStep W k (ledUp W n k)).getD 0 false = true
    unfold ledStep
    split
    · rw [set_all, ih, Bool.true_or]
    · exact ih
theorem pl_last (W : Nat → List Tx) (n : Nat) : ∃ r x, ledPl W n = r ++ [x] ∧ ((x = (n : Int)) ↔ (ledUp W n n).getD n false = true) := by
  unfold ledPl
  rw [List.range_succ, List.filter_append, List.map_append, List.filter_cons, List.filter_nil]
  cases q : (ledUp W n n).getD n false
  · rw [if_neg Bool.false_ne_true, List.map_nil, List.append_nil]
    have hne : ((List.range n).filter fun q => (ledUp W n n).getD q false) ≠ [] := fun e => by
      have h0 := led_zero W n n
      have hn : 0 < n := by
        cases n with
        | zero => rw [h0] at q; cases q
        | succ n => omega
      have : 0 ∈ (List.range n).filter fun q => (ledUp W n n).getD q false := List.mem_filter.mpr ⟨List.mem_range.mpr hn, h0⟩
      rw [e] at this
      cases this
    have hd := List.dropLast_concat_getLast hne
    refine ⟨(((List.range n).filter fun q => (ledUp W n n).getD q false).dropLast).map (fun q : Nat => (q : Int)), ((((List.range n).filter fun q => (ledUp W n n).getD q false).getLast hne : Nat) : Int), ?_, ?_⟩
    · conv => lhs; rw [← hd]
      rw [List.map_append]
      rfl
    · have hm := List.getLast_mem hne
      have := List.mem_range.mp (List.mem_filter.mp hm).1
      constructor
      · intro e; omega
      · intro e; cases e
  · rw [if_pos rfl]
    exact ⟨_, _, rfl, by simp⟩
theorem at_last {α : Type} (r : List α) (x : α) : atI (r ++ [x]) (-1) = some x := by
  unfold atI ixN
  rw [if_neg (by decide), if_pos (by rw [List.length_append, List.length_singleton]; omega)]
  show (r ++ [x])[(-1 + ((r ++ [x]).length : Int)).toNat]? = _
  have : (-1 + ((r ++ [x]).length : Int)).toNat = r.length := by rw [List.length_append, List.length_singleton]; omega
  rw [this, List.getElem?_append_right (Nat.le_refl _), Nat.sub_self]
  rfl
theorem r_least_bar : Law p_least_bar ["book", "text", "found"] 2 (conP pre_least_bar f_least_bar) := fun ars h => by
  have h : pre_led_places ars := h
  unfold pre_led_places at h
  split at h
  · rename_i ds l _
    obtain ⟨hB, hl, hll⟩ := h
    refine ⟨rfl, ?_⟩
    unfold p_least_bar endsA
    walk_at "rd"
    refine ⟨⟨hB, hl, hll⟩, ?_⟩
    simp only [f_led_places]
    rw [then_eq]
    walk_at "rd"
    obtain ⟨r, x, e, hx⟩ := pl_last (wordsFrom (dictOf ds) l) l.length
    have e2 : (ledPl (wordsFrom (dictOf ds) l) l.length).map D.int = r.map D.int ++ [D.int x] := by rw [e, List.map_append]; rfl
    refine ⟨.int x, by rw [e2]; exact at_last _ _, by omega, ?_⟩
    dsimp only
    unfold f_least_bar
    cases hg : (ledUp (wordsFrom (dictOf ds) l) l.length l.length).getD l.length false
    · have : ¬ x = (l.length : Int) := fun z => by have := hx.mp z; rw [hg] at this; cases this
      rw [decide_eq_false this]
      walk_at "rd"
      rw [then_eq]
      walk_at "rd"
      rw [hg]
      exact ⟨_, rfl, rfl⟩
    · rw [decide_eq_true (hx.mpr hg)]
      walk_at "rd"
      rw [hg]
      rfl
  · exact h.elim
local macro_rules | `(tactic| walk_at "rd") => `(tactic| simp (config := { decide := true }) only [pSeq_then, pNext, pNever, pBreak, pCont, pDrop, pRet, pRetN, pIf, pSet, pSetD, setD, setP, setO, pVar, pC, pOp2, pTest, pAnd, pOr, pNot, pAndV, pOrV, pNotV, pIfE, pNil, pCons, pLst, pTup, pDict0, pDictC, pDM, dUpdate, pCall, pIsiP, pM1, bJoin, pNo, pPart, pSl, pSortI, pLM, lAppend, lInsert, lExtend, lPopAt, pLc_eq, pFor_eq, pItL, pItS, pRng1, pRng2, pRng3, pVarF, pAug, pDictLen, pLr3, pNeg, pCalls, callP, f_only_words, f_words_from, f_need_text, toAR, R.fz, view, views, dats, O.toD, AR.toR, bAdd, bSub, bMul, bDiv, bMod, bPow, bEq, bCmp, bIn, bIs, bIx, bSl, cLen, cMin2, cMax2, cInt, cList, cDict, cSorted, plainD, isiB, tyn, pAsg, tgT, tgU, setsA, pSetIx, storeO, kdOf, pChain, cmpD, pYes, pTru, truD, Hand, tgN, wipeA, fnAbs, envA, ownsA, retA, conP, conN, List.set, List.set_cons_zero, List.set_cons_succ, List.set_nil, List.getElem?_cons_zero, List.getElem?_cons_succ, List.getElem?_nil, List.length_cons, List.length_nil, List.cons_append, List.nil_append, List.append_nil, List.replicate, Nat.reduceSub, Nat.reduceAdd, Nat.zero_add, true_and, and_true, reduceIte, Bool.false_eq_true, id, Bool.not_true, Bool.not_false, List.nodup_nil, List.nodup_cons, List.not_mem_nil, not_false_eq_true, List.take_zero, List.take_succ_cons, List.take_nil, List.map_cons, List.map_nil])
def enc (qs : List Nat) : List (Kd × D) := qs.map fun q : Nat => (.inl (q : Int), .bl true)
def ins (qs : List Nat) (q : Nat) : List Nat := if q ∈ qs then qs else qs ++ [q]
theorem hasK_enc (qs : List Nat) (q : Nat) : hasK (enc qs) (.inl (q : Int)) = decide (q ∈ qs) := by
  unfold hasK enc
  rw [List.any_map, Bool.eq_iff_iff, List.any_eq_true, decide_eq_true_eq]
  constructor
  · rintro ⟨x, hx, e⟩
    have e := of_decide_eq_true e
    have : x = q := by
      have := Sum.inl.inj e
      omega
    rw [← this]
    exact hx
  · intro h
    exact ⟨q, h, decide_eq_true rfl⟩
theorem put_enc (qs : List Nat) (q : Nat) : putD (enc qs) (.inl (q : Int)) (.bl true) = enc (ins qs q) := by
  unfold putD ins
  rw [hasK_enc]
  by_cases h : q ∈ qs
  · rw [decide_eq_true h, if_pos rfl, if_pos h]
    unfold enc
    rw [List.map_map]
    apply List.map_congr_left
    intro x hx
    simp only [Function.comp]
    split <;> rfl
  · rw [decide_eq_false h, if_neg Bool.false_ne_true, if_neg h]
    unfold enc
    rw [List.map_append]
    rfl
theorem merge_enc : ∀ (rs qs : List Nat), mergeD (enc qs) (enc rs) = enc (rs.foldl ins qs)
  | [], qs => rfl
  | r :: rs, qs => by
    show mergeD (putD (enc qs) (.inl (r : Int)) (.bl true)) (enc rs) = _
    rw [put_enc, merge_enc rs (ins qs r)]
    rfl
theorem ins_mem (qs : List Nat) (q x : Nat) : x ∈ ins qs q ↔ x ∈ qs ∨ x = q := by
  unfold ins
  split
  · rename_i h
    constructor
    · exact .inl
    · rintro (h' | rfl)
      · exact h'
      · exact h
  · rw [List.mem_append, List.mem_singleton]
theorem ins_nodup {qs : List Nat} (h : qs.Nodup) (q : Nat) : (ins qs q).Nodup := by
  unfold ins
  split
  · exact h
  · rename_i hq
    rw [List.nodup_append]
    exact ⟨h, by simp, fun x hx y hy e => hq (by rw [List.mem_singleton] at hy; rw [← hy, ← e]; exact hx)⟩
theorem foldl_ins : ∀ (rs qs : List Nat), qs.Nodup → (rs.foldl ins qs).Nodup ∧ (∀ x, x ∈ rs.foldl ins qs ↔ x ∈ qs ∨ x ∈ rs) ∧ (rs.foldl ins qs).length ≤ qs.length + rs.length
  | [], qs, h => ⟨h, fun x => by simp, Nat.le_refl _⟩
  | r :: rs, qs, h => by
    obtain ⟨h1, h2, h3⟩ := foldl_ins rs (ins qs r) (ins_nodup h r)
    refine ⟨h1, fun x => ?_, ?_⟩
    · show x ∈ rs.foldl ins (ins qs r) ↔ _
      rw [h2, ins_mem, List.mem_cons, or_assoc]
    · show (rs.foldl ins (ins qs r)).length ≤ _
      have : (ins qs r).length ≤ qs.length + 1 := by
        unfold ins
        split
        · omega
        · rw [List.length_append]; exact Nat.le_refl _
      rw [List.length_cons]
      omega
end PD

/-! Q: calls with the deck; small facts. -/
namespace PD
open PySem L2
theorem wds_len (kvs : List (Kd × D)) (l : Tx) (p : Nat) : (wordsFrom kvs l p).length ≤ 12 := words_len (kvs := kvs) (l := l) p
theorem book_len {ds : List D} (h : Book ds) : isPairs ds := book_un h
/-! the road's small steps -/
theorem dict_of {ds : List D} {P : List (Kd × D) → Prop} (h : ds = (ds.map unpair).map pairD) (k : P (ds.map unpair)) : ∃ prs, ds = prs.map pairD ∧ P prs := ⟨_, h, k⟩
theorem merge_dictOf (ds : List D) : mergeD [] (List.map unpair ds) = dictOf ds := rfl
theorem deq_self {x : D} (h : okD x) : deq x x = true := deq_refl h.1
theorem any_int (xs : List Int) (i : Int) : (xs.map D.int).any (fun z => deq z (.int i)) = decide (i ∈ xs) := by
  rw [List.any_map, Bool.eq_iff_iff, List.any_eq_true, decide_eq_true_eq]
  constructor
  · rintro ⟨x, hx, e⟩
    have e : deq (.int x) (.int i) = true := e
    rw [deq_int, decide_eq_true_eq] at e
    rw [← e]
    exact hx
  · intro h
    exact ⟨i, h, by show deq (.int i) (.int i) = true; rw [deq_int, decide_eq_true_eq]⟩
theorem any_str (xs : List Tx) (i : Tx) : (xs.map D.str).any (fun z => deq z (.str i)) = decide (i ∈ xs) := by
  rw [List.any_map, Bool.eq_iff_iff, List.any_eq_true, decide_eq_true_eq]
  constructor
  · rintro ⟨x, hx, e⟩
    have e : deq (.str x) (.str i) = true := e
    rw [deq_str, decide_eq_true_eq] at e
    rw [← e]
    exact hx
  · intro h
    exact ⟨i, h, by show deq (.str i) (.str i) = true; rw [deq_str, decide_eq_true_eq]⟩
theorem okD_int (i : Int) : okD (.int i) := ⟨rfl, Nat.zero_le _⟩
theorem okD_bl (b : Bool) : okD (.bl b) := ⟨rfl, Nat.zero_le _⟩
theorem okD_non : okD .non := ⟨rfl, Nat.zero_le _⟩
theorem okD_sm {l : Tx} (h : small l = true) : okD (.str l) := by
  have := chkx_str (small_okX h)
  exact ⟨this.1, by omega⟩
theorem filter_none {α : Type} (xs : List α) : xs.filter (fun _ => false) = [] := by induction xs <;> simp_all
end PD

/-! Q: what the drawing of the laws with draws tells; ways counted. -/
namespace PD
open PySem PySem.Spec PyProof.Rows L2
/-- drawn numbers, n at least -/
def Dr (dd : List D) (n : Int) : Prop := ∃ is : List Int, dd = is.map D.int ∧ (∀ i ∈ is, 0 ≤ i ∧ i < 10007) ∧ n ≤ is.length ∧ is.length ≤ 20000
def rowsD (ps : List (Tx × Int)) : List D := ps.map fun p => D.tup [.str p.1, .int p.2]
/-- rows of a book, in any order -/
def Rows (ds : List D) : Prop := ∃ ps : List (Tx × Int), ds = rowsD ps ∧ (∀ p ∈ ps, isWord p.1) ∧ (ps.map (·.1)).Nodup
def pre__law_draws : List AR → Prop
  | [.d (.scr ns), .d (.int m)] => ns.length ≤ 63 ∧ 0 ≤ m ∧ m ≤ 10000
  | _ => False
def ok__law_draws : List AR → AR → Prop
  | [.d (.scr _), .d (.int m)], y => ∃ dd, y = .o (.lst dd) ∧ Dr dd m
  | _, _ => False
def pre__law_word : List AR → Prop
  | [.d (.int x), .d (.str s)] => 0 ≤ x ∧ x < 10007 ∧ small s = true ∧ 1 ≤ s.length ∧ s.length ≤ 26
  | _ => False
def ok__law_word : List AR → AR → Prop := fun _ y => ∃ l, y = .d (.str l) ∧ isWord l
def pre__law_weight : List AR → Prop
  | [.d (.int x)] => 0 ≤ x ∧ x < 10007
  | _ => False
def ok__law_weight : List AR → AR → Prop := fun _ y => ∃ i, y = .d (.int i)
def pre__law_letters : List AR → Prop
  | [.d (.int x)] => 0 ≤ x ∧ x < 10007
  | _ => False
def ok__law_letters : List AR → AR → Prop := fun _ y => ∃ s, y = .d (.str s) ∧ small s = true ∧ 1 ≤ s.length ∧ s.length ≤ 26
def pre__law_begins : List AR → Prop
  | [.d (.str l), .d (.dic kvs)] => small l = true ∧ l.length ≤ 12 ∧ WDict kvs ∧ kvs.length ≤ 1000
  | _ => False
def ok__law_begins : List AR → AR → Prop := fun _ y => ∃ b, y = .d (.bl b)
def pre__law_book : List AR → Prop
  | [.d (.lst dd), .d (.int spot)] => 0 ≤ spot ∧ Dr dd (spot + 31)
  | _ => False
def ok__law_book : List AR → AR → Prop := fun _ y => ∃ ds, y = .o (.lst ds) ∧ Book ds ∧ ds.length ≤ 15
def pre__law_joined : List AR → Prop
  | [.d (.lst dd), .d (.int spot), .d (.lst ds), .d (.int many)] => 0 ≤ spot ∧ Dr dd (spot + 14) ∧ Rows ds ∧ ds.length ≤ 1000 ∧ 0 ≤ many ∧ many ≤ 1000
  | _ => False
def ok__law_joined : List AR → AR → Prop
  | [_, _, _, .d (.int many)], y => ∃ l : Tx, y = .d (.str l) ∧ small l = true ∧ (l.length : Int) ≤ 12 * many
  | _, _ => False
def pre__law_text : List AR → Prop
  | [.d (.lst dd), .d (.int spot), .d (.lst ds), .d (.str s)] => 0 ≤ spot ∧ Dr dd (spot + 15) ∧ Rows ds ∧ ds.length ≤ 1000 ∧ small s = true ∧ 1 ≤ s.length ∧ s.length ≤ 26
  | _ => False
def ok__law_text : List AR → AR → Prop := fun _ y => ∃ l : Tx, y = .d (.str l) ∧ small l = true ∧ l.length ≤ 200
def pre__law_at : List AR → Prop
  | [.d (.lst ds), .d (.str l), .d (.int p)] => Rows ds ∧ ds.length ≤ 1000 ∧ small l = true ∧ l.length ≤ 1000000 ∧ 0 ≤ p ∧ p ≤ l.length
  | _ => False
def f__law_at : List AR → AR
  | [.d (.lst ds), .d (.str l), .d (.int p)] => .o (.lst ((wordsFrom (dictOf ds) l p.toNat).map .str))
  | _ => .d .non
/-- how many ways lead on, for the last k + 1 places of n -/
def wayL (W : Nat → List Tx) (n : Nat) : Nat → List Int
  | 0 => [1]
  | k + 1 => ((W (n - (k + 1))).map fun w => (wayL W n k).getD (w.length - 1) 0).sum :: wayL W n k
/-- .. from a place -/
def nw (W : Nat → List Tx) (n p : Nat) : Int := (wayL W n n).getD p 0
/-- the dict of them, as it is filled -/
def wayD (W : Nat → List Tx) (n k : Nat) : List (Kd × D) := (List.range (k + 1)).map fun j => (.inl ((n - j : Nat) : Int), .int (nw W n (n - j)))
def pre_ways_on : List AR → Prop
  | [.d (.lst ds), .d (.str l)] => isPairs ds ∧ l.length ≤ 1000000
  | _ => False
def f_ways_on : List AR → AR
  | [.d (.lst ds), .d (.str l)] => .o (.dic (wayD (wordsFrom (dictOf ds) l) l.length l.length))
  | _ => .d .non
def pre_cut_count : List AR → Prop
  | [.d (.lst ds), .d (.str l)] => isPairs ds ∧ small l = true ∧ l.length ≤ 1000000
  | _ => False
def f_cut_count : List AR → AR
  | [.d (.lst ds), .d (.str l)] => .d (.int (nw (wordsFrom (dictOf ds) l) l.length 0))
  | _ => .d .non
def pre__law_ways : List AR → Prop
  | [.d (.lst ds), .d (.str l)] => Rows ds ∧ ds.length ≤ 1000 ∧ small l = true ∧ l.length ≤ 1000000
  | _ => False
def f__law_ways : List AR → AR
  | [.d (.lst ds), .d (.str l)] => .o (.lst ((wayL (wordsFrom (dictOf ds) l) l.length l.length).map .int))
  | _ => .d .non
def pre__law_is_whole : List AR → Prop
  | [.d (.int _), .d (.int _)] => True
  | _ => False
def f__law_is_whole : List AR → AR
  | [.d (.int i), .d (.int j)] => .d (.bl (decide (i = j)))
  | _ => .d .non
def pre__law_is_list : List AR → Prop
  | [.d (.lst xs), .d (.lst ys)] => okD (.lst xs) ∧ okD (.lst ys)
  | [.o (.lst xs), .d (.lst ys)] => okD (.lst xs) ∧ okD (.lst ys)
  | _ => False
def f__law_is_list : List AR → AR
  | [.d (.lst xs), .d (.lst ys)] => .d (.bl (deqs xs ys))
  | [.o (.lst xs), .d (.lst ys)] => .d (.bl (deqs xs ys))
  | _ => .d .non
def pre__law_long : List AR → Prop
  | [.d (.lst dd), .d (.int spot)] => 0 ≤ spot ∧ Dr dd (spot + 5) ∧ Dr dd 46
  | _ => False
def ok__law_long : List AR → AR → Prop := fun _ y => ∃ ds l, y = .d (.tup [.lst ds, .str l]) ∧ Rows ds ∧ ds.length ≤ 1000 ∧ small l = true ∧ l.length ≤ 100000
end PD

namespace PD
open PySem PySem.Spec PyProof.Rows L2
def p_ways_on : PTS :=
  (pSeq (pSetD 2 (pCalls (callP pre_only_words f_only_words) (pCons (pVar 0) pNil)))
  (pSeq (pSet 3 (pDictLen 1 (.int 1)))
  (pSeq (pWip [4] (pFor (pRng3 (pCons (pOp2 bSub (pCall cLen (pCons (pVar 1) pNil)) (pC (.int 1))) (pCons (pNeg (pC (.int 1))) (pCons (pNeg (pC (.int 1))) pNil)))) (tgN 4) (pGw [4] [4] (pSetIx (pVar 3) (pVar 4) (pCall cSum (pCons (pLc (pItL (pCalls (callP pre_words_from f_words_from) (pCons (pVar 2) (pCons (pVar 1) (pCons (pVar 4) pNil))))) (tgN 5) pYes (pOp2 bIx (pVar 3) (pOp2 bAdd (pVar 4) (pCall cLen (pCons (pVar 5) pNil)))) [5]) pNil))))))
  (pRet (pVar 3)))))
abbrev N_ways_on : List Str := ["book", "text", "words", "found", "place", "word"]
def p_cut_count : PTS :=
  (pSeq (pDrop (pCalls (callP pre_need_text f_need_text) (pCons (pVar 1) pNil)))
  (pRet (pOp2 bIx (pCalls (callP pre_ways_on f_ways_on) (pCons (pVar 0) (pCons (pVar 1) pNil))) (pC (.int 0)))))
abbrev N_cut_count : List Str := ["book", "text"]
def p__law_draws : PTS :=
  (pSeq (pSet 2 (pLst pNil))
  (pSeq (pSet 3 (pC (.int 7)))
  (pSeq (pWip [4, 5, 6, 7] (pFor (pEnum (pSl (pVar 0) pNo (pPart (pC (.int 63))))) (tgT [4, 5]) (pGw [4, 5, 6, 7] [4, 5, 6, 7] (pSeq (pSet 6 (pCall cAbs (pCons (pVar 5) pNil)))
  (pSeq (pSet 3 (pOp2 bMod (pOp2 bAdd (pOp2 bMul (pVar 3) (pC (.int 31))) (pVar 6)) (pC (.int 2147483629))))
  (pIf (pTest (pOp2 bGe (pVar 6) (pOp2 bPow (pC (.int 10)) (pC (.int 18))))) (pWhile (pAnd (pTest (pOp2 bGt (pVar 6) (pC (.int 0)))) (pTest (pOp2 bLt (pCall cLen (pCons (pVar 2) pNil)) (pVar 1)))) (pGw [] [6] (pSeq (pDrop (pLM lAppend (pVar 2) (pCons (pOp2 bMod (pVar 6) (pC (.int 10007))) pNil)))
  (pSet 6 (pOp2 bDiv (pVar 6) (pC (.int 10007)))))))
  (pSeq (pSetD 7 (pOp2 bMod (pOp2 bMul (pOp2 bAdd (pOp2 bAdd (pOp2 bMod (pVar 6) (pC (.int 2147483647))) (pVar 4)) (pC (.int 1))) (pC (.int 48271))) (pC (.int 2147483647))))
  (pSeq (pSetD 7 (pOp2 bMod (pOp2 bMul (pVar 7) (pVar 7)) (pC (.int 2147483629))))
  (pSeq (pDrop (pLM lAppend (pVar 2) (pCons (pOp2 bMod (pOp2 bDiv (pVar 7) (pC (.int 8))) (pC (.int 10007))) pNil)))
  (pSeq (pSetD 7 (pOp2 bMod (pOp2 bAdd (pOp2 bAdd (pOp2 bMul (pVar 7) (pC (.int 40692))) (pOp2 bMul (pC (.int 2)) (pVar 4))) (pC (.int 1))) (pC (.int 2147483563))))
  (pSeq (pSetD 7 (pOp2 bMod (pOp2 bMul (pVar 7) (pVar 7)) (pC (.int 2147483647))))
  (pDrop (pLM lAppend (pVar 2) (pCons (pOp2 bMod (pOp2 bDiv (pVar 7) (pC (.int 8))) (pC (.int 10007))) pNil))))))))))))))
  (pSeq (pWip [4, 7] (pFor (pRng1 (pCons (pOp2 bSub (pVar 1) (pCall cLen (pCons (pVar 2) pNil))) pNil)) (tgN 4) (pGw [4, 7] [4, 7] (pSeq (pSetD 7 (pOp2 bMod (pOp2 bAdd (pOp2 bAdd (pVar 3) (pOp2 bMul (pC (.int 7919)) (pVar 4))) (pC (.int 13))) (pC (.int 2147483629))))
  (pSeq (pSetD 7 (pOp2 bMod (pOp2 bMul (pVar 7) (pVar 7)) (pC (.int 2147483647))))
  (pSeq (pSetD 7 (pOp2 bMod (pOp2 bAdd (pOp2 bMul (pVar 7) (pC (.int 69621))) (pVar 4)) (pC (.int 2147483563))))
  (pDrop (pLM lAppend (pVar 2) (pCons (pOp2 bMod (pOp2 bDiv (pOp2 bMod (pOp2 bMul (pVar 7) (pVar 7)) (pC (.int 2147483629))) (pC (.int 8))) (pC (.int 10007))) pNil)))))))))
  (pRet (pVar 2))))))
abbrev N__law_draws : List Str := ["script", "many", "drawn", "base", "k", "cell", "number", "one"]
def p__law_word : PTS :=
  (pSeq (pSetD 2 (pOp2 bIx (pLst (pCons (pC (.int 1)) (pCons (pC (.int 2)) (pCons (pC (.int 2)) (pCons (pC (.int 3)) (pCons (pC (.int 4)) (pCons (pC (.int 1)) (pCons (pC (.int 5)) (pCons (pOp2 bAdd (pC (.int 6)) (pOp2 bMod (pOp2 bDiv (pVar 0) (pC (.int 8))) (pC (.int 7)))) pNil))))))))) (pOp2 bMod (pVar 0) (pC (.int 8)))))
  (pSeq (pSet 3 (pC (.str [])))
  (pSeq (pWip [4, 5] (pFor (pRng1 (pCons (pVar 2) pNil)) (tgN 4) (pGw [4, 5] [4, 5] (pSeq (pSetD 5 (pOp2 bAdd (pOp2 bDiv (pVar 0) (pOp2 bAdd (pC (.int 8)) (pOp2 bMul (pC (.int 5)) (pVar 4)))) (pOp2 bMul (pVar 4) (pOp2 bDiv (pVar 0) (pC (.int 64))))))
  (pSet 3 (pOp2 bAdd (pVar 3) (pOp2 bIx (pVar 1) (pOp2 bMod (pVar 5) (pCall cLen (pCons (pVar 1) pNil))))))))))
  (pRet (pVar 3)))))
abbrev N__law_word : List Str := ["x", "letters", "size", "word", "k", "at"]
def p__law_weight : PTS :=
  (pSeq (pSetD 1 (pLst (pCons (pOp2 bSub (pOp2 bMod (pVar 0) (pC (.int 19))) (pC (.int 9))) (pCons (pC (.int 0)) (pCons (pC (.int 1)) (pCons (pOp2 bSub (pOp2 bMod (pVar 0) (pC (.int 2001))) (pC (.int 1000))) (pCons (pOp2 bMul (pOp2 bAdd (pVar 0) (pC (.int 1))) (pOp2 bPow (pC (.int 10)) (pC (.int 22)))) (pCons (pOp2 bSub (pC (.int 0)) (pOp2 bMul (pVar 0) (pOp2 bPow (pC (.int 10)) (pC (.int 20))))) pNil))))))))
  (pRet (pOp2 bIx (pVar 1) (pOp2 bMod (pOp2 bDiv (pVar 0) (pC (.int 7))) (pC (.int 6))))))
abbrev N__law_weight : List Str := ["x", "some"]
def p__law_letters : PTS :=
  (pSeq (pSetD 1 (pOp2 bMod (pOp2 bDiv (pVar 0) (pC (.int 5))) (pC (.int 22))))
  (pSeq (pIf (pTest (pOp2 (bEq id) (pOp2 bMod (pOp2 bDiv (pVar 0) (pC (.int 330))) (pC (.int 4))) (pC (.int 3)))) (pRet (pC (.str abc)))
  pNext)
  (pSeq (pIf (pTest (pOp2 (bEq id) (pOp2 bMod (pOp2 bDiv (pVar 0) (pC (.int 110))) (pC (.int 3))) (pC (.int 0)))) (pRet (pStepS (pC (.str abc)) (pPart (pOp2 bMod (pVar 1) (pC (.int 6)))) (pPart (pC (.int 5)))))
  pNext)
  (pRet (pSl (pC (.str abc)) (pPart (pVar 1)) (pPart (pOp2 bAdd (pVar 1) (pOp2 bIx (pLst (pCons (pC (.int 2)) (pCons (pC (.int 1)) (pCons (pC (.int 3)) (pCons (pC (.int 2)) (pCons (pC (.int 5)) pNil)))))) (pOp2 bMod (pVar 0) (pC (.int 5)))))))))))
abbrev N__law_letters : List Str := ["x", "at"]
def p__law_begins : PTS :=
  (pSeq (pSetD 2 (pLc (pItK (pVar 1)) (tgN 3) (pTest (pOp2 bGt (pCall cLen (pCons (pVar 3) pNil)) (pCall cLen (pCons (pVar 0) pNil)))) (pVar 3) [3]))
  (pRet (pOp2 (bEq not) (pLc (pItL (pVar 2)) (tgN 3) (pTest (pOp2 (bEq id) (pSl (pVar 3) pNo (pPart (pCall cLen (pCons (pVar 0) pNil)))) (pVar 0))) (pVar 3) [3]) (pLst pNil))))
abbrev N__law_begins : List Str := ["word", "words", "longer", "one"]
def p__law_book : PTS :=
  (pSeq (pSetD 2 (pCalls (callN pre__law_letters ok__law_letters) (pCons (pOp2 bIx (pVar 0) (pVar 1)) pNil)))
  (pSeq (pSet 3 pDict0)
  (pSeq (pSet 4 (pC (.str [])))
  (pSeq (pWip [5, 6, 7] (pFor (pRng1 (pCons (pOp2 bMod (pOp2 bIx (pVar 0) (pOp2 bAdd (pVar 1) (pC (.int 1)))) (pC (.int 15))) pNil)) (tgN 5) (pGw [5, 6, 7] [4, 5, 6, 7] (pSeq (pSetD 6 (pOp2 bIx (pVar 0) (pOp2 bAdd (pOp2 bAdd (pVar 1) (pC (.int 2))) (pVar 5))))
  (pSeq (pSetD 7 (pCalls (callN pre__law_word ok__law_word) (pCons (pVar 6) (pCons (pVar 2) pNil))))
  (pSeq (pIf (pTest (pOp2 (bEq id) (pOp2 bMod (pOp2 bDiv (pVar 6) (pC (.int 64))) (pC (.int 3))) (pC (.int 0)))) (pSetD 7 (pSl (pOp2 bAdd (pVar 4) (pVar 7)) pNo (pPart (pC (.int 12)))))
  pNext)
  (pSeq (pSetIx (pVar 3) (pVar 7) (pCalls (callN pre__law_weight ok__law_weight) (pCons (pOp2 bIx (pVar 0) (pOp2 bAdd (pOp2 bAdd (pVar 1) (pC (.int 16))) (pVar 5))) pNil)))
  (pSet 4 (pVar 7)))))))))
  (pSeq (pFz 3 (pSetD 8 (pCall cSorted (pCons (pVar 3) pNil))))
  (pSeq (pIf (pTest (pOp2 (bEq id) (pOp2 bMod (pOp2 bDiv (pOp2 bIx (pVar 0) (pOp2 bAdd (pVar 1) (pC (.int 1)))) (pC (.int 15))) (pC (.int 3))) (pC (.int 0)))) (pSetD 8 (pLc (pItL (pVar 8)) (tgN 7) (pNot (pTest (pCalls (callN pre__law_begins ok__law_begins) (pCons (pVar 7) (pCons (pVar 3) pNil))))) (pVar 7) [7]))
  pNext)
  (pRet (pLc (pItL (pVar 8)) (tgN 7) pYes (pTup (pCons (pVar 7) (pCons (pOp2 bIx (pVar 3) (pVar 7)) pNil))) [7]))))))))
abbrev N__law_book : List Str := ["d", "spot", "letters", "words", "last", "k", "x", "word", "rows"]
def p__law_joined : PTS :=
  (pSeq (pSet 4 (pC (.str [])))
  (pSeq (pWip [5, 6] (pFor (pRng1 (pCons (pOp2 bMul (pVar 3) (pCall cInt (pCons (pOp2 (bEq not) (pVar 2) (pLst pNil)) pNil))) pNil)) (tgN 5) (pGw [5, 6] [5, 6] (pSeq (pSetD 6 (pOp2 bDiv (pOp2 bIx (pVar 0) (pOp2 bAdd (pVar 1) (pOp2 bMod (pVar 5) (pC (.int 14))))) (pOp2 bAdd (pC (.int 1)) (pOp2 bDiv (pVar 5) (pC (.int 14))))))
  (pSet 4 (pOp2 bAdd (pVar 4) (pOp2 bIx (pOp2 bIx (pVar 2) (pOp2 bMod (pVar 6) (pCall cLen (pCons (pVar 2) pNil)))) (pC (.int 0)))))))))
  (pRet (pVar 4))))
abbrev N__law_joined : List Str := ["d", "spot", "book", "many", "text", "k", "x"]
def p__law_text : PTS :=
  (pSeq (pSetD 4 (pOp2 bIx (pVar 0) (pVar 1)))
  (pSeq (pSet 5 (pCalls (callN pre__law_joined ok__law_joined) (pCons (pVar 0) (pCons (pOp2 bAdd (pVar 1) (pC (.int 1))) (pCons (pVar 2) (pCons (pOp2 bMod (pOp2 bDiv (pVar 4) (pC (.int 8))) (pC (.int 14))) pNil))))))
  (pSeq (pSetD 6 (pOp2 bMod (pOp2 bAdd (pOp2 bMul (pOp2 bDiv (pVar 4) (pC (.int 112))) (pC (.int 7))) (pVar 4)) (pOp2 bAdd (pCall cLen (pCons (pVar 5) pNil)) (pC (.int 1)))))
  (pSeq (pSetD 7 (pOp2 bIx (pVar 3) (pOp2 bMod (pVar 4) (pCall cLen (pCons (pVar 3) pNil)))))
  (pSeq (pIf (pTest (pOp2 (bEq id) (pOp2 bMod (pVar 4) (pC (.int 8))) (pC (.int 5)))) (pSet 5 (pOp2 bAdd (pOp2 bAdd (pSl (pVar 5) pNo (pPart (pVar 6))) (pVar 7)) (pSl (pVar 5) (pPart (pOp2 bAdd (pVar 6) (pOp2 bIx (pLst (pCons (pC (.int 0)) (pCons (pC (.int 1)) pNil))) (pOp2 bMod (pOp2 bDiv (pVar 4) (pC (.int 3))) (pC (.int 2)))))) pNo)))
  pNext)
  (pSeq (pIf (pTest (pOp2 (bEq id) (pOp2 bMod (pVar 4) (pC (.int 8))) (pC (.int 6)))) (pSet 5 (pOp2 bAdd (pSl (pVar 5) pNo (pPart (pVar 6))) (pSl (pVar 5) (pPart (pOp2 bAdd (pVar 6) (pC (.int 1)))) pNo)))
  pNext)
  (pSeq (pIf (pTest (pOp2 (bEq id) (pOp2 bMod (pVar 4) (pC (.int 8))) (pC (.int 7)))) (pSeq (pSetD 8 (pSl (pVar 0) (pPart (pOp2 bAdd (pVar 1) (pC (.int 1)))) (pPart (pOp2 bAdd (pOp2 bAdd (pVar 1) (pC (.int 1))) (pOp2 bMod (pOp2 bDiv (pVar 4) (pC (.int 8))) (pC (.int 14)))))))
  (pSet 5 (pM1 bJoin (pC (.str [])) (pLc (pItL (pVar 8)) (tgN 9) pYes (pOp2 bIx (pVar 3) (pOp2 bMod (pVar 9) (pCall cLen (pCons (pVar 3) pNil)))) [9]))))
  pNext)
  (pRet (pVar 5)))))))))
abbrev N__law_text : List Str := ["d", "spot", "book", "letters", "x", "text", "at", "letter", "some", "one"]
def p__law_at : PTS :=
  (pSeq (pSet 3 pDict0)
  (pSeq (pWip [4, 5] (pFor (pItL (pVar 0)) (tgT [4, 5]) (pGw [4, 5] [4, 5] (pIf (pTest (pOp2 (bEq id) (pSl (pVar 1) (pPart (pVar 2)) (pPart (pOp2 bAdd (pVar 2) (pCall cLen (pCons (pVar 4) pNil))))) (pVar 4))) (pSetIx (pVar 3) (pCall cLen (pCons (pVar 4) pNil)) (pVar 4))
  pNext))))
  (pRet (pLc (pItL (pCall cSorted (pCons (pVar 3) pNil))) (tgN 6) pYes (pOp2 bIx (pVar 3) (pVar 6)) [6]))))
abbrev N__law_at : List Str := ["book", "text", "place", "found", "word", "weight", "size"]
def p__law_ways : PTS :=
  (pSeq (pSet 2 (pOp2 bAdd (pOp2 bMul (pLst (pCons (pC (.int 0)) pNil)) (pCall cLen (pCons (pVar 1) pNil))) (pLst (pCons (pC (.int 1)) pNil))))
  (pSeq (pWip [3, 4] (pFor (pRng3 (pCons (pOp2 bSub (pCall cLen (pCons (pVar 1) pNil)) (pC (.int 1))) (pCons (pNeg (pC (.int 1))) (pCons (pNeg (pC (.int 1))) pNil)))) (tgN 3) (pGw [3, 4] [3, 4] (pWip [4] (pFor (pItL (pCalls (callP pre__law_at f__law_at) (pCons (pVar 0) (pCons (pVar 1) (pCons (pVar 3) pNil))))) (tgN 4) (pGw [4] [4] (pSetIx (pVar 2) (pVar 3) (pOp2 bAdd (pOp2 bIx (pVar 2) (pVar 3)) (pOp2 bIx (pVar 2) (pOp2 bAdd (pVar 3) (pCall cLen (pCons (pVar 4) pNil))))))))))))
  (pRet (pVar 2))))
abbrev N__law_ways : List Str := ["book", "text", "found", "place", "word"]
def p__law_is_whole : PTS :=
  (pRet (pAndV (pIsiP "int" (pVar 0)) (pAndV (pNotV (pIsiP "bool" (pVar 0))) (pOp2 (bEq id) (pVar 0) (pVar 1)))))
abbrev N__law_is_whole : List Str := ["found", "due"]
def p__law_is_list : PTS :=
  (pRet (pAndV (pIsiP "list" (pVar 0)) (pOp2 (bEq id) (pVar 0) (pVar 1))))
abbrev N__law_is_list : List Str := ["found", "due"]
def p__law_long : PTS :=
  (pSeq (pSetD 2 (pOp2 bMod (pOp2 bIx (pVar 0) (pVar 1)) (pC (.int 5))))
  (pSeq (pSet 3 (pOp2 bAdd (pC (.int 1200)) (pOp2 bMod (pOp2 bIx (pVar 0) (pOp2 bAdd (pVar 1) (pC (.int 1)))) (pC (.int 800)))))
  (pSeq (pSet 4 (pPickL [[.str [97], .str [97, 97], .str [97, 97, 97]], [.str [97], .str [97, 98], .str [98, 97]], [.str [97, 98], .str [97, 98, 99], .str [99], .str [99, 97, 98]], [], []] (pVar 2)))
  (pSeq (pSetD 5 (pOp2 bMul (pOp2 bIx (pLst (pCons (pC (.str [97])) (pCons (pC (.str [97, 98])) (pCons (pC (.str [97, 98, 99])) (pCons (pC (.str [])) (pCons (pC (.str [])) pNil)))))) (pVar 2)) (pC (.int 2000))))
  (pSeq (pIf (pTest (pOp2 (bEq id) (pVar 2) (pC (.int 3)))) (pSeq (pSet 6 (pC (.str abc)))
  (pSeq (pWip [7, 8] (pFor (pRng1 (pCons (pC (.int 200)) pNil)) (tgN 7) (pGw [7, 8] [7, 8] (pSeq (pSetD 8 (pOp2 bAdd (pOp2 bAdd (pC (.str [99])) (pOp2 bIx (pVar 6) (pOp2 bDiv (pVar 7) (pC (.int 26))))) (pOp2 bIx (pVar 6) (pOp2 bMod (pVar 7) (pC (.int 26))))))
  (pDrop (pLM lAppend (pVar 4) (pCons (pVar 8) pNil)))))))
  (pSeq (pSet 4 (pOp2 bAdd (pLst (pCons (pC (.str [97])) (pCons (pC (.str [97, 98])) (pCons (pC (.str [98, 97, 98])) pNil)))) (pVar 4)))
  (pSeq (pWip [7, 9] (pFor (pRng1 (pCons (pC (.int 500)) pNil)) (tgN 7) (pGw [7, 9] [7, 9] (pSeq (pSetD 9 (pOp2 bAdd (pOp2 bMul (pOp2 bIx (pVar 0) (pOp2 bAdd (pVar 1) (pC (.int 1)))) (pOp2 bAdd (pVar 7) (pC (.int 1)))) (pOp2 bMul (pOp2 bMul (pC (.int 7)) (pVar 7)) (pVar 7))))
  (pSetD 5 (pOp2 bAdd (pVar 5) (pOp2 bIx (pVar 4) (pOp2 bMod (pVar 9) (pC (.int 203))))))))))
  (pSet 3 (pC (.int 1500)))))))
  pNext)
  (pSeq (pIf (pTest (pOp2 (bEq id) (pVar 2) (pC (.int 4)))) (pSeq (pSet 10 (pCalls (callN pre__law_book ok__law_book) (pCons (pVar 0) (pCons (pC (.int 0)) pNil))))
  (pSeq (pSetD 5 (pCalls (callN pre__law_joined ok__law_joined) (pCons (pVar 0) (pCons (pC (.int 32)) (pCons (pVarF 10) (pCons (pC (.int 12)) pNil))))))
  (pRet (pTup (pCons (pVarF 10) (pCons (pOp2 bMul (pVar 5) (pOp2 bDiv (pVar 3) (pCall cMax2 (pCons (pC (.int 1)) (pCons (pCall cLen (pCons (pVar 5) pNil)) pNil))))) pNil))))))
  pNext)
  (pSeq (pSet 10 (pLst pNil))
  (pSeq (pWip [7, 11] (pFor (pRng1 (pCons (pCall cLen (pCons (pVar 4) pNil)) pNil)) (tgN 7) (pGw [7, 11] [7, 11] (pSeq (pSetD 11 (pOp2 bAdd (pOp2 bIx (pVar 0) (pOp2 bAdd (pOp2 bAdd (pVar 1) (pC (.int 2))) (pOp2 bMod (pVar 7) (pC (.int 3))))) (pOp2 bMul (pC (.int 5)) (pVar 7))))
  (pDrop (pLM lAppend (pVar 10) (pCons (pTup (pCons (pOp2 bIx (pVar 4) (pVar 7)) (pCons (pOp2 bSub (pOp2 bMod (pVar 11) (pC (.int 19))) (pC (.int 9))) pNil))) pNil)))))))
  (pRet (pTup (pCons (pVarF 10) (pCons (pSl (pVar 5) pNo (pPart (pVar 3))) pNil))))))))))))
abbrev N__law_long : List Str := ["d", "spot", "way", "many", "words", "text", "letters", "k", "word", "at", "book", "weight"]
end PD

/-! Q: readings of the defs that draw. -/
namespace PD
open PySem L2
local macro_rules | `(tactic| walk_at "rd") => `(tactic| simp (config := { decide := true }) only [pSeq_then, pNext, pNever, pBreak, pCont, pDrop, pRet, pRetN, pIf, pSet, pSetD, setD, setP, setO, pVar, pC, pOp2, pTest, pAnd, pOr, pNot, pAndV, pOrV, pNotV, pIfE, pNil, pCons, pLst, pTup, pDict0, pDictC, pDM, dUpdate, pCall, pIsiP, pM1, bJoin, pNo, pPart, pSl, pSortI, pLM, lAppend, lInsert, lExtend, lPopAt, pLc_eq, pFor_eq, pWhile_eq, pWip, pGw, wipeS, trunc, truncE, pItL, pItS, pRng1, pRng2, pRng3, pVarF, pAug, pDictLen, pLr3, pNeg, pCalls, callP, pEnum, pStepS, pRevL, bStarts, bEnds, pAugK, pItK, pFz, pPickL, cSum, cAbs, pre_is_text, f_is_text, pre_need_text, f_need_text, pre_only_words, f_only_words, pre_words_from, f_words_from, pre_ways_on, f_ways_on, pre_cut_count, f_cut_count, pre__law_at, f__law_at, pre__law_ways, f__law_ways, pre__law_is_whole, f__law_is_whole, pre__law_is_list, f__law_is_list, pre__law_draws, pre__law_word, pre__law_weight, pre__law_letters, pre__law_begins, pre__law_book, pre__law_joined, pre__law_text, pre__law_long, merge_dictOf, filter_none, callN, toAR, R.fz, view, views, dats, O.toD, AR.toR, bAdd, bSub, bMul, bDiv, bMod, bPow, bEq, bCmp, bIn, bIs, bIx, bSl, cLen, cMin2, cMax2, cInt, cList, cDict, cSorted, plainD, isiB, tyn, pAsg, tgT, tgU, setsA, pSetIx, storeO, kdOf, pChain, cmpD, pYes, pTru, truD, Hand, tgN, wipeA, fnAbs, envA, ownsA, retA, conP, conN, List.set, List.set_cons_zero, List.set_cons_succ, List.set_nil, List.getElem?_cons_zero, List.getElem?_cons_succ, List.getElem?_nil, List.length_cons, List.length_nil, List.cons_append, List.nil_append, List.append_nil, List.replicate, Nat.reduceSub, Nat.reduceAdd, Nat.zero_add, Int.zero_add, true_and, and_true, reduceIte, Bool.false_eq_true, id, Bool.not_true, Bool.not_false, List.nodup_nil, List.nodup_cons, List.not_mem_nil, not_false_eq_true, List.take_zero, List.take_succ_cons, List.take_nil, List.map_cons, List.map_nil])
local macro_rules | `(tactic| walk_at "sc") => `(tactic| first | with_reducible assumption | omega | assumption | with_reducible rfl | exact True.intro | exact okD_ints | exact okD_nil | exact okD_int _ | exact okD_bl _ | exact okD_non | exact okD_sm (by assumption) | with_reducible exact cmulR (by omega) (by omega) | with_reducible exact cmulL (by omega) (by omega) | with_reducible exact cdivw (by omega) (by omega) | (with_reducible refine smallI_of ?_ ?_ <;> first | omega | (simp only [List.length_map, List.length_append, List.length_range, List.length_replicate, List.length_cons, List.length_nil, List.length_take, List.length_drop]; omega)) | (unfold CPow; decide) | (simp only [List.length_map, List.length_append, List.length_range, List.length_replicate, List.length_cons, List.length_nil, List.length_take, List.length_drop]; omega) | (refine ⟨?_, ?_⟩ <;> walk_at "sc"))
local macro_rules | `(tactic| walk_at "go") => `(tactic| repeat (first | walk_at "rd" | with_reducible refine then_go ?_ | (refine And.intro (by walk_at "sc") ?_) | (refine dict_of (by assumption) ?_) | rw [deq_self (by walk_at "sc")] | walk_at "sc"))
/-! ### drawn numbers -/
theorem dr_at {dd : List D} {n i : Int} {P : D → Prop} (h : Dr dd n) (h0 : 0 ≤ i) (h1 : i < n) (k : ∀ x : Int, 0 ≤ x → x < 10007 → P (.int x)) : ∃ d, atI dd i = some d ∧ P d := by
  obtain ⟨is, rfl, hi, hn, _⟩ := h
  refine at_ex h0 (by rw [List.length_map]; omega) fun d hd => ?_
  obtain ⟨x, hx, rfl⟩ := List.mem_map.mp hd
  exact k x (hi x hx).1 (hi x hx).2
theorem Dr.mono {dd : List D} {n m : Int} (h : Dr dd n) (hm : m ≤ n) : Dr dd m := by
  obtain ⟨is, rfl, hi, hn, hl⟩ := h
  exact ⟨is, rfl, hi, by omega, hl⟩
theorem r__law_draws : Law p__law_draws N__law_draws 2 (conN pre__law_draws ok__law_draws) := fun ars h => by
  have h : pre__law_draws ars := h
  unfold pre__law_draws at h
  split at h
  · rename_i ns m _
    obtain ⟨hn, hm0, hm1⟩ := h
    refine ⟨rfl, ?_⟩
    unfold p__law_draws endsA
    walk_at "go"
    have hcl : (cutL ns none (some 63)).length ≤ 63 := by rw [cut_b (by decide), List.length_take]; omega
    refine for_any (fun i A => ∃ (is : List Int) (base : Int), A = ⟨[AV.d (.scr ns), AV.d (.int m), AV.p 0, AV.d (.int base), .un, .un, .un, .un], [some (.lst (is.map .int))]⟩ ∧ (∀ x ∈ is, 0 ≤ x ∧ x < 10007) ∧ (is.length : Int) ≤ m + 2 * i ∧ 0 ≤ base ∧ base < 2147483629)
      ⟨[], 7, rfl, by simp, by simp; omega, by omega, by omega⟩ (by intros; trivial) ?_ ?_
    · rintro i A hi ⟨is, base, rfl, his, hil, hb0, hb1⟩
      rw [List.length_map] at hi
      have e : itE (itL ((cutL ns none (some 63)).map D.int)) i = .tup [.int i, .int (cutL ns none (some 63))[i]] := by
        unfold itE
        rw [itL_map hi]
      rw [e]
      generalize (cutL ns none (some 63))[i] = cell
      refine ⟨_, rfl, fun J Kb hJ hK => ?_⟩
      have hi63 : i < 63 := by omega
      have fin : ∀ (is' : List Int) (base' : Int), (∀ x ∈ is', 0 ≤ x ∧ x < 10007) → (is'.length : Int) ≤ m + 2 * (i + 1) → 0 ≤ base' → base' < 2147483629 → J ⟨[AV.d (.scr ns), AV.d (.int m), AV.p 0, AV.d (.int base'), .un, .un, .un, .un], [some (.lst (is'.map .int))]⟩ := fun is' base' h1 h2 h3 h4 => hJ _ ⟨is', base', rfl, h1, by omega, h3, h4⟩
      have hnum : ∃ n : Nat, (if cell < 0 then -cell else cell) = (n : Int) := ⟨cell.natAbs, by split <;> omega⟩
      obtain ⟨n, hn'⟩ := hnum
      walk_at "go"
      rw [hn']
      have hb2 : 0 ≤ (base * 31 + (n : Int)) % 2147483629 ∧ (base * 31 + (n : Int)) % 2147483629 < 2147483629 := ⟨Int.emod_nonneg _ (by decide), Int.emod_lt_of_pos _ (by decide)⟩
      generalize (base * 31 + (n : Int)) % 2147483629 = base' at hb2 ⊢
      walk_at "go"
      have app : ∀ (x : Int) (is' : List Int), (∀ y ∈ is', 0 ≤ y ∧ y < 10007) → ∀ y ∈ is' ++ [x % 10007], 0 ≤ y ∧ y < 10007 := fun x is' h y hy => by
        rcases List.mem_append.mp hy with hy | hy
        · exact h y hy
        · rw [List.mem_singleton] at hy
          rw [hy]
          exact ⟨Int.emod_nonneg _ (by decide), Int.emod_lt_of_pos _ (by decide)⟩
      split
      · refine while_run (fun k A => ∃ (is' : List Int) (n' : Nat), A = ⟨[AV.d (.scr ns), AV.d (.int m), AV.p 0, AV.d (.int base'), .d (.int i), .d (.int cell), .d (.int n'), .un], [some (.lst (is'.map .int))]⟩ ∧ (∀ x ∈ is', 0 ≤ x ∧ x < 10007) ∧ (is'.length : Int) ≤ m + 2 * i ∧ k = n') n ⟨is, n, rfl, his, hil, rfl⟩ ?_
        rintro k A ⟨is', n', rfl, h1, h2, hk⟩ J2 Kb2 hJ2 hK2
        walk_at "go"
        split
        · rename_i hpos
          have hpos : 0 < n' := by have := of_decide_eq_true hpos; omega
          walk_at "go"
          split
          · rename_i hlt
            have hlt := of_decide_eq_true hlt
            rw [List.length_map] at hlt
            walk_at "go"
            have e1 : (n' : Int) / 10007 = ((n' / 10007 : Nat) : Int) := by omega
            rw [e1]
            refine hJ2 (n' / 10007) _ (by omega) ⟨is' ++ [(n' : Int) % 10007], n' / 10007, by rw [List.map_append]; rfl, app _ _ h1, by rw [List.length_append, List.length_singleton]; omega, rfl⟩
          · exact fin is' base' h1 (by omega) hb2.1 hb2.2
        · walk_at "go"
          exact fin is' base' h1 (by omega) hb2.1 hb2.2
      · walk_at "go"
        have fin2 : ∀ a b : Int, J ⟨[AV.d (.scr ns), AV.d (.int m), AV.p 0, AV.d (.int base'), .un, .un, .un, .un], [some (.lst (is.map .int ++ [.int (a % 10007)] ++ [.int (b % 10007)]))]⟩ := fun a b => by
          have := fin ((is ++ [a % 10007]) ++ [b % 10007]) base' (app _ _ (app _ _ his)) (by simp only [List.length_append, List.length_cons, List.length_nil]; omega) hb2.1 hb2.2
          rw [List.map_append, List.map_append] at this
          exact this
        exact fin2 _ _
    · rintro A ⟨is, base, rfl, his, hil, hb0, hb1⟩
      rw [List.length_map] at hil
      walk_at "go"
      rw [List.length_map]
      refine for_rng0 (fun i A => ∃ is' : List Int, A = ⟨[AV.d (.scr ns), AV.d (.int m), AV.p 0, AV.d (.int base), .un, .un, .un, .un], [some (.lst (is'.map .int))]⟩ ∧ (∀ x ∈ is', 0 ≤ x ∧ x < 10007) ∧ is'.length = is.length + i)
        ⟨is, rfl, his, rfl⟩ (by intros; trivial) ?_ ?_
      · rintro i A hi ⟨is', rfl, h1, h2⟩
        refine ⟨_, rfl, fun J Kb hJ hK => ?_⟩
        have fin : ∀ x : Int, J ⟨[AV.d (.scr ns), AV.d (.int m), AV.p 0, AV.d (.int base), .un, .un, .un, .un], [some (.lst (is'.map .int ++ [.int (x % 10007)]))]⟩ := fun x => hJ _ ⟨is' ++ [x % 10007], by rw [List.map_append]; rfl, fun y hy => by
          rcases List.mem_append.mp hy with hy | hy
          · exact h1 y hy
          · rw [List.mem_singleton] at hy
            rw [hy]
            exact ⟨Int.emod_nonneg _ (by decide), Int.emod_lt_of_pos _ (by decide)⟩, by rw [List.length_append, List.length_singleton]; omega⟩
        walk_at "go"
        exact fin _
      · rintro A ⟨is', rfl, h1, h2⟩
        walk_at "go"
        exact ⟨_, rfl, _, rfl, is', rfl, h1, by omega, by omega⟩
  · exact h.elim
theorem word_or {a : Tx} (h : isWord a) : small a = true := h.1
theorem r__law_word : Law p__law_word N__law_word 2 (conN pre__law_word ok__law_word) := fun ars h => by
  have h : pre__law_word ars := h
  unfold pre__law_word at h
  split at h
  · rename_i x s _
    obtain ⟨hx0, hx1, hs, hs1, hs2⟩ := h
    refine ⟨rfl, ?_⟩
    unfold p__law_word endsA
    walk_at "go"
    refine at_ex (by omega) (by show x % 8 < 8; omega) fun d hd => ?_
    have hd : ∃ n : Nat, d = .int n ∧ 1 ≤ n ∧ n ≤ 12 := by
      simp only [List.mem_cons, List.not_mem_nil, or_false] at hd
      rcases hd with rfl | rfl | rfl | rfl | rfl | rfl | rfl | rfl
      · exact ⟨1, rfl, by omega, by omega⟩
      · exact ⟨2, rfl, by omega, by omega⟩
      · exact ⟨2, rfl, by omega, by omega⟩
      · exact ⟨3, rfl, by omega, by omega⟩
      · exact ⟨4, rfl, by omega, by omega⟩
      · exact ⟨1, rfl, by omega, by omega⟩
      · exact ⟨5, rfl, by omega, by omega⟩
      · exact ⟨(6 + x / 8 % 7).toNat, by congr 1; omega, by omega, by omega⟩
    obtain ⟨n, rfl, n0, n1⟩ := hd
    walk_at "go"
    refine for_rng0 (fun i A => ∃ l : Tx, A = ⟨[AV.d (.int x), AV.d (.str s), AV.d (.int n), AV.d (.str l), .un, .un], []⟩ ∧ small l = true ∧ l.length = i) ⟨[], rfl, rfl, rfl⟩ (by intros; trivial) ?_ ?_
    · rintro i A hi ⟨l, rfl, h1, h2⟩
      rw [Int.toNat_natCast] at hi
      refine ⟨_, rfl, fun J Kb hJ hK => ?_⟩
      walk_at "go"
      have hq : 0 ≤ (x / (8 + 5 * (i : Int)) + (i : Int) * (x / 64)) % (s.length : Int) ∧ (x / (8 + 5 * (i : Int)) + (i : Int) * (x / 64)) % (s.length : Int) < s.length := ⟨Int.emod_nonneg _ (by omega), Int.emod_lt_of_pos _ (by omega)⟩
      refine at_ex hq.1 hq.2 fun d hd => ?_
      walk_at "go"
      exact hJ _ ⟨l ++ [d], rfl, small_append h1 (small_one hs hd), by rw [List.length_append, List.length_singleton]; omega⟩
    · rintro A ⟨l, rfl, h1, h2⟩
      rw [Int.toNat_natCast] at h2
      walk_at "rd"
      rw [then_eq]
      walk_at "rd"
      exact ⟨l, rfl, h1, by omega, by omega⟩
  · exact h.elim
theorem r__law_weight : Law p__law_weight N__law_weight 1 (conN pre__law_weight ok__law_weight) := fun ars h => by
  have h : pre__law_weight ars := h
  unfold pre__law_weight at h
  split at h
  · rename_i x _
    obtain ⟨hx0, hx1⟩ := h
    refine ⟨rfl, ?_⟩
    unfold p__law_weight endsA
    walk_at "go"
    refine at_ex (by omega) (by show x / 7 % 6 < 6; omega) fun d hd => ?_
    simp only [List.mem_cons, List.not_mem_nil, or_false] at hd
    rcases hd with rfl | rfl | rfl | rfl | rfl | rfl <;> exact ⟨_, rfl⟩
  · exact h.elim
theorem r__law_letters : Law p__law_letters N__law_letters 1 (conN pre__law_letters ok__law_letters) := fun ars h => by
  have h : pre__law_letters ars := h
  unfold pre__law_letters at h
  split at h
  · rename_i x _
    obtain ⟨hx0, hx1⟩ := h
    refine ⟨rfl, ?_⟩
    unfold p__law_letters endsA
    walk_at "go"
    split
    · walk_at "go"
      exact ⟨abc, rfl, by decide, by decide, by decide⟩
    · walk_at "go"
      split
      · have hs : ∀ a : Int, 0 ≤ a → a < 6 → small (stepT abc (some a) 5) = true ∧ 1 ≤ (stepT abc (some a) 5).length ∧ (stepT abc (some a) 5).length ≤ 26 := fun a a0 a1 => by
          have : a = 0 ∨ a = 1 ∨ a = 2 ∨ a = 3 ∨ a = 4 ∨ a = 5 := by omega
          rcases this with rfl | rfl | rfl | rfl | rfl | rfl <;> decide
        obtain ⟨s1, s2, s3⟩ := hs (x / 5 % 22 % 6) (by omega) (by omega)
        walk_at "go"
        exact ⟨_, rfl, s1, s2, s3⟩
      · walk_at "go"
        refine at_ex (by omega) (by show x % 5 < 5; omega) fun d hd => ?_
        have hd : ∃ k : Int, d = .int k ∧ 1 ≤ k ∧ k ≤ 5 := by
          simp only [List.mem_cons, List.not_mem_nil, or_false] at hd
          rcases hd with rfl | rfl | rfl | rfl | rfl <;> exact ⟨_, rfl, by omega, by omega⟩
        obtain ⟨k, rfl, k0, k1⟩ := hd
        walk_at "go"
        rw [cut_ab (by omega) (by omega)]
        have hl : abc.length = 26 := rfl
        walk_at "go"
        exact ⟨_, rfl, small_take (small_drop (by decide) _) _, by rw [List.length_take, List.length_drop]; omega, by rw [List.length_take, List.length_drop]; omega⟩
  · exact h.elim
theorem wd_keys {kvs : List (Kd × D)} (h : WDict kvs) : ∃ ws : List Tx, (kvs.map fun p => kD p.1) = ws.map D.str ∧ (∀ w ∈ ws, isWord w) ∧ ws.Nodup ∧ ∀ w, hasK kvs (.inr w) = decide (w ∈ ws) := by
  obtain ⟨ps, rfl, hw, hn⟩ := h
  refine ⟨ps.map (·.1), kvs_keys, fun w hw' => ?_, hn, fun w => ?_⟩
  · obtain ⟨p, hp, rfl⟩ := List.mem_map.mp hw'
    exact hw p hp
  · unfold hasK
    rw [List.any_map, Bool.eq_iff_iff, List.any_eq_true, decide_eq_true_eq, List.mem_map]
    constructor
    · rintro ⟨p, hp, e⟩
      exact ⟨p, hp, Sum.inr.inj (of_decide_eq_true e)⟩
    · rintro ⟨p, hp, rfl⟩
      exact ⟨p, hp, decide_eq_true rfl⟩
theorem r__law_begins : Law p__law_begins N__law_begins 2 (conN pre__law_begins ok__law_begins) := fun ars h => by
  have h : pre__law_begins ars := h
  unfold pre__law_begins at h
  split at h
  · rename_i l kvs _
    obtain ⟨hl, hl2, hw, hk⟩ := h
    refine ⟨rfl, ?_⟩
    unfold p__law_begins endsA
    obtain ⟨ws, e, hws, hnd, hin⟩ := wd_keys hw
    have hlen : ws.length ≤ 1000 := by
      have := congrArg List.length e
      rw [List.length_map, List.length_map] at this
      omega
    walk_at "go"
    rw [e]
    refine lc_over (fun w => decide ((l.length : Int) < w.length)) .str trivial (by omega) (fun w hw' => ⟨_, rfl, fun J hJ => ?_⟩) ?_
    · obtain ⟨w1, w2, w3⟩ := hws w hw'
      walk_at "go"
    · walk_at "go"
      have hl3 : (ws.filter fun w => decide ((l.length : Int) < w.length)).length ≤ 1000 := Nat.le_trans (List.length_filter_le _ _) hlen
      refine lc_over (fun w => decide (w.take l.length = l)) .str trivial (by omega) (fun w hw' => ⟨_, rfl, fun J hJ => ?_⟩) ?_
      · obtain ⟨w1, w2, w3⟩ := hws w (List.mem_filter.mp hw').1
        walk_at "go"
        rw [cut_b (by omega), Int.toNat_natCast]
        walk_at "go"
      · walk_at "go"
        refine ⟨okD_strS fun w hw' => (hws w (List.mem_filter.mp (List.mem_filter.mp hw').1).1).1, ?_⟩
        walk_at "go"
        exact ⟨_, rfl⟩
  · exact h.elim
theorem rowsD_pairs (ps : List (Tx × Int)) : rowsD ps = ((rowsD ps).map unpair).map pairD := by
  unfold rowsD
  rw [List.map_map, List.map_map]
  exact List.map_congr_left fun p _ => rfl
theorem Rows.pairs {ds : List D} (h : Rows ds) : ds = (ds.map unpair).map pairD := by
  obtain ⟨ps, rfl, _, _⟩ := h
  exact rowsD_pairs ps
theorem Rows.mem {ds : List D} (h : Rows ds) {d : D} (hd : d ∈ ds) : ∃ l v, d = .tup [.str l, .int v] ∧ isWord l := by
  obtain ⟨ps, rfl, hw, _⟩ := h
  obtain ⟨p, hp, rfl⟩ := List.mem_map.mp hd
  exact ⟨_, _, rfl, hw p hp⟩
theorem Rows.ok {ds : List D} (h : Rows ds) : okD (.lst ds) := okD_lst (m := 1) (by decide) fun x hx => by
  obtain ⟨l, v, rfl, hl⟩ := h.mem hx
  have := chkx_str (small_okX hl.1)
  refine ⟨?_, by simp [dep, deps]⟩
  simp only [chk, chks, Bool.and_true]
  have := this.1
  simp only [chk] at this
  exact this
theorem Book.rows {ds : List D} (h : Book ds) : Rows ds := by
  obtain ⟨ps, e, hw, hs⟩ := h
  exact ⟨ps, e, hw, hs.imp fun {a b} h e => by
    subst e
    exact List.lt_irrefl _ h⟩
end PD

/-! Q: readings of the defs that draw. -/
namespace PD
open PySem L2
local macro_rules | `(tactic| walk_at "rd") => `(tactic| simp (config := { decide := true }) only [pSeq_then, pNext, pNever, pBreak, pCont, pDrop, pRet, pRetN, pIf, pSet, pSetD, setD, setP, setO, pVar, pC, pOp2, pTest, pAnd, pOr, pNot, pAndV, pOrV, pNotV, pIfE, pNil, pCons, pLst, pTup, pDict0, pDictC, pDM, dUpdate, pCall, pIsiP, pM1, bJoin, pNo, pPart, pSl, pSortI, pLM, lAppend, lInsert, lExtend, lPopAt, pLc_eq, pFor_eq, pWhile_eq, pWip, pGw, wipeS, trunc, truncE, pItL, pItS, pRng1, pRng2, pRng3, pVarF, pAug, pDictLen, pLr3, pNeg, pCalls, callP, pEnum, pStepS, pRevL, bStarts, bEnds, pAugK, pItK, pFz, pPickL, cSum, cAbs, pre_is_text, f_is_text, pre_need_text, f_need_text, pre_only_words, f_only_words, pre_words_from, f_words_from, pre_ways_on, f_ways_on, pre_cut_count, f_cut_count, pre__law_at, f__law_at, pre__law_ways, f__law_ways, pre__law_is_whole, f__law_is_whole, pre__law_is_list, f__law_is_list, pre__law_draws, pre__law_word, pre__law_weight, pre__law_letters, pre__law_begins, pre__law_book, pre__law_joined, pre__law_text, pre__law_long, merge_dictOf, filter_none, callN, toAR, R.fz, view, views, dats, O.toD, AR.toR, bAdd, bSub, bMul, bDiv, bMod, bPow, bEq, bCmp, bIn, bIs, bIx, bSl, cLen, cMin2, cMax2, cInt, cList, cDict, cSorted, plainD, isiB, tyn, pAsg, tgT, tgU, setsA, pSetIx, storeO, kdOf, pChain, cmpD, pYes, pTru, truD, Hand, tgN, wipeA, fnAbs, envA, ownsA, retA, conP, conN, List.set, List.set_cons_zero, List.set_cons_succ, List.set_nil, List.getElem?_cons_zero, List.getElem?_cons_succ, List.getElem?_nil, List.length_cons, List.length_nil, List.cons_append, List.nil_append, List.append_nil, List.replicate, Nat.reduceSub, Nat.reduceAdd, Nat.zero_add, Int.zero_add, true_and, and_true, reduceIte, Bool.false_eq_true, id, Bool.not_true, Bool.not_false, List.nodup_nil, List.nodup_cons, List.not_mem_nil, not_false_eq_true, List.take_zero, List.take_succ_cons, List.take_nil, List.map_cons, List.map_nil])
local macro_rules | `(tactic| walk_at "sc") => `(tactic| first | with_reducible assumption | omega | assumption | with_reducible rfl | exact True.intro | exact okD_ints | exact okD_nil | exact okD_int _ | exact okD_bl _ | exact okD_non | exact okD_sm (by assumption) | with_reducible exact cmulR (by omega) (by omega) | with_reducible exact cmulL (by omega) (by omega) | with_reducible exact cdivw (by omega) (by omega) | (with_reducible refine smallI_of ?_ ?_ <;> first | omega | (simp only [List.length_map, List.length_append, List.length_range, List.length_replicate, List.length_cons, List.length_nil, List.length_take, List.length_drop]; omega)) | (unfold CPow; decide) | (simp only [List.length_map, List.length_append, List.length_range, List.length_replicate, List.length_cons, List.length_nil, List.length_take, List.length_drop]; omega) | (refine ⟨?_, ?_⟩ <;> walk_at "sc"))
local macro_rules | `(tactic| walk_at "go") => `(tactic| repeat (first | walk_at "rd" | with_reducible refine then_go ?_ | (refine And.intro (by walk_at "sc") ?_) | (refine dict_of (by assumption) ?_) | rw [deq_self (by walk_at "sc")] | walk_at "sc"))
theorem strs_of_keys (ps : List (Tx × Int)) : ((ps.map fun p => ((.inr p.1, .int p.2) : Kd × D)).map fun p => kD p.1) = (ps.map (·.1)).map D.str := kvs_keys
theorem getK_words {ps : List (Tx × Int)} (hn : (ps.map (·.1)).Nodup) {p : Tx × Int} (hp : p ∈ ps) : getK (ps.map fun p => ((.inr p.1, .int p.2) : Kd × D)) (.inr p.1) = some (.int p.2) := by
  induction ps with
  | nil => simp at hp
  | cons a r ih =>
    rw [List.map_cons, List.nodup_cons] at hn
    unfold getK
    rw [List.map_cons, List.find?_cons]
    by_cases e : a.1 = p.1
    · have : p = a := by
        rcases List.mem_cons.mp hp with h | h
        · exact h
        · exact absurd (List.mem_map.mpr ⟨p, h, e.symm⟩) hn.1
      subst this
      simp
    · rw [decide_eq_false (fun z : (Sum.inr a.1 : Kd) = .inr p.1 => e (Sum.inr.inj z))]
      have hp : p ∈ r := by
        rcases List.mem_cons.mp hp with h | h
        · subst h; exact absurd rfl e
        · exact h
      exact ih hn.2 hp
theorem r__law_book : Law p__law_book N__law_book 2 (conN pre__law_book ok__law_book) := fun ars h => by
  have h : pre__law_book ars := h
  unfold pre__law_book at h
  split at h
  · rename_i dd spot _
    obtain ⟨hs, hd⟩ := h
    refine ⟨rfl, ?_⟩
    unfold p__law_book endsA
    walk_at "rd"
    refine dr_at hd (by omega) (by omega) fun x x0 x1 => ?_
    walk_at "rd"
    refine ⟨⟨x0, x1⟩, ?_⟩
    rintro y ⟨s, rfl, s1, s2, s3⟩
    walk_at "go"
    refine dr_at hd (by omega) (by omega) fun x x0 x1 => ?_
    walk_at "go"
    refine for_rng0 (fun i A => ∃ (ps : List (Tx × Int)) (last : Tx), A = ⟨[AV.d (.lst dd), AV.d (.int spot), AV.d (.str s), AV.p 0, AV.d (.str last), .un, .un, .un, .un], [some (.dic (ps.map fun p => (.inr p.1, .int p.2)))]⟩ ∧ (∀ p ∈ ps, isWord p.1) ∧ (ps.map (·.1)).Nodup ∧ ps.length ≤ i ∧ small last = true ∧ last.length ≤ 12)
      ⟨[], [], rfl, by simp, by simp, by simp, rfl, by simp⟩ (by intros; trivial) ?_ ?_
    · rintro i A hi ⟨ps, last, rfl, hw, hn, hl, hs1, hs2⟩
      have hi : i < 15 := by omega
      refine ⟨_, rfl, fun J Kb hJ hK => ?_⟩
      walk_at "rd"
      refine dr_at hd (by omega) (by omega) fun x x0 x1 => ?_
      walk_at "go"
      rintro y ⟨w, rfl, w1, w2, w3⟩
      walk_at "go"
      have fin : ∀ w : Tx, isWord w → Then (pSeq (pSetIx (pVar 3) (pVar 7) (pCalls (callN pre__law_weight ok__law_weight) (pCons (pOp2 bIx (pVar 0) (pOp2 bAdd (pOp2 bAdd (pVar 1) (pC (.int 16))) (pVar 5))) pNil))) (pSet 4 (pVar 7)))
          { nx := fun A' => J (wipeS [5, 6, 7] (trunc 1 A')), rt := retA 0 fun y os => ok__law_book [AR.d (.lst dd), AR.d (.int spot)] y ∧ os = [], bk := fun A' => Kb (wipeS [4, 5, 6, 7] (trunc 1 A')), ct := fun A' => J (wipeS [5, 6, 7] (trunc 1 A')) }
          ⟨[AV.d (.lst dd), AV.d (.int spot), AV.d (.str s), AV.p 0, AV.d (.str last), .d (.int i), .d (.int x), .d (.str w), .un], [some (.dic (ps.map fun p => (.inr p.1, .int p.2)))]⟩ := fun w hw' => by
        rw [then_eq]
        walk_at "rd"
        refine dr_at hd (by omega) (by omega) fun x x0 x1 => ?_
        walk_at "rd"
        refine ⟨⟨x0, x1⟩, ?_⟩
        rintro y ⟨v, rfl⟩
        walk_at "rd"
        obtain ⟨qs, e, q1, q2, q3⟩ := putD_words (v := v) hw hn hw'
        refine ⟨by rw [List.length_map]; omega, ?_⟩
        rw [then_eq, e]
        walk_at "rd"
        exact hJ _ ⟨qs, w, rfl, q1, q2, by omega, hw'.1, hw'.2.2⟩
      split
      · refine ⟨by omega, by rw [List.length_append]; omega, ?_⟩
        refine fin _ ?_
        rw [cut_b (by decide)]
        exact ⟨small_take (small_append hs1 w1) _, by rw [List.length_take, List.length_append]; omega, by rw [List.length_take, List.length_append]; omega⟩
      · exact fin _ ⟨w1, w2, w3⟩
    · rintro A ⟨ps, last, rfl, hw, hn, hl, hs1, hs2⟩
      have hl15 : ps.length ≤ 15 := by omega
      dsimp only
      rw [then_eq]
      walk_at "rd"
      rw [strs_of_keys]
      have hok : srtOk ((ps.map (·.1)).map D.str) := srtOk_strs fun l hl => by
        obtain ⟨p, hp, rfl⟩ := List.mem_map.mp hl
        exact small_okX (hw p hp).1
      refine ⟨hok, ?_⟩
      rw [srt_texts]
      have hsl : ∀ w ∈ srtT (ps.map (·.1)), ∃ p ∈ ps, p.1 = w := fun w hw' => by
        have := (srtT_perm _).mem_iff.mp hw'
        obtain ⟨p, hp, e⟩ := List.mem_map.mp this
        exact ⟨p, hp, e⟩
      have hst := srtT_strict hn
      have hln : (srtT (ps.map (·.1))).length ≤ 15 := by
        rw [(srtT_perm _).length_eq, List.length_map]
        exact hl15
      generalize srtT (ps.map (·.1)) = rows at hsl hst hln ⊢
      have fin : ∀ rows : List Tx, (∀ w ∈ rows, ∃ p ∈ ps, p.1 = w) → rows.Pairwise (· < ·) → rows.length ≤ 15 → ∀ x : AV, Then (pRet (pLc (pItL (pVar 8)) (tgN 7) pYes (pTup (pCons (pVar 7) (pCons (pOp2 bIx (pVar 3) (pVar 7)) pNil))) [7])) (endsA 0 fun y os => ok__law_book [AR.d (.lst dd), AR.d (.int spot)] y ∧ os = [])
          ⟨[AV.d (.lst dd), AV.d (.int spot), AV.d (.str s), AV.d (.dic (ps.map fun p => (.inr p.1, .int p.2))), x, .un, .un, .un, AV.d (.lst (rows.map D.str))], [none]⟩ := fun rows h1 h2 h3 x => by
        rw [then_eq]
        unfold endsA
        walk_at "rd"
        have hv : ∀ w ∈ rows, ∃ v : Int, getK (ps.map fun p => ((.inr p.1, .int p.2) : Kd × D)) (.inr w) = some (.int v) := fun w hw' => by
          obtain ⟨p, hp, rfl⟩ := h1 w hw'
          exact ⟨p.2, getK_words hn hp⟩
        let g : Tx → Int := fun w => match getK (ps.map fun p => ((.inr p.1, .int p.2) : Kd × D)) (.inr w) with
          | some (.int v) => v
          | _ => 0
        refine lc_each (fun w => .tup [.str w, .int (g w)]) trivial (by omega) (fun w hw' => ⟨_, rfl, fun J hJ => ?_⟩) ?_
        · obtain ⟨v, e⟩ := hv w hw'
          have e2 : g w = v := by
            show (match getK (ps.map fun p => ((.inr p.1, .int p.2) : Kd × D)) (.inr w) with
              | some (.int v) => v
              | _ => 0) = v
            rw [e]
          rw [e2] at hJ
          walk_at "rd"
          exact ⟨_, e, hJ⟩
        · walk_at "rd"
          refine ⟨_, rfl, ⟨rows.map fun w => (w, g w), ?_, ?_, ?_⟩, by rw [List.length_map]; exact h3⟩
          · rw [List.map_map]
            rfl
          · intro p hp
            obtain ⟨w, hw', rfl⟩ := List.mem_map.mp hp
            obtain ⟨p, hp, e⟩ := h1 w hw'
            show isWord w
            rw [← e]
            exact hw p hp
          · rw [List.map_map]
            show (rows.map id).Pairwise _
            rw [List.map_id]
            exact h2
      rw [then_eq]
      walk_at "rd"
      refine dr_at hd (by omega) (by omega) fun x x0 x1 => ?_
      walk_at "go"
      split
      · refine lc_sub .str trivial (by omega) (fun w hw' => ⟨_, rfl, fun J hJ1 hJ2 => ?_⟩) fun ys hys => ?_
        · obtain ⟨p, hp, rfl⟩ := hsl w hw'
          have := hw p hp
          walk_at "rd"
          refine ⟨⟨this.1, this.2.2, ⟨ps, rfl, hw, hn⟩, by rw [List.length_map]; omega⟩, ?_⟩
          rintro y ⟨b, rfl⟩
          cases b
          · walk_at "rd"
            exact hJ1
          · walk_at "rd"
            exact hJ2
        · walk_at "rd"
          exact fin ys (fun w hw' => hsl w (hys.subset hw')) (hst.sublist hys) (Nat.le_trans hys.length_le hln) _
      · exact fin rows hsl hst hln _
  · exact h.elim
end PD

/-! Q: readings of the defs that draw. -/
namespace PD
open PySem L2
local macro_rules | `(tactic| walk_at "rd") => `(tactic| simp (config := { decide := true }) only [pSeq_then, pNext, pNever, pBreak, pCont, pDrop, pRet, pRetN, pIf, pSet, pSetD, setD, setP, setO, pVar, pC, pOp2, pTest, pAnd, pOr, pNot, pAndV, pOrV, pNotV, pIfE, pNil, pCons, pLst, pTup, pDict0, pDictC, pDM, dUpdate, pCall, pIsiP, pM1, bJoin, pNo, pPart, pSl, pSortI, pLM, lAppend, lInsert, lExtend, lPopAt, pLc_eq, pFor_eq, pWhile_eq, pWip, pGw, wipeS, trunc, truncE, pItL, pItS, pRng1, pRng2, pRng3, pVarF, pAug, pDictLen, pLr3, pNeg, pCalls, callP, pEnum, pStepS, pRevL, bStarts, bEnds, pAugK, pItK, pFz, pPickL, cSum, cAbs, pre_is_text, f_is_text, pre_need_text, f_need_text, pre_only_words, f_only_words, pre_words_from, f_words_from, pre_ways_on, f_ways_on, pre_cut_count, f_cut_count, pre__law_at, f__law_at, pre__law_ways, f__law_ways, pre__law_is_whole, f__law_is_whole, pre__law_is_list, f__law_is_list, pre__law_draws, pre__law_word, pre__law_weight, pre__law_letters, pre__law_begins, pre__law_book, pre__law_joined, pre__law_text, pre__law_long, merge_dictOf, filter_none, callN, toAR, R.fz, view, views, dats, O.toD, AR.toR, bAdd, bSub, bMul, bDiv, bMod, bPow, bEq, bCmp, bIn, bIs, bIx, bSl, cLen, cMin2, cMax2, cInt, cList, cDict, cSorted, plainD, isiB, tyn, pAsg, tgT, tgU, setsA, pSetIx, storeO, kdOf, pChain, cmpD, pYes, pTru, truD, Hand, tgN, wipeA, fnAbs, envA, ownsA, retA, conP, conN, List.set, List.set_cons_zero, List.set_cons_succ, List.set_nil, List.getElem?_cons_zero, List.getElem?_cons_succ, List.getElem?_nil, List.length_cons, List.length_nil, List.cons_append, List.nil_append, List.append_nil, List.replicate, Nat.reduceSub, Nat.reduceAdd, Nat.zero_add, Int.zero_add, true_and, and_true, reduceIte, Bool.false_eq_true, id, Bool.not_true, Bool.not_false, List.nodup_nil, List.nodup_cons, List.not_mem_nil, not_false_eq_true, List.take_zero, List.take_succ_cons, List.take_nil, List.map_cons, List.map_nil])
local macro_rules | `(tactic| walk_at "sc") => `(tactic| first | with_reducible assumption | omega | assumption | with_reducible rfl | exact True.intro | exact okD_ints | exact okD_nil | exact okD_int _ | exact okD_bl _ | exact okD_non | exact okD_sm (by assumption) | with_reducible exact cmulR (by omega) (by omega) | with_reducible exact cmulL (by omega) (by omega) | with_reducible exact cdivw (by omega) (by omega) | (with_reducible refine smallI_of ?_ ?_ <;> first | omega | (simp only [List.length_map, List.length_append, List.length_range, List.length_replicate, List.length_cons, List.length_nil, List.length_take, List.length_drop]; omega)) | (unfold CPow; decide) | (simp only [List.length_map, List.length_append, List.length_range, List.length_replicate, List.length_cons, List.length_nil, List.length_take, List.length_drop]; omega) | (refine ⟨?_, ?_⟩ <;> walk_at "sc"))
local macro_rules | `(tactic| walk_at "go") => `(tactic| repeat (first | walk_at "rd" | with_reducible refine then_go ?_ | (refine And.intro (by walk_at "sc") ?_) | (refine dict_of (by assumption) ?_) | rw [deq_self (by walk_at "sc")] | walk_at "sc"))
theorem deq_nil (ds : List D) : deq (.lst ds) (.lst []) = ds.isEmpty := by rw [deq_lst, deqs_nil]
theorem r__law_joined : Law p__law_joined N__law_joined 4 (conN pre__law_joined ok__law_joined) := fun ars h => by
  have h : pre__law_joined ars := h
  unfold pre__law_joined at h
  split at h
  · rename_i dd spot ds many _
    obtain ⟨hs, hd, hr, hl, hm0, hm1⟩ := h
    have okB := hr.ok
    refine ⟨rfl, ?_⟩
    unfold p__law_joined endsA
    walk_at "go"
    rw [deq_nil]
    have hn : (many * (if (!ds.isEmpty) = true then 1 else 0)).toNat ≤ many.toNat ∧ (0 < (many * (if (!ds.isEmpty) = true then 1 else 0)).toNat → 0 < ds.length) := by
      cases ds with
      | nil => simp
      | cons a r => simp
    have hsm : smallI (many * (if (!ds.isEmpty) = true then 1 else 0)) := by
      unfold smallI
      split <;> omega
    refine ⟨hsm, ?_⟩
    generalize many * (if (!ds.isEmpty) = true then 1 else 0) = z at hn ⊢
    refine for_rng0 (fun i A => ∃ l : Tx, A = ⟨[AV.d (.lst dd), AV.d (.int spot), AV.d (.lst ds), AV.d (.int many), AV.d (.str l), .un, .un], []⟩ ∧ small l = true ∧ l.length ≤ 12 * i) ⟨[], rfl, rfl, by simp⟩ (by intros; trivial) ?_ ?_
    · rintro i A hi ⟨l, rfl, h1, h2⟩
      have hi2 : (i : Int) < 1000 := by omega
      have hds := hn.2 (by omega)
      refine ⟨_, rfl, fun J Kb hJ hK => ?_⟩
      walk_at "go"
      refine dr_at hd (by omega) (by omega) fun x x0 x1 => ?_
      walk_at "go"
      have hq : 0 ≤ (x / (1 + (i : Int) / 14)) % (ds.length : Int) ∧ (x / (1 + (i : Int) / 14)) % (ds.length : Int) < ds.length := ⟨Int.emod_nonneg _ (by omega), Int.emod_lt_of_pos _ (by omega)⟩
      refine at_ex hq.1 hq.2 fun d hd' => ?_
      obtain ⟨w, v, rfl, hw⟩ := hr.mem hd'
      walk_at "go"
      refine ⟨_, rfl, ?_⟩
      have := hw.2.2
      walk_at "go"
      exact hJ _ ⟨_, rfl, small_append h1 hw.1, by rw [List.length_append]; omega⟩
    · rintro A ⟨l, rfl, h1, h2⟩
      walk_at "go"
      all_goals exact ⟨l, rfl, h1, by omega⟩
  · exact h.elim
theorem strs_of {ds : List D} (P : Tx → Prop) (h : ∀ d ∈ ds, ∃ l, P l ∧ d = .str l) : ∃ ws : List Tx, ds = ws.map D.str ∧ ∀ l ∈ ws, P l := by
  induction ds with
  | nil => exact ⟨[], rfl, fun l h => by simp at h⟩
  | cons x r ih =>
    obtain ⟨ws, rfl, h2⟩ := ih fun d hd => h d (by simp [hd])
    obtain ⟨l, hl, rfl⟩ := h x (by simp)
    refine ⟨l :: ws, rfl, fun l' hl' => ?_⟩
    rcases List.mem_cons.mp hl' with rfl | hl'
    · exact hl
    · exact h2 l' hl'
theorem joinL_nil (xs : List Tx) : TL.joinL [] xs = xs.flatten := by
  induction xs with
  | nil => rfl
  | cons x r ih =>
    cases r with
    | nil => simp [TL.joinL]
    | cons y r => simp only [TL.joinL, ih, List.flatten_cons, List.nil_append]
theorem ones_len (xs : List Tx) (h : ∀ l ∈ xs, l.length = 1) : (xs.map List.length).sum = xs.length ∧ xs.flatten.length = xs.length := by
  induction xs with
  | nil => exact ⟨rfl, rfl⟩
  | cons x r ih =>
    have := ih fun l hl => h l (by simp [hl])
    have h1 := h x (by simp)
    simp only [List.map_cons, List.sum_cons, List.flatten_cons, List.length_append, List.length_cons]
    omega
theorem flat_len (xs : List Tx) : xs.flatten.length = (xs.map List.length).sum := by rw [List.length_flatten]
theorem r__law_text : Law p__law_text N__law_text 4 (conN pre__law_text ok__law_text) := fun ars h => by
  have h : pre__law_text ars := h
  unfold pre__law_text at h
  split at h
  · rename_i dd spot ds s _
    obtain ⟨hs, hd, hr, hl, s1, s2, s3⟩ := h
    refine ⟨rfl, ?_⟩
    unfold p__law_text endsA
    walk_at "rd"
    refine dr_at hd (by omega) (by omega) fun x x0 x1 => ?_
    walk_at "go"
    refine ⟨⟨by omega, hd.mono (by omega), hr, hl, by omega, by omega⟩, ?_⟩
    rintro y ⟨l, rfl, h1, h2⟩
    have h2 : l.length ≤ 168 := by omega
    walk_at "go"
    have hat : 0 ≤ (x / 112 * 7 + x) % ((l.length : Int) + 1) ∧ (x / 112 * 7 + x) % ((l.length : Int) + 1) < (l.length : Int) + 1 := ⟨Int.emod_nonneg _ (by omega), Int.emod_lt_of_pos _ (by omega)⟩
    generalize (x / 112 * 7 + x) % ((l.length : Int) + 1) = at' at hat ⊢
    obtain ⟨t0, t1⟩ := hat
    walk_at "go"
    refine at_ex (Int.emod_nonneg _ (by omega)) (Int.emod_lt_of_pos _ (by omega)) fun c hc => ?_
    have sc : small [c] = true := small_one s1 hc
    have z1 : (l.take at'.toNat).length ≤ l.length := by rw [List.length_take]; omega
    have z3 : ∀ k : Nat, (l.drop k).length ≤ l.length := fun k => by rw [List.length_drop]; omega
    have tail3 : ∀ l : Tx, small l = true → l.length ≤ 180 → Then (pSeq (pIf (pTest (pOp2 (bEq id) (pOp2 bMod (pVar 4) (pC (.int 8))) (pC (.int 7)))) (pSeq (pSetD 8 (pSl (pVar 0) (pPart (pOp2 bAdd (pVar 1) (pC (.int 1)))) (pPart (pOp2 bAdd (pOp2 bAdd (pVar 1) (pC (.int 1))) (pOp2 bMod (pOp2 bDiv (pVar 4) (pC (.int 8))) (pC (.int 14)))))))
        (pSet 5 (pM1 bJoin (pC (.str [])) (pLc (pItL (pVar 8)) (tgN 9) pYes (pOp2 bIx (pVar 3) (pOp2 bMod (pVar 9) (pCall cLen (pCons (pVar 3) pNil)))) [9])))) pNext) (pRet (pVar 5))) (endsA 0 fun y os => ok__law_text [AR.d (.lst dd), AR.d (.int spot), AR.d (.lst ds), AR.d (.str s)] y ∧ os = [])
        ⟨[AV.d (.lst dd), AV.d (.int spot), AV.d (.lst ds), AV.d (.str s), .d (.int x), .d (.str l), .d (.int at'), .d (.str [c]), .un, .un], []⟩ := fun l h1 h2 => by
      rw [then_eq]
      unfold endsA
      walk_at "go"
      split
      · have hsub : ∃ is : List Int, cutL dd (some (spot + 1)) (some (spot + 1 + x / 8 % 14)) = is.map D.int ∧ is.length ≤ 14 := by
          obtain ⟨is, rfl, _, _, _⟩ := hd
          rw [cut_ab (by omega) (by omega), ← List.map_drop, ← List.map_take]
          exact ⟨_, rfl, by rw [List.length_take]; omega⟩
        obtain ⟨is, e, his⟩ := hsub
        rw [e]
        walk_at "go"
        refine lc_over (fun _ => true) (fun i => .str [s.getD (i % (s.length : Int)).toNat 0]) trivial (by omega) (fun i hi => ⟨_, rfl, fun J hJ => ?_⟩) ?_
        · have q0 : 0 ≤ i % (s.length : Int) := Int.emod_nonneg _ (by omega)
          have q1 : i % (s.length : Int) < s.length := Int.emod_lt_of_pos _ (by omega)
          walk_at "go"
          refine ⟨s.getD (i % (s.length : Int)).toNat 0, ?_, hJ⟩
          have := atI_nat (xs := s) (m := (i % (s.length : Int)).toNat) (by omega)
          rw [Int.toNat_of_nonneg q0] at this
          rw [this, getD_of (by omega)]
        · rw [filter_all]
          walk_at "go"
          have e2 : is.map (fun i => D.str [s.getD (i % (s.length : Int)).toNat 0]) = (is.map fun i => [s.getD (i % (s.length : Int)).toNat 0]).map D.str := by rw [List.map_map]; rfl
          rw [e2]
          have ho : ∀ l ∈ (is.map fun i => [s.getD (i % (s.length : Int)).toNat 0]), l.length = 1 := fun l hl => by
            obtain ⟨i, _, rfl⟩ := List.mem_map.mp hl
            rfl
          have hsm : ∀ l ∈ (is.map fun i => [s.getD (i % (s.length : Int)).toNat 0]), small l = true := fun l hl => by
            obtain ⟨i, _, rfl⟩ := List.mem_map.mp hl
            refine small_one s1 ?_
            have q0 : 0 ≤ i % (s.length : Int) := Int.emod_nonneg _ (by omega)
            have q1 : i % (s.length : Int) < s.length := Int.emod_lt_of_pos _ (by omega)
            rw [getD_of (by omega)]
            exact List.getElem_mem _
          obtain ⟨o1, o2⟩ := ones_len _ ho
          rw [List.length_map] at o1 o2
          refine ⟨_, rfl, by rw [o1]; omega, ?_⟩
          rw [joinL_nil]
          walk_at "go"
          exact ⟨_, rfl, join_small (a := []) hsm, by omega⟩
      · walk_at "go"
        all_goals exact ⟨_, rfl, h1, by omega⟩
    have tail2 : ∀ l : Tx, small l = true → l.length ≤ 170 → Then (pSeq (pIf (pTest (pOp2 (bEq id) (pOp2 bMod (pVar 4) (pC (.int 8))) (pC (.int 6)))) (pSet 5 (pOp2 bAdd (pSl (pVar 5) pNo (pPart (pVar 6))) (pSl (pVar 5) (pPart (pOp2 bAdd (pVar 6) (pC (.int 1)))) pNo))) pNext)
        (pSeq (pIf (pTest (pOp2 (bEq id) (pOp2 bMod (pVar 4) (pC (.int 8))) (pC (.int 7)))) (pSeq (pSetD 8 (pSl (pVar 0) (pPart (pOp2 bAdd (pVar 1) (pC (.int 1)))) (pPart (pOp2 bAdd (pOp2 bAdd (pVar 1) (pC (.int 1))) (pOp2 bMod (pOp2 bDiv (pVar 4) (pC (.int 8))) (pC (.int 14)))))))
        (pSet 5 (pM1 bJoin (pC (.str [])) (pLc (pItL (pVar 8)) (tgN 9) pYes (pOp2 bIx (pVar 3) (pOp2 bMod (pVar 9) (pCall cLen (pCons (pVar 3) pNil)))) [9])))) pNext) (pRet (pVar 5)))) (endsA 0 fun y os => ok__law_text [AR.d (.lst dd), AR.d (.int spot), AR.d (.lst ds), AR.d (.str s)] y ∧ os = [])
        ⟨[AV.d (.lst dd), AV.d (.int spot), AV.d (.lst ds), AV.d (.str s), .d (.int x), .d (.str l), .d (.int at'), .d (.str [c]), .un, .un], []⟩ := fun l h1 h2 => by
      have z1 : (l.take at'.toNat).length ≤ l.length := by rw [List.length_take]; omega
      have z3 : ∀ k : Nat, (l.drop k).length ≤ l.length := fun k => by rw [List.length_drop]; omega
      rw [then_eq]
      unfold endsA
      walk_at "go"
      split
      · rw [cut_b t0, cut_a (by omega : 0 ≤ at' + 1)]
        have := z3 (at' + 1).toNat
        refine ⟨by omega, by omega, by omega, ?_⟩
        exact tail3 _ (small_append (small_take h1 _) (small_drop h1 _)) (by rw [List.length_append, List.length_take, List.length_drop]; omega)
      · exact tail3 l h1 (by omega)
    rw [then_eq]
    walk_at "go"
    split
    · rw [cut_b t0]
      refine ⟨by omega, by omega, cdivw (by omega) (by omega), at_ex (Int.emod_nonneg _ (by omega)) (Int.emod_lt_of_pos _ (by decide)) fun d hd' => ?_⟩
      have hd' : ∃ k : Int, d = .int k ∧ 0 ≤ k ∧ k ≤ 1 := by
        simp only [List.mem_cons, List.not_mem_nil, or_false] at hd'
        rcases hd' with rfl | rfl <;> exact ⟨_, rfl, by omega, by omega⟩
      obtain ⟨k, rfl, k0, k1⟩ := hd'
      walk_at "go"
      rw [cut_a (by omega : 0 ≤ at' + k)]
      have := z3 (at' + k).toNat
      refine ⟨by rw [List.length_append, List.length_singleton]; omega, ?_⟩
      refine tail2 _ (small_append (small_append (small_take h1 _) sc) (small_drop h1 _)) ?_
      rw [List.length_append, List.length_append, List.length_take, List.length_drop, List.length_singleton]
      omega
    · exact tail2 l h1 (by omega)
  · exact h.elim
end PD

/-! Q: readings of the defs that draw. -/
namespace PD
open PySem L2
local macro_rules | `(tactic| walk_at "rd") => `(tactic| simp (config := { decide := true }) only [pSeq_then, pNext, pNever, pBreak, pCont, pDrop, pRet, pRetN, pIf, pSet, pSetD, setD, setP, setO, pVar, pC, pOp2, pTest, pAnd, pOr, pNot, pAndV, pOrV, pNotV, pIfE, pNil, pCons, pLst, pTup, pDict0, pDictC, pDM, dUpdate, pCall, pIsiP, pM1, bJoin, pNo, pPart, pSl, pSortI, pLM, lAppend, lInsert, lExtend, lPopAt, pLc_eq, pFor_eq, pWhile_eq, pWip, pGw, wipeS, trunc, truncE, pItL, pItS, pRng1, pRng2, pRng3, pVarF, pAug, pDictLen, pLr3, pNeg, pCalls, callP, pEnum, pStepS, pRevL, bStarts, bEnds, pAugK, pItK, pFz, pPickL, cSum, cAbs, pre_is_text, f_is_text, pre_need_text, f_need_text, pre_only_words, f_only_words, pre_words_from, f_words_from, pre_ways_on, f_ways_on, pre_cut_count, f_cut_count, pre__law_at, f__law_at, pre__law_ways, f__law_ways, pre__law_is_whole, f__law_is_whole, pre__law_is_list, f__law_is_list, pre__law_draws, pre__law_word, pre__law_weight, pre__law_letters, pre__law_begins, pre__law_book, pre__law_joined, pre__law_text, pre__law_long, merge_dictOf, filter_none, callN, toAR, R.fz, view, views, dats, O.toD, AR.toR, bAdd, bSub, bMul, bDiv, bMod, bPow, bEq, bCmp, bIn, bIs, bIx, bSl, cLen, cMin2, cMax2, cInt, cList, cDict, cSorted, plainD, isiB, tyn, pAsg, tgT, tgU, setsA, pSetIx, storeO, kdOf, pChain, cmpD, pYes, pTru, truD, Hand, tgN, wipeA, fnAbs, envA, ownsA, retA, conP, conN, List.set, List.set_cons_zero, List.set_cons_succ, List.set_nil, List.getElem?_cons_zero, List.getElem?_cons_succ, List.getElem?_nil, List.length_cons, List.length_nil, List.cons_append, List.nil_append, List.append_nil, List.replicate, Nat.reduceSub, Nat.reduceAdd, Nat.zero_add, Int.zero_add, true_and, and_true, reduceIte, Bool.false_eq_true, id, Bool.not_true, Bool.not_false, List.nodup_nil, List.nodup_cons, List.not_mem_nil, not_false_eq_true, List.take_zero, List.take_succ_cons, List.take_nil, List.map_cons, List.map_nil])
local macro_rules | `(tactic| walk_at "sc") => `(tactic| first | with_reducible assumption | omega | assumption | with_reducible rfl | exact True.intro | exact okD_ints | exact okD_nil | exact okD_int _ | exact okD_bl _ | exact okD_non | exact okD_sm (by assumption) | with_reducible exact cmulR (by omega) (by omega) | with_reducible exact cmulL (by omega) (by omega) | with_reducible exact cdivw (by omega) (by omega) | (with_reducible refine smallI_of ?_ ?_ <;> first | omega | (simp only [List.length_map, List.length_append, List.length_range, List.length_replicate, List.length_cons, List.length_nil, List.length_take, List.length_drop]; omega)) | (unfold CPow; decide) | (simp only [List.length_map, List.length_append, List.length_range, List.length_replicate, List.length_cons, List.length_nil, List.length_take, List.length_drop]; omega) | (refine ⟨?_, ?_⟩ <;> walk_at "sc"))
local macro_rules | `(tactic| walk_at "go") => `(tactic| repeat (first | walk_at "rd" | with_reducible refine then_go ?_ | (refine And.intro (by walk_at "sc") ?_) | (refine dict_of (by assumption) ?_) | rw [deq_self (by walk_at "sc")] | walk_at "sc"))
/-! ### dicts of rows -/
theorem merge_nodup : ∀ (more kvs : List (Kd × D)), ((kvs ++ more).map (·.1)).Nodup → mergeD kvs more = kvs ++ more
  | [], kvs, _ => by rw [List.append_nil]; rfl
  | a :: r, kvs, h => by
    have hk : hasK kvs a.1 = false := by
      unfold hasK
      rw [List.any_eq_false]
      intro x hx e
      have e := of_decide_eq_true e
      rw [List.map_append, List.nodup_append] at h
      exact h.2.2 x.1 (List.mem_map.mpr ⟨x, hx, rfl⟩) a.1 (by simp) e
    show mergeD (putD kvs a.1 a.2) r = _
    unfold putD
    rw [hk, if_neg Bool.false_ne_true]
    rw [merge_nodup r (kvs ++ [a]) (by rw [List.append_assoc]; exact h), List.append_assoc]
    rfl
theorem dictOf_rows {ps : List (Tx × Int)} (hn : (ps.map (·.1)).Nodup) : dictOf (rowsD ps) = ps.map fun p => (.inr p.1, .int p.2) := by
  unfold dictOf rowsD
  rw [List.map_map]
  have e : (unpair ∘ fun p : Tx × Int => D.tup [.str p.1, .int p.2]) = fun p => (.inr p.1, .int p.2) := funext fun p => rfl
  rw [e, merge_nodup _ [] ?_]
  · rfl
  · rw [List.nil_append, List.map_map]
    rw [List.nodup_iff_pairwise_ne, List.pairwise_map] at hn ⊢
    exact hn.imp fun {a b} h e => h (Sum.inr.inj e)
theorem hasK_rows {ps : List (Tx × Int)} (hn : (ps.map (·.1)).Nodup) (w : Tx) : hasK (dictOf (rowsD ps)) (.inr w) = decide (w ∈ ps.map (·.1)) := by
  rw [dictOf_rows hn]
  unfold hasK
  rw [List.any_map, Bool.eq_iff_iff, List.any_eq_true, decide_eq_true_eq, List.mem_map]
  constructor
  · rintro ⟨p, hp, e⟩
    exact ⟨p, hp, Sum.inr.inj (of_decide_eq_true e)⟩
  · rintro ⟨p, hp, rfl⟩
    exact ⟨p, hp, decide_eq_true rfl⟩
/-- the sizes of the words at a place -/
def sizesAt (kvs : List (Kd × D)) (l : Tx) (p : Nat) : List Nat := ((List.range (min 12 (l.length - p))).filter fun k => hasK kvs (.inr ((l.drop p).take (k + 1)))).map (· + 1)
theorem words_sizes (kvs : List (Kd × D)) (l : Tx) (p : Nat) : wordsFrom kvs l p = (sizesAt kvs l p).map fun s => (l.drop p).take s := by
  unfold wordsFrom sizesAt
  rw [List.map_map, List.filter_map]
  rfl
theorem sizes_sorted (kvs : List (Kd × D)) (l : Tx) (p : Nat) : (sizesAt kvs l p).Pairwise (· < ·) := by
  unfold sizesAt
  rw [List.pairwise_map]
  exact (List.pairwise_lt_range.filter _).imp fun {a b} h => by omega
theorem sizes_mem (kvs : List (Kd × D)) (l : Tx) (p s : Nat) : s ∈ sizesAt kvs l p ↔ 1 ≤ s ∧ s ≤ 12 ∧ p + s ≤ l.length ∧ hasK kvs (.inr ((l.drop p).take s)) = true := by
  unfold sizesAt
  rw [List.mem_map]
  constructor
  · rintro ⟨k, hk, rfl⟩
    rw [List.mem_filter, List.mem_range] at hk
    exact ⟨by omega, by omega, by omega, hk.2⟩
  · rintro ⟨h1, h2, h3, h4⟩
    refine ⟨s - 1, ?_, by omega⟩
    rw [List.mem_filter, List.mem_range]
    refine ⟨by omega, ?_⟩
    rw [Nat.sub_add_cancel h1]
    exact h4
theorem r__law_at : Law p__law_at N__law_at 3 (conP pre__law_at f__law_at) := fun ars h => by
  have h : pre__law_at ars := h
  unfold pre__law_at at h
  split at h
  · rename_i ds l p' _
    obtain ⟨⟨ps, rfl, hw, hn⟩, hds, hl, hll, hp0, hp1⟩ := h
    obtain ⟨p, rfl⟩ := Int.eq_ofNat_of_zero_le hp0
    have hp1 : p ≤ l.length := by omega
    have hpl : ps.length ≤ 1000 := by unfold rowsD at hds; rw [List.length_map] at hds; exact hds
    refine ⟨rfl, ?_⟩
    unfold p__law_at endsA
    walk_at "go"
    let q : Tx × Int → Bool := fun x => decide ((l.drop p).take x.1.length = x.1)
    unfold rowsD
    refine for_over (fun pre A => A = ⟨[AV.d (.lst (rowsD ps)), AV.d (.str l), AV.d (.int p), AV.p 0, .un, .un, .un], [some (.dic ((pre.filter q).map fun x => (.inl (x.1.length : Int), .str x.1)))]⟩) rfl (by intros; trivial) ?_ ?_
    · rintro pre x post A e rfl
      refine ⟨_, rfl, fun J Kb hJ hK => ?_⟩
      have hx : x ∈ ps := by rw [e]; simp
      have hxw := hw x hx
      have hpre : pre.length ≤ 1000 := by
        have := congrArg List.length e
        rw [List.length_append] at this
        omega
      have hxl := hxw.2.2
      walk_at "go"
      rw [cut_ab (by omega) (by omega)]
      have e1 : ((p : Int) + (x.1.length : Int)).toNat - (p : Int).toNat = x.1.length := by omega
      rw [e1, Int.toNat_natCast]
      by_cases hq : (l.drop p).take x.1.length = x.1
      · rw [decide_eq_true hq]
        walk_at "go"
        refine ⟨by rw [List.length_map]; exact Nat.lt_of_le_of_lt (List.length_filter_le _ _) (by omega), ?_⟩
        have hno : hasK ((pre.filter q).map fun x => ((.inl (x.1.length : Int), .str x.1) : Kd × D)) (.inl (x.1.length : Int)) = false := by
          unfold hasK
          rw [List.any_map, List.any_eq_false]
          intro y hy e2
          have e2 : (Sum.inl (y.1.length : Int) : Kd) = .inl (x.1.length : Int) := of_decide_eq_true e2
          have e2 : y.1.length = x.1.length := by have := Sum.inl.inj e2; omega
          have hy' := List.mem_filter.mp hy
          have hqy : (l.drop p).take y.1.length = y.1 := of_decide_eq_true hy'.2
          have exy : y.1 = x.1 := by rw [← hqy, e2, hq]
          rw [e, List.map_append, List.map_cons, List.nodup_append] at hn
          exact hn.2.2 y.1 (List.mem_map.mpr ⟨y, hy'.1, rfl⟩) x.1 (by simp) exy
        unfold putD
        rw [hno, if_neg Bool.false_ne_true]
        refine hJ _ ?_
        rw [List.filter_append, List.filter_cons, if_pos (show q x = true from decide_eq_true hq), List.filter_nil, List.map_append]
        rfl
      · rw [decide_eq_false hq]
        walk_at "go"
        refine hJ _ ?_
        rw [List.filter_append, List.filter_cons, if_neg (show ¬ q x = true from fun z => hq (of_decide_eq_true z)), List.filter_nil, List.append_nil]
    · rintro A rfl
      walk_at "go"
      have ek : ((ps.filter q).map fun x => ((.inl (x.1.length : Int), .str x.1) : Kd × D)).map (fun p => kD p.1) = ((ps.filter q).map fun x => (x.1.length : Int)).map D.int := by
        rw [List.map_map, List.map_map]
        rfl
      have nd : ((ps.filter q).map fun x => (x.1.length : Int)).Nodup := by
        rw [List.nodup_iff_pairwise_ne, List.pairwise_map]
        have hn' : (ps.filter q).Pairwise fun a b => a.1 ≠ b.1 := by
          rw [List.nodup_iff_pairwise_ne, List.pairwise_map] at hn
          exact hn.filter _
        refine hn'.imp_of_mem fun {a b} ha hb hne e => hne ?_
        have ha' : (l.drop p).take a.1.length = a.1 := of_decide_eq_true (List.mem_filter.mp ha).2
        have hb' : (l.drop p).take b.1.length = b.1 := of_decide_eq_true (List.mem_filter.mp hb).2
        have e : a.1.length = b.1.length := by have e : (a.1.length : Int) = b.1.length := e; omega
        rw [← ha', e, hb']
      let kvs := dictOf (rowsD ps)
      have hmem : ∀ s : Nat, s ∈ sizesAt kvs l p ↔ ∃ x ∈ ps, q x = true ∧ x.1.length = s := fun s => by
        rw [sizes_mem]
        show 1 ≤ s ∧ s ≤ 12 ∧ p + s ≤ l.length ∧ hasK (dictOf (rowsD ps)) _ = true ↔ _
        rw [hasK_rows hn, decide_eq_true_eq, List.mem_map]
        constructor
        · rintro ⟨h1, h2, h3, x, hx, e⟩
          have el : x.1.length = s := by rw [e, List.length_take, List.length_drop]; omega
          exact ⟨x, hx, decide_eq_true (by rw [el, ← e]), el⟩
        · rintro ⟨x, hx, hq, rfl⟩
          have hq : (l.drop p).take x.1.length = x.1 := of_decide_eq_true hq
          have hxw := hw x hx
          have h2 := congrArg List.length hq
          rw [List.length_take, List.length_drop] at h2
          have h3 := hxw.2.1
          exact ⟨hxw.2.1, hxw.2.2, by omega, x, hx, hq.symm⟩
      have pm : ((sizesAt kvs l p).map fun s : Nat => (s : Int)).Perm ((ps.filter q).map fun x => (x.1.length : Int)) := by
        refine (List.perm_ext_iff_of_nodup ?_ nd).mpr fun z => ?_
        · rw [List.nodup_iff_pairwise_ne, List.pairwise_map]
          exact (sizes_sorted kvs l p).imp fun {a b} h e => by have e : (a : Int) = b := e; omega
        · rw [List.mem_map, List.mem_map]
          constructor
          · rintro ⟨s, hs, rfl⟩
            obtain ⟨x, hx, hq, e⟩ := (hmem s).mp hs
            exact ⟨x, List.mem_filter.mpr ⟨hx, hq⟩, by omega⟩
          · rintro ⟨x, hx, rfl⟩
            exact ⟨x.1.length, (hmem _).mpr ⟨x, (List.mem_filter.mp hx).1, (List.mem_filter.mp hx).2, rfl⟩, rfl⟩
      have pw : ((sizesAt kvs l p).map fun s : Nat => (s : Int)).Pairwise (· < ·) := by
        rw [List.pairwise_map]
        exact (sizes_sorted kvs l p).imp fun {a b} h => by omega
      rw [ek]
      refine ⟨srtOk_ints, ?_⟩
      rw [srt_ints pm pw, List.map_map]
      have hsl : (sizesAt kvs l p).length ≤ 12 := by
        unfold sizesAt
        rw [List.length_map]
        exact Nat.le_trans (List.length_filter_le _ _) (by rw [List.length_range]; omega)
      refine lc_each (fun s => .str ((l.drop p).take s)) trivial (by omega) (fun s hs => ⟨_, rfl, fun J hJ => ?_⟩) ?_
      · walk_at "go"
        refine ⟨.str ((l.drop p).take s), ?_, hJ⟩
        obtain ⟨x, hx, hq, e⟩ := (hmem s).mp hs
        have hq' : (l.drop p).take x.1.length = x.1 := of_decide_eq_true hq
        rw [← e, hq']
        have hx' : x ∈ ps.filter q := List.mem_filter.mpr ⟨hx, hq⟩
        have gen : ∀ ms : List (Tx × Int), (ms.map fun x => (x.1.length : Int)).Nodup → x ∈ ms → getK (ms.map fun x => ((.inl (x.1.length : Int), .str x.1) : Kd × D)) (.inl (x.1.length : Int)) = some (.str x.1) := fun ms => by
          induction ms with
          | nil => intro _ h; simp at h
          | cons a r ih =>
            intro hnd hm
            rw [List.map_cons, List.nodup_cons] at hnd
            unfold getK
            rw [List.map_cons, List.find?_cons]
            by_cases e : (a.1.length : Int) = x.1.length
            · rw [decide_eq_true (show (Sum.inl (a.1.length : Int) : Kd) = .inl (x.1.length : Int) by rw [e])]
              rcases List.mem_cons.mp hm with h | h
              · rw [h]; rfl
              · exact absurd (List.mem_map.mpr ⟨x, h, e.symm⟩) hnd.1
            · rw [decide_eq_false (fun z : (Sum.inl (a.1.length : Int) : Kd) = .inl (x.1.length : Int) => e (Sum.inl.inj z))]
              rcases List.mem_cons.mp hm with h | h
              · rw [h] at e; exact absurd rfl e
              · exact ih hnd.2 h
        exact gen _ nd hx'
      · walk_at "go"
        show AR.o (.lst _) = AR.o (.lst ((wordsFrom kvs l (p : Int).toNat).map .str))
        rw [Int.toNat_natCast, words_sizes, List.map_map]
        rfl
  · exact h.elim
end PD

/-! Q: readings of the defs that draw. -/
namespace PD
open PySem L2
local macro_rules | `(tactic| walk_at "rd") => `(tactic| simp (config := { decide := true }) only [pSeq_then, pNext, pNever, pBreak, pCont, pDrop, pRet, pRetN, pIf, pSet, pSetD, setD, setP, setO, pVar, pC, pOp2, pTest, pAnd, pOr, pNot, pAndV, pOrV, pNotV, pIfE, pNil, pCons, pLst, pTup, pDict0, pDictC, pDM, dUpdate, pCall, pIsiP, pM1, bJoin, pNo, pPart, pSl, pSortI, pLM, lAppend, lInsert, lExtend, lPopAt, pLc_eq, pFor_eq, pWhile_eq, pWip, pGw, wipeS, trunc, truncE, pItL, pItS, pRng1, pRng2, pRng3, pVarF, pAug, pDictLen, pLr3, pNeg, pCalls, callP, pEnum, pStepS, pRevL, bStarts, bEnds, pAugK, pItK, pFz, pPickL, cSum, cAbs, pre_is_text, f_is_text, pre_need_text, f_need_text, pre_only_words, f_only_words, pre_words_from, f_words_from, pre_ways_on, f_ways_on, pre_cut_count, f_cut_count, pre__law_at, f__law_at, pre__law_ways, f__law_ways, pre__law_is_whole, f__law_is_whole, pre__law_is_list, f__law_is_list, pre__law_draws, pre__law_word, pre__law_weight, pre__law_letters, pre__law_begins, pre__law_book, pre__law_joined, pre__law_text, pre__law_long, merge_dictOf, filter_none, callN, toAR, R.fz, view, views, dats, O.toD, AR.toR, bAdd, bSub, bMul, bDiv, bMod, bPow, bEq, bCmp, bIn, bIs, bIx, bSl, cLen, cMin2, cMax2, cInt, cList, cDict, cSorted, plainD, isiB, tyn, pAsg, tgT, tgU, setsA, pSetIx, storeO, kdOf, pChain, cmpD, pYes, pTru, truD, Hand, tgN, wipeA, fnAbs, envA, ownsA, retA, conP, conN, List.set, List.set_cons_zero, List.set_cons_succ, List.set_nil, List.getElem?_cons_zero, List.getElem?_cons_succ, List.getElem?_nil, List.length_cons, List.length_nil, List.cons_append, List.nil_append, List.append_nil, List.replicate, Nat.reduceSub, Nat.reduceAdd, Nat.zero_add, Int.zero_add, true_and, and_true, reduceIte, Bool.false_eq_true, id, Bool.not_true, Bool.not_false, List.nodup_nil, List.nodup_cons, List.not_mem_nil, not_false_eq_true, List.take_zero, List.take_succ_cons, List.take_nil, List.map_cons, List.map_nil])
local macro_rules | `(tactic| walk_at "sc") => `(tactic| first | with_reducible assumption | omega | assumption | with_reducible rfl | exact True.intro | exact okD_ints | exact okD_nil | exact okD_int _ | exact okD_bl _ | exact okD_non | exact okD_sm (by assumption) | with_reducible exact cmulR (by omega) (by omega) | with_reducible exact cmulL (by omega) (by omega) | with_reducible exact cdivw (by omega) (by omega) | (with_reducible refine smallI_of ?_ ?_ <;> first | omega | (simp only [List.length_map, List.length_append, List.length_range, List.length_replicate, List.length_cons, List.length_nil, List.length_take, List.length_drop]; omega)) | (unfold CPow; decide) | (simp only [List.length_map, List.length_append, List.length_range, List.length_replicate, List.length_cons, List.length_nil, List.length_take, List.length_drop]; omega) | (refine ⟨?_, ?_⟩ <;> walk_at "sc"))
local macro_rules | `(tactic| walk_at "go") => `(tactic| repeat (first | walk_at "rd" | with_reducible refine then_go ?_ | (refine And.intro (by walk_at "sc") ?_) | (refine dict_of (by assumption) ?_) | rw [deq_self (by walk_at "sc")] | walk_at "sc"))
/-! ### ways -/
theorem wayL_len (W : Nat → List Tx) (n : Nat) : ∀ k, (wayL W n k).length = k + 1
  | 0 => rfl
  | k + 1 => by show ((_ : Int) :: wayL W n k).length = _; rw [List.length_cons, wayL_len W n k]
theorem wayL_drop (W : Nat → List Tx) (n k : Nat) : ∀ j, (wayL W n (j + k)).drop j = wayL W n k
  | 0 => by rw [Nat.zero_add]; rfl
  | j + 1 => by
    have : j + 1 + k = (j + k) + 1 := by omega
    rw [this]
    show ((_ : Int) :: wayL W n (j + k)).drop (j + 1) = _
    rw [List.drop_succ_cons, wayL_drop W n k j]
theorem wayL_get (W : Nat → List Tx) {n k : Nat} (hk : k ≤ n) (i : Nat) : nw W n (n - k + i) = (wayL W n k).getD i 0 := by
  have := wayL_drop W n k (n - k)
  rw [Nat.sub_add_cancel hk] at this
  unfold nw
  rw [← this, List.getD_eq_getElem?_getD, List.getD_eq_getElem?_getD, List.getElem?_drop]
theorem nw_last (W : Nat → List Tx) (n : Nat) : nw W n n = 1 := by
  have := wayL_get W (n := n) (k := 0) (Nat.zero_le n) 0
  rw [Nat.sub_zero, Nat.add_zero] at this
  rw [this]
  rfl
theorem nw_over (W : Nat → List Tx) {n q : Nat} (h : n < q) : nw W n q = 0 := by
  unfold nw
  rw [List.getD_eq_getElem?_getD, List.getElem?_eq_none (by rw [wayL_len]; omega)]
  rfl
theorem nw_at (W : Nat → List Tx) {n p : Nat} (hW : ∀ w ∈ W p, 1 ≤ w.length) (hp : p < n) : nw W n p = ((W p).map fun w => nw W n (p + w.length)).sum := by
  obtain ⟨k, hk⟩ : ∃ k, n = p + k + 1 := ⟨n - p - 1, by omega⟩
  have e := wayL_get W (n := n) (k := k + 1) (by omega) 0
  have e1 : n - (k + 1) + 0 = p := by omega
  rw [e1] at e
  rw [e]
  have e2 : n - (k + 1) = p := by omega
  show (((W (n - (k + 1))).map fun w => (wayL W n k).getD (w.length - 1) 0).sum :: wayL W n k).getD 0 0 = _
  rw [e2]
  show ((W p).map fun w => (wayL W n k).getD (w.length - 1) 0).sum = _
  congr 1
  apply List.map_congr_left
  intro w hw
  rw [← wayL_get W (n := n) (k := k) (by omega) (w.length - 1)]
  have := hW w hw
  congr 1
  omega
theorem wayL_nw (W : Nat → List Tx) {n k : Nat} (hk : k ≤ n) : wayL W n k = (List.range (k + 1)).map fun i => nw W n (n - k + i) := by
  apply List.ext_getElem?
  intro i
  by_cases h : i < k + 1
  · rw [List.getElem?_map, List.getElem?_range h, List.getElem?_eq_getElem (by rw [wayL_len]; exact h)]
    show some _ = some (nw W n (n - k + i))
    rw [wayL_get W hk, getD_of (by rw [wayL_len]; exact h)]
  · rw [List.getElem?_eq_none (by rw [wayL_len]; omega), List.getElem?_eq_none (by rw [List.length_map, List.length_range]; omega)]
theorem getK_range (W : Nat → List Tx) (n : Nat) (g : Nat → D) (q : Nat) : ∀ k, (∀ j, j < k → j ≤ n) → (∃ j, j < k ∧ n - j = q) → getK ((List.range k).map fun j => ((.inl ((n - j : Nat) : Int), g (n - j)) : Kd × D)) (.inl (q : Int)) = some (g q) := fun k => by
  induction k with
  | zero => rintro _ ⟨j, h, _⟩; omega
  | succ k ih =>
    rintro hb ⟨j, hj, e⟩
    rw [List.range_succ, List.map_append]
    unfold getK
    rw [List.find?_append]
    by_cases hj2 : j < k
    · have := ih (fun j hj => hb j (by omega)) ⟨j, hj2, e⟩
      unfold getK at this
      cases f : (List.find? (fun p => decide (p.1 = Sum.inl (q : Int))) ((List.range k).map fun j => ((.inl ((n - j : Nat) : Int), g (n - j)) : Kd × D))) with
      | none => rw [f] at this; cases this
      | some v => rw [f] at this; exact this
    · have e3 : j = k := by omega
      subst e3
      cases f : (List.find? (fun p => decide (p.1 = Sum.inl (q : Int))) ((List.range j).map fun j => ((.inl ((n - j : Nat) : Int), g (n - j)) : Kd × D))) with
      | none =>
        rw [Option.none_or, List.map_cons, List.map_nil, List.find?_cons, decide_eq_true (by show Sum.inl ((n - j : Nat) : Int) = Sum.inl (q : Int); rw [e])]
        show some (g (n - j)) = _
        rw [e]
      | some v =>
        have h1 := List.find?_some f
        have h2 := List.mem_of_find?_eq_some f
        obtain ⟨i, hi, rfl⟩ := List.mem_map.mp h2
        have h1 : Sum.inl ((n - i : Nat) : Int) = (Sum.inl (q : Int) : Kd) := of_decide_eq_true h1
        have h1 := Sum.inl.inj h1
        rw [Option.some_or]
        show some (g (n - i)) = _
        have : n - i = q := by omega
        rw [this]
theorem wayD_get (W : Nat → List Tx) {n k q : Nat} (hk : k ≤ n) (h1 : n - k ≤ q) (h2 : q ≤ n) : getK (wayD W n k) (.inl (q : Int)) = some (.int (nw W n q)) :=
  getK_range W n (fun q => .int (nw W n q)) q (k + 1) (fun j hj => by omega) ⟨n - q, by omega, by omega⟩
theorem wayD_no (W : Nat → List Tx) {n k q : Nat} (hk : k ≤ n) (h1 : q < n - k) : hasK (wayD W n k) (.inl (q : Int)) = false := by
  unfold hasK wayD
  rw [List.any_map, List.any_eq_false]
  intro j hj e
  have hj := List.mem_range.mp hj
  have e : Sum.inl ((n - j : Nat) : Int) = (Sum.inl (q : Int) : Kd) := of_decide_eq_true e
  have := Sum.inl.inj e
  omega
theorem wayD_put (W : Nat → List Tx) {n k m : Nat} (hm : n = k + m + 1) : putD (wayD W n k) (.inl (m : Int)) (.int (nw W n m)) = wayD W n (k + 1) := by
  unfold putD
  rw [wayD_no W (by omega) (by omega), if_neg Bool.false_ne_true]
  show _ = (List.range (k + 1 + 1)).map _
  rw [List.range_succ, List.map_append]
  congr 1
  show [_] = [((.inl ((n - (k + 1) : Nat) : Int), .int (nw W n (n - (k + 1)))) : Kd × D)]
  have : n - (k + 1) = m := by omega
  rw [this]
theorem wayD_len (W : Nat → List Tx) (n k : Nat) : (wayD W n k).length = k + 1 := by
  unfold wayD
  rw [List.length_map, List.length_range]
theorem r_ways_on : Law p_ways_on N_ways_on 2 (conP pre_ways_on f_ways_on) := fun ars h => by
  have h : pre_ways_on ars := h
  unfold pre_ways_on at h
  split at h
  · rename_i ds l _
    obtain ⟨hB, hll⟩ := h
    refine ⟨rfl, ?_⟩
    unfold p_ways_on endsA
    walk_at "go"
    have hrn : ((l.length : Int) - 1 - -1).toNat = l.length := by omega
    refine ⟨l.length, by have := RgC.neg (i := (l.length : Int) - 1) (j := -1) (by omega) (by omega) (by omega) (by omega); rwa [hrn] at this, ?_⟩
    let W := wordsFrom (dictOf ds) l
    have hwd : ∀ p, ∀ w ∈ wordsFrom (dictOf ds) l p, 1 ≤ w.length ∧ p + w.length ≤ l.length ∧ w.length ≤ 12 := wds_eq (dictOf ds) l
    refine for_any (fun k A => A = ⟨[AV.d (.lst ds), AV.d (.str l), AV.d (.dic (dictOf ds)), AV.p 0, .un, .un], [some (.dic (wayD W l.length k))]⟩) ?_ (by intros; trivial) ?_ ?_
    · show _ = (⟨_, [some (.dic [(.inl ((l.length - 0 : Nat) : Int), .int (nw W l.length (l.length - 0)))])]⟩ : Abs)
      rw [Nat.sub_zero, nw_last]
    · rintro k A hk rfl
      refine ⟨_, rfl, fun J Kb hJ hK => ?_⟩
      obtain ⟨m, hm⟩ : ∃ m, l.length = k + m + 1 := ⟨l.length - k - 1, by omega⟩
      have e : (l.length : Int) - 1 + (k : Int) * -1 = (m : Int) := by omega
      rw [e]
      walk_at "go"
      rw [Int.toNat_natCast]
      refine lc_each (fun w => .int (nw W l.length (m + w.length))) trivial (by have := words_len (kvs := dictOf ds) (l := l) m; omega) (fun w hw => ⟨_, rfl, fun J hJ => ?_⟩) ?_
      · obtain ⟨h1, h2, h3⟩ := hwd m w hw
        have ea : (m : Int) + (w.length : Int) = ((m + w.length : Nat) : Int) := by omega
        walk_at "go"
        rw [ea]
        exact ⟨_, wayD_get W (by omega) (by omega) (by omega), hJ⟩
      · walk_at "go"
        refine ⟨(W m).map fun w => nw W l.length (m + w.length), by rw [List.map_map]; rfl, ?_⟩
        rw [← nw_at W (fun w hw => (hwd m w hw).1) (by omega)]
        walk_at "go"
        rw [wayD_len, wayD_put W hm]
        exact ⟨by omega, hJ _ rfl⟩
    · rintro A rfl
      walk_at "go"
      exact ⟨_, rfl, rfl⟩
  · exact h.elim
theorem r_cut_count : Law p_cut_count N_cut_count 2 (conP pre_cut_count f_cut_count) := fun ars h => by
  have h : pre_cut_count ars := h
  unfold pre_cut_count at h
  split at h
  · rename_i ds l _
    obtain ⟨hB, hl, hll⟩ := h
    refine ⟨rfl, ?_⟩
    unfold p_cut_count endsA
    walk_at "go"
    exact ⟨_, wayD_get (q := 0) _ (Nat.le_refl _) (by omega) (by omega), rfl⟩
  · exact h.elim
theorem r__law_ways : Law p__law_ways N__law_ways 2 (conP pre__law_ways f__law_ways) := fun ars h => by
  have h : pre__law_ways ars := h
  unfold pre__law_ways at h
  split at h
  · rename_i ds l _
    obtain ⟨hR, hds, hl, hll⟩ := h
    refine ⟨rfl, ?_⟩
    unfold p__law_ways endsA
    walk_at "go"
    rw [Int.toNat_natCast, rep_flat]
    refine ⟨by rw [List.length_replicate]; omega, ?_⟩
    walk_at "go"
    have hrn : ((l.length : Int) - 1 - -1).toNat = l.length := by omega
    refine ⟨l.length, by have := RgC.neg (i := (l.length : Int) - 1) (j := -1) (by omega) (by omega) (by omega) (by omega); rwa [hrn] at this, ?_⟩
    let W := wordsFrom (dictOf ds) l
    have hwd : ∀ p, ∀ w ∈ wordsFrom (dictOf ds) l p, 1 ≤ w.length ∧ p + w.length ≤ l.length ∧ w.length ≤ 12 := wds_eq (dictOf ds) l
    refine for_any (fun k A => A = ⟨[AV.d (.lst ds), AV.d (.str l), AV.p 0, .un, .un], [some (.lst ((List.replicate (l.length - k) (0 : Int) ++ wayL W l.length k).map .int))]⟩) ?_ (by intros; trivial) ?_ ?_
    · rw [List.map_append, List.map_replicate]; rfl
    · rintro k A hk rfl
      refine ⟨_, rfl, fun J Kb hJ hK => ?_⟩
      obtain ⟨m, hm⟩ : ∃ m, l.length = k + m + 1 := ⟨l.length - k - 1, by omega⟩
      have e : (l.length : Int) - 1 + (k : Int) * -1 = (m : Int) := by omega
      have e2 : l.length - k = m + 1 := by omega
      have e3 : l.length - (k + 1) = m := by omega
      rw [e, e2]
      obtain ⟨L, hL⟩ : ∃ L, L = List.replicate (m + 1) (0 : Int) ++ wayL W l.length k := ⟨_, rfl⟩
      rw [← hL]
      have hlen : L.length = l.length + 1 := by rw [hL, List.length_append, List.length_replicate, wayL_len]; omega
      have h0 : L.set m 0 = L := by
        rw [hL, rep_set, List.replicate_succ', List.append_assoc]
        rfl
      have hat : ∀ q, m < q → q ≤ l.length → ∀ b : Int, (L.set m b).getD q 0 = nw W l.length q := fun q h1 h2 b => by
        rw [hL, rep_set, List.getD_eq_getElem?_getD, List.getElem?_append_right (by rw [List.length_replicate]; omega), List.length_replicate]
        obtain ⟨i, hi⟩ : ∃ i, q - m = i + 1 := ⟨q - m - 1, by omega⟩
        rw [hi, List.getElem?_cons_succ, ← List.getD_eq_getElem?_getD, ← wayL_get W (n := l.length) (k := k) (by omega) i]
        congr 1
        omega
      have hend : L.set m ((W m).map fun w => nw W l.length (m + w.length)).sum = List.replicate (l.length - (k + 1)) (0 : Int) ++ wayL W l.length (k + 1) := by
        rw [hL, rep_set, e3]
        show _ = _ ++ ((W (l.length - (k + 1))).map fun w => (wayL W l.length k).getD (w.length - 1) 0).sum :: wayL W l.length k
        rw [e3]
        congr 2
        congr 1
        apply List.map_congr_left
        intro w hw
        obtain ⟨h1, h2, h3⟩ := hwd m w hw
        rw [← wayL_get W (n := l.length) (k := k) (by omega)]
        congr 1
        omega
      clear hL
      walk_at "go"
      rw [Int.toNat_natCast]
      refine for_over (fun pre A => A = ⟨[AV.d (.lst ds), AV.d (.str l), AV.p 0, .d (.int m), .un], [some (.lst ((L.set m (pre.map fun w => nw W l.length (m + w.length)).sum).map .int))]⟩) ?_ (by intros; trivial) ?_ ?_
      · show _ = (⟨_, [some (.lst ((L.set m 0).map .int))]⟩ : Abs)
        rw [h0]
      · rintro pre w post A ee rfl
        refine ⟨_, rfl, fun J2 Kb2 hJ2 hK2 => ?_⟩
        have hw : w ∈ wordsFrom (dictOf ds) l m := by rw [ee]; simp
        obtain ⟨h1, h2, h3⟩ := hwd m w hw
        have ea : (m : Int) + (w.length : Int) = ((m + w.length : Nat) : Int) := by omega
        have a1 := atI_of (xs := L.set m (pre.map fun w => nw W l.length (m + w.length)).sum) (f := D.int) (i := (m : Int)) 0 (by omega) (by rw [List.length_set, hlen]; omega)
        have a2 := atI_of (xs := L.set m (pre.map fun w => nw W l.length (m + w.length)).sum) (f := D.int) (i := ((m + w.length : Nat) : Int)) 0 (by omega) (by rw [List.length_set, hlen]; omega)
        rw [Int.toNat_natCast] at a1 a2
        rw [hat _ (by omega) h2] at a2
        have a3 : (L.set m (pre.map fun w => nw W l.length (m + w.length)).sum).getD m 0 = (pre.map fun w => nw W l.length (m + w.length)).sum := by
          rw [List.getD_eq_getElem?_getD, List.getElem?_set_self (by rw [hlen]; omega)]
          rfl
        rw [a3] at a1
        walk_at "rd"
        rw [ea]
        refine ⟨_, a1, by omega, _, a2, ?_⟩
        walk_at "rd"
        refine ⟨m, ixN_nat (by rw [List.length_map, List.length_set, hlen]; omega), hJ2 _ ?_⟩
        rw [List.map_append, List.sum_append, ← List.map_set, List.set_set]
        simp
      · rintro A rfl
        walk_at "go"
        refine hJ _ ?_
        show (⟨_, [some (.lst ((L.set m ((W m).map fun w => nw W l.length (m + w.length)).sum).map .int))]⟩ : Abs) = _
        rw [hend]
    · rintro A rfl
      walk_at "go"
      refine ⟨_, rfl, ?_⟩
      rw [Nat.sub_self]
      rfl
  · exact h.elim
theorem r__law_is_whole : Law p__law_is_whole N__law_is_whole 2 (conP pre__law_is_whole f__law_is_whole) := fun ars h => by
  have h : pre__law_is_whole ars := h
  unfold pre__law_is_whole at h
  split at h
  · refine ⟨rfl, ?_⟩
    unfold p__law_is_whole endsA
    walk_at "go"
  · exact h.elim
theorem r__law_is_list : Law p__law_is_list N__law_is_list 2 (conP pre__law_is_list f__law_is_list) := fun ars h => by
  have h : pre__law_is_list ars := h
  unfold pre__law_is_list at h
  split at h
  · refine ⟨rfl, ?_⟩
    obtain ⟨h1, h2⟩ := h
    unfold p__law_is_list endsA
    walk_at "go"
    rw [deq_lst]
  · refine ⟨rfl, ?_⟩
    obtain ⟨h1, h2⟩ := h
    unfold p__law_is_list endsA
    walk_at "go"
    rw [deq_lst]
  · exact h.elim
end PD

set_option pp.maxSteps 1500
/-! Q: readings of the defs that draw. -/
namespace PD
open PySem L2
local macro_rules | `(tactic| walk_at "rd") => `(tactic| simp (config := { decide := true }) only [pSeq_then, pNext, pNever, pBreak, pCont, pDrop, pRet, pRetN, pIf, pSet, pSetD, setD, setP, setO, pVar, pC, pOp2, pTest, pAnd, pOr, pNot, pAndV, pOrV, pNotV, pIfE, pNil, pCons, pLst, pTup, pDict0, pDictC, pDM, dUpdate, pCall, pIsiP, pM1, bJoin, pNo, pPart, pSl, pSortI, pLM, lAppend, lInsert, lExtend, lPopAt, pLc_eq, pFor_eq, pWhile_eq, pWip, pGw, wipeS, trunc, truncE, pItL, pItS, pRng1, pRng2, pRng3, pVarF, pAug, pDictLen, pLr3, pNeg, pCalls, callP, pEnum, pStepS, pRevL, bStarts, bEnds, pAugK, pItK, pFz, pPickL, cSum, cAbs, pre_is_text, f_is_text, pre_need_text, f_need_text, pre_only_words, f_only_words, pre_words_from, f_words_from, pre_ways_on, f_ways_on, pre_cut_count, f_cut_count, pre__law_at, f__law_at, pre__law_ways, f__law_ways, pre__law_is_whole, f__law_is_whole, pre__law_is_list, f__law_is_list, pre__law_draws, pre__law_word, pre__law_weight, pre__law_letters, pre__law_begins, pre__law_book, pre__law_joined, pre__law_text, pre__law_long, merge_dictOf, filter_none, callN, toAR, R.fz, view, views, dats, O.toD, AR.toR, bAdd, bSub, bMul, bDiv, bMod, bPow, bEq, bCmp, bIn, bIs, bIx, bSl, cLen, cMin2, cMax2, cInt, cList, cDict, cSorted, plainD, isiB, tyn, pAsg, tgT, tgU, setsA, pSetIx, storeO, kdOf, pChain, cmpD, pYes, pTru, truD, Hand, tgN, wipeA, fnAbs, envA, ownsA, retA, conP, conN, List.set, List.set_cons_zero, List.set_cons_succ, List.set_nil, List.getElem?_cons_zero, List.getElem?_cons_succ, List.getElem?_nil, List.length_cons, List.length_nil, List.cons_append, List.nil_append, List.append_nil, List.replicate, Nat.reduceSub, Nat.reduceAdd, Nat.zero_add, Int.zero_add, true_and, and_true, reduceIte, Bool.false_eq_true, id, Bool.not_true, Bool.not_false, List.nodup_nil, List.nodup_cons, List.not_mem_nil, not_false_eq_true, List.take_zero, List.take_succ_cons, List.take_nil, List.map_cons, List.map_nil])
local macro_rules | `(tactic| walk_at "sc") => `(tactic| first | with_reducible assumption | omega | assumption | with_reducible rfl | exact True.intro | exact okD_ints | exact okD_nil | exact okD_int _ | exact okD_bl _ | exact okD_non | exact okD_sm (by assumption) | with_reducible exact cmulR (by omega) (by omega) | with_reducible exact cmulL (by omega) (by omega) | with_reducible exact cdivw (by omega) (by omega) | (with_reducible refine smallI_of ?_ ?_ <;> first | omega | (simp only [List.length_map, List.length_append, List.length_range, List.length_replicate, List.length_cons, List.length_nil, List.length_take, List.length_drop]; omega)) | (unfold CPow; decide) | (simp only [List.length_map, List.length_append, List.length_range, List.length_replicate, List.length_cons, List.length_nil, List.length_take, List.length_drop]; omega) | (refine ⟨?_, ?_⟩ <;> walk_at "sc"))
local macro_rules | `(tactic| walk_at "go") => `(tactic| repeat (first | walk_at "rd" | with_reducible refine then_go ?_ | (refine And.intro (by walk_at "sc") ?_) | (refine dict_of (by assumption) ?_) | rw [deq_self (by walk_at "sc")] | walk_at "sc"))
def tailLong : PTS := (pSeq (pIf (pTest (pOp2 (bEq id) (pVar 2) (pC (.int 4)))) (pSeq (pSet 10 (pCalls (callN pre__law_book ok__law_book) (pCons (pVar 0) (pCons (pC (.int 0)) pNil)))) (pSeq (pSetD 5 (pCalls (callN pre__law_joined ok__law_joined) (pCons (pVar 0) (pCons (pC (.int 32)) (pCons (pVarF 10) (pCons (pC (.int 12)) pNil)))))) (pRet (pTup (pCons (pVarF 10) (pCons (pOp2 bMul (pVar 5) (pOp2 bDiv (pVar 3) (pCall cMax2 (pCons (pC (.int 1)) (pCons (pCall cLen (pCons (pVar 5) pNil)) pNil))))) pNil)))))) pNext) (pSeq (pSet 10 (pLst pNil)) (pSeq (pWip [7, 11] (pFor (pRng1 (pCons (pCall cLen (pCons (pVar 4) pNil)) pNil)) (tgN 7) (pGw [7, 11] [7, 11] (pSeq (pSetD 11 (pOp2 bAdd (pOp2 bIx (pVar 0) (pOp2 bAdd (pOp2 bAdd (pVar 1) (pC (.int 2))) (pOp2 bMod (pVar 7) (pC (.int 3))))) (pOp2 bMul (pC (.int 5)) (pVar 7)))) (pDrop (pLM lAppend (pVar 10) (pCons (pTup (pCons (pOp2 bIx (pVar 4) (pVar 7)) (pCons (pOp2 bSub (pOp2 bMod (pVar 11) (pC (.int 19))) (pC (.int 9))) pNil))) pNil))))))) (pRet (pTup (pCons (pVarF 10) (pCons (pSl (pVar 5) pNo (pPart (pVar 3))) pNil)))))))
theorem tail_long {P : PEnds} {dd : List D} {spot way many : Int} {ws : List Tx} {l : Tx} {x6 : AV} (hx6 : x6 = .un ∨ ∃ x, x6 = .d x) (hP : P.rt = retA 0 fun y os => ok__law_long [AR.d (.lst dd), AR.d (.int spot)] y ∧ os = []) (hs : 0 ≤ spot) (hd : Dr dd (spot + 5)) (hw4 : way ≠ 4) (hm0 : 0 ≤ many)
    (hws : ∀ w ∈ ws, isWord w) (hn : ws.Nodup) (hwl : ws.length ≤ 1000) (hl : small l = true) (hll : l.length ≤ 100000) :
    Then tailLong P ⟨[AV.d (.lst dd), AV.d (.int spot), AV.d (.int way), AV.d (.int many), AV.p 0, AV.d (.str l), x6, .un, .un, .un, .un, .un], [some (.lst (ws.map .str))]⟩ := by
  rcases hx6 with rfl | ⟨x6, rfl⟩
  · rw [then_eq]
    unfold tailLong
    walk_at "rd"
    rw [decide_eq_false hw4]
    walk_at "go"
    rw [List.length_map, Int.toNat_natCast]
    refine for_rng0 (fun i A => ∃ ps : List (Tx × Int), A = ⟨[AV.d (.lst dd), AV.d (.int spot), AV.d (.int way), AV.d (.int many), AV.p 0, AV.d (.str l), .un, .un, .un, .un, AV.p 1, .un], [some (.lst (ws.map .str)), some (.lst (rowsD ps))]⟩ ∧ ps.map (·.1) = ws.take i) ⟨[], rfl, rfl⟩ (by intros; trivial) ?_ ?_
    · rintro i A hi ⟨ps, rfl, hps⟩
      refine ⟨_, rfl, fun J Kb hJ hK => ?_⟩
      have hpl : ps.length = i := by
        have := congrArg List.length hps
        rw [List.length_map, List.length_take] at this
        omega
      walk_at "rd"
      refine dr_at hd (by omega) (by omega) fun x x0 x1 => ?_
      walk_at "rd"
      rw [then_eq]
      walk_at "rd"
      have ea := atI_of (xs := ws) (f := D.str) (i := (i : Int)) [] (by omega) (by omega)
      rw [Int.toNat_natCast] at ea
      refine ⟨cmulL (by decide) (by decide), _, ea, ?_⟩
      refine ⟨by unfold rowsD; rw [List.length_map]; omega, hJ _ ⟨ps ++ [(ws.getD i [], (x + 5 * (i : Int)) % 19 - 9)], by unfold rowsD; rw [List.map_append]; rfl, ?_⟩⟩
      rw [List.map_append, hps, List.take_succ, List.getElem?_eq_getElem hi, getD_of hi]
      rfl
    · rintro A ⟨ps, rfl, hps⟩
      rw [List.take_length] at hps
      walk_at "rd"
      rw [then_eq]
      walk_at "rd"
      rw [cut_b hm0, hP]
      refine ⟨by omega, ?_⟩
      walk_at "rd"
      refine ⟨_, _, rfl, ⟨ps, rfl, ?_, by rw [hps]; exact hn⟩, ?_, small_take hl _, by rw [List.length_take]; omega⟩
      · intro p hp
        exact hws _ (by rw [← hps]; exact List.mem_map.mpr ⟨p, hp, rfl⟩)
      · have := congrArg List.length hps
        rw [List.length_map] at this
        unfold rowsD
        rw [List.length_map]
        omega
  · rw [then_eq]
    unfold tailLong
    walk_at "rd"
    rw [decide_eq_false hw4]
    walk_at "go"
    rw [List.length_map, Int.toNat_natCast]
    refine for_rng0 (fun i A => ∃ ps : List (Tx × Int), A = ⟨[AV.d (.lst dd), AV.d (.int spot), AV.d (.int way), AV.d (.int many), AV.p 0, AV.d (.str l), .d x6, .un, .un, .un, AV.p 1, .un], [some (.lst (ws.map .str)), some (.lst (rowsD ps))]⟩ ∧ ps.map (·.1) = ws.take i) ⟨[], rfl, rfl⟩ (by intros; trivial) ?_ ?_
    · rintro i A hi ⟨ps, rfl, hps⟩
      refine ⟨_, rfl, fun J Kb hJ hK => ?_⟩
      have hpl : ps.length = i := by
        have := congrArg List.length hps
        rw [List.length_map, List.length_take] at this
        omega
      walk_at "rd"
      refine dr_at hd (by omega) (by omega) fun x x0 x1 => ?_
      walk_at "rd"
      rw [then_eq]
      walk_at "rd"
      have ea := atI_of (xs := ws) (f := D.str) (i := (i : Int)) [] (by omega) (by omega)
      rw [Int.toNat_natCast] at ea
      refine ⟨cmulL (by decide) (by decide), _, ea, ?_⟩
      refine ⟨by unfold rowsD; rw [List.length_map]; omega, hJ _ ⟨ps ++ [(ws.getD i [], (x + 5 * (i : Int)) % 19 - 9)], by unfold rowsD; rw [List.map_append]; rfl, ?_⟩⟩
      rw [List.map_append, hps, List.take_succ, List.getElem?_eq_getElem hi, getD_of hi]
      rfl
    · rintro A ⟨ps, rfl, hps⟩
      rw [List.take_length] at hps
      walk_at "rd"
      rw [then_eq]
      walk_at "rd"
      rw [cut_b hm0, hP]
      refine ⟨by omega, ?_⟩
      walk_at "rd"
      refine ⟨_, _, rfl, ⟨ps, rfl, ?_, by rw [hps]; exact hn⟩, ?_, small_take hl _, by rw [List.length_take]; omega⟩
      · intro p hp
        exact hws _ (by rw [← hps]; exact List.mem_map.mpr ⟨p, hp, rfl⟩)
      · have := congrArg List.length hps
        rw [List.length_map] at this
        unfold rowsD
        rw [List.length_map]
        omega
theorem tail_long' {zs : List D} {P : PEnds} {dd : List D} {spot way many : Int} {ws : List Tx} {l : Tx} {x6 : AV} (hx6 : x6 = .un ∨ ∃ x, x6 = .d x) (hP : P.rt = retA 0 fun y os => ok__law_long [AR.d (.lst dd), AR.d (.int spot)] y ∧ os = []) (hs : 0 ≤ spot) (hd : Dr dd (spot + 5)) (hw4 : way ≠ 4) (hm0 : 0 ≤ many)
    (hws : ∀ w ∈ ws, isWord w) (hn : ws.Nodup) (hwl : ws.length ≤ 1000) (hl : small l = true) (hll : l.length ≤ 100000) :
    Then tailLong P ⟨[AV.d (.lst dd), AV.d (.int spot), AV.d (.int way), AV.d (.int many), AV.p 1, AV.d (.str l), x6, .un, .un, .un, .un, .un], [some (.lst zs), some (.lst (ws.map .str))]⟩ := by
  rcases hx6 with rfl | ⟨x6, rfl⟩
  · rw [then_eq]
    unfold tailLong
    walk_at "rd"
    rw [decide_eq_false hw4]
    walk_at "go"
    rw [List.length_map, Int.toNat_natCast]
    refine for_rng0 (fun i A => ∃ ps : List (Tx × Int), A = ⟨[AV.d (.lst dd), AV.d (.int spot), AV.d (.int way), AV.d (.int many), AV.p 1, AV.d (.str l), .un, .un, .un, .un, AV.p 2, .un], [some (.lst zs), some (.lst (ws.map .str)), some (.lst (rowsD ps))]⟩ ∧ ps.map (·.1) = ws.take i) ⟨[], rfl, rfl⟩ (by intros; trivial) ?_ ?_
    · rintro i A hi ⟨ps, rfl, hps⟩
      refine ⟨_, rfl, fun J Kb hJ hK => ?_⟩
      have hpl : ps.length = i := by
        have := congrArg List.length hps
        rw [List.length_map, List.length_take] at this
        omega
      walk_at "rd"
      refine dr_at hd (by omega) (by omega) fun x x0 x1 => ?_
      walk_at "rd"
      rw [then_eq]
      walk_at "rd"
      have ea := atI_of (xs := ws) (f := D.str) (i := (i : Int)) [] (by omega) (by omega)
      rw [Int.toNat_natCast] at ea
      refine ⟨cmulL (by decide) (by decide), _, ea, ?_⟩
      refine ⟨by unfold rowsD; rw [List.length_map]; omega, hJ _ ⟨ps ++ [(ws.getD i [], (x + 5 * (i : Int)) % 19 - 9)], by unfold rowsD; rw [List.map_append]; rfl, ?_⟩⟩
      rw [List.map_append, hps, List.take_succ, List.getElem?_eq_getElem hi, getD_of hi]
      rfl
    · rintro A ⟨ps, rfl, hps⟩
      rw [List.take_length] at hps
      walk_at "rd"
      rw [then_eq]
      walk_at "rd"
      rw [cut_b hm0, hP]
      refine ⟨by omega, ?_⟩
      walk_at "rd"
      refine ⟨_, _, rfl, ⟨ps, rfl, ?_, by rw [hps]; exact hn⟩, ?_, small_take hl _, by rw [List.length_take]; omega⟩
      · intro p hp
        exact hws _ (by rw [← hps]; exact List.mem_map.mpr ⟨p, hp, rfl⟩)
      · have := congrArg List.length hps
        rw [List.length_map] at this
        unfold rowsD
        rw [List.length_map]
        omega
  · rw [then_eq]
    unfold tailLong
    walk_at "rd"
    rw [decide_eq_false hw4]
    walk_at "go"
    rw [List.length_map, Int.toNat_natCast]
    refine for_rng0 (fun i A => ∃ ps : List (Tx × Int), A = ⟨[AV.d (.lst dd), AV.d (.int spot), AV.d (.int way), AV.d (.int many), AV.p 1, AV.d (.str l), .d x6, .un, .un, .un, AV.p 2, .un], [some (.lst zs), some (.lst (ws.map .str)), some (.lst (rowsD ps))]⟩ ∧ ps.map (·.1) = ws.take i) ⟨[], rfl, rfl⟩ (by intros; trivial) ?_ ?_
    · rintro i A hi ⟨ps, rfl, hps⟩
      refine ⟨_, rfl, fun J Kb hJ hK => ?_⟩
      have hpl : ps.length = i := by
        have := congrArg List.length hps
        rw [List.length_map, List.length_take] at this
        omega
      walk_at "rd"
      refine dr_at hd (by omega) (by omega) fun x x0 x1 => ?_
      walk_at "rd"
      rw [then_eq]
      walk_at "rd"
      have ea := atI_of (xs := ws) (f := D.str) (i := (i : Int)) [] (by omega) (by omega)
      rw [Int.toNat_natCast] at ea
      refine ⟨cmulL (by decide) (by decide), _, ea, ?_⟩
      refine ⟨by unfold rowsD; rw [List.length_map]; omega, hJ _ ⟨ps ++ [(ws.getD i [], (x + 5 * (i : Int)) % 19 - 9)], by unfold rowsD; rw [List.map_append]; rfl, ?_⟩⟩
      rw [List.map_append, hps, List.take_succ, List.getElem?_eq_getElem hi, getD_of hi]
      rfl
    · rintro A ⟨ps, rfl, hps⟩
      rw [List.take_length] at hps
      walk_at "rd"
      rw [then_eq]
      walk_at "rd"
      rw [cut_b hm0, hP]
      refine ⟨by omega, ?_⟩
      walk_at "rd"
      refine ⟨_, _, rfl, ⟨ps, rfl, ?_, by rw [hps]; exact hn⟩, ?_, small_take hl _, by rw [List.length_take]; omega⟩
      · intro p hp
        exact hws _ (by rw [← hps]; exact List.mem_map.mpr ⟨p, hp, rfl⟩)
      · have := congrArg List.length hps
        rw [List.length_map] at this
        unfold rowsD
        rw [List.length_map]
        omega
instance (l : Tx) : Decidable (isWord l) := by unfold isWord; infer_instance
theorem rep_small (n : Nat) (l : Tx) (hl : small l = true) : small (List.replicate n l).flatten = true := by
  induction n with
  | zero => rfl
  | succ n ih =>
    rw [List.replicate_succ, List.flatten_cons]
    exact small_append hl ih
theorem rep_len (n : Nat) (l : Tx) : (List.replicate n l).flatten.length = n * l.length := by
  induction n with
  | zero => simp
  | succ n ih =>
    rw [List.replicate_succ, List.flatten_cons, List.length_append, ih, Nat.succ_mul]
    omega
theorem abc_get {i : Nat} (h : i < 26) : ∃ c, abc[i]? = some c ∧ c = 97 + i := by
  have : i = 0 ∨ i = 1 ∨ i = 2 ∨ i = 3 ∨ i = 4 ∨ i = 5 ∨ i = 6 ∨ i = 7 ∨ i = 8 ∨ i = 9 ∨ i = 10 ∨ i = 11 ∨ i = 12 ∨ i = 13 ∨ i = 14 ∨ i = 15 ∨ i = 16 ∨ i = 17 ∨ i = 18 ∨ i = 19 ∨ i = 20 ∨ i = 21 ∨ i = 22 ∨ i = 23 ∨ i = 24 ∨ i = 25 := by omega
  rcases this with rfl | rfl | rfl | rfl | rfl | rfl | rfl | rfl | rfl | rfl | rfl | rfl | rfl | rfl | rfl | rfl | rfl | rfl | rfl | rfl | rfl | rfl | rfl | rfl | rfl | rfl <;> exact ⟨_, rfl, rfl⟩
theorem abc_at {i : Int} (h0 : 0 ≤ i) (h : i < 26) : atI abc i = some (97 + i.toNat) := by
  obtain ⟨c, e, rfl⟩ := abc_get (i := i.toNat) (by omega)
  unfold atI
  rw [ixN_of h0 (by show i < 26; exact h)]
  exact e
/-- c, and two letters -/
def cWord (k : Nat) : Tx := [99, 97 + k / 26, 97 + k % 26]
theorem cWord_word {k : Nat} (h : k < 200) : isWord (cWord k) := by
  refine ⟨?_, by show 1 ≤ 3; decide, by show 3 ≤ 12; decide⟩
  unfold small cWord
  have h1 : 97 + k / 26 ∈ abc := by
    obtain ⟨c, e, rfl⟩ := abc_get (i := k / 26) (by omega)
    exact List.mem_iff_getElem?.mpr ⟨_, e⟩
  have h2 : 97 + k % 26 ∈ abc := by
    obtain ⟨c, e, rfl⟩ := abc_get (i := k % 26) (by omega)
    exact List.mem_iff_getElem?.mpr ⟨_, e⟩
  simp only [List.all_cons, List.all_nil, Bool.and_true, Bool.and_eq_true, decide_eq_true_eq]
  exact ⟨by decide, h1, h2⟩
theorem cWord_inj {a b : Nat} (h : cWord a = cWord b) : a = b := by
  unfold cWord at h
  simp only [List.cons.injEq, and_true, true_and] at h
  omega
def farWords (k : Nat) : List Tx := (List.range k).map cWord
theorem farWords_succ (k : Nat) : farWords (k + 1) = farWords k ++ [cWord k] := by
  unfold farWords
  rw [List.range_succ, List.map_append]
  rfl
theorem farWords_len (k : Nat) : (farWords k).length = k := by unfold farWords; rw [List.length_map, List.length_range]
def farAll : List Tx := [[97], [97, 98], [98, 97, 98]] ++ farWords 200
theorem farAll_word : ∀ w ∈ farAll, isWord w := fun w hw => by
  unfold farAll at hw
  rcases List.mem_append.mp hw with h | h
  · simp only [List.mem_cons, List.not_mem_nil, or_false] at h
    rcases h with rfl | rfl | rfl <;> exact ⟨by decide, by decide, by decide⟩
  · obtain ⟨k, hk, rfl⟩ := List.mem_map.mp h
    exact cWord_word (List.mem_range.mp hk)
theorem farAll_nodup : farAll.Nodup := by
  unfold farAll
  rw [List.nodup_append]
  refine ⟨by decide, ?_, fun a ha b hb e => ?_⟩
  · unfold farWords
    rw [List.nodup_iff_pairwise_ne, List.pairwise_map]
    exact List.pairwise_lt_range.imp fun {a b} h e => by have := cWord_inj e; omega
  · obtain ⟨k, hk, rfl⟩ := List.mem_map.mp hb
    subst e
    simp only [List.mem_cons, List.not_mem_nil, or_false] at ha
    rcases ha with h | h | h
    · have := congrArg List.length h; exact absurd this (by show ¬ 3 = 1; decide)
    · have := congrArg List.length h; exact absurd this (by show ¬ 3 = 2; decide)
    · have := congrArg List.head? h; exact absurd this (by show ¬ some 99 = some 98; decide)
theorem farAll_len : farAll.length = 203 := by unfold farAll; rw [List.length_append, farWords_len]; rfl
theorem r__law_long : Law p__law_long N__law_long 2 (conN pre__law_long ok__law_long) := fun ars h => by
  have h : pre__law_long ars := h
  unfold pre__law_long at h
  split at h
  · rename_i dd spot _
    obtain ⟨hs, hd, hd2⟩ := h
    refine ⟨rfl, ?_⟩
    unfold p__law_long endsA
    walk_at "rd"
    refine dr_at hd (by omega) (by omega) fun x x0 x1 => ?_
    walk_at "rd"
    rw [then_eq]
    walk_at "rd"
    refine dr_at hd (by omega) (by omega) fun y y0 y1 => ?_
    walk_at "rd"
    have hmany : 0 ≤ 1200 + y % 800 ∧ 1200 + y % 800 < 2000 := by omega
    generalize 1200 + y % 800 = many at hmany ⊢
    have hway : x % 5 = 0 ∨ x % 5 = 1 ∨ x % 5 = 2 ∨ x % 5 = 3 ∨ x % 5 = 4 := by omega
    generalize x % 5 = way at hway ⊢
    have m2 : ∀ l : Tx, l.length ≤ 3 → MulSOk l.length 2000 := fun l h => ⟨by decide, by decide, by show l.length * 2000 ≤ 16777216; omega⟩
    rcases hway with rfl | rfl | rfl | rfl | rfl
    · rw [then_eq]
      walk_at "rd"
      refine ⟨_, rfl, ?_⟩
      rw [then_eq]
      walk_at "rd"
      refine ⟨_, rfl, m2 _ (by decide), ?_⟩
      walk_at "rd"
      rw [then_eq]
      walk_at "rd"
      exact tail_long (ws := [[97], [97, 97], [97, 97, 97]]) (.inl rfl) rfl hs hd (by decide) (by omega) (by decide) (by decide) (by decide) (rep_small _ _ (by decide)) (by rw [rep_len]; decide)
    · rw [then_eq]
      walk_at "rd"
      refine ⟨_, rfl, ?_⟩
      rw [then_eq]
      walk_at "rd"
      refine ⟨_, rfl, m2 _ (by decide), ?_⟩
      walk_at "rd"
      rw [then_eq]
      walk_at "rd"
      exact tail_long (ws := [[97], [97, 98], [98, 97]]) (.inl rfl) rfl hs hd (by decide) (by omega) (by decide) (by decide) (by decide) (rep_small _ _ (by decide)) (by rw [rep_len]; decide)
    · rw [then_eq]
      walk_at "rd"
      refine ⟨_, rfl, ?_⟩
      rw [then_eq]
      walk_at "rd"
      refine ⟨_, rfl, m2 _ (by decide), ?_⟩
      walk_at "rd"
      rw [then_eq]
      walk_at "rd"
      exact tail_long (ws := [[97, 98], [97, 98, 99], [99], [99, 97, 98]]) (.inl rfl) rfl hs hd (by decide) (by omega) (by decide) (by decide) (by decide) (rep_small _ _ (by decide)) (by rw [rep_len]; decide)
    · rw [then_eq]
      walk_at "rd"
      refine ⟨_, rfl, ?_⟩
      rw [then_eq]
      walk_at "rd"
      refine ⟨_, rfl, m2 _ (by decide), ?_⟩
      have e0 : (List.replicate (Int.toNat 2000) ([] : Tx)).flatten = [] := List.eq_nil_of_length_eq_zero (by rw [rep_len]; rfl)
      rw [e0]
      walk_at "rd"
      rw [then_eq]
      walk_at "rd"
      rw [then_eq]
      walk_at "rd"
      refine ⟨by unfold smallI; decide, ?_⟩
      refine for_rng0 (fun i A => A = ⟨[AV.d (.lst dd), AV.d (.int spot), AV.d (.int 3), AV.d (.int many), AV.p 0, AV.d (.str []), AV.d (.str abc), .un, .un, .un, .un, .un], [some (.lst ((farWords i).map .str))]⟩) rfl (by intros; trivial) ?_ ?_
      · rintro i A hi rfl
        have hi : i < 200 := hi
        refine ⟨_, rfl, fun J Kb hJ hK => ?_⟩
        walk_at "rd"
        refine ⟨cdivw (by decide) (by decide), _, abc_at (by omega) (by omega), _, abc_at (by omega) (by omega), ?_⟩
        rw [then_eq]
        walk_at "rd"
        refine ⟨by rw [List.length_map, farWords_len]; omega, hJ _ ?_⟩
        rw [farWords_succ, List.map_append]
        have e1 : ((i : Int) / 26).toNat = i / 26 := by omega
        have e2 : ((i : Int) % 26).toNat = i % 26 := by omega
        rw [e1, e2]
        rfl
      · rintro A rfl
        dsimp only
        rw [then_eq]
        walk_at "rd"
        rw [then_eq]
        walk_at "rd"
        refine ⟨by unfold smallI; decide, ?_⟩
        have ew : D.str [97] :: D.str [97, 98] :: D.str [98, 97, 98] :: (farWords (Int.toNat 200)).map D.str = farAll.map D.str := by
          unfold farAll
          rw [List.map_append]
          rfl
        rw [ew]
        refine for_rng0 (fun i A => ∃ l : Tx, A = ⟨[AV.d (.lst dd), AV.d (.int spot), AV.d (.int 3), AV.d (.int many), AV.p 1, AV.d (.str l), AV.d (.str abc), .un, .un, .un, .un, .un], [some (.lst ((farWords (Int.toNat 200)).map .str)), some (.lst (farAll.map .str))]⟩ ∧ small l = true ∧ l.length ≤ 12 * i) ⟨[], rfl, rfl, by simp⟩ (by intros; trivial) ?_ ?_
        · rintro i A hi ⟨l, rfl, h1, h2⟩
          have hi : i < 500 := hi
          refine ⟨_, rfl, fun J Kb hJ hK => ?_⟩
          walk_at "rd"
          refine dr_at hd (by omega) (by omega) fun z z0 z1 => ?_
          walk_at "rd"
          refine ⟨cmulL (by omega) (by omega), cmulL (by decide) (by decide), cmulR (by omega) (by omega), ?_⟩
          rw [then_eq]
          walk_at "rd"
          generalize (z * ((i : Int) + 1) + 7 * (i : Int) * (i : Int)) = at'
          have q0 : 0 ≤ at' % 203 := Int.emod_nonneg _ (by decide)
          have q1 : at' % 203 < 203 := Int.emod_lt_of_pos _ (by decide)
          have ea := atI_of (xs := farAll) (f := D.str) (i := at' % 203) [] q0 (by rw [farAll_len]; exact q1)
          have hw := farAll_word (farAll.getD (at' % 203).toNat []) (by rw [getD_of (by rw [farAll_len]; omega)]; exact List.getElem_mem _)
          refine ⟨_, ea, ?_⟩
          have := hw.2.2
          walk_at "rd"
          exact ⟨by omega, hJ _ ⟨_, rfl, small_append h1 hw.1, by rw [List.length_append]; omega⟩⟩
        · rintro A ⟨l, rfl, h1, h2⟩
          have h2 : l.length ≤ 12 * 500 := h2
          dsimp only
          rw [then_eq]
          walk_at "rd"
          exact tail_long' (.inr ⟨_, rfl⟩) rfl hs hd (by decide) (by decide) farAll_word farAll_nodup (by rw [farAll_len]; decide) h1 (by omega)
    · rw [then_eq]
      walk_at "rd"
      refine ⟨[], rfl, ?_⟩
      rw [then_eq]
      walk_at "rd"
      refine ⟨_, rfl, m2 _ (by decide), ?_⟩
      walk_at "rd"
      rw [then_eq]
      walk_at "rd"
      rw [then_eq]
      walk_at "rd"
      refine ⟨hd2.mono (by omega), ?_⟩
      rintro y ⟨ds, rfl, hB, hds⟩
      walk_at "rd"
      rw [then_eq]
      walk_at "rd"
      refine ⟨⟨hd2.mono (by omega), hB.rows, by omega⟩, ?_⟩
      rintro y ⟨l, rfl, h1, h2⟩
      walk_at "rd"
      rw [then_eq]
      walk_at "rd"
      have hc : ∃ c : Nat, (if (l.length : Int) > 1 then (l.length : Int) else 1) = (c : Int) ∧ l.length ≤ c ∧ 1 ≤ c := by
        split
        · exact ⟨l.length, rfl, Nat.le_refl _, by omega⟩
        · exact ⟨1, rfl, by omega, by omega⟩
      obtain ⟨c, ec, hc1, hc2⟩ := hc
      rw [ec]
      obtain ⟨mm, rfl⟩ := Int.eq_ofNat_of_zero_le hmany.1
      have ed : (mm : Int) / (c : Int) = ((mm / c : Nat) : Int) := rfl
      rw [ed, Int.toNat_natCast]
      have hle : l.length * (mm / c) ≤ mm := Nat.le_trans (Nat.mul_le_mul_right _ hc1) (Nat.mul_div_le mm c)
      have hq : mm / c ≤ mm := Nat.div_le_self _ _
      generalize mm / c = g at hle hq ⊢
      refine ⟨by omega, cdivw (by omega) (by omega), ⟨by omega, by omega, by rw [Int.toNat_natCast]; omega⟩, ds, _, rfl, hB.rows, by omega, rep_small _ _ h1, ?_⟩
      rw [rep_len, Nat.mul_comm]
      omega
  · exact h.elim
end PD

/-! PE, seventh part: pop(), reverse(), clear() of an owned list; clear() of an owned dict. -/
namespace PD
open PySem PySem.Spec PyProof.Rows L2
theorem klm0 {X : Cx} {E : WX} {K : PySem.W.Frag} {o : Expr} {name : Str} {id : String} {r : V → List V → Hp → VK → Prop} {lm : LM} {to : TE} {po : PTE} {apos cpos : Pos} (slot : Slot "list" name id) (hty : typeOf (.builtin id) = pure (.type "method_descriptor")) (hm : MtR X id r) (hr : SndL K r lm)
    (ho : DE X E o to po) (hK : X.K = K := by rfl) (hbase : attributeBase o name X.env (eval o X.env) = eval o X.env := by rfl) (hline : (apos.endLine == cpos.line) = true := by rfl) :
    DE X E (.Call (.Attribute o name apos) [] [] cpos) (tBM0 K "list" r to) (pLM lm po pNil) := by
  subst hK
  have hn : DA X E [] tNil pNil := da_nil
  exact ⟨pe_bm0 PySem.F.plainAttrs_list slot hty hm ho.pe hbase hline, sim_lm hr ho.sim hn.sim⟩
def lPop : LM
  | xs, [], P => ∃ d, xs.getLast? = some d ∧ P (.d d) xs.dropLast
  | _, _, _ => False
theorem snd_pop {K : PySem.W.Frag} : SndL K rPop lPop := fun S H a xs args vs ws P Q le h1 h2 h3 b q => by
  unfold lPop at b
  split at b
  · cases h3
    obtain ⟨d, e, b⟩ := b
    rw [List.getLast?_eq_getElem?] at e
    obtain ⟨v, e2, dr⟩ := h2.get' e
    refine ⟨a, vs, v, rfl, rfl, h1, by rw [h2.length]; exact e2, q d v _ _ b dr h2.dropLast⟩
  · exact b.elim
def lReverse : LM
  | xs, [], P => P (.d .non) xs.reverse
  | _, _, _ => False
theorem snd_reverse {K : PySem.W.Frag} : SndL K rReverse lReverse := fun S H a xs args vs ws P Q le h1 h2 h3 b q => by
  unfold lReverse at b
  split at b
  · cases h3
    exact ⟨a, vs, rfl, rfl, h1, q .non _ _ _ b .non h2.reverse⟩
  · exact b.elim
def lClear : LM
  | _, [], P => P (.d .non) []
  | _, _, _ => False
theorem snd_clear {K : PySem.W.Frag} : SndL K rClear lClear := fun S H a xs args vs ws P Q le h1 h2 h3 b q => by
  unfold lClear at b
  split at b
  · cases h3
    exact ⟨a, vs, rfl, rfl, h1, q .non _ _ _ b .non .nil⟩
  · exact b.elim
end PD

/-! x or y where x is no bool; {len(x): (c, c')}. -/
namespace PD
open PySem PySem.Spec PyProof.Rows L2
section
variable {X : Cx} {E : WX} {K : PySem.W.Frag}
theorem tru_of {S H : Hp} {v : V} {x : D} {b : Bool} (dv : DV K S H v x) (eb : truD x = some b) : TruV K v H b := by
  cases x with
  | non => cases dv; cases eb; rfl
  | bl b => cases dv; cases eb; rfl
  | int i => cases dv; cases eb; rfl
  | lst xs =>
    obtain ⟨a, vs, rfl, e1, e2⟩ := dv
    cases eb
    exact .inl ⟨vs, SqL.of e1, by rw [e2.nil_iff]⟩
  | tup xs =>
    obtain ⟨a, vs, rfl, e1, e2⟩ := dv
    cases eb
    exact .inr (.inl ⟨vs, SqT.of e1, by rw [e2.nil_iff]⟩)
  | dic xs => cases eb
  | str l => cases eb
  | dit l => cases eb
  | scr l => cases eb
  | exc l => cases eb
def pOrT (pa pb : PTE) : PTE := fun A P Y => pa A (fun y A1 => match y with
  | .d x => (match truD x with
    | some b => if b = true then P (.d x) A1 else pb A1 P Y
    | none => False)
  | _ => False) Y
theorem de_orT {a b : Expr} {rest : List Expr} {pos : Pos} {t u : TE} {p q : PTE} (h : DE X E a t p) (k : DE X E (.BoolOp .Or (b :: rest) pos) u q) (hK : X.K = K := by rfl) : DE X E (.BoolOp .Or (a :: b :: rest) pos) (tOrT K t u) (pOrT p q) := by
  subst hK
  refine ⟨pe_orT h.pe k.pe, fun B σ H A P Y Q rel kk c xq => ?_⟩
  refine h.sim B σ H A _ Y _ rel kk (fun y A1 v H1 p1 r1 => ?_) xq
  split at p1
  · rename_i x
    obtain ⟨t, S, ρ, h, s, k1⟩ := id r1
    have dv := (Now.mk h s).view k1 (x := x) rfl
    cases eb : truD x with
    | none => rw [eb] at p1; exact p1.elim
    | some b =>
      rw [eb] at p1
      refine ⟨b, tru_of dv eb, ?_⟩
      cases b with
      | true => exact c _ A1 v H1 (by simpa using p1) r1
      | false => exact k.sim B σ H1 A1 P Y Q r1.rel (by simpa using p1) c xq
  · exact p1.elim
def pDictLenT (i : Nat) (ds : List D) : PTE := fun A P _ => match A.env[i]? with
  | some (.d (.str l)) => l.length ≤ 16777216 ∧ P (.o (.dic [(.inl l.length, .tup ds)])) A
  | _ => False
theorem kdictLenT {pos : Pos} {ke ve : Expr} {i : Nat} {v1 v2 : V} {d1 d2 : D} {q q2 : PTE} (hk : DE X E ke (tCB (rLenA K) (tCons (tVar i) tNil)) q) (hv : DE X E ve (tTup (tCons (tC v1) (tCons (tC v2) tNil))) q2) (h1 : ∀ S, DR K S v1 d1) (h2 : ∀ S, DR K S v2 d2) (hK : X.K = K := by rfl) : DE X E (.Dict [some ke] [ve] pos) (tDisp [(tCB (rLenA K) (tCons (tVar i) tNil), tTup (tCons (tC v1) (tCons (tC v2) tNil)))]) (pDictLenT i [d1, d2]) := by
  subst hK
  refine ⟨pe_disp (pps_cons hk.pe hv.pe pps_nil) rfl rfl (fun z => nomatch z) (show 1 ≤ 15 by decide), fun B σ H A P Y Q rel p c xq => ?_⟩
  unfold pDictLenT at p
  split at p
  · rename_i l e
    obtain ⟨t, S, r, h, s⟩ := rel
    obtain ⟨w, e1, dr⟩ := s.get e
    intro a ha
    cases DR.str_of dr
    refine ⟨_, e1, .inl ⟨.str (st l), l.length, rfl, ⟨by rw [st_len]; exact p.1, (st_len l).symm⟩, ?_⟩⟩
    refine ⟨by show 2 ≤ 16777216; decide, fun b hb => ?_⟩
    have ne : b ≠ a := fun z => by rw [z, upd_same] at hb; cases hb
    have hb : H b = none := by rw [upd_ne ne] at hb; exact hb
    refine ⟨by rw [upd_ne ne.symm]; exact upd_same, [(kd (.inl (l.length : Int)), .ref b)], rfl, by show 1 ≤ 15; decide, ?_⟩
    have fin : ∃ S' r', Now X.K B t S' r' A σ (upd H b (.tup [v1, v2])) ∧ DR X.K S' (.ref b) (.tup [d1, d2]) := by
      have ex : Ext t S A.M.length t (upd S b (.tup [v1, v2])) A.M.length := ⟨fun x o e => by
        have ne : x ≠ b := fun y => by rw [y, h.of_none hb] at e; cases e
        rw [upd_ne ne]
        exact e, fun _ _ => rfl, Nat.le_refl _⟩
      exact ⟨upd S b (.tup [v1, v2]), r, ⟨h.stable hb _, s.ext ex⟩, .tup upd_same ((DRs.cons (h1 S) (.cons (h2 S) .nil)).mono ex.le)⟩
    obtain ⟨S', r', n, dk⟩ := fin
    have hz := (n.kont (P := fun y => P y A) fun y v H' py ry => c y A v H' py ry).dic a [(kd (.inl (l.length : Int)), .ref b)] _ (by rw [upd_ne ne.symm]; exact ha) p.2 (.cons (k := .inl (l.length : Int)) dk .nil)
    have ea : upd (upd (upd H a (.dK [])) b (.tup [v1, v2])) a (.dK (mergeK [] [(kd (.inl (l.length : Int)), .ref b)])) = upd (upd H b (.tup [v1, v2])) a (.dK [(kd (.inl (l.length : Int)), .ref b)]) := by
      funext x
      by_cases e1 : x = a
      · rw [e1, upd_same, upd_same]; rfl
      · rw [upd_ne e1, upd_ne e1]
        by_cases e2 : x = b
        · rw [e2, upd_same, upd_same]
        · rw [upd_ne e2, upd_ne e2, upd_ne e1]
    rw [ea]
    exact hz
  · exact p.elim
end
end PD

/-! PE, ninth part: loops whose turns leave the state as it was. -/
namespace PD
open PySem L2

section
variable {α : Type} {n : Nat} {it : Nat → D} {C : List (Option O) → Prop} {tg : PTG} {body : PTS} {P : PEnds} {A1 : Abs}
theorem for_c (hC : C A1.M) (hs : ∀ i, i < n → ∃ env', tg (it i) A1.env = some env' ∧ ∀ J Kb : Abs → Prop, J A1 → (∀ A, P.nx A → Kb A) → body { nx := J, rt := P.rt, bk := Kb, ct := J, ex := P.ex } ⟨env', A1.M⟩)
    (hd : P.nx A1) : ForP n it C tg body P A1 := by
  refine for_any (fun _ A => A = A1) rfl (fun _ _ _ e => by rw [e]; exact hC) (fun i A' hi e => ?_) (fun A' e => by rw [e]; exact hd)
  subst e
  obtain ⟨env', h1, h2⟩ := hs i hi
  exact ⟨env', h1, fun J Kb hJ hK => h2 J Kb (hJ _ rfl) hK⟩
theorem for_cR (hC : C A1.M) (hs : ∀ i, i < n → ∃ env', tg (.int (i : Nat)) A1.env = some env' ∧ ∀ J Kb : Abs → Prop, J A1 → (∀ A, P.nx A → Kb A) → body { nx := J, rt := P.rt, bk := Kb, ct := J, ex := P.ex } ⟨env', A1.M⟩)
    (hd : P.nx A1) : ForP n (fun i => .int (i : Nat)) C tg body P A1 := for_c hC hs hd
theorem for_cG {xs : List α} {f : α → D} (hl : n = xs.length) (hit : ∀ i, (h : i < xs.length) → it i = f xs[i]) (hC : C A1.M) (hs : ∀ x ∈ xs, ∃ env', tg (f x) A1.env = some env' ∧ ∀ J Kb : Abs → Prop, J A1 → (∀ A, P.nx A → Kb A) → body { nx := J, rt := P.rt, bk := Kb, ct := J, ex := P.ex } ⟨env', A1.M⟩)
    (hd : P.nx A1) : ForP n it C tg body P A1 := for_c hC (fun i hi => by
  subst hl
  rw [hit i hi]
  exact hs _ (List.getElem_mem hi)) hd
/-- over a list of a kind -/
theorem for_cL {xs : List α} {f : α → D} (hC : C A1.M) (hs : ∀ x ∈ xs, ∃ env', tg (f x) A1.env = some env' ∧ ∀ J Kb : Abs → Prop, J A1 → (∀ A, P.nx A → Kb A) → body { nx := J, rt := P.rt, bk := Kb, ct := J, ex := P.ex } ⟨env', A1.M⟩)
    (hd : P.nx A1) : ForP (xs.map f).length (itL (xs.map f)) C tg body P A1 := for_cG (List.length_map f) (fun i h => itL_map h) hC hs hd
/-- over a list of data -/
theorem for_cD {xs : List D} (hC : C A1.M) (hs : ∀ x ∈ xs, ∃ env', tg x A1.env = some env' ∧ ∀ J Kb : Abs → Prop, J A1 → (∀ A, P.nx A → Kb A) → body { nx := J, rt := P.rt, bk := Kb, ct := J, ex := P.ex } ⟨env', A1.M⟩)
    (hd : P.nx A1) : ForP xs.length (itL xs) C tg body P A1 := for_cG (f := fun x : D => x) rfl (fun i h => by
  show xs.getD i .non = _
  exact getD_of h _) hC hs hd
end
/-- for over the signs of a text -/
theorem then_at {q : PTS} {P : PEnds} {A : Abs} (h : q P A) : Then q P A := h
end PD

/-! PF, first part: what is refused: raise, calls that may refuse, try. -/
namespace PD
open PySem PySem.Spec PyProof.Rows L2

abbrev TK (X : Cx) (W : WX) : Prop := ∀ σ, PassesAt (L2.CX X.prog X.w) X σ (WE W σ)
theorem tk_of {X : Cx} {W : WX} (tk : Takes X W) : TK X W := fun σ => passAt tk σ
theorem tk0 {X : Cx} : TK X W0 := fun σ pins H s e s' I z => by
  obtain ⟨_, _, _, _, _, _, _, _, _, _, _, _, z⟩ := z
  exact z.elim
/-- facts of a class whose objects are raised -/
structure ExcR (K : PySem.W.Frag) (mg : Str → Option Value) (e : EN) : Prop where
  ex : ∃ C : Addr, ev K e = .ref C ∧ mg (en e) = some (.ref C) ∧ PySem.W.excIn K C [.type "ValueError", .type "Exception", .type "BaseException", .type "object"] "ValueError.__new__" = true ∧ PySem.W.keepIn K (.ref C) = true ∧
    PySem.W.subIn K (.ref C) (.type "BaseException") = some true ∧ PySem.W.typeIn K (.ref C) = some (.type "type") ∧ ExcC K C
theorem excR_mk {K : PySem.W.Frag} {mg : Str → Option Value} {e : EN} {C : Addr} (h1 : PySem.W.nsIn K mainGlobals (en e) = some (some (.ref C))) (h2 : mg (en e) = some (.ref C))
    (h3 : PySem.W.excIn K C [.type "ValueError", .type "Exception", .type "BaseException", .type "object"] "ValueError.__new__" = true) (h4 : PySem.W.keepIn K (.ref C) = true)
    (h5 : PySem.W.subIn K (.ref C) (.type "BaseException") = some true) (h6 : PySem.W.typeIn K (.ref C) = some (.type "type")) (h7 : ExcC K C) : ExcR K mg e :=
  ⟨C, by unfold ev; rw [h1], h2, h3, h4, h5, h6, h7⟩
def pRaise (e : EN) : PTS := fun P A => P.ex e A
theorem ds_raise {X : Cx} {W : WX} {e : EN} {x m : Str} {j : Nat} {p p2 p3 pos : Pos} (hc : X.calm = true) (tk : Takes X W) (h : ExcR X.K X.mg e) (hx : en e = x) (hg : Gl X x) (hdb : (x == ("__debug__" : Str)) = false := by decide) :
    DS X W (.Raise (some (.Call (.Name x p) [.Constant (.str m) j p2] [] p3)) none pos) (fun _ σ H => W (ev X.K e) none σ H) (pRaise e) := by
  subst hx
  obtain ⟨C, e1, e2, e3, e4, e5, e6, e7⟩ := h.ex
  refine ⟨?_, fun B σ H A P D rel x c => c.ex σ _ _ _ x rel⟩
  rw [e1]
  exact ps_raise hc tk (pmk_own PySem.F.excBase_ValueError e3 e2 e4 (raises_own e5 e6) hg hdb)
/-! ### promises of defs that may refuse -/
structure ConX where
  pre : List AR → Prop
  ok : List AR → AR → List (Option O) → Prop
  ex : List AR → EN → Prop
def ConX.asp (c : ConX) : ASp := fun ars post xp => c.pre ars ∧ (∀ y os, os.length = (ownsA ars).length → c.ok ars y os → post y.toR os) ∧ ∀ e, c.ex ars e → xp e (ownsA ars)
structure XCal (P : Program) (w : World) (K : PySem.W.Frag) (mg : Str → Option Value) (base : Heap) (k : Nat) (x : Str) (c : ConX) : Prop where
  ex : ∃ (f : Addr) (fd : FuncData) (ps : List Str), FnOk P w K mg base (L2.CX P w) k f fd ps (spA K c.asp) ∧ mg x = some (.ref f) ∧ PySem.W.keepIn K (.ref f) = true ∧ Binds K fd ps []
/-- what is wanted behind a def that may refuse -/
def endsX (own : List (Option O)) (ok : AR → List (Option O) → Prop) (ex : EN → Prop) : PEnds := { nx := fun A => ok (.d .non) (A.M.take own.length), rt := retA own.length ok, ex := fun e A => ex e ∧ A.M.take own.length = own }
def LawX (p : PTS) (N : List Str) (m : Nat) (c : ConX) : Prop := ∀ ars, c.pre ars → ars.length = m ∧ p (endsX (ownsA ars) (c.ok ars) (c.ex ars)) (fnAbs N ars)
section
variable {P : Program} {w : World} {K : PySem.W.Frag} {mg : Str → Option Value} {base : Heap}
theorem xcalL {x qual : Str} {st : Stmt} {f : Addr} {fd : FuncData} {N ps : List Str} {k : Nat} {c : ConX} {p : PTS} (F : Fun K x qual st f fd) (hm : mg x = some (.ref f)) (hb : Binds K fd ps []) (Sc : FnScope N ps (defScope st))
    (hbody : ∀ (cdv : Value) (A : Around) (outer : List Env) (s : Shared) (H : Hp) (E : XK), Room k (A.deeper (envOfC qual (defScope st) s.heap.objs.size f cdv)) →
      ∃ t, DSs (cxOf (L2.CX P w) P w K mg base N qual (defScope st) f cdv A outer s H E) (fun C d _ H => E C d H) (defBody st) t p)
    (law : LawX p N ps.length c) : XCal P w K mg base (k + 1) x c := by
  refine ⟨f, fd, ps, F.okX Sc (spA_len fun ars post xp h => (law ars h.1).1) fun cdv A outer s H vs Q E hr ⟨t, S, r, ars, h, sr, a⟩ => ?_, hm, F.kp, hb⟩
  obtain ⟨tt, d⟩ := hbody cdv A outer s H E hr
  refine ⟨tt, d.pe, d.sim (baseOf t S r (ownsA ars).length H) _ H (fnAbs N ars) _ _ ⟨t, S, r, h, start_SR sr⟩ (law ars a.1).2 ?_⟩
  refine { nx := fun A' σ H' q ⟨t', S', r', h', s'⟩ => ?_, rt := fun y A' v σ H' q ⟨t', S', r', h', s', kk⟩ => ?_, bk := fun A' σ H' q _ => q.elim, ct := fun A' σ H' q _ => q.elim, ex := fun σ e A' H' q ⟨t', S', r', h', s'⟩ => ?_ }
  · exact a.2.1 _ _ (take_ok h'.nl).1 q _ _ ⟨fun n z => (by cases z), t', S', r', A'.M, h', (take_ok h'.nl).1, (take_ok h'.nl).2, DR.non⟩
  · cases y with
    | d x => exact a.2.1 _ _ (take_ok h'.nl).1 q _ _ ⟨fun n z => (by cases z), t', S', r', A'.M, h', (take_ok h'.nl).1, (take_ok h'.nl).2, kk⟩
    | o x => exact a.2.1 _ _ (take_ok h'.nl).1 q _ _ ⟨fun n z => (by cases z), t', S', r', A'.M, h', (take_ok h'.nl).1, (take_ok h'.nl).2, kk⟩
    | p n =>
      obtain ⟨rfl, hn⟩ := kk
      obtain ⟨hmn, o, e, q⟩ := q
      obtain ⟨r2, h2, ok⟩ := h'.unname e
      refine a.2.1 _ _ (take_ok h'.nl).1 q _ _ ⟨fun n z => (by cases z), t', S', r2, _, h2, (take_ok h'.nl).1, fun j hj => ?_, t' n, rfl, ok⟩
      have hj : j < (ownsA ars).length := hj
      rw [List.getElem?_set_ne (by omega)]
      exact (take_ok h'.nl).2 j hj
  · have q2 : A'.M.take (ownsA ars).length = ownsA ars := q.2
    refine a.2.2 e q.1 H' ⟨t', S', r', A'.M, h', rfl, fun j hj => ?_⟩
    have hj : j < (ownsA ars).length := hj
    exact ((take_ok h'.nl).2 j hj).trans (congrArg (·[j]?) q2)
end
def callXG (c : ConX) (zs : List R) (A : Abs) (P : R → Abs → Prop) (Y : PX) : Prop := match toAR A.M zs with
  | some (ars, ns) => ns.Nodup ∧ c.pre ars ∧ (∀ y os, os.length = ns.length → c.ok ars y os → P y.toR ⟨A.env, putAll A.M ns os⟩) ∧ ∀ e, c.ex ars e → Y e A
  | none => False
def pCallX (g : List R → Abs → (R → Abs → Prop) → PX → Prop) (q : PTA) : PTE := fun A P Y => q A (fun zs A1 => g zs A1 P Y) Y
def ReadsX (c : ConX) (g : List R → Abs → (R → Abs → Prop) → PX → Prop) : Prop := ∀ zs A P Y, g zs A P Y → callXG c zs A P Y
theorem sim_callX {K : PySem.W.Frag} {E : WX} {c : ConX} {ta : TA} {q : PTA} {g : List R → Abs → (R → Abs → Prop) → PX → Prop} (hg : ReadsX c g) (h : SimA K E ta q) : SimE K E (tCallS (spA K c.asp) (WE E) ta) (pCallX g q) := fun B σ H A P Y Q rel p k xq => by
  refine h B σ H A _ Y _ rel p (fun zs A1 vs H1 p1 ⟨t, S, r, n, rl⟩ => ?_) xq
  refine run_callA (asp := c.asp) (P := P) (Y := Y) n rl (fun ars post post' xp xp' h1 h2 ⟨a1, a2, a3⟩ => ⟨a1, fun y os hl ho => h1 _ _ (toR_no y) hl (a2 y os hl ho), fun e he => h2 _ _ rfl (a3 e he)⟩) ?_ k xq
  have p1 := hg _ _ _ _ p1
  unfold callA
  unfold callXG at p1
  split at p1
  · rename_i ars ns e
    obtain ⟨nd, pr, ok, ex⟩ := p1
    try rw [e]
    exact ⟨nd, pr, fun y os hl ho => ok y os (by rw [hl, (toAR_obj e).1]) ho, fun c he => by
      show Y c ⟨A1.env, putAll A1.M ns (ownsA ars)⟩
      rw [putAll_same nd e]
      exact ex c he⟩
  · exact p1.elim
theorem kcallX {X : Cx} {E : WX} {K : PySem.W.Frag} {k j : Nat} {x : Str} {c : ConX} {g : List R → Abs → (R → Abs → Prop) → PX → Prop} {p pos : Pos} {e : Expr} {es : List Expr} {ta : TA} {q : PTA} (rd : ReadsX c g) (h : XCal X.prog X.w K X.mg X.base k x c) (hr : Room j X.A) (hk : k ≤ j) (tk : TK X E) (hg : Gl X x) (ha : DA X E (e :: es) ta q) (hK : X.K = K := by rfl)
    (hdb : (x == ("__debug__" : Str)) = false := by decide) (he : starEach (e :: es) X.env = (false, eval e X.env) :: starEach es X.env := by rfl) (hpl : (backTo pos (starEach es X.env)).any (·.1) = false := by rfl) :
    DE X E (.Call (.Name x p) (e :: es) [] pos) (tCallS (spA K c.asp) (WE E) ta) (pCallX g q) := by
  subst hK
  obtain ⟨f, fd, ps, F, hm, kp, b⟩ := h.ex
  exact ⟨pe_callS F (hr.mono hk) hg hm kp b tk ha.pe hdb he hpl, sim_callX rd ha.sim⟩
/-- what a def that only reads tells, or refuses -/
def conX (pre : List AR → Prop) (F : List AR → Except EN AR) : ConX := ⟨pre, fun ars y os => F ars = .ok y ∧ os = ownsA ars, fun ars e => F ars = .error e⟩
def callX (pre : List AR → Prop) (F : List AR → Except EN AR) (zs : List R) (A : Abs) (P : R → Abs → Prop) (Y : PX) : Prop := match toAR A.M zs with
  | some (ars, ns) => ns.Nodup ∧ pre ars ∧ (match F ars with
    | .ok y => P y.toR A
    | .error e => Y e A)
  | none => False
theorem reads_X (pre : List AR → Prop) (F : List AR → Except EN AR) : ReadsX (conX pre F) (callX pre F) := fun zs A P Y h => by
  unfold callX at h
  unfold callXG
  split at h
  · rename_i ars ns e
    obtain ⟨nd, h0, h⟩ := h
    refine ⟨nd, h0, fun y os hl ⟨h1, h2⟩ => ?_, fun c hc => ?_⟩
    · rw [h1] at h
      rw [h2, putAll_same nd e]
      exact h
    · have hc : F ars = .error c := hc
      rw [hc] at h
      exact h
  · exact h.elim
/-- what is wanted behind such a def, its answer known -/
def endsR (own : List (Option O)) (r : Except EN AR) : PEnds := { nx := fun A => r = .ok (.d .non) ∧ A.M.take own.length = own, rt := retA own.length (fun y os => r = .ok y ∧ os = own), ex := fun e A => r = .error e ∧ A.M.take own.length = own }
theorem lawX_of {p : PTS} {N : List Str} {m : Nat} {pre : List AR → Prop} {F : List AR → Except EN AR} (h : ∀ ars, pre ars → ars.length = m ∧ p (endsR (ownsA ars) (F ars)) (fnAbs N ars)) : LawX p N m (conX pre F) := h
end PD

/-! PF, second part: what was caught stays. -/
namespace PD
open PySem PySem.Spec PyProof.Rows L2

theorem excHO_ok {P : Program} {w : World} {H : Hp} {h : Heap} {C : Value} {d : Option Addr} {a : Addr} {oe : Obj} {vs : Array Value} (e : h.get? a = some oe) (z : Zc C d oe) (q : oe.data = .fields vs) : ObjOk P w H h a (excHO C d a) :=
  ⟨⟨oe, vs, e, z, q⟩, ⟨oe, e⟩, fun _ _ ⟨o1, v1, e1, z1, q1⟩ k => ⟨o1, v1, k _ e1, z1, q1⟩⟩
/-- what the one clause hands on: the names i (only for a while) and j bear the caught one -/
def wTr (K : PySem.W.Frag) (c : Value) (i j : Nat) (D : Ends) : WX := fun cls d σ H =>
  PySem.W.exmOne K cls c = some true ∧ ∀ a, H a = none → D.nx (((σ.set i (some (.ref a))).set j (some (.ref a))).set i none) (upd H a (excHO cls d a))
section
variable {X : Cx} {pins : List (Addr × Obj)} {σ : L2.St} {H : Hp} {s0 s : Shared} {B : Heap}
/-- landed, and from now on known -/
theorem inv_caught (I : Inv X pins σ H s0) (gr : ∀ b o, s0.heap.get? b = some o → b ∉ frs X.stack → B.get? b = some o) (sub : B.StaysIn s.heap) (up : s0.heap.UpToSlots s.heap) (os : s.os = s0.os) (bare : AllBare s.gens)
    {a : Addr} {cls : Value} {d : Option Addr} {oe : Obj} {vs : Array Value} (hB : B.get? a = none) (nf : a ∉ frs X.stack) (na : H a = none) (e : s.heap.get? a = some oe) (z : Zc cls d oe) (q : oe.data = .fields vs) : Inv X pins σ (upd H a (excHO cls d a)) s := by
  have new0 : s0.heap.get? a = none := by
    cases y : s0.heap.get? a with
    | none => rfl
    | some o =>
      have y2 := gr a o y nf
      rw [hB] at y2
      cases y2
  have old : ∀ b o, s0.heap.get? b = some o → b ≠ a := fun b o y z => by
    rw [z, new0] at y
    cases y
  have frame : ∀ b ∈ frs X.stack, ∀ o, s0.heap.get? b = some o → ∃ sl, s.heap.get? b = some { o with slots := sl } := fun b hb o y => by
    obtain ⟨_, o2, y2, nd⟩ := I.stack.mem hb
    rw [y] at y2
    cases y2
    exact up b o y nd
  have at0 : ∀ b u, H b = some u → b ≠ a := fun b u y z => by
    rw [z, na] at y
    cases y
  have key : HOk X.prog X.w (upd H a (excHO cls d a)) s.heap := fun b u y => by
    by_cases hb : b = a
    · subst hb
      rw [upd_same] at y
      cases y
      exact excHO_ok e z q
    · rw [upd_ne hb] at y
      refine (((I.inGround gr).kept sub) b u y).stay (fun _ _ _ r => r) (fun c r => ?_) (fun c xs r => ?_)
      · rw [upd_ne (at0 c _ r)]
        exact r
      · rw [upd_ne (at0 c _ r)]
        exact r
  have J := I.call (ch := []) (h' := s.heap) (g' := s.gens) (t' := s.toks) (d' := s.drawn) (H' := upd H a (excHO cls d a))
    { keep := fun b o y _ hb _ => sub b o (gr b o y hb)
      slot := fun b o y _ hb _ => frame b hb o y
      free := fun b o y n _ => by
        rw [upd_ne (old b o y)]
        exact n
      there := fun b o y _ => by
        by_cases hb : b ∈ frs X.stack
        · obtain ⟨sl, r⟩ := frame b hb o y
          exact ⟨_, r⟩
        · exact ⟨o, sub b o (gr b o y hb)⟩
      tups := fun b xs y => by
        rw [upd_ne (at0 b _ y)]
        exact y
      frzs := fun b o u y => by
        rw [upd_ne (at0 b _ y)]
        exact y
      tbls := fun b ps y => ⟨#[], by rw [upd_ne (at0 b _ y), y, Array.append_empty]⟩ }
    key bare (fun _ r => nomatch r)
  obtain ⟨f1, f2, f3, f4, f5⟩ := s
  have f : f5 = s0.os := os
  subst f
  exact J
theorem inv_in (I : Inv X pins σ H s) (a : Addr) : Inv (X.suite a (X.pn ++ pins)) [] σ H s :=
  ⟨I.ok.suite _ _, I.os, I.bare, I.base, I.loc, I.cell, I.free, I.freeC, fun p hp => I.pin p (by rwa [List.append_nil] at hp), I.hok, I.len⟩
theorem inv_out {a : Addr} (I : Inv (X.suite a (X.pn ++ pins)) [] σ H s) (ok : X.Ok) : Inv X pins σ H s :=
  ⟨ok, I.os, I.bare, I.base, I.loc, I.cell, I.free, I.freeC, fun p hp => I.pin p (List.mem_append_left _ hp), I.hok, I.len⟩
end
section
variable {X : Cx} {x n m : Str} {c : Value} {i j : Nat} {body : List Stmt} {np n2 mp ap hp pos : Pos} {tb : WX → TS}
/-- try: .. except x as n: m = n -/
theorem ps_tryKeep (hs : X.stack = X.env :: X.outer) (hf : X.env.frame = some X.env.locals) (hN : X.N.Nodup) (hi : X.N[i]? = some n) (hln : X.env.kindOf n = some .local) (hj : X.N[j]? = some m) (hlm : Loc X.env.scope m) (hfm : X.env.scope.names.lookup m = some .local) (hc : Names X x c)
    (hvn : Vis X.env.scope n) (hdn : (n == ("__debug__" : Str)) = false) (hcn : (n == ("__classdict__" : Str)) = false)
    (hb : ∀ (W : WX) (pn : List (Addr × Obj)) (xe : Value → Shared → Prop), Takes (X.tr pn xe) W → PassesOwn (model X.prog X.w) X.A X.env xe → PSs (X.tr pn xe) body (tb W)) :
    PS X (.Try body [.ExceptHandler (some (.Name x np)) (some n) [.Assign [.Name m mp] (.Name n n2) ap] hp] [] [] pos) (fun D σ H => tb (wTr X.K c i j D) D σ H) := by
  refine ⟨fun pins s σ H D I h => wpAny_Try_except ?_⟩
  have ok := I.ok
  have frm : X.A.frames = some (X.env :: X.outer) := ok.frames.trans (congrArg some hs)
  refine wpAny_mono ((hb (wTr X.K c i j D) (X.pn ++ pins) _ (fun u s' air => ?_) PassesOwn.looking).run [] s σ H D (I.toTry _) h) (fun f s1 sp => ?_) (fun _ _ z => z)
  · obtain ⟨a, B, s0, pins', σ', H', cls, d, rfl, J', gr, up, sky, na, os, bare, hx, hgo⟩ := air
    have J : Inv X pins σ' H' s0 := J'.ofTry ok
    have sky : Sky B (X.env :: X.outer) a (Zc cls d) X.env.locals s'.heap := hs ▸ sky
    refine Sky.land (Q := fun _ s3 => wpAny (model X.prog X.w) X.A (handleBy (.ref a) X.env [.ExceptHandler (some (.Name x np)) (some n) [.Assign [.Name m mp] (.Name n n2) ap] hp]) (SP X pins D) X.xe s3) Zc.steady frm hf sky fun h3 fl up3 => ?_
    obtain ⟨o3, v3, e3, z3, q3⟩ := fl.there
    have nf : a ∉ frs X.stack := fun hm => by
      rw [hs] at hm
      obtain ⟨_, o', e', hn⟩ := fl.2.2.1.mem hm
      rw [e3] at e'
      cases e'
      exact hn _ q3
    have J3 := inv_in (inv_caught (s := { s' with heap := h3 }) J gr fl.1 (up.trans up3) os bare fl.2.1 nf na e3 z3 q3) a
    refine wpAny_handleBy_cons (codeAny_handlers_test ?_) (fun z => nomatch z)
    have ty : PySem.W.Looks (model X.prog X.w) h3 (typeOf (.ref a)) cls := fun A Q E s k r => wpAny_typeOf_ref (k _ _ e3) (by rw [z3.1]; exact r)
    have ans := PySem.W.exm_one (M := model X.prog X.w) J3.kIn ty hx
    have name : ∀ {Q E : Value → Shared → Prop}, Q c { s' with heap := h3 } → wpAny (model X.prog X.w) (X.A.mark (some (.ref a))) (eval (.Name x np) X.env) Q E { s' with heap := h3 } := fun {Q E} r => by
      obtain ⟨c1, c2, c3 | ⟨c3, c4, c5⟩⟩ := hc
      · exact ld_glob (X := X.suite a (X.pn ++ pins)) J3 c1 c3 r c2
      · exact ld_blt (X := X.suite a (X.pn ++ pins)) J3 c1 c3 c4 r c5 c2
    refine name (ans.here (codeAny_handlers_suite_as ?_))
    refine HandSPX.lands_againZ fl fun h4 fl4 up4 => ?_
    obtain ⟨o4, v4, e4, z4, q4⟩ := fl4.there
    have J4 := inv_caught (s := { s' with heap := h4 }) J gr fl4.1 ((up.trans up3).trans up4) os bare fl4.2.1 nf na e4 z4 q4
    refine store_ok (X := X.suite a (X.pn ++ pins)) (v := .ref a) (inv_in J4 a) hN hi (.inl hln) rfl (fun s5 J5 => ?_) (.inr hln)
    have su : PSs (X.suite a (X.pn ++ pins)) [.Assign [.Name m mp] (.Name n n2) ap] (tAsg (tVar i) (gName j)) :=
      pss_one (ps_set (X := X.suite a (X.pn ++ pins)) hN hj hlm (pe_var (X := X.suite a (X.pn ++ pins)) hi hvn hdn hcn) (by rfl) (.inr hfm))
    have hlen : i < σ'.length := by
      rw [J.len]
      exact (List.getElem?_eq_some_iff.mp hi).1
    refine wpAny_mono (su.run [] s5 _ _ { nx := fun σ6 H6 => D.nx (σ6.set i none) H6, rt := fun _ _ => False } J5 ⟨.ref a, List.getElem?_set_self hlen, hgo a na⟩) (fun f s6 sp => ?_) (fun _ _ z => z.elim)
    cases f with
    | next =>
      obtain ⟨σ6, H6, J6, q6⟩ := sp
      exact gone_ok (inv_out J6 ok) hN hi hln fun s7 J7 => ⟨_, _, J7, q6⟩
    | brk => obtain ⟨_, _, _, z⟩ := sp; exact z.elim
    | cont => obtain ⟨_, _, _, z⟩ := sp; exact z.elim
    | ret u => obtain ⟨_, _, _, _, _, z⟩ := sp; exact z.elim
  · cases f with
    | next =>
      obtain ⟨σ1, H1, J1, q1⟩ := sp
      exact wpAny_execs_nil ⟨σ1, H1, J1.ofTry ok, q1⟩
    | brk =>
      obtain ⟨σ1, H1, J1, q1⟩ := sp
      exact ⟨σ1, H1, J1.ofTry ok, q1⟩
    | cont =>
      obtain ⟨σ1, H1, J1, q1⟩ := sp
      exact ⟨σ1, H1, J1.ofTry ok, q1⟩
    | ret u =>
      obtain ⟨v1, σ1, H1, J1, r1, q1⟩ := sp
      exact ⟨v1, σ1, H1, J1.ofTry ok, r1, q1⟩
end
end PD

/-! PF, third part: try, isinstance of what was caught. -/
namespace PD
open PySem PySem.Spec PyProof.Rows L2

def pTry (Rs : List EN) (i j : Nat) (p : PTS) : PTS := fun P A => p { P with ex := fun e A' => e ∈ Rs ∧ P.nx ⟨((A'.env.set i (.d (.exc e))).set j (.d (.exc e))).set i .un, A'.M⟩ } A
/-- the class that the clause names -/
structure ExcH (K : PySem.W.Frag) (mg : Str → Option Value) (Rs : List EN) : Prop where
  ex : ∃ C : Addr, mg "CutError" = some (.ref C) ∧ ∀ e ∈ Rs, PySem.W.exmOne K (ev K e) (.ref C) = some true
theorem SR.gone {K : PySem.W.Frag} {S : Hp} {t : Nat → Addr} {m : Nat} {env : List AV} {σ : L2.St} (s : SR K S t m env σ) (i : Nat) : SR K S t m (env.set i .un) (σ.set i none) where
  len := by rw [List.length_set, List.length_set]; exact s.len
  ok := fun k av e => by
    by_cases q : i = k
    · subst q
      have hi : i < env.length := by
        have := (List.getElem?_eq_some_iff.mp e).1
        rwa [List.length_set] at this
      rw [List.getElem?_set_self hi] at e
      cases e
      trivial
    · rw [List.getElem?_set_ne q] at e ⊢
      exact s.ok k av e
/-- a wish that takes all: what is raised is looked at -/
theorem takes_any {X : Cx} (hs : X.stack = X.env :: X.outer) (hf : X.env.frame = some X.env.locals) (pn : List (Addr × Obj)) (W : WX) : Takes (X.tr pn fun e s1 => wpAny (model X.prog X.w) X.A (noteFrame e X.env) (fun _ s2 => wpAny (model X.prog X.w) X.A (setFlight e none) (fun _ _ => True) X.xe s2) X.xe s1) W := fun u s' air => by
  obtain ⟨a, B, s0, pins, σ, H, cls, d, rfl, J, gr, up, sky, _⟩ := air
  have sky : Sky B (X.env :: X.outer) a (Zc cls d) X.env.locals s'.heap := hs ▸ sky
  exact Sky.land (Q := fun _ _ => True) Zc.steady (J.ok.frames.trans (congrArg some hs)) hf sky fun _ _ _ => trivial
theorem ds_try {X : Cx} {E : WX} {K : PySem.W.Frag} {n m : Str} {i j : Nat} {body : List Stmt} {np n2 mp ap hp pos : Pos} {tb : WX → TS} {p : PTS} (Rs : List EN) (h : ExcH K X.mg Rs) (hN : X.N.Nodup) (hgc : Gl X "CutError")
    (hb : ∀ (W : WX) (pn : List (Addr × Obj)) (xe : Value → Shared → Prop), Takes (X.tr pn xe) W → PassesOwn (model X.prog X.w) X.A X.env xe → DSs (X.tr pn xe) W body (tb W) p)
    (hK : X.K = K := by rfl) (hi : X.N[i]? = some n := by rfl) (hj : X.N[j]? = some m := by rfl) (hs : X.stack = X.env :: X.outer := by rfl) (hf : X.env.frame = some X.env.locals := by rfl) (hln : X.env.kindOf n = some .local := by rfl) (hlm : Loc X.env.scope m := by first | exact Or.inl rfl | exact Or.inr rfl) (hfm : X.env.scope.names.lookup m = some .local := by rfl)
    (hvn : Vis X.env.scope n := by first | exact Or.inl rfl | exact Or.inr (Or.inl rfl) | exact Or.inr (Or.inr rfl)) (hdn : (n == ("__debug__" : Str)) = false := by decide) (hcn : (n == ("__classdict__" : Str)) = false := by decide) :
    DS X E (.Try body [.ExceptHandler (some (.Name "CutError" np)) (some n) [.Assign [.Name m mp] (.Name n n2) ap] hp] [] [] pos) (fun D σ H => tb (wTr K (.ref h.ex.choose) i j D) D σ H) (pTry Rs i j p) := by
  subst hK
  have hC := h.ex.choose_spec
  generalize h.ex.choose = C at hC ⊢
  obtain ⟨hm, hx⟩ := hC
  refine ⟨ps_tryKeep (c := .ref C) hs hf hN hi hln hj hlm hfm ⟨hgc, by decide, .inl hm⟩ hvn hdn hcn fun W pn xe tk po => (hb W pn xe tk po).pe, fun B σ H A P D rel x c => ?_⟩
  refine (hb (wTr X.K (.ref C) i j D) [] _ (takes_any hs hf [] _) PassesOwn.looking).sim B σ H A _ D rel x ⟨c.nx, c.rt, c.bk, c.ct, fun σ' e A' H' q r => ?_⟩
  · obtain ⟨he, q⟩ := q
    refine ⟨hx e he, fun a na => c.nx _ _ _ q ?_⟩
    obtain ⟨t, S, ρ, hr, sr⟩ := r
    refine ⟨t, upd S a (excHO (ev X.K e) none a), ρ, hr.stable na _, ?_⟩
    have ex : Ext t S A'.M.length t (upd S a (excHO (ev X.K e) none a)) A'.M.length := ⟨fun b o w => by
      have ne : b ≠ a := fun y => by rw [y, hr.of_none na] at w; cases w
      rw [upd_ne ne]
      exact w, fun _ _ => rfl, Nat.le_refl _⟩
    have dr : DR X.K (upd S a (excHO (ev X.K e) none a)) (.ref a) (.exc e) := .exc upd_same
    exact (((sr.ext ex).set i (av := .d (.exc e)) ⟨_, rfl, dr⟩).set j (av := .d (.exc e)) ⟨_, rfl, dr⟩).gone i
/-! ### isinstance -/
def rIsT (K : PySem.W.Frag) : List V → Hp → VK → Prop := fun xs H Q => ∃ (a D : Addr) (c : V) (cv : Value) (b : Bool), xs = [.ref a, c] ∧ H a = some (excHO (.ref D) none a) ∧ ExcC K D ∧ (∀ u, RelV c u → u = cv) ∧ PySem.W.kitOne K (.ref D) cv = some b ∧ Q (.bl b) H
theorem call_isT {X : Cx} : CallR X (.builtin "isinstance") (rIsT X.K) := fun pins s σ H xs us Q I r h => by
  obtain ⟨a, D, c, cv, b, rfl, ha, C, hcv, e, q⟩ := h
  cases r with
  | cons r1 r =>
    cases r with
    | cons r2 r =>
      cases r
      cases r1
      have := hcv _ r2
      subst this
      obtain ⟨⟨oe, vs, e1, z1, q1⟩, _⟩ := I.hok a _ ha
      have J : PySem.W.InstAt s.heap a oe D none := by
        obtain ⟨o1, o2, o3, o4⟩ := oe
        obtain ⟨z1, z2⟩ := z1
        dsimp only at z1 z2 q1
        subst z1 z2 q1
        exact ⟨e1, rfl, rfl, trivial⟩
      exact PySem.W.kia_one (PySem.W.handS_kitx_exc C.hg C.hk C.hs C.hd C.ha C.hn C.ht C.hm) I.kIn J e (fun z => nomatch z) fun tk => ⟨.bl b, H, I.kept (t' := tk) fun _ _ z => z, rfl, q⟩
/-- the answers of isinstance for what may have been caught -/
structure ExcT (K : PySem.W.Frag) (mg : Str → Option Value) (Rs : List EN) (c : EN) : Prop where
  ex : ∃ C : Addr, mg (en c) = some (.ref C) ∧ ∀ e ∈ Rs, ∃ D : Addr, ev K e = .ref D ∧ ExcC K D ∧ PySem.W.kitOne K (.ref D) (.ref C) = some (decide (e = c))
structure ExcV (K : PySem.W.Frag) (mg : Str → Option Value) (Rs : List EN) : Prop where
  mg : mg "ValueError" = none
  ex : ∀ e ∈ Rs, ∃ D : Addr, ev K e = .ref D ∧ ExcC K D ∧ PySem.W.kitOne K (.ref D) (.type "ValueError") = some true
def pIsX (Rs : List EN) (g : EN → Bool) (p : PTE) : PTE := fun A P Y => p A (fun y A1 => match y with
  | .d (.exc e) => e ∈ Rs ∧ P (.d (.bl (g e))) A1
  | _ => False) Y
section
variable {X : Cx} {E : WX} {K : PySem.W.Frag}
theorem kisX {t : TE} {e : Expr} {p : PTE} {x y : Str} {p1 p2 pos : Pos} (Rs : List EN) (c : EN) (h : DE X E e t p) (T : ExcT K X.mg Rs c) (hy : en c = y) (hg : Gl X x) (hm : X.mg x = none) (hv : bootBuiltins x = some (.builtin "isinstance")) (hg2 : Gl X y) (hK : X.K = K := by rfl)
    (hd2 : (y == ("__debug__" : Str)) = false := by decide)
    (hn : x ≠ "__name__" := by decide) (hdb : (x == ("__debug__" : Str)) = false := by decide) (he : starEach [e, .Name y p2] X.env = (false, eval e X.env) :: starEach [.Name y p2] X.env := by rfl) (hpl : (backTo pos (starEach [.Name y p2] X.env)).any (·.1) = false := by rfl)
    (he2 : starEach [.Name y p2] X.env = (false, eval (.Name y p2) X.env) :: starEach [] X.env := by rfl) : DE X E (.Call (.Name x p1) [e, .Name y p2] [] pos) (tCB (rIsT K) (tCons t (tCons (tC (.ref T.ex.choose)) tNil))) (pIsX Rs (fun e => decide (e = c)) p) := by
  subst hK hy
  have hCR := T.ex.choose_spec
  generalize T.ex.choose = C at hCR ⊢
  obtain ⟨hC, hR⟩ := hCR
  refine ⟨pe_callB call_isT hg hm hv (pa_cons h.pe (pa_cons (pe_glob (v := .ref C) hg2 hC rfl hd2) pa_nil he2) he) hn hdb he hpl, fun B σ H A P Y Q rel x k xq => ?_⟩
  refine h.sim B σ H A _ Y _ rel x (fun y A1 v1 H1 q r1 => ?_) xq
  split at q
  · rename_i e
    obtain ⟨he', q⟩ := q
    obtain ⟨D, d1, d2, d3⟩ := hR e he'
    obtain ⟨tt, S, ρ, h1, s1, k1⟩ := id r1
    have k1 : DR X.K S v1 (.exc e) := k1
    cases k1 with
    | exc w =>
      rename_i a
      rw [d1] at w
      exact ⟨a, D, .ref C, .ref C, _, rfl, h1.le.exc w, d2, fun u r => r, d3, k _ A1 _ H1 q (r1.rel.res fun _ => .bl _)⟩
  · exact q.elim
theorem kisV {t : TE} {e : Expr} {p : PTE} {x : Str} {p1 p2 pos : Pos} (Rs : List EN) (h : DE X E e t p) (T : ExcV K X.mg Rs) (hg : Gl X x) (hm : X.mg x = none) (hv : bootBuiltins x = some (.builtin "isinstance")) (hg2 : Gl X "ValueError") (hK : X.K = K := by rfl)
    (hn : x ≠ "__name__" := by decide) (hdb : (x == ("__debug__" : Str)) = false := by decide) (he : starEach [e, .Name "ValueError" p2] X.env = (false, eval e X.env) :: starEach [.Name "ValueError" p2] X.env := by rfl) (hpl : (backTo pos (starEach [.Name "ValueError" p2] X.env)).any (·.1) = false := by rfl)
    (he2 : starEach [.Name "ValueError" p2] X.env = (false, eval (.Name "ValueError" p2) X.env) :: starEach [] X.env := by rfl) : DE X E (.Call (.Name x p1) [e, .Name "ValueError" p2] [] pos) (tCB (rIsT K) (tCons t (tCons (tC (.ty "ValueError")) tNil))) (pIsX Rs (fun _ => true) p) := by
  subst hK
  refine ⟨pe_callB call_isT hg hm hv (pa_cons h.pe (pa_cons (pe_bltn (v := .ty "ValueError") hg2 T.mg rfl rfl (by decide) (by decide)) pa_nil he2) he) hn hdb he hpl, fun B σ H A P Y Q rel x k xq => ?_⟩
  refine h.sim B σ H A _ Y _ rel x (fun y A1 v1 H1 q r1 => ?_) xq
  split at q
  · rename_i e
    obtain ⟨he', q⟩ := q
    obtain ⟨D, d1, d2, d3⟩ := T.ex e he'
    obtain ⟨tt, S, ρ, h1, s1, k1⟩ := id r1
    have k1 : DR X.K S v1 (.exc e) := k1
    cases k1 with
    | exc w =>
      rename_i a
      rw [d1] at w
      exact ⟨a, D, .ty "ValueError", .type "ValueError", _, rfl, h1.le.exc w, d2, fun u r => r, d3, k _ A1 _ H1 q (r1.rel.res fun _ => .bl _)⟩
  · exact q.elim
end
end PD

/-! PF, fourth part: the facts of the classes, put together. -/
namespace PD
open PySem PySem.Spec PyProof.Rows L2

theorem tk_cx {P : Program} {w : World} {K : PySem.W.Frag} {mg : Str → Option Value} {base : Heap} {N : List Str} {qual : Str} {sc : Scope} {f : Addr} {cdv : Value} {A : Around} {outer : List Env} {s : Shared} {H : Hp} {E : XK} :
    Takes (cxOf (L2.CX P w) P w K mg base N qual sc f cdv A outer s H E) (fun C d _ H => E C d H) := takes_of rfl rfl rfl rfl
theorem po_cx {P : Program} {w : World} {K : PySem.W.Frag} {mg : Str → Option Value} {base : Heap} {N : List Str} {qual : Str} {sc : Scope} {f : Addr} {cdv : Value} {A : Around} {outer : List Env} {s : Shared} {H : Hp} {E : XK} :
    PassesOwn (model P w) (cxOf (L2.CX P w) P w K mg base N qual sc f cdv A outer s H E).A (cxOf (L2.CX P w) P w K mg base N qual sc f cdv A outer s H E).env (cxOf (L2.CX P w) P w K mg base N qual sc f cdv A outer s H E).xe :=
  passes_of (X := cxOf (L2.CX P w) P w K mg base N qual sc f cdv A outer s H E) rfl
section
variable {K : PySem.W.Frag} {mg : Str → Option Value}
open PySem.W
theorem ev_of {e : EN} {C : Addr} (h : nsIn K mainGlobals (en e) = some (some (.ref C))) : ev K e = .ref C := by unfold ev; rw [h]
theorem kit_self (D : Addr) : kitOne K (.ref D) (.ref D) = some true := by
  unfold kitOne
  rw [if_pos (by simp)]
theorem kit_ne {D C : Addr} (h : (D == C) = false) (hd : hasDictIn K C = true) (ty : typeIn K (.ref C) = some (.type "type")) (s : subIn K (.ref D) (.ref C) = some false) : kitOne K (.ref D) (.ref C) = some false := by
  unfold kitOne
  rw [if_neg (by
    intro z
    have z := Value.ref.inj (beq_iff_eq.mp z)
    rw [z] at h
    simp at h)]
  obtain ⟨cd, hc, _⟩ := any_some hd
  show (if ((clsIn K C).isSome && typeIn K (.ref C) == some (.type "type")) = true then subIn K (.ref D) (.ref C) else none) = some false
  rw [if_pos (by rw [hc, ty] <;> rfl)]
  exact s
theorem kit_val {D : Addr} (s : subIn K (.ref D) (.type "ValueError") = some true) : kitOne K (.ref D) (.type "ValueError") = some true := by
  unfold kitOne
  rw [if_neg (by intro z; cases beq_iff_eq.mp z)]
  show (if kitMeta "ValueError" = true then subIn K (.ref D) (.type "ValueError") else none) = some true
  rw [if_pos (by decide +kernel)]
  exact s
end
end PD

/-! PG, first part: more of the built-in things. -/
namespace PD
open PySem PySem.Spec PyProof.Rows L2

section
variable {X : Cx} {E : WX} {K : PySem.W.Frag}
/-! ### list(..) of a text, of a dict -/
theorem chars_Vals {l : Tx} {acc : Array Value} (h : ItemsOf (SignAt (st l)) acc (st l).cps.size) : Vals (l.map fun c => V.str (st [c])) acc.toList := by
  have hs : (st l).cps.size = l.length := st_len l
  have hl : acc.toList.length = l.length := by rw [Array.length_toList, ← hs]; exact h.1
  have go : ∀ (l : Tx) (us : List Value), us.length = l.length → (∀ (i : Nat) (v : Value), us[i]? = some v → ∃ (c : Nat) (u : Tok), l[i]? = some c ∧ v = Value.str ⟨#[c]⟩ u) → Vals (l.map fun c => V.str (st [c])) us := by
    intro l
    induction l with
    | nil =>
      intro us hl _
      cases us with
      | nil => exact .nil
      | cons _ _ => simp at hl
    | cons c l ih =>
      intro us hl h
      cases us with
      | nil => simp at hl
      | cons u us =>
        refine .cons ?_ (ih us (by simpa using hl) fun i v e => by simpa using h (i + 1) v (by simpa using e))
        obtain ⟨c', t, e1, e2⟩ := h 0 u rfl
        have e1 : c = c' := by simpa using e1
        subst e1
        exact ⟨t, e2⟩
  refine go l _ hl fun i v e => ?_
  obtain ⟨c, u, e1, e2⟩ := h.2 i v (by rw [← Array.getElem?_toList]; exact e)
  refine ⟨c, u, ?_, e2⟩
  rw [← Array.getElem?_toList] at e1
  rw [← st_tl l]
  exact e1
def rListS : List V → Hp → VK → Prop := fun xs H Q => ∃ l : Tx, xs = [.str (st l)] ∧ l.length ≤ 16777216 ∧ ∀ p, H p = none → Q (.ref p) (upd H p (.lst (l.map fun c => V.str (st [c]))))
theorem call_listS (hcalm : X.calm = true) : CallR X (.type "list") rListS := fun pins s σ H xs us Q I r h => by
  obtain ⟨l, rfl, hl, q⟩ := h
  cases r with
  | cons r1 r =>
    cases r
    obtain ⟨t, rfl⟩ := r1
    have hz : (st l).cps.size = l.length := st_len l
    refine call_list_str (I.ok.hd hcalm) (st l) t (fun h' tk acc c hk hp hi => ?_) (by rw [hz]; exact hl)
    refine ⟨.ref s.heap.objs.size, upd H s.heap.objs.size (.lst (l.map fun c => V.str (st [c]))), I.laid (t' := tk) hk (Nat.le_refl _) (show ObjOk X.prog X.w _ _ _ (.lst _) from ⟨?_, acc.toList, c, chars_Vals hi, ?_⟩), rfl, q _ (I.hok.fresh (Nat.le_refl _))⟩
    · rw [List.length_map]
      exact hl
    · rw [Array.toArray_toList]
      exact hp
def rListD1 : List V → Hp → VK → Prop := fun xs H Q => ∃ (a : Addr) (kvs : List (Key × V)), xs = [.ref a] ∧ Rd H a (.dK kvs) ∧ ∀ p, H p = none → Q (.ref p) (upd H p (.lst (kvs.map fun kv => kV kv.1)))
def rListB (K : PySem.W.Frag) : List V → Hp → VK → Prop := fun xs H Q => rListA K xs H Q ∨ (rListS xs H Q ∨ rListD1 xs H Q)
theorem call_listB (hcalm : X.calm = true) : CallR X (.type "list") (rListB X.K) := CallR.or call_list_of (CallR.or (call_listS hcalm) (call_listD hcalm))
def cListB : BN
  | [.lst xs], P => P (.o (.lst xs))
  | [.tup xs], P => P (.o (.lst xs))
  | [.str l], P => l.length ≤ 16777216 ∧ P (.o (.lst (l.map fun c => .str [c])))
  | [.dic kvs], P => P (.o (.lst (kvs.map fun p => kD p.1)))
  | _, _ => False
theorem DRs.chars {S : Hp} : ∀ l : Tx, DRs K S (l.map fun c => V.str (st [c])) (l.map fun c => D.str [c])
  | [] => .nil
  | c :: l => .cons (.str [c]) (DRs.chars l)
theorem DRk.keyD {S : Hp} : ∀ {vs : List (Key × V)} {ds : List (Kd × D)}, DRk K S vs ds → DRs K S (vs.map fun kv => kV kv.1) (ds.map fun p => kD p.1)
  | _, _, .nil => .nil
  | _, _, .cons (k := k) h t => .cons (DR.kD k) (DRk.keyD t)
theorem snd_listB : SndN K (rListB K) cListB := fun S H xs vs P Q le dv b k => by
  unfold cListB at b
  split at b
  · obtain ⟨v, rfl, a, ws, rfl, h1, h2⟩ := dv.one
    exact .inl ⟨a, ws, rfl, .inl (SqL.of h1), fun l hl => k.lst l ws _ hl b h2⟩
  · obtain ⟨v, rfl, a, ws, rfl, h1, h2⟩ := dv.one
    exact .inl ⟨a, ws, rfl, .inr (SqT.of h1), fun l hl => k.lst l ws _ hl b h2⟩
  · obtain ⟨v, rfl, rfl⟩ := dv.one
    exact .inr (.inl ⟨_, rfl, b.1, fun l hl => k.lst l _ _ hl b.2 (DRs.chars _)⟩)
  · obtain ⟨v, rfl, a, ws, rfl, h1, h2⟩ := dv.one
    exact .inr (.inr ⟨a, ws, rfl, h1, fun l hl => k.lst l _ _ hl b h2.keyD⟩)
  · exact b.elim
/-! ### tuple(..) -/
def rTuple (K : PySem.W.Frag) : List V → Hp → VK → Prop := fun xs H Q => ∃ p ys, xs = [.ref p] ∧ ((SqL K H p ys ∧ ∀ l, H l = none → Q (.ref l) (upd H l (.tup ys))) ∨ (SqT K H p ys ∧ Q (.ref p) H))
def cTuple : BN
  | [.lst xs], P => P (.d (.tup xs))
  | _, _ => False
theorem snd_tuple : SndN K (rTuple K) cTuple := fun S H xs vs P Q le dv b k => by
  unfold cTuple at b
  split at b
  · obtain ⟨v, rfl, a, ws, rfl, h1, h2⟩ := dv.one
    exact ⟨a, ws, rfl, .inl ⟨SqL.of h1, fun l hl => k.tup l ws _ hl b h2⟩⟩
  · exact b.elim
/-! ### methods of a text without arguments -/
def pM0 (b : Tx → (R → Prop) → Prop) (pa : PTE) : PTE := fun A P Y => pa A (fun y1 A1 => match y1 with
  | .d (.str a) => b a fun z => P z A1
  | _ => False) Y
def Snd0 (K : PySem.W.Frag) (r : V → List V → Hp → VK → Prop) (b : Tx → (R → Prop) → Prop) : Prop := ∀ (S H : Hp) (a : Tx) (P : R → Prop) (Q : VK), Le S H → b a P → Kont K S H P Q → r (.str (st a)) [] H Q
theorem km0 {ta : TE} {id : String} {name : Str} {o : Expr} {pa : PTE} {apos pos : Pos} {r : V → List V → Hp → VK → Prop} {b : Tx → (R → Prop) → Prop} (slot : Slot "str" name id) (ty : typeOf (.builtin id) = pure (.type "method_descriptor")) (rule : MtR X id r) (hr : Snd0 K r b)
    (ha : DE X E o ta pa) (hK : X.K = K := by rfl) (hbase : attributeBase o name X.env (eval o X.env) = eval o X.env := by rfl) (hline : (apos.endLine == pos.line) = true := by rfl) :
    DE X E (.Call (.Attribute o name apos) [] [] pos) (tM0 r ta) (pM0 b pa) := by
  subst hK
  refine ⟨pe_m0 slot ty rule ha.pe hbase hline, fun B σ H A P Y Q rel p q xq => ?_⟩
  refine ha.sim B σ H A _ Y _ rel p (fun y1 A1 v1 H1 p1 res => ?_) xq
  split at p1
  · rename_i a
    obtain ⟨t, S, ρ, h, s, k⟩ := res
    cases DR.str_of k
    exact ⟨⟨_, rfl⟩, hr S H1 a _ Q h.le p1 (Now.kont ⟨h, s⟩ fun z v H' pz rz => q z A1 v H' pz rz)⟩
  · exact p1.elim
def upT (l : Tx) : Tx := l.map up1
def bUpper (a : Tx) (P : R → Prop) : Prop := a.all (fun c => decide (c < 128)) = true ∧ a.length ≤ 5592405 ∧ P (.d (.str (upT a)))
theorem snd_upper : Snd0 K (fun x xs H Q => ∃ a, x = .str a ∧ xs = [] ∧ a.length ≤ 5592405 ∧ Q (.str (Txt.upper a)) H) bUpper := fun S H a P Q le b k => by
  obtain ⟨h1, h2, h3⟩ := b
  refine ⟨_, rfl, rfl, by rw [st_len]; exact h2, ?_⟩
  have e : Txt.upper (st a) = st (upT a) := by
    rw [upper_ascii fun c hc => of_decide_eq_true (List.all_eq_true.mp h1 c (by rw [st_tl] at hc; exact hc))]
    show (⟨(a.toArray).map up1⟩ : Str) = ⟨(a.map up1).toArray⟩
    rw [List.map_toArray]
  rw [e]
  exact k.dat _ _ h3 (.str _)
/-! ### list(range(n)) -/
def pLr1 (pa : PTE) : PTE := fun A P Y => pa A (fun y1 A1 => match y1 with
  | .d (.int j) => RgOk 0 j ∧ P (.o (.lst (rgD 0 j))) A1
  | _ => False) Y
theorem de_lr1 {a : Expr} {ta : TE} {pa : PTE} {p p2 pos pos2 : Pos} (hc : X.calm = true) (hg : Gl X "list") (hm : X.mg "list" = none) (hg2 : Gl X "range") (hm2 : X.mg "range" = none) (ha : DE X E a ta pa)
    (na : starEach [a] X.env = (false, eval a X.env) :: starEach [] X.env := by rfl) (ne : starEach [.Call (.Name "range" p2) [a] [] pos2] X.env = (false, eval (.Call (.Name "range" p2) [a] [] pos2) X.env) :: starEach [] X.env := by rfl) :
    DE X E (.Call (.Name "list" p) [.Call (.Name "range" p2) [a] [] pos2] [] pos) (tLstRg (tRg1 ta)) (pLr1 pa) := by
  refine ⟨pe_listRg hc hg hm (prg_1 hg2 hm2 ha.pe na) ne, fun B σ H A P Y Q rel p q xq => ?_⟩
  refine ha.sim B σ H A _ Y _ rel p (fun y1 A1 v1 H1 p1 res => ?_) xq
  split at p1
  · rename_i j
    obtain ⟨t, S, ρ, h, s, k⟩ := res
    cases DR.int_of k
    obtain ⟨ok, p1⟩ := p1
    exact ⟨j, rfl, ok, fun l hl => (Now.kont ⟨h, s⟩ (P := fun z => P z A1) fun z v H' pz rz => q z A1 v H' pz rz).lst l _ _ hl p1 (rgV_DRs 0 j)⟩
  · exact p1.elim
end
end PD

set_option pp.maxSteps 1500
/-! QX: readings of defs that may refuse. -/
namespace PD
open PySem PySem.Spec PyProof.Rows L2
def isTextD : D → Bool
  | .str l => small l
  | _ => false
/-- what may be handed in for a text -/
def okText (x : D) : Prop := plainD x = true ∧ ∀ l, x = .str l → okX l ∧ l.length ≤ 16777216
def pre_x_is_text : List AR → Prop
  | [.d x] => okText x
  | _ => False
def f_x_is_text : List AR → AR
  | [.d x] => .d (.bl (isTextD x))
  | _ => .d .non
def pre_x_need_text : List AR → Prop
  | [.d x] => okText x
  | _ => False
def F_x_need_text : List AR → Except EN AR
  | [.d x] => if isTextD x = true then .ok (.d .non) else .error .text
  | _ => .error .text
def preX (m i : Nat) (pre : List AR → Prop) (ars : List AR) : Prop := ars.length = m ∧ ∃ x, ars[i]? = some (.d x) ∧ okText x ∧ (isTextD x = true → pre ars)
def FX (i : Nat) (f : List AR → AR) (ars : List AR) : Except EN AR := match ars[i]? with
  | some (.d x) => if isTextD x = true then .ok (f ars) else .error .text
  | _ => .error .text
def idxE : EN → Int
  | .place => 0
  | .cut => 1
  | .text => 2
  | .word => 3
  | .writing => 4
  | .row => 5
def pre__law_kinds : List AR → Prop
  | [.d (.exc e), .d (.int _)] => e ∈ [EN.place, EN.cut, EN.text]
  | _ => False
def f__law_kinds : List AR → AR
  | [.d (.exc e), .d (.int i)] => .d (.bl (decide (i = idxE e)))
  | _ => .d .non
def pre__law_no_text : List AR → Prop
  | [.d (.int x), .d (.str l)] => 0 ≤ x ∧ small l = true ∧ l.length ≤ 5000
  | _ => False
def ok__law_no_text : List AR → AR → Prop := fun _ y => ∃ x, y = .d x ∧ okText x ∧ isTextD x = false
abbrev headN (i : Nat) : PTS := pDrop (pCalls (callP pre_need_text f_need_text) (pCons (pVar i) pNil))
abbrev headX (i : Nat) : PTS := pDrop (pCallX (callX pre_x_need_text F_x_need_text) (pCons (pVar i) pNil))
theorem envA_get : ∀ {ars : List AR} {k i : Nat} {x : D}, ars[i]? = some (.d x) → (envA k ars)[i]? = some (.d x)
  | .d y :: r, k, 0, x, e => by
    have e : AR.d y = .d x := by simpa using e
    cases e
    rfl
  | .o y :: r, k, 0, x, e => by
    have e : AR.o y = .d x := by simpa using e
    cases e
  | .d y :: r, k, i + 1, x, e => by
    show (envA k r)[i]? = _
    exact envA_get (by simpa using e)
  | .o y :: r, k, i + 1, x, e => by
    show (envA (k + 1) r)[i]? = _
    exact envA_get (by simpa using e)
  | [], _, _, _, e => by simp at e
theorem fnAbs_get {N : List Str} {ars : List AR} {i : Nat} {x : D} (e : ars[i]? = some (.d x)) : (fnAbs N ars).env[i]? = some (.d x) := by
  show (envA 0 ars ++ _)[i]? = _
  have hi := (List.getElem?_eq_some_iff.mp (envA_get (k := 0) e)).1
  rw [List.getElem?_append_left hi]
  exact envA_get e
theorem endsX_ok {own : List (Option O)} {r : Except EN AR} {y0 : AR} (h : r = .ok y0) : endsX own (fun y os => r = .ok y ∧ os = own) (fun e => r = .error e) = endsA own.length (fun y os => y = y0 ∧ os = own) := by
  subst h
  have e1 : (fun (y : AR) (os : List (Option O)) => (Except.ok y0 : Except EN AR) = .ok y ∧ os = own) = fun y os => y = y0 ∧ os = own := by
    funext y os
    apply propext
    constructor
    · rintro ⟨z, w⟩
      cases z
      exact ⟨rfl, w⟩
    · rintro ⟨rfl, w⟩
      exact ⟨rfl, w⟩
  have e2 : (fun (e : EN) (A : Abs) => (Except.ok y0 : Except EN AR) = .error e ∧ A.M.take own.length = own) = fun _ _ => False := by
    funext e A
    apply propext
    constructor
    · rintro ⟨z, _⟩
      cases z
    · intro z
      exact z.elim
  unfold endsX endsA
  rw [e1, e2]
/-- a def that asks for a text first -/
theorem law_need {i m : Nat} {rest : PTS} {N : List Str} {pre : List AR → Prop} {f : List AR → AR} (L : Law (pSeq (headN i) rest) N m (conP pre f)) : LawX (pSeq (headX i) rest) N m (conX (preX m i pre) (FX i f)) := fun ars h => by
  have h : preX m i pre ars := h
  obtain ⟨hm, x, hx, ok, hp⟩ := h
  have he := fnAbs_get (N := N) hx
  refine ⟨hm, ?_⟩
  show pSeq (headX i) rest (endsX (ownsA ars) (fun y os => FX i f ars = .ok y ∧ os = ownsA ars) (fun e => FX i f ars = .error e)) (fnAbs N ars)
  by_cases ht : isTextD x = true
  · have hF : FX i f ars = .ok (f ars) := by
      unfold FX
      rw [hx]
      exact if_pos ht
    rw [endsX_ok hF]
    obtain ⟨_, l⟩ := L ars (hp ht)
    have l : pSeq (headN i) rest (endsA (ownsA ars).length (fun y os => y = f ars ∧ os = ownsA ars)) (fnAbs N ars) := l
    have l2 : rest (endsA (ownsA ars).length (fun y os => y = f ars ∧ os = ownsA ars)) (fnAbs N ars) := by
      unfold headN pSeq pDrop pCalls pCons pVar at l
      rw [he] at l
      exact l.2.2
    unfold headX pSeq pDrop pCallX pCons pVar
    rw [he]
    refine ⟨List.nodup_nil, ok, ?_⟩
    show (match F_x_need_text [.d x] with
      | .ok y => rest _ _
      | .error e => _)
    have : F_x_need_text [.d x] = .ok (.d .non) := if_pos ht
    rw [this]
    exact l2
  · have hF : FX i f ars = .error .text := by
      unfold FX
      rw [hx]
      exact if_neg ht
    unfold headX pSeq pDrop pCallX pCons pVar
    rw [he]
    refine ⟨List.nodup_nil, ok, ?_⟩
    have : F_x_need_text [.d x] = .error .text := if_neg ht
    show (match F_x_need_text [.d x] with
      | .ok y => _
      | .error e => FX i f ars = .error e ∧ (ownsA ars).take (ownsA ars).length = ownsA ars)
    rw [this]
    exact ⟨hF, List.take_length⟩
def p_x_is_text : PTS :=
  (pRet (pAndV (pIsiP "str" (pVar 0)) (pOp2 (bEq id) (pLc (pItS (pVar 0)) (tgN 1) (pTest (pOp2 (bIn not) (pVar 1) (pC (.str abc)))) (pVar 1) [1]) (pLst pNil))))
abbrev N_x_is_text : List Str := ["thing", "sign"]
def p_x_need_text : PTS :=
  (pIf (pNot (pTest (pCalls (callP pre_x_is_text f_x_is_text) (pCons (pVar 0) pNil)))) (pRaise .text)
  pNext)
abbrev N_x_need_text : List Str := ["thing"]
def p__law_kinds : PTS :=
  (pSeq (pSetD 2 (pLst (pCons (pIsX [.place, .cut, .text] (fun e => decide (e = .place)) (pVar 0)) (pCons (pIsX [.place, .cut, .text] (fun e => decide (e = .cut)) (pVar 0)) (pCons (pIsX [.place, .cut, .text] (fun e => decide (e = .text)) (pVar 0)) pNil)))))
  (pSeq (pSetD 2 (pOp2 bAdd (pVar 2) (pLst (pCons (pIsX [.place, .cut, .text] (fun e => decide (e = .word)) (pVar 0)) (pCons (pIsX [.place, .cut, .text] (fun e => decide (e = .writing)) (pVar 0)) (pCons (pIsX [.place, .cut, .text] (fun e => decide (e = .row)) (pVar 0)) pNil))))))
  (pSeq (pIf (pOr (pTest (pOp2 (bIs id) (pVar 0) (pC .non))) (pNot (pTest (pIsX [.place, .cut, .text] (fun _ => true) (pVar 0))))) (pRet (pC (.bl false)))
  pNext)
  (pRet (pOp2 (bEq id) (pVar 2) (pLc (pRng1 (pCons (pC (.int 6)) pNil)) (tgN 3) pYes (pOp2 (bEq id) (pVar 3) (pVar 1)) [3]))))))
abbrev N__law_kinds : List Str := ["caught", "due", "kinds", "k"]
def p__law_no_text : PTS :=
  (pSeq (pSetD 2 (pOp2 bIx (pC (.str [32, 65, 49, 45, 126, 95, 46, 90, 10, 123, 124, 48])) (pOp2 bMod (pOp2 bDiv (pVar 0) (pC (.int 16))) (pC (.int 12)))))
  (pSeq (pSetD 3 (pOp2 bMod (pOp2 bAdd (pOp2 bMul (pOp2 bDiv (pVar 0) (pC (.int 192))) (pC (.int 7))) (pVar 0)) (pOp2 bAdd (pCall cLen (pCons (pVar 1) pNil)) (pC (.int 1)))))
  (pSeq (pSetD 4 (pLst (pCons (pC .non) (pCons (pC (.int 5)) (pCons (pC (.bl true)) (pCons (pCall cListB (pCons (pVar 1) pNil)) (pCons (pTup (pCons (pVar 1) pNil)) (pCons pDict0 (pCons (pOp2 bAdd (pVar 1) (pVar 2)) (pCons (pOp2 bAdd (pVar 2) (pVar 1)) pNil))))))))))
  (pSeq (pSetD 4 (pOp2 bAdd (pVar 4) (pLst (pCons (pOp2 bAdd (pOp2 bAdd (pSl (pVar 1) pNo (pPart (pVar 3))) (pVar 2)) (pSl (pVar 1) (pPart (pVar 3)) pNo)) (pCons (pLst (pCons (pVar 1) pNil)) (pCons (pC (.int 0)) (pCons (pNeg (pC (.int 1))) (pCons (pOp2 bPow (pC (.int 10)) (pC (.int 25))) (pCons (pOp2 bAdd (pM0 bUpper (pVar 1)) (pC (.str [65]))) (pCons (pLst (pCons (pC (.str [97])) pNil)) (pCons (pTup pNil) pNil)))))))))))
  (pRet (pOp2 bIx (pVar 4) (pOp2 bMod (pVar 0) (pC (.int 16)))))))))
abbrev N__law_no_text : List Str := ["x", "text", "sign", "at", "some"]
local macro_rules | `(tactic| walk_at "rd") => `(tactic| simp (config := { decide := true }) only [pSeq_then, pNext, pNever, pBreak, pCont, pDrop, pRet, pRetN, pIf, pSet, pSetD, setD, setP, setO, pVar, pC, pOp2, pTest, pAnd, pOr, pNot, pAndV, pOrV, pNotV, pIfE, pNil, pCons, pLst, pTup, pDict0, pDictC, pDM, dUpdate, pCall, pIsiP, pM1, bJoin, pNo, pPart, pSl, pSortI, pLM, lAppend, lInsert, lExtend, lPopAt, lPop, lReverse, lClear, pLc_eq, pFor_eq, pWhile_eq, pWip, pGw, wipeS, trunc, truncE, pItL, pItS, pRng1, pRng2, pRng3, pVarF, pAug, pDictLen, pLr3, pNeg, pCalls, callP, pEnum, pStepS, pRevL, bStarts, bEnds, pAugK, pItK, pFz, pRaise, pCallX, callX, pTry, pIsX, pLr1, pM0, bUpper, cListB, cTuple, pPickL, cSum, cAbs, pre_x_is_text, f_x_is_text, pre_x_need_text, F_x_need_text, pre__law_kinds, f__law_kinds, pre__law_no_text, merge_dictOf, filter_none, callN, toAR, R.fz, view, views, dats, O.toD, AR.toR, bAdd, bSub, bMul, bDiv, bMod, bPow, bEq, bCmp, bIn, bIs, bIx, bSl, cLen, cMin2, cMax2, cInt, cList, cDict, cSorted, plainD, isiB, tyn, pAsg, tgT, tgU, setsA, pSetIx, storeO, kdOf, pChain, cmpD, pYes, pTru, truD, Hand, tgN, wipeA, fnAbs, envA, ownsA, retA, conP, conN, List.set, List.set_cons_zero, List.set_cons_succ, List.set_nil, List.getElem?_cons_zero, List.getElem?_cons_succ, List.getElem?_nil, List.length_cons, List.length_nil, List.cons_append, List.nil_append, List.append_nil, List.replicate, Nat.reduceSub, Nat.reduceAdd, Nat.zero_add, Int.zero_add, true_and, and_true, reduceIte, Bool.false_eq_true, id, Bool.not_true, Bool.not_false, decide_true, decide_false, List.nodup_nil, List.nodup_cons, List.not_mem_nil, not_false_eq_true, List.take_zero, List.take_succ_cons, List.take_nil, List.map_cons, List.map_nil])
local macro_rules | `(tactic| walk_at "sc") => `(tactic| first | with_reducible assumption | omega | assumption | with_reducible rfl | exact True.intro | exact okD_ints | exact okD_nil | exact okD_int _ | exact okD_bl _ | exact okD_non | exact okD_sm (by assumption) | with_reducible exact cmulR (by omega) (by omega) | with_reducible exact cmulL (by omega) (by omega) | with_reducible exact cdivw (by omega) (by omega) | (with_reducible refine smallI_of ?_ ?_ <;> first | omega | (simp only [List.length_map, List.length_append, List.length_range, List.length_replicate, List.length_cons, List.length_nil, List.length_take, List.length_drop]; omega)) | (unfold CPow; decide) | (simp only [List.length_map, List.length_append, List.length_range, List.length_replicate, List.length_cons, List.length_nil, List.length_take, List.length_drop]; omega) | (refine ⟨?_, ?_⟩ <;> walk_at "sc"))
local macro_rules | `(tactic| walk_at "go") => `(tactic| repeat (first | walk_at "rd" | with_reducible refine then_go ?_ | (refine And.intro (by walk_at "sc") ?_) | (refine dict_of (by assumption) ?_) | rw [deq_self (by walk_at "sc")] | walk_at "sc"))
local macro_rules | `(tactic| walk_at "rt") => `(tactic| try walk_at "rd")
theorem okText_str {l : Tx} (h : okX l) (hl : l.length ≤ 16777216) : okText (.str l) := ⟨rfl, fun _ e => by cases e; exact ⟨h, hl⟩⟩
theorem okText_of {x : D} (h : plainD x = true) (hn : ∀ l, x ≠ .str l) : okText x := ⟨h, fun l e => absurd e (hn l)⟩
theorem isi_str {x : D} (hn : ∀ l, x ≠ .str l) : isiB (tyn x) "str" = false := by
  cases x with
  | str l => exact absurd rfl (hn l)
  | _ => simp only [tyn]; decide
theorem isText_not {x : D} (hn : ∀ l, x ≠ .str l) : isTextD x = false := by
  cases x with
  | str l => exact absurd rfl (hn l)
  | _ => rfl
theorem r_x_is_text : Law p_x_is_text N_x_is_text 1 (conP pre_x_is_text f_x_is_text) := fun ars h => by
  have h : pre_x_is_text ars := h
  unfold pre_x_is_text at h
  split at h
  · rename_i x _
    have key : (∀ l, x ≠ .str l) → isTextD x = false := isText_not
    cases x with
    | str l => exact r_is_text [.d (.str l)] (h.2 l rfl)
    | exc e => cases h.1
    | dit e => cases h.1
    | scr e => cases h.1
    | _ =>
      refine ⟨rfl, ?_⟩
      unfold p_x_is_text endsA
      walk_at "go"
      rfl
  · exact h.elim
theorem r_x_need_text : LawX p_x_need_text N_x_need_text 1 (conX pre_x_need_text F_x_need_text) := lawX_of fun ars h => by
  have h : pre_x_need_text ars := h
  unfold pre_x_need_text at h
  split at h
  · rename_i x _
    refine ⟨rfl, ?_⟩
    unfold p_x_need_text endsR
    walk_at "rd"
    refine ⟨h, ?_⟩
    cases isTextD x
    · walk_at "rd"
    · walk_at "rd"
  · exact h.elim
theorem kinds6 (b0 b1 b2 b3 b4 b5 : Bool) (i : Int) : deq (.lst [.bl b0, .bl b1, .bl b2, .bl b3, .bl b4, .bl b5]) (.lst ((List.range 6).map fun k : Nat => .bl (decide ((k : Int) = i)))) =
    (decide (b0 = decide (0 = i)) && (decide (b1 = decide (1 = i)) && (decide (b2 = decide (2 = i)) && (decide (b3 = decide (3 = i)) && (decide (b4 = decide (4 = i)) && decide (b5 = decide (5 = i))))))) := by
  rw [deq_lst]
  show deqs _ [_, _, _, _, _, _] = _
  simp only [deqs, deq_bl, Bool.and_true]
  rfl
theorem okD_bls {n : Nat} (f : Nat → Bool) : okD (.lst ((List.range n).map fun k => .bl (f k))) := okD_lst (m := 0) (by decide) fun z hz => by
  obtain ⟨k, _, rfl⟩ := List.mem_map.mp hz
  exact ⟨rfl, Nat.le_refl _⟩
theorem r__law_kinds : Law p__law_kinds N__law_kinds 2 (conP pre__law_kinds f__law_kinds) := fun ars h => by
  have h : pre__law_kinds ars := h
  unfold pre__law_kinds at h
  split at h
  · rename_i e i _
    refine ⟨rfl, ?_⟩
    unfold p__law_kinds endsA
    simp only [List.mem_cons, List.not_mem_nil, or_false] at h
    rcases h with rfl | rfl | rfl
    all_goals
      walk_at "go"
      refine lc_rngA0 (fun k => .bl (decide ((k : Int) = i))) trivial (by decide) (fun k hk => ⟨_, rfl, fun J hJ => ?_⟩) ?_
      · walk_at "rd"
        exact hJ
      · walk_at "rd"
        refine ⟨⟨rfl, by decide⟩, okD_bls _, ?_⟩
        rw [show (6 : Int).toNat = 6 from rfl, kinds6]
        congr 2
        unfold idxE
        rw [Bool.eq_iff_iff]
        simp only [Bool.and_eq_true, decide_eq_true_eq, Bool.true_eq, Bool.false_eq, decide_eq_false_iff_not]
        omega
  · exact h.elim
theorem not_small {l : Tx} {c : Nat} (h : c ∈ l) (hc : c ∉ abc) : small l = false := by
  cases e : small l with
  | false => rfl
  | true => exact absurd (of_decide_eq_true (List.all_eq_true.mp e c h)) hc
theorem okX_app {a b : Tx} (ha : okX a) (hb : okX b) : okX (a ++ b) := by
  unfold okX at *
  rw [List.all_append, ha, hb]
  rfl
theorem okX_one {c : Nat} (h : c < 128) : okX [c] := by
  unfold okX
  simp only [List.all_cons, List.all_nil, Bool.and_true, decide_eq_true_eq]
  omega
theorem okX_cut {l : Tx} (h : okX l) (lo hi : Option Int) : okX (cutL l lo hi) := by
  unfold okX at *
  rw [List.all_eq_true] at *
  exact fun x hx => h x (List.mem_of_mem_drop (List.mem_of_mem_take hx))
theorem cut_len {α : Type} (l : List α) (lo hi : Option Int) : (cutL l lo hi).length ≤ l.length := by
  unfold cutL
  rw [List.length_take, List.length_drop]
  omega
theorem small_128 {l : Tx} (h : small l = true) : l.all (fun c => decide (c < 128)) = true := by
  unfold small at h
  rw [List.all_eq_true] at *
  intro c hc
  have h128 : ∀ c ∈ abc, c < 128 := by decide
  exact decide_eq_true (h128 c (of_decide_eq_true (h c hc)))
theorem okX_up {l : Tx} (h : small l = true) : okX (upT l) := by
  unfold okX upT
  have h128 := small_128 h
  rw [List.all_eq_true] at *
  intro c hc
  obtain ⟨d, hd, rfl⟩ := List.mem_map.mp hc
  have := of_decide_eq_true (h128 d hd)
  apply decide_eq_true
  unfold up1
  split <;> omega
theorem bad_str {l : Tx} {c : Nat} (h : c ∈ l) (hc : c ∉ abc) (hx : okX l) (hl : l.length ≤ 16777216) : okText (.str l) ∧ isTextD (.str l) = false := ⟨okText_str hx hl, not_small h hc⟩
theorem bad_no {x : D} (h : plainD x = true) (hn : ∀ l, x ≠ .str l) : okText x ∧ isTextD x = false := ⟨okText_of h hn, isText_not hn⟩
theorem r__law_no_text : Law p__law_no_text N__law_no_text 2 (conN pre__law_no_text ok__law_no_text) := fun ars h => by
  have h : pre__law_no_text ars := h
  unfold pre__law_no_text at h
  split at h
  · rename_i x l _
    obtain ⟨hx, hs, hl⟩ := h
    have h16 : 0 ≤ x / 16 % 12 ∧ x / 16 % 12 < 12 := ⟨Int.emod_nonneg _ (by decide), Int.emod_lt_of_pos _ (by decide)⟩
    have hat : 0 ≤ (x / 192 * 7 + x) % ((l.length : Int) + 1) := Int.emod_nonneg _ (by omega)
    refine ⟨rfl, ?_⟩
    unfold p__law_no_text endsA
    walk_at "go"
    refine at_ex (P := fun c => _) h16.1 h16.2 fun c hc => ?_
    have hc1 : c ∉ abc := by
      have : ∀ c ∈ [32, 65, 49, 45, 126, 95, 46, 90, 10, 123, 124, 48], c ∉ abc := by decide
      exact this c hc
    have hc2 : c < 128 := by
      have : ∀ c ∈ [32, 65, 49, 45, 126, 95, 46, 90, 10, 123, 124, 48], c < 128 := by decide
      exact this c hc
    walk_at "go"
    have h1 := cut_len l none (some ((x / 192 * 7 + x) % ((l.length : Int) + 1)))
    have h2 := cut_len l (some ((x / 192 * 7 + x) % ((l.length : Int) + 1))) none
    have hX := small_okX hs
    have hc3 : okX [c] := okX_one hc2
    have hX1 := okX_cut hX none (some ((x / 192 * 7 + x) % ((l.length : Int) + 1)))
    have hX2 := okX_cut hX (some ((x / 192 * 7 + x) % ((l.length : Int) + 1))) none
    have hup : (upT l).length = l.length := List.length_map _
    generalize cutL l none (some ((x / 192 * 7 + x) % ((l.length : Int) + 1))) = u1 at h1 hX1 ⊢
    generalize cutL l (some ((x / 192 * 7 + x) % ((l.length : Int) + 1))) none = u2 at h2 hX2 ⊢
    refine ⟨by omega, by omega, by rw [List.length_append, List.length_singleton]; omega, by unfold CPow; decide, small_128 hs, by omega, by omega, ?_⟩
    rw [then_eq]
    walk_at "rd"
    refine at_ex (xs := [D.non, D.int 5, D.bl true, D.lst (List.map (fun c => D.str [c]) l), D.tup [D.str l], D.dic [], D.str (l ++ [c]), D.str (c :: l), D.str (u1 ++ [c] ++ u2), D.lst [D.str l], D.int 0, D.int (-1), D.int (10 ^ Int.toNat 25), D.str (upT l ++ [65]), D.lst [D.str [97]], D.tup []]) (P := fun d => _) (Int.emod_nonneg _ (by decide)) (Int.emod_lt_of_pos _ (by decide)) fun d hd => ?_
    refine ⟨d, rfl, ?_⟩
    simp only [List.mem_cons, List.not_mem_nil, or_false] at hd
    rcases hd with rfl | rfl | rfl | rfl | rfl | rfl | rfl | rfl | rfl | rfl | rfl | rfl | rfl | rfl | rfl | rfl
    · exact bad_no rfl (fun _ e => nomatch e)
    · exact bad_no rfl (fun _ e => nomatch e)
    · exact bad_no rfl (fun _ e => nomatch e)
    · exact bad_no rfl (fun _ e => nomatch e)
    · exact bad_no rfl (fun _ e => nomatch e)
    · exact bad_no rfl (fun _ e => nomatch e)
    · exact bad_str (c := c) (by simp) hc1 (okX_app hX hc3) (by rw [List.length_append, List.length_singleton]; omega)
    · exact bad_str (c := c) (by simp) hc1 (okX_app (a := [c]) hc3 hX) (by rw [List.length_cons]; omega)
    · exact bad_str (c := c) (by simp) hc1 (okX_app (okX_app hX1 hc3) hX2) (by rw [List.length_append, List.length_append, List.length_singleton]; omega)
    · exact bad_no rfl (fun _ e => nomatch e)
    · exact bad_no rfl (fun _ e => nomatch e)
    · exact bad_no rfl (fun _ e => nomatch e)
    · exact bad_no rfl (fun _ e => nomatch e)
    · exact bad_str (c := 65) (by simp) (by decide) (okX_app (okX_up hs) (okX_one (by decide))) (by rw [List.length_append, List.length_singleton]; omega)
    · exact bad_no rfl (fun _ e => nomatch e)
    · exact bad_no rfl (fun _ e => nomatch e)
  · exact h.elim
end PD

/-! Q: cuts and their numbers. -/
namespace PD
open PySem PySem.Spec PyProof.Rows L2
/-- the word that a number falls on, and what is left of it -/
def pick (g : Tx → Int) : List Tx → Int → Option (Tx × Int)
  | [], _ => none
  | w :: r, x => if x < g w then some (w, x) else pick g r (x - g w)
def cutBy (W : Nat → List Tx) (n : Nat) : Nat → Nat → Int → List Tx
  | 0, _, _ => []
  | f + 1, p, x => if p < n then (match pick (fun w => nw W n (p + w.length)) (W p) x with
    | some (w, x') => w :: cutBy W n f (p + w.length) x'
    | none => []) else []
/-- words one behind the other, from a place to the end -/
def IsPath (W : Nat → List Tx) (n : Nat) : Nat → List Tx → Prop
  | p, [] => p = n
  | p, w :: r => p < n ∧ w ∈ W p ∧ IsPath W n (p + w.length) r
/-- how many cuts go ahead -/
def numb (W : Nat → List Tx) (n : Nat) : Nat → List Tx → Int
  | _, [] => 0
  | p, w :: r => (((W p).filter fun o => decide (o.length < w.length)).map fun o => nw W n (p + o.length)).sum + numb W n (p + w.length) r
theorem pick_some (g : Tx → Int) : ∀ (ws : List Tx) (x : Int), 0 ≤ x → x < (ws.map g).sum → ∃ w x', pick g ws x = some (w, x') ∧ w ∈ ws ∧ 0 ≤ x' ∧ x' < g w
  | [], x, h0, h => by simp at h; omega
  | w :: r, x, h0, h => by
    unfold pick
    by_cases e : x < g w
    · rw [if_pos e]
      exact ⟨w, x, rfl, by simp, h0, e⟩
    · rw [if_neg e]
      rw [List.map_cons, List.sum_cons] at h
      obtain ⟨w', x', h1, h2, h3, h4⟩ := pick_some g r (x - g w) (by omega) (by omega)
      exact ⟨w', x', h1, by simp [h2], h3, h4⟩
theorem pick_sum (g : Tx → Int) : ∀ (ws : List Tx) (x x' : Int) (w : Tx), ws.Pairwise (fun a b => a.length < b.length) → pick g ws x = some (w, x') → ((ws.filter fun o => decide (o.length < w.length)).map g).sum + x' = x
  | [], x, x', w, _, h => by cases h
  | v :: r, x, x', w, hp, h => by
    unfold pick at h
    rw [List.pairwise_cons] at hp
    by_cases e : x < g v
    · rw [if_pos e] at h
      have h := Option.some.inj h
      have hv : v = w := congrArg Prod.fst h
      have hx : x = x' := congrArg Prod.snd h
      subst hv hx
      have : (v :: r).filter (fun o => decide (o.length < v.length)) = [] := by
        rw [List.filter_eq_nil_iff]
        intro a ha
        rcases List.mem_cons.mp ha with rfl | ha
        · simp
        · have := hp.1 a ha
          simp
          omega
      rw [this]
      simp
    · rw [if_neg e] at h
      have hw : w ∈ r := by
        have gen : ∀ (r : List Tx) (y : Int), pick g r y = some (w, x') → w ∈ r := fun r => by
          induction r with
          | nil => intro y h; cases h
          | cons a s ih =>
            intro y h
            unfold pick at h
            by_cases e : y < g a
            · rw [if_pos e] at h
              cases h
              simp
            · rw [if_neg e] at h
              simp [ih _ h]
        exact gen r _ h
      have hl := hp.1 w hw
      have := pick_sum g r (x - g v) x' w hp.2 h
      rw [List.filter_cons, if_pos (decide_eq_true hl), List.map_cons, List.sum_cons]
      omega
/-- the words that have no way on may be left out -/
theorem pick_filter (g : Tx → Int) (hg : ∀ w, 0 ≤ g w) : ∀ (ws : List Tx) (x : Int), 0 ≤ x → pick g (ws.filter fun w => decide (0 < g w)) x = pick g ws x
  | [], _, _ => rfl
  | w :: r, x, h0 => by
    rw [List.filter_cons]
    by_cases e : 0 < g w
    · rw [if_pos (decide_eq_true e)]
      unfold pick
      by_cases e2 : x < g w
      · rw [if_pos e2, if_pos e2]
      · rw [if_neg e2, if_neg e2, pick_filter g hg r _ (by omega)]
    · rw [if_neg (fun z => e (of_decide_eq_true z)), pick_filter g hg r x h0]
      have := hg w
      have e3 : g w = 0 := by omega
      conv => rhs; unfold pick
      rw [e3, if_neg (by omega)]
      congr 1
      omega
theorem sum_nonneg : ∀ {xs : List Int}, (∀ x ∈ xs, 0 ≤ x) → 0 ≤ xs.sum
  | [], _ => by simp
  | a :: r, h => by
    rw [List.sum_cons]
    have := h a (by simp)
    have := sum_nonneg (xs := r) fun x hx => h x (by simp [hx])
    omega
section
variable {W : Nat → List Tx} {n : Nat}
theorem nw_nonneg (hW : ∀ p, ∀ w ∈ W p, 1 ≤ w.length) : ∀ q p, n ≤ p + q → 0 ≤ nw W n p
  | 0, p, h => by
    by_cases e : p = n
    · rw [e, nw_last]; decide
    · rw [nw_over W (by omega)]; exact Int.le_refl 0
  | q + 1, p, h => by
    by_cases e : p < n
    · rw [nw_at W (hW p) e]
      refine sum_nonneg fun x hx => ?_
      obtain ⟨w, hw, rfl⟩ := List.mem_map.mp hx
      have := hW p w hw
      exact nw_nonneg hW q _ (by omega)
    · by_cases e2 : p = n
      · rw [e2, nw_last]; decide
      · rw [nw_over W (by omega)]; exact Int.le_refl 0
theorem nw_pos (hW : ∀ p, ∀ w ∈ W p, 1 ≤ w.length) (p : Nat) : 0 ≤ nw W n p := nw_nonneg hW n p (by omega)
theorem cutBy_path (hW : ∀ p, ∀ w ∈ W p, 1 ≤ w.length ∧ p + w.length ≤ n) : ∀ f p x, p ≤ n → n ≤ p + f → 0 ≤ x → x < nw W n p → IsPath W n p (cutBy W n f p x)
  | 0, p, x, h1, h2, _, _ => by show p = n; omega
  | f + 1, p, x, h1, h2, h3, h4 => by
    unfold cutBy
    by_cases e : p < n
    · rw [if_pos e]
      rw [nw_at W (fun w hw => (hW p w hw).1) e] at h4
      obtain ⟨w, x', g1, g2, g3, g4⟩ := pick_some _ _ x h3 h4
      rw [g1]
      have := hW p w g2
      exact ⟨e, g2, cutBy_path hW f _ x' (by omega) (by omega) g3 g4⟩
    · rw [if_neg e]
      show p = n
      omega
theorem numb_cutBy (hW : ∀ p, ∀ w ∈ W p, 1 ≤ w.length ∧ p + w.length ≤ n) (hp : ∀ p, (W p).Pairwise fun a b => a.length < b.length) : ∀ f p x, p ≤ n → n ≤ p + f → 0 ≤ x → x < nw W n p → numb W n p (cutBy W n f p x) = x
  | 0, p, x, h1, h2, h3, h4 => by
    have : p = n := by omega
    subst this
    rw [nw_last] at h4
    show (0 : Int) = x
    omega
  | f + 1, p, x, h1, h2, h3, h4 => by
    unfold cutBy
    by_cases e : p < n
    · rw [if_pos e]
      rw [nw_at W (fun w hw => (hW p w hw).1) e] at h4
      obtain ⟨w, x', g1, g2, g3, g4⟩ := pick_some _ _ x h3 h4
      rw [g1]
      have := hW p w g2
      show (((W p).filter fun o => decide (o.length < w.length)).map fun o => nw W n (p + o.length)).sum + numb W n (p + w.length) (cutBy W n f (p + w.length) x') = x
      rw [numb_cutBy hW hp f _ x' (by omega) (by omega) g3 g4]
      exact pick_sum _ _ x x' w (hp p) g1
    · rw [if_neg e]
      have : p = n := by omega
      subst this
      rw [nw_last] at h4
      show (0 : Int) = x
      omega
theorem path_len (hW : ∀ p, ∀ w ∈ W p, 1 ≤ w.length ∧ p + w.length ≤ n) : ∀ ws p, IsPath W n p ws → p + (ws.map List.length).sum = n ∧ ws.length ≤ n - p
  | [], p, h => by
    have h : p = n := h
    simp
    exact h
  | w :: r, p, h => by
    obtain ⟨h1, h2, h3⟩ := h
    have := path_len hW r _ h3
    have := hW p w h2
    rw [List.map_cons, List.sum_cons, List.length_cons]
    omega
end
theorem words_pw (kvs : List (Kd × D)) (l : Tx) (p : Nat) : (wordsFrom kvs l p).Pairwise fun a b => a.length < b.length := by
  rw [words_sizes, List.pairwise_map]
  refine (sizes_sorted kvs l p).imp_of_mem fun {a b} ha hb h => ?_
  have ha := (sizes_mem kvs l p a).mp ha
  have hb := (sizes_mem kvs l p b).mp hb
  rw [List.length_take, List.length_take, List.length_drop]
  omega
theorem words_in {kvs : List (Kd × D)} {l : Tx} {p : Nat} {w : Tx} : w ∈ wordsFrom kvs l p ↔ 1 ≤ w.length ∧ w.length ≤ 12 ∧ p + w.length ≤ l.length ∧ w = (l.drop p).take w.length ∧ hasK kvs (.inr w) = true := by
  rw [words_sizes, List.mem_map]
  constructor
  · rintro ⟨s, hs, rfl⟩
    obtain ⟨h1, h2, h3, h4⟩ := (sizes_mem kvs l p s).mp hs
    have e : ((l.drop p).take s).length = s := by rw [List.length_take, List.length_drop]; omega
    rw [e]
    exact ⟨h1, h2, h3, rfl, h4⟩
  · rintro ⟨h1, h2, h3, h4, h5⟩
    refine ⟨w.length, (sizes_mem kvs l p _).mpr ⟨h1, h2, h3, ?_⟩, h4.symm⟩
    rw [← h4]
    exact h5
theorem path_text {kvs : List (Kd × D)} {l : Tx} : ∀ ws p, p ≤ l.length → IsPath (wordsFrom kvs l) l.length p ws → ws.flatten = l.drop p ∧ ∀ w ∈ ws, hasK kvs (.inr w) = true
  | [], p, _, h => by
    have h : p = l.length := h
    rw [h, List.drop_length]
    exact ⟨rfl, fun w hw => by simp at hw⟩
  | w :: r, p, hp, h => by
    obtain ⟨h1, h2, h3⟩ := h
    obtain ⟨g1, g2, g3, g4, g5⟩ := words_in.mp h2
    obtain ⟨e1, e2⟩ := path_text r _ g3 h3
    refine ⟨?_, fun v hv => ?_⟩
    · rw [List.flatten_cons, e1]
      have := List.take_append_drop w.length (l.drop p)
      rw [← g4, List.drop_drop] at this
      exact this
    · rcases List.mem_cons.mp hv with rfl | hv
      · exact g5
      · exact e2 v hv
def pre_is_cut : List AR → Prop
  | [.d (.lst ds), .d (.str l), .d (.lst xs)] => isPairs ds ∧ small l = true ∧ l.length ≤ 1000000 ∧ ∃ ws : List Tx, xs = ws.map D.str ∧ (∀ w ∈ ws, okX w) ∧ (ws.map List.length).sum ≤ 16777216 ∧ ws.length ≤ 16777216
  | _ => False
def txs (xs : List D) : List Tx := xs.filterMap fun x => match x with
  | .str l => some l
  | _ => none
theorem txs_map (ws : List Tx) : txs (ws.map D.str) = ws := by
  unfold txs
  induction ws with
  | nil => rfl
  | cons a r ih => simp [ih]
def isCut (kvs : List (Kd × D)) (l : Tx) (ws : List Tx) : Bool := (ws.all fun w => hasK kvs (.inr w)) && decide (ws.flatten = l)
def f_is_cut : List AR → AR
  | [.d (.lst ds), .d (.str l), .d (.lst xs)] => .d (.bl (isCut (dictOf ds) l (txs xs)))
  | _ => .d .non
def pre_number_of : List AR → Prop
  | [.d (.lst ds), .d (.str l), .d (.lst xs)] => isPairs ds ∧ small l = true ∧ l.length ≤ 1000000 ∧ ∃ ws : List Tx, xs = ws.map D.str ∧ IsPath (wordsFrom (dictOf ds) l) l.length 0 ws
  | _ => False
def f_number_of : List AR → AR
  | [.d (.lst ds), .d (.str l), .d (.lst xs)] => .d (.int (numb (wordsFrom (dictOf ds) l) l.length 0 (txs xs)))
  | _ => .d .non
def pre_cut_by : List AR → Prop
  | [.d (.lst ds), .d (.str l), .d (.int x)] => isPairs ds ∧ small l = true ∧ l.length ≤ 1000000 ∧ 0 ≤ x ∧ x < nw (wordsFrom (dictOf ds) l) l.length 0
  | _ => False
def f_cut_by : List AR → AR
  | [.d (.lst ds), .d (.str l), .d (.int x)] => .o (.lst ((cutBy (wordsFrom (dictOf ds) l) l.length l.length 0 x).map .str))
  | _ => .d .non
def pre__law_cut : List AR → Prop
  | [.d (.lst ds), .d (.str l), .d (.lst ys), .d (.int x)] => Rows ds ∧ ds.length ≤ 1000 ∧ small l = true ∧ l.length ≤ 1000000 ∧ ys = (wayL (wordsFrom (dictOf ds) l) l.length l.length).map D.int ∧ 0 ≤ x ∧ x < nw (wordsFrom (dictOf ds) l) l.length 0
  | _ => False
def f__law_cut : List AR → AR
  | [.d (.lst ds), .d (.str l), .d (.lst _), .d (.int x)] => .o (.lst ((cutBy (wordsFrom (dictOf ds) l) l.length l.length 0 x).map .str))
  | _ => .d .non
end PD

set_option pp.maxSteps 1500
namespace PD
open PySem PySem.Spec PyProof.Rows L2
def p_is_cut : PTS :=
  (pSeq (pDrop (pCalls (callP pre_need_text f_need_text) (pCons (pVar 1) pNil)))
  (pSeq (pSetD 3 (pCalls (callP pre_only_words f_only_words) (pCons (pVar 0) pNil)))
  (pSeq (pIf (pOr (pNot (pTest (pIsiP "list" (pVar 2)))) (pTest (pOp2 (bEq not) (pLc (pItL (pVar 2)) (tgN 4) (pOr (pNot (pTest (pIsiP "str" (pVar 4)))) (pTest (pOp2 (bIn not) (pVar 4) (pVar 3)))) (pVar 4) [4]) (pLst pNil)))) (pRet (pC (.bl false)))
  pNext)
  (pRet (pOp2 (bEq id) (pM1 bJoin (pC (.str [])) (pVar 2)) (pVar 1))))))
abbrev N_is_cut : List Str := ["book", "text", "cut", "words", "one"]
def p_number_of : PTS :=
  (pSeq (pDrop (pCalls (callP pre_need_text f_need_text) (pCons (pVar 1) pNil)))
  (pSeq (pIf (pOr (pNot (pTest (pIsiP "list" (pVar 2)))) (pNot (pTest (pCalls (callP pre_is_cut f_is_cut) (pCons (pVar 0) (pCons (pVar 1) (pCons (pVar 2) pNil))))))) pNever
  pNext)
  (pSeq (pSetD 3 (pCalls (callP pre_only_words f_only_words) (pCons (pVar 0) pNil)))
  (pSeq (pSetD 4 (pCalls (callP pre_ways_on f_ways_on) (pCons (pVar 0) (pCons (pVar 1) pNil))))
  (pSeq (pSet 5 (pC (.int 0)))
  (pSeq (pSet 6 (pC (.int 0)))
  (pSeq (pWip [7, 8] (pFor (pItL (pVar 2)) (tgN 7) (pGw [7, 8] [6, 7, 8] (pSeq (pSetD 8 (pLc (pItL (pCalls (callP pre_words_from f_words_from) (pCons (pVar 3) (pCons (pVar 1) (pCons (pVar 6) pNil))))) (tgN 9) (pTest (pOp2 bLt (pCall cLen (pCons (pVar 9) pNil)) (pCall cLen (pCons (pVar 7) pNil)))) (pVar 9) [9]))
  (pSeq (pAug 5 (fun i j => i + j) (pCall cSum (pCons (pLc (pItL (pVar 8)) (tgN 9) pYes (pOp2 bIx (pVar 4) (pOp2 bAdd (pVar 6) (pCall cLen (pCons (pVar 9) pNil)))) [9]) pNil)))
  (pAug 6 (fun i j => i + j) (pCall cLen (pCons (pVar 7) pNil))))))))
  (pRet (pVar 5)))))))))
abbrev N_number_of : List Str := ["book", "text", "cut", "words", "ways", "found", "place", "word", "some", "one"]
def p__law_cut : PTS :=
  (pSeq (pSet 4 (pLst pNil))
  (pSeq (pSet 5 (pC (.int 0)))
  (pSeq (pWip [6, 7] (pWhile (pTest (pOp2 bLt (pVar 5) (pCall cLen (pCons (pVar 1) pNil)))) (pGw [6, 7] [3, 5, 6, 7] (pSeq (pSetD 6 (pLc (pItL (pCalls (callP pre__law_at f__law_at) (pCons (pVar 0) (pCons (pVar 1) (pCons (pVar 5) pNil))))) (tgN 8) (pTest (pOp2 bGt (pOp2 bIx (pVar 2) (pOp2 bAdd (pVar 5) (pCall cLen (pCons (pVar 8) pNil)))) (pC (.int 0)))) (pVar 8) [8]))
  (pSeq (pSet 7 (pC (.int 0)))
  (pSeq (pWhile (pTest (pOp2 bGe (pVar 3) (pOp2 bIx (pVar 2) (pOp2 bAdd (pVar 5) (pCall cLen (pCons (pOp2 bIx (pVar 6) (pVar 7)) pNil)))))) (pGw [] [] (pSeq (pSetD 3 (pOp2 bSub (pVar 3) (pOp2 bIx (pVar 2) (pOp2 bAdd (pVar 5) (pCall cLen (pCons (pOp2 bIx (pVar 6) (pVar 7)) pNil))))))
  (pSet 7 (pOp2 bAdd (pVar 7) (pC (.int 1)))))))
  (pSeq (pDrop (pLM lAppend (pVar 4) (pCons (pOp2 bIx (pVar 6) (pVar 7)) pNil)))
  (pSet 5 (pOp2 bAdd (pVar 5) (pCall cLen (pCons (pOp2 bIx (pVar 6) (pVar 7)) pNil)))))))))))
  (pRet (pVar 4)))))
abbrev N__law_cut : List Str := ["book", "text", "ways", "number", "found", "place", "some", "at", "word"]
def p_cut_by : PTS :=
  (pSeq (pDrop (pCalls (callP pre_need_text f_need_text) (pCons (pVar 1) pNil)))
  (pSeq (pSetD 3 (pCalls (callP pre_only_words f_only_words) (pCons (pVar 0) pNil)))
  (pSeq (pSetD 4 (pCalls (callP pre_ways_on f_ways_on) (pCons (pVar 0) (pCons (pVar 1) pNil))))
  (pSeq (pIf (pOr (pNot (pTest (pIsiP "int" (pVar 2)))) (pOr (pTest (pIsiP "bool" (pVar 2))) (pNot (pTest (pChain (fun i j => decide (i ≤ j)) (fun i j => !decide (j < i)) (fun i j => decide (i < j)) (fun i j => decide (i < j)) (pC (.int 0)) (pVar 2) (pOp2 bIx (pVar 4) (pC (.int 0)))))))) pNever
  pNext)
  (pSeq (pSet 5 (pLst pNil))
  (pSeq (pSet 6 (pC (.int 0)))
  (pSeq (pWip [7, 8] (pWhile (pTest (pOp2 bLt (pVar 6) (pCall cLen (pCons (pVar 1) pNil)))) (pGw [7, 8] [2, 6, 7, 8] (pSeq (pWip [7, 8] (pFor (pItL (pCalls (callP pre_words_from f_words_from) (pCons (pVar 3) (pCons (pVar 1) (pCons (pVar 6) pNil))))) (tgN 7) (pGw [7, 8] [8] (pSeq (pSetD 8 (pOp2 bIx (pVar 4) (pOp2 bAdd (pVar 6) (pCall cLen (pCons (pVar 7) pNil)))))
  (pSeq (pIf (pTest (pOp2 bLt (pVar 2) (pVar 8))) pBreak
  pNext)
  (pAug 2 (fun i j => i - j) (pVar 8)))))))
  (pSeq (pDrop (pLM lAppend (pVar 5) (pCons (pVar 7) pNil)))
  (pAug 6 (fun i j => i + j) (pCall cLen (pCons (pVar 7) pNil))))))))
  (pRet (pVar 5)))))))))
abbrev N_cut_by : List Str := ["book", "text", "number", "words", "ways", "cut", "place", "word", "many"]
local macro_rules | `(tactic| walk_at "rd") => `(tactic| simp (config := { decide := true }) only [pSeq_then, pNext, pNever, pBreak, pCont, pDrop, pRet, pRetN, pIf, pSet, pSetD, setD, setP, setO, pVar, pC, pOp2, pTest, pAnd, pOr, pNot, pAndV, pOrV, pNotV, pIfE, pNil, pCons, pLst, pTup, pDict0, pDictC, pDM, dUpdate, pCall, pIsiP, pM1, bJoin, pNo, pPart, pSl, pSortI, pLM, lAppend, lInsert, lExtend, lPopAt, pLc_eq, pFor_eq, pWhile_eq, pWip, pGw, wipeS, trunc, truncE, pItL, pItS, pRng1, pRng2, pRng3, pVarF, pAug, pDictLen, pLr3, pNeg, pCalls, callP, pEnum, pStepS, pRevL, bStarts, bEnds, pAugK, pItK, pFz, pPickL, cSum, cAbs, pre_need_text, f_need_text, pre_only_words, f_only_words, pre_words_from, f_words_from, pre_ways_on, f_ways_on, pre_cut_count, f_cut_count, pre__law_at, f__law_at, pre__law_ways, f__law_ways, pre_is_cut, f_is_cut, txs_map, merge_dictOf, filter_none, callN, toAR, R.fz, view, views, dats, O.toD, AR.toR, bAdd, bSub, bMul, bDiv, bMod, bPow, bEq, bCmp, bIn, bIs, bIx, bSl, cLen, cMin2, cMax2, cInt, cList, cDict, cSorted, plainD, isiB, tyn, pAsg, tgT, tgU, setsA, pSetIx, storeO, kdOf, pChain, cmpD, pYes, pTru, truD, Hand, tgN, wipeA, fnAbs, envA, ownsA, retA, conP, conN, List.set, List.set_cons_zero, List.set_cons_succ, List.set_nil, List.getElem?_cons_zero, List.getElem?_cons_succ, List.getElem?_nil, List.length_cons, List.length_nil, List.cons_append, List.nil_append, List.append_nil, List.replicate, Nat.reduceSub, Nat.reduceAdd, Nat.zero_add, Int.zero_add, true_and, and_true, reduceIte, Bool.false_eq_true, id, Bool.not_true, Bool.not_false, decide_true, decide_false, List.nodup_nil, List.nodup_cons, List.not_mem_nil, not_false_eq_true, List.take_zero, List.take_succ_cons, List.take_nil, List.map_cons, List.map_nil])
local macro_rules | `(tactic| walk_at "sc") => `(tactic| first | with_reducible assumption | omega | assumption | with_reducible rfl | exact True.intro | exact okD_ints | exact okD_nil | exact okD_int _ | exact okD_bl _ | exact okD_non | exact okD_sm (by assumption) | with_reducible exact cmulR (by omega) (by omega) | with_reducible exact cmulL (by omega) (by omega) | with_reducible exact cdivw (by omega) (by omega) | (with_reducible refine smallI_of ?_ ?_ <;> first | omega | (simp only [List.length_map, List.length_append, List.length_range, List.length_replicate, List.length_cons, List.length_nil, List.length_take, List.length_drop]; omega)) | (unfold CPow; decide) | (simp only [List.length_map, List.length_append, List.length_range, List.length_replicate, List.length_cons, List.length_nil, List.length_take, List.length_drop]; omega) | (refine ⟨?_, ?_⟩ <;> walk_at "sc"))
local macro_rules | `(tactic| walk_at "go") => `(tactic| repeat (first | walk_at "rd" | with_reducible refine then_go ?_ | (refine And.intro (by walk_at "sc") ?_) | (refine dict_of (by assumption) ?_) | rw [deq_self (by walk_at "sc")] | walk_at "sc"))
theorem r_is_cut : Law p_is_cut N_is_cut 3 (conP pre_is_cut f_is_cut) := fun ars h => by
  have h : pre_is_cut ars := h
  unfold pre_is_cut at h
  split at h
  · rename_i ds l xs _
    obtain ⟨hP, hl, hll, ws, rfl, hw, hs1, hs2⟩ := h
    refine ⟨rfl, ?_⟩
    unfold p_is_cut endsA
    walk_at "go"
    refine lc_over (fun w => !hasK (dictOf ds) (.inr w)) .str trivial (by omega) (fun w hw' => ⟨_, rfl, fun J hJ => ?_⟩) ?_
    · walk_at "go"
    · walk_at "go"
      refine ⟨okD_strX fun w hw' => hw w (List.mem_filter.mp hw').1, ?_⟩
      walk_at "go"
      rw [deq_nil, map_isEmpty]
      have e : (ws.filter fun w => !hasK (dictOf ds) (.inr w)).isEmpty = ws.all fun w => hasK (dictOf ds) (.inr w) := by
        rw [Bool.eq_iff_iff, List.isEmpty_iff, List.filter_eq_nil_iff, List.all_eq_true]
        constructor
        · intro z w hw'
          have := z w hw'
          simpa using this
        · intro z w hw'
          rw [z w hw']
          simp
      rw [e]
      unfold isCut
      cases (ws.all fun w => hasK (dictOf ds) (.inr w))
      · walk_at "go"
        rfl
      · walk_at "go"
        refine ⟨ws, rfl, by omega, ?_⟩
        rw [joinL_nil]
        rfl
  · exact h.elim
theorem path_small' {kvs : List (Kd × D)} {l : Tx} (hl : small l = true) : ∀ ws p, IsPath (wordsFrom kvs l) l.length p ws → ∀ w ∈ ws, small w = true
  | [], _, _, w, hw => by simp at hw
  | v :: r, p, h, w, hw => by
    obtain ⟨h1, h2, h3⟩ := h
    rcases List.mem_cons.mp hw with rfl | hw
    · exact from_small hl p w h2
    · exact path_small' hl r _ h3 w hw
theorem path_isCut {kvs : List (Kd × D)} {l : Tx} {ws : List Tx} (h : IsPath (wordsFrom kvs l) l.length 0 ws) : isCut kvs l ws = true := by
  obtain ⟨h1, h2⟩ := path_text ws 0 (Nat.zero_le _) h
  unfold isCut
  rw [h1, List.drop_zero, decide_eq_true rfl, Bool.and_true, List.all_eq_true]
  exact h2
theorem numb_append (W : Nat → List Tx) (n : Nat) : ∀ (a b : List Tx) (p : Nat), numb W n p (a ++ b) = numb W n p a + numb W n (p + (a.map List.length).sum) b
  | [], b, p => by show numb W n p b = 0 + numb W n (p + 0) b; rw [Nat.add_zero, Int.zero_add]
  | w :: r, b, p => by
    show _ + numb W n (p + w.length) (r ++ b) = (_ + numb W n (p + w.length) r) + numb W n (p + ((w :: r).map List.length).sum) b
    rw [numb_append W n r b, List.map_cons, List.sum_cons, Int.add_assoc, Nat.add_assoc]
theorem path_split {W : Nat → List Tx} {n : Nat} : ∀ (a b : List Tx) (p : Nat), IsPath W n p (a ++ b) → IsPath W n (p + (a.map List.length).sum) b
  | [], b, p, h => h
  | w :: r, b, p, h => by
    have := path_split r b _ h.2.2
    rw [List.map_cons, List.sum_cons, ← Nat.add_assoc]
    exact this
theorem r_number_of : Law p_number_of N_number_of 3 (conP pre_number_of f_number_of) := fun ars h => by
  have h : pre_number_of ars := h
  unfold pre_number_of at h
  split at h
  · rename_i ds l xs _
    obtain ⟨hP, hl, hll, ws, rfl, hpath⟩ := h
    have hwd : ∀ p, ∀ w ∈ wordsFrom (dictOf ds) l p, 1 ≤ w.length ∧ p + w.length ≤ l.length ∧ w.length ≤ 12 := wds_eq (dictOf ds) l
    have hwd2 : ∀ p, ∀ w ∈ wordsFrom (dictOf ds) l p, 1 ≤ w.length ∧ p + w.length ≤ l.length := fun p w hw => ⟨(hwd p w hw).1, (hwd p w hw).2.1⟩
    obtain ⟨hs1, hs2⟩ := path_len hwd2 ws 0 hpath
    have hic := path_isCut hpath
    refine ⟨rfl, ?_⟩
    unfold p_number_of endsA
    walk_at "go"
    refine ⟨⟨hP, hl, hll, ws, rfl, fun w hw => small_okX (path_small' hl ws 0 hpath w hw), by omega, by omega⟩, ?_⟩
    rw [hic]
    walk_at "go"
    let W := wordsFrom (dictOf ds) l
    refine for_over (fun pre A => A = ⟨[AV.d (.lst ds), AV.d (.str l), AV.d (.lst (ws.map .str)), AV.d (.dic (dictOf ds)), AV.d (.dic (wayD W l.length l.length)), AV.d (.int (numb W l.length 0 pre)), AV.d (.int ((pre.map List.length).sum : Nat)), .un, .un, .un], []⟩) rfl (by intros; trivial) ?_ ?_
    · rintro pre w post A e rfl
      refine ⟨_, rfl, fun J Kb hJ hK => ?_⟩
      have hp := path_split pre (w :: post) 0 (by rw [← e]; exact hpath)
      rw [Nat.zero_add] at hp
      obtain ⟨q1, q2, q3⟩ := hp
      have hw := hwd _ _ q2
      generalize hpp : (pre.map List.length).sum = p at q1 q2 q3 hw ⊢
      walk_at "go"
      rw [Int.toNat_natCast]
      refine lc_over (fun o => decide ((o.length : Int) < w.length)) .str trivial (by have := words_len (kvs := dictOf ds) (l := l) p; omega) (fun o ho => ⟨_, rfl, fun J hJ => ?_⟩) ?_
      · have := hwd p o ho
        walk_at "go"
      · walk_at "go"
        have hfl : ((wordsFrom (dictOf ds) l p).filter fun o => decide ((o.length : Int) < w.length)) = (W p).filter fun o => decide (o.length < w.length) := by
          apply List.filter_congr
          intro o _
          rw [Bool.eq_iff_iff, decide_eq_true_eq, decide_eq_true_eq]
          omega
        rw [hfl]
        have hlen : ((W p).filter fun o => decide (o.length < w.length)).length ≤ 12 := Nat.le_trans (List.length_filter_le _ _) (words_len (kvs := dictOf ds) (l := l) p)
        refine lc_each (fun o => .int (nw W l.length (p + o.length))) trivial (by omega) (fun o ho => ⟨_, rfl, fun J hJ => ?_⟩) ?_
        · have ho' := hwd p o (List.mem_filter.mp ho).1
          have ea : (p : Int) + (o.length : Int) = ((p + o.length : Nat) : Int) := by omega
          walk_at "go"
          rw [ea]
          exact ⟨_, wayD_get W (Nat.le_refl _) (by omega) (by omega), hJ⟩
        · walk_at "go"
          refine ⟨((W p).filter fun o => decide (o.length < w.length)).map fun o => nw W l.length (p + o.length), by rw [List.map_map]; rfl, ?_⟩
          walk_at "go"
          refine hJ _ ?_
          rw [numb_append, Nat.zero_add, hpp, List.map_append, List.sum_append, hpp]
          show _ = (⟨[_, _, _, _, _, AV.d (.int (_ + ((((W p).filter fun o => decide (o.length < w.length)).map fun o => nw W l.length (p + o.length)).sum + 0))), AV.d (.int ((p + (w.length + 0) : Nat) : Int)), _, _, _], _⟩ : Abs)
          rw [Int.add_zero, Nat.add_zero, Int.natCast_add]
    · rintro A rfl
      walk_at "go"
      show _ = AR.d (.int (numb W l.length 0 (txs (ws.map .str))))
      rw [txs_map]
  · exact h.elim
theorem cutBy_len (W : Nat → List Tx) (n : Nat) : ∀ f p x, (cutBy W n f p x).length ≤ f
  | 0, _, _ => Nat.zero_le _
  | f + 1, p, x => by
    unfold cutBy
    split
    · split
      · rw [List.length_cons]
        have := cutBy_len W n f
        exact Nat.succ_le_succ (this _ _)
      · simp
    · simp
theorem cutBy_fuel (W : Nat → List Tx) (n : Nat) (hW : ∀ p, ∀ w ∈ W p, 1 ≤ w.length ∧ p + w.length ≤ n) : ∀ f g p x, n ≤ p + f → n ≤ p + g → 0 ≤ x → x < nw W n p → cutBy W n f p x = cutBy W n g p x
  | 0, 0, _, _, _, _, _, _ => rfl
  | 0, g + 1, p, x, h1, h2, _, _ => by
    show [] = _
    unfold cutBy
    rw [if_neg (by omega)]
  | f + 1, 0, p, x, h1, h2, _, _ => by
    show _ = []
    unfold cutBy
    rw [if_neg (by omega)]
  | f + 1, g + 1, p, x, h1, h2, h3, h4 => by
    unfold cutBy
    by_cases e : p < n
    · rw [if_pos e, if_pos e]
      rw [nw_at W (fun w hw => (hW p w hw).1) e] at h4
      obtain ⟨w, x', g1, g2, g3, g4⟩ := pick_some _ _ x h3 h4
      have := hW p w g2
      rw [g1]
      show w :: _ = w :: _
      rw [cutBy_fuel W n hW f g _ x' (by omega) (by omega) g3 g4]
    · rw [if_neg e, if_neg e]
theorem r_cut_by : Law p_cut_by N_cut_by 3 (conP pre_cut_by f_cut_by) := fun ars h => by
  have h : pre_cut_by ars := h
  unfold pre_cut_by at h
  split at h
  · rename_i ds l x _
    obtain ⟨hP, hl, hll, hx0, hx1⟩ := h
    have hwd : ∀ p, ∀ w ∈ wordsFrom (dictOf ds) l p, 1 ≤ w.length ∧ p + w.length ≤ l.length ∧ w.length ≤ 12 := wds_eq (dictOf ds) l
    have hwd2 : ∀ p, ∀ w ∈ wordsFrom (dictOf ds) l p, 1 ≤ w.length ∧ p + w.length ≤ l.length := fun p w hw => ⟨(hwd p w hw).1, (hwd p w hw).2.1⟩
    let W := wordsFrom (dictOf ds) l
    have w0 := wayD_get W (n := l.length) (k := l.length) (q := 0) (Nat.le_refl _) (by omega) (by omega)
    refine ⟨rfl, ?_⟩
    unfold p_cut_by endsA
    walk_at "go"
    rw [decide_eq_true hx0]
    walk_at "go"
    refine ⟨_, w0, ?_⟩
    walk_at "go"
    rw [decide_eq_true hx1]
    walk_at "go"
    refine while_run (fun m A => ∃ (p : Nat) (y : Int) (cut : List Tx), A = ⟨[AV.d (.lst ds), AV.d (.str l), AV.d (.int y), AV.d (.dic (dictOf ds)), AV.d (.dic (wayD W l.length l.length)), AV.p 0, AV.d (.int p), .un, .un], [some (.lst (cut.map .str))]⟩ ∧ p ≤ l.length ∧ 0 ≤ y ∧ y < nw W l.length p ∧ cut ++ cutBy W l.length l.length p y = cutBy W l.length l.length 0 x ∧ cut.length ≤ p ∧ m = l.length - p)
      l.length ⟨0, x, [], rfl, Nat.zero_le _, hx0, hx1, rfl, Nat.zero_le _, rfl⟩ ?_
    rintro m A ⟨p, y, cut, rfl, hp, hy0, hy1, hc, hcl, rfl⟩ J Kb hJ hK
    walk_at "go"
    split
    · rename_i hlt
      have hlt : p < l.length := by have := of_decide_eq_true hlt; omega
      walk_at "go"
      rw [Int.toNat_natCast]
      have hy2 := hy1
      rw [nw_at W (fun w hw => (hwd p w hw).1) hlt] at hy2
      obtain ⟨w, y', g1, g2, g3, g4⟩ := pick_some (fun w => nw W l.length (p + w.length)) (W p) y hy0 hy2
      refine for_over (fun pre A => ∃ z : Int, A = ⟨[AV.d (.lst ds), AV.d (.str l), AV.d (.int z), AV.d (.dic (dictOf ds)), AV.d (.dic (wayD W l.length l.length)), AV.p 0, AV.d (.int p), .un, .un], [some (.lst (cut.map .str))]⟩ ∧ ∀ post, W p = pre ++ post → pick (fun w => nw W l.length (p + w.length)) post z = some (w, y')) ⟨y, rfl, fun post e => by rw [List.nil_append] at e; rw [← e]; exact g1⟩ (by intros; trivial) ?_ ?_
      · rintro pre v post A e ⟨z, rfl, hz⟩
        refine ⟨_, rfl, fun J2 Kb2 hJ2 hK2 => ?_⟩
        have hv := hwd p v (by rw [e]; simp)
        have ea : (p : Int) + (v.length : Int) = ((p + v.length : Nat) : Int) := by omega
        have hz := hz (v :: post) e
        unfold pick at hz
        walk_at "go"
        rw [ea]
        refine ⟨_, wayD_get W (Nat.le_refl _) (by omega) (by omega), ?_⟩
        walk_at "go"
        by_cases hlt2 : z < nw W l.length (p + v.length)
        · rw [decide_eq_true hlt2]
          rw [if_pos hlt2] at hz
          cases hz
          walk_at "go"
          refine hK2 _ ?_
          walk_at "go"
          refine hJ (l.length - (p + w.length)) _ (by omega) ⟨p + w.length, y', cut ++ [w], ?_, by omega, g3, g4, ?_, by rw [List.length_append, List.length_singleton]; omega, rfl⟩
          · rw [List.map_append]
            rfl
          · rw [List.append_assoc, ← hc]
            congr 1
            obtain ⟨f, hf⟩ : ∃ f, l.length = f + 1 := ⟨l.length - 1, by omega⟩
            have h1 : cutBy W l.length l.length p y = w :: cutBy W l.length f (p + w.length) y' := by
              conv => lhs; arg 3; rw [hf]
              show (if p < l.length then (match pick (fun w => nw W l.length (p + w.length)) (W p) y with
                | some (w, x') => w :: cutBy W l.length f (p + w.length) x'
                | none => []) else []) = _
              rw [if_pos hlt, g1]
            rw [h1]
            show w :: _ = w :: _
            rw [cutBy_fuel W l.length hwd2 l.length f _ _ (by omega) (by omega) g3 g4]
            rfl
        · rw [decide_eq_false hlt2]
          rw [if_neg hlt2] at hz
          walk_at "go"
          refine hJ2 _ ⟨_, rfl, fun post' e' => ?_⟩
          have : post' = post := by
            have e' : pre ++ v :: post = pre ++ [v] ++ post' := e.symm.trans e'
            rw [List.append_assoc] at e'
            exact (List.cons.inj (List.append_cancel_left e')).2.symm
          rw [this]
          exact hz
      · rintro A ⟨z, rfl, hz⟩
        have := hz [] (by rw [List.append_nil])
        cases this
    · rename_i hlt
      have hle : p = l.length := by
        have : ¬ ((p : Int) < l.length) := fun z => hlt (decide_eq_true z)
        omega
      walk_at "go"
      refine ⟨_, rfl, ?_⟩
      have : cutBy W l.length l.length p y = [] := by
        cases hh : l.length with
        | zero => rfl
        | succ f =>
          unfold cutBy
          rw [if_neg (by omega)]
      rw [this, List.append_nil] at hc
      rw [hc]
      rfl
  · exact h.elim
theorem cutBy_step {W : Nat → List Tx} {n p : Nat} {y y' : Int} {w : Tx} (hW : ∀ p, ∀ w ∈ W p, 1 ≤ w.length ∧ p + w.length ≤ n) (hlt : p < n) (g1 : pick (fun w => nw W n (p + w.length)) (W p) y = some (w, y')) (g2 : w ∈ W p) (g3 : 0 ≤ y') (g4 : y' < nw W n (p + w.length)) : cutBy W n n p y = w :: cutBy W n n (p + w.length) y' := by
  obtain ⟨f, hf⟩ : ∃ f, n = f + 1 := ⟨n - 1, by omega⟩
  have hw := hW p w g2
  have h1 : cutBy W n n p y = w :: cutBy W n f (p + w.length) y' := by
    conv => lhs; arg 3; rw [hf]
    show (if p < n then (match pick (fun w => nw W n (p + w.length)) (W p) y with
      | some (w, x') => w :: cutBy W n f (p + w.length) x'
      | none => []) else []) = _
    rw [if_pos hlt, g1]
  rw [h1, cutBy_fuel W n hW n f _ _ (by omega) (by omega) g3 g4]
theorem cutBy_end (W : Nat → List Tx) (n : Nat) (y : Int) : ∀ f, cutBy W n f n y = []
  | 0 => rfl
  | f + 1 => by
    unfold cutBy
    rw [if_neg (by omega)]
theorem way_get (W : Nat → List Tx) {n p : Nat} (h : p ≤ n) : atI ((wayL W n n).map D.int) (p : Int) = some (.int (nw W n p)) := by
  have := atI_of (xs := wayL W n n) (f := D.int) (i := (p : Int)) 0 (by omega) (by rw [wayL_len]; omega)
  rw [Int.toNat_natCast] at this
  exact this
theorem r__law_cut : Law p__law_cut N__law_cut 4 (conP pre__law_cut f__law_cut) := fun ars h => by
  have h : pre__law_cut ars := h
  unfold pre__law_cut at h
  split at h
  · rename_i ds l ys x _
    obtain ⟨hR, hds, hl, hll, rfl, hx0, hx1⟩ := h
    have hwd : ∀ p, ∀ w ∈ wordsFrom (dictOf ds) l p, 1 ≤ w.length ∧ p + w.length ≤ l.length ∧ w.length ≤ 12 := wds_eq (dictOf ds) l
    have hwd2 : ∀ p, ∀ w ∈ wordsFrom (dictOf ds) l p, 1 ≤ w.length ∧ p + w.length ≤ l.length := fun p w hw => ⟨(hwd p w hw).1, (hwd p w hw).2.1⟩
    let W := wordsFrom (dictOf ds) l
    let ws := (wayL W l.length l.length).map D.int
    have hnn : ∀ p, 0 ≤ nw W l.length p := nw_pos fun p w hw => (hwd p w hw).1
    refine ⟨rfl, ?_⟩
    unfold p__law_cut endsA
    walk_at "go"
    refine while_run (fun m A => ∃ (p : Nat) (y : Int) (cut : List Tx), A = ⟨[AV.d (.lst ds), AV.d (.str l), AV.d (.lst ws), AV.d (.int y), AV.p 0, AV.d (.int p), .un, .un, .un], [some (.lst (cut.map .str))]⟩ ∧ p ≤ l.length ∧ 0 ≤ y ∧ y < nw W l.length p ∧ cut ++ cutBy W l.length l.length p y = cutBy W l.length l.length 0 x ∧ cut.length ≤ p ∧ m = l.length - p)
      l.length ⟨0, x, [], rfl, Nat.zero_le _, hx0, hx1, rfl, Nat.zero_le _, rfl⟩ ?_
    rintro m A ⟨p, y, cut, rfl, hp, hy0, hy1, hc, hcl, rfl⟩ J Kb hJ hK
    walk_at "go"
    split
    · rename_i hlt
      have hlt : p < l.length := by have := of_decide_eq_true hlt; omega
      have hy2 := hy1
      rw [nw_at W (fun w hw => (hwd p w hw).1) hlt] at hy2
      obtain ⟨w, y', g1, g2, g3, g4⟩ := pick_some (fun w => nw W l.length (p + w.length)) (W p) y hy0 hy2
      have hstep := cutBy_step hwd2 hlt g1 g2 g3 g4
      have hw := hwd p w g2
      rw [← pick_filter _ (fun w => hnn _) (W p) y hy0] at g1
      walk_at "go"
      rw [Int.toNat_natCast]
      refine lc_over (fun w => decide (0 < nw W l.length (p + w.length))) .str trivial (by have := words_len (kvs := dictOf ds) (l := l) p; omega) (fun v hv => ⟨_, rfl, fun J hJ => ?_⟩) ?_
      · have hv' := hwd p v hv
        have ea : (p : Int) + (v.length : Int) = ((p + v.length : Nat) : Int) := by omega
        walk_at "go"
        rw [ea]
        refine ⟨_, way_get W (by omega), ?_⟩
        walk_at "go"
      · have hsub : ∀ v ∈ (W p).filter (fun w => decide (0 < nw W l.length (p + w.length))), v ∈ W p := fun v hv => (List.mem_filter.mp hv).1
        have hsl : ((W p).filter (fun w => decide (0 < nw W l.length (p + w.length)))).length ≤ 12 := Nat.le_trans (List.length_filter_le _ _) (words_len (kvs := dictOf ds) (l := l) p)
        have hpk : ∀ k, k ≤ ((W p).filter (fun w => decide (0 < nw W l.length (p + w.length)))).length → True := fun _ _ => trivial
        generalize (W p).filter (fun w => decide (0 < nw W l.length (p + w.length))) = some at g1 hsub hsl ⊢
        walk_at "go"
        refine while_run (fun m A => ∃ (k : Nat) (z : Int), A = ⟨[AV.d (.lst ds), AV.d (.str l), AV.d (.lst ws), AV.d (.int z), AV.p 0, AV.d (.int p), AV.d (.lst (some.map .str)), AV.d (.int k), .un], [Option.some (.lst (cut.map .str))]⟩ ∧ pick (fun w => nw W l.length (p + w.length)) (some.drop k) z = Option.some (w, y') ∧ m = some.length - k)
          some.length ⟨0, y, rfl, g1, rfl⟩ ?_
        rintro m A ⟨k, z, rfl, hz, rfl⟩ J2 Kb2 hJ2 hK2
        have hk : k < some.length := by
          by_cases hk : k < some.length
          · exact hk
          · rw [List.drop_eq_nil_of_le (by omega)] at hz
            cases hz
        have eak := atI_of (xs := some) (f := D.str) (i := (k : Int)) [] (by omega) (by omega)
        rw [Int.toNat_natCast, getD_of hk] at eak
        have hv := hwd p _ (hsub _ (List.getElem_mem hk))
        have ea : (p : Int) + ((some[k]).length : Int) = ((p + (some[k]).length : Nat) : Int) := by omega
        rw [List.drop_eq_getElem_cons hk] at hz
        unfold pick at hz
        walk_at "go"
        refine ⟨_, eak, ?_⟩
        walk_at "go"
        rw [ea]
        refine ⟨_, way_get W (by omega), ?_⟩
        walk_at "go"
        by_cases hlt2 : z < nw W l.length (p + (some[k]).length)
        · rw [decide_eq_false (by omega)]
          rw [if_pos hlt2] at hz
          have hz' := Option.some.inj hz
          have hv1 : some[k] = w := congrArg Prod.fst hz'
          have hv2 : z = y' := congrArg Prod.snd hz'
          walk_at "go"
          refine ⟨_, eak, by rw [List.length_map]; omega, ?_⟩
          walk_at "go"
          refine ⟨_, eak, ?_⟩
          walk_at "go"
          rw [ea]
          refine hJ (l.length - (p + w.length)) _ (by omega) ⟨p + w.length, y', cut ++ [w], ?_, by omega, g3, g4, ?_, by rw [List.length_append, List.length_singleton]; omega, rfl⟩
          · rw [List.map_append, hv2, hv1]
            rfl
          · rw [List.append_assoc, ← hc, hstep]
            rfl
        · rw [decide_eq_true (by omega)]
          rw [if_neg hlt2] at hz
          walk_at "go"
          refine ⟨_, eak, ?_⟩
          walk_at "go"
          rw [ea]
          refine ⟨_, way_get W (by omega), ?_⟩
          walk_at "go"
          exact hJ2 (some.length - (k + 1)) _ (by omega) ⟨k + 1, _, rfl, hz, rfl⟩
    · rename_i hlt
      have hle : p = l.length := by
        have : ¬ ((p : Int) < l.length) := fun z => hlt (decide_eq_true z)
        omega
      walk_at "go"
      refine ⟨_, rfl, ?_⟩
      subst hle
      rw [cutBy_end, List.append_nil] at hc
      rw [hc]
      rfl
  · exact h.elim
end PD

/-! QW: counts of the beginnings' cuts, words with how many cuts have them. -/
namespace PD
open PySem PySem.Spec PyProof.Rows L2
/-- one word's step from a place -/
def thrW (p : Nat) (L : List Int) (w : Tx) : List Int := L.set (p + w.length) (L.getD (p + w.length) 0 + L.getD p 0)
def thrS (W : Nat → List Tx) (p : Nat) (L : List Int) : List Int := (W p).foldl (thrW p) L
/-- how many ways lead to the places, k places gone on from -/
def thr (W : Nat → List Tx) (n : Nat) : Nat → List Int
  | 0 => 1 :: List.replicate n 0
  | k + 1 => thrS W k (thr W n k)
def ntT (W : Nat → List Tx) (n p : Nat) : Int := (thr W n n).getD p 0
def kvI (L : List Int) : List (Kd × D) := (List.range L.length).map fun i => (.inl ((i : Nat) : Int), .int (L.getD i 0))
def pre_ways_to : List AR → Prop
  | [.d (.lst ds), .d (.str l)] => isPairs ds ∧ l.length ≤ 1000000
  | _ => False
def f_ways_to : List AR → AR
  | [.d (.lst ds), .d (.str l)] => .o (.dic (kvI (thr (wordsFrom (dictOf ds) l) l.length l.length)))
  | _ => .d .non
def spotD (x : Nat × Tx) : D := .tup [.int ((x.1 : Nat) : Int), .str x.2]
/-- all words at their places with how many cuts have them -/
def wbc (W : Nat → List Tx) (n : Nat) : List ((Nat × Tx) × Int) := (List.range n).flatMap fun p => (W p).map fun w => ((p, w), ntT W n p * nw W n (p + w.length))
def wbcD (x : (Nat × Tx) × Int) : D := .tup [spotD x.1, .int x.2]
theorem thrW_len (p : Nat) (L : List Int) (w : Tx) : (thrW p L w).length = L.length := List.length_set
theorem thrF_len (p : Nat) : ∀ (ws : List Tx) (L : List Int), (ws.foldl (thrW p) L).length = L.length
  | [], L => rfl
  | w :: r, L => by rw [List.foldl_cons, thrF_len p r, thrW_len]
theorem thr_len (W : Nat → List Tx) (n : Nat) : ∀ k, (thr W n k).length = n + 1
  | 0 => by show (_ :: List.replicate n 0).length = _; rw [List.length_cons, List.length_replicate]
  | k + 1 => by
    show (thrS W k (thr W n k)).length = _
    unfold thrS
    rw [thrF_len, thr_len W n k]
theorem getD_set {α : Type} {L : List α} {i j : Nat} {x z : α} (h : i ≠ j) : (L.set i x).getD j z = L.getD j z := by
  rw [List.getD_eq_getElem?_getD, List.getD_eq_getElem?_getD, List.getElem?_set_ne h]
theorem getD_self {α : Type} {L : List α} {i : Nat} {x z : α} (h : i < L.length) : (L.set i x).getD i z = x := by
  rw [List.getD_eq_getElem?_getD, List.getElem?_set_self h]
  rfl
theorem thrW_at {p : Nat} (L : List Int) {w : Tx} (h : 1 ≤ w.length) : (thrW p L w).getD p 0 = L.getD p 0 := getD_set (by omega)
theorem thrF_at (p : Nat) : ∀ (ws : List Tx) (L : List Int), (∀ w ∈ ws, 1 ≤ w.length) → (ws.foldl (thrW p) L).getD p 0 = L.getD p 0
  | [], L, _ => rfl
  | w :: r, L, h => by rw [List.foldl_cons, thrF_at p r _ (fun v hv => h v (by simp [hv])), thrW_at L (h w (by simp))]
/-- each within 0 and c -/
def btw (L : List Int) (c : Int) : Prop := ∀ j, 0 ≤ L.getD j 0 ∧ L.getD j 0 ≤ c
theorem thrF_btw {p : Nat} {b : Int} (hb : 0 ≤ b) : ∀ (ws : List Tx) (L : List Int) (c : Int), (∀ w ∈ ws, 1 ≤ w.length) → 0 ≤ L.getD p 0 → L.getD p 0 ≤ b → btw L c → btw (ws.foldl (thrW p) L) (c + ws.length * b)
  | [], L, c, _, _, _, h => fun j => by
    have := h j
    simp only [List.foldl_nil, List.length_nil]
    omega
  | w :: r, L, c, hw, h0, h1, h => by
    rw [List.foldl_cons]
    have ha := thrW_at (p := p) L (hw w (by simp))
    have := thrF_btw hb r (thrW p L w) (c + b) (fun v hv => hw v (by simp [hv])) (by rw [ha]; exact h0) (by rw [ha]; exact h1) (fun j => by
      by_cases e : p + w.length = j
      · subst e
        by_cases hl : p + w.length < L.length
        · unfold thrW
          rw [getD_self hl]
          have := h (p + w.length)
          omega
        · unfold thrW
          rw [List.getD_eq_getElem?_getD, List.getElem?_eq_none (by rw [List.length_set]; omega)]
          have := h (p + w.length)
          show 0 ≤ (0 : Int) ∧ (0 : Int) ≤ _
          omega
      · unfold thrW
        rw [getD_set e]
        have := h j
        omega)
    intro j
    have := this j
    have e : c + b + (r.length : Int) * b = c + ((w :: r).length : Int) * b := by
      rw [List.length_cons]
      have : ((r.length + 1 : Nat) : Int) = (r.length : Int) + 1 := by omega
      rw [this, Int.add_mul]
      omega
    rw [e] at this
    exact this
theorem pow16 (k : Nat) : (0 : Int) < 16 ^ k := Int.pow_pos (by decide)
theorem thr_btw {W : Nat → List Tx} {n : Nat} (hW : ∀ p, ∀ w ∈ W p, 1 ≤ w.length) (hl : ∀ p, (W p).length ≤ 12) : ∀ k, btw (thr W n k) (16 ^ k)
  | 0 => fun j => by
    show 0 ≤ (1 :: List.replicate n (0 : Int)).getD j 0 ∧ (1 :: List.replicate n (0 : Int)).getD j 0 ≤ 1
    cases j with
    | zero =>
      rw [List.getD_cons_zero]
      exact ⟨by decide, by decide⟩
    | succ j =>
      rw [List.getD_cons_succ, List.getD_eq_getElem?_getD, List.getElem?_replicate]
      split <;> exact ⟨by decide, by decide⟩
  | k + 1 => fun j => by
    have ih := thr_btw (n := n) hW hl k
    have := thrF_btw (p := k) (b := 16 ^ k) (Int.le_of_lt (pow16 k)) (W k) (thr W n k) (16 ^ k) (hW k) (ih k).1 (ih k).2 ih j
    have h12 : ((W k).length : Int) * 16 ^ k ≤ 12 * 16 ^ k := Int.mul_le_mul_of_nonneg_right (by have := hl k; omega) (Int.le_of_lt (pow16 k))
    have e : (16 : Int) ^ (k + 1) = 16 * 16 ^ k := by rw [Int.pow_succ, Int.mul_comm]
    have hp := pow16 k
    show 0 ≤ (thrS W k (thr W n k)).getD j 0 ∧ (thrS W k (thr W n k)).getD j 0 ≤ _
    unfold thrS
    omega
theorem sum_le {g : Tx → Int} {b : Int} : ∀ (ws : List Tx), (∀ w ∈ ws, g w ≤ b) → (ws.map g).sum ≤ (ws.length : Int) * b
  | [], _ => by simp
  | w :: r, h => by
    have := sum_le r fun v hv => h v (by simp [hv])
    have h2 := h w (by simp)
    rw [List.map_cons, List.sum_cons, List.length_cons]
    have e : ((r.length + 1 : Nat) : Int) = (r.length : Int) + 1 := by omega
    rw [e, Int.add_mul]
    omega
theorem nw_le {W : Nat → List Tx} {n : Nat} (hW : ∀ p, ∀ w ∈ W p, 1 ≤ w.length ∧ p + w.length ≤ n) (hl : ∀ p, (W p).length ≤ 12) : ∀ q p, n ≤ p + q → nw W n p ≤ 16 ^ q
  | 0, p, h => by
    by_cases e : p = n
    · subst e
      rw [nw_last]
      exact Int.le_refl _
    · rw [nw_over W (by omega)]
      decide
  | q + 1, p, h => by
    have hp := pow16 q
    have e16 : (16 : Int) ^ (q + 1) = 16 * 16 ^ q := by rw [Int.pow_succ, Int.mul_comm]
    by_cases hpn : p < n
    · rw [nw_at W (fun w hw => (hW p w hw).1) hpn]
      have h1 := sum_le (g := fun w => nw W n (p + w.length)) (b := 16 ^ q) (W p) fun w hw => nw_le hW hl q _ (by have := (hW p w hw).1; omega)
      have h12 : ((W p).length : Int) * 16 ^ q ≤ 12 * 16 ^ q := Int.mul_le_mul_of_nonneg_right (by have := hl p; omega) (Int.le_of_lt hp)
      omega
    · have := nw_le hW hl q p (by omega)
      omega
theorem log16 {x : Int} {k : Nat} (h0 : 0 ≤ x) (h : x ≤ 16 ^ k) : x.natAbs.log2 ≤ 4 * k := by
  have e : ((16 : Int) ^ k) = ((2 ^ (4 * k) : Nat) : Int) := by
    rw [Nat.pow_mul]
    norm_cast
  have hx : x.natAbs ≤ 2 ^ (4 * k) := by omega
  by_cases hz : x.natAbs = 0
  · rw [hz]
    exact Nat.zero_le _
  · rw [← Nat.lt_succ_iff]
    refine (Nat.log2_lt hz).mpr (Nat.lt_of_le_of_lt hx ?_)
    exact Nat.pow_lt_pow_right (by decide) (by omega)
theorem cmul_ways {W : Nat → List Tx} {n p q : Nat} (hW : ∀ p, ∀ w ∈ W p, 1 ≤ w.length ∧ p + w.length ≤ n) (hl : ∀ p, (W p).length ≤ 12) (hn : n ≤ 100000) : CMul (ntT W n p) (nw W n q) ∨ CMulW (ntT W n p) (nw W n q) := by
  refine .inr ?_
  unfold CMulW
  have h1 := thr_btw (n := n) (fun p w hw => (hW p w hw).1) hl n p
  have l1 : (ntT W n p).natAbs.log2 ≤ 4 * n := log16 h1.1 h1.2
  have l2 : (nw W n q).natAbs.log2 ≤ 4 * n := log16 (nw_pos (fun p w hw => (hW p w hw).1) q) (nw_le hW hl n q (by omega))
  omega
/-! dicts of places -/
theorem kvI_len (L : List Int) : (kvI L).length = L.length := by unfold kvI; rw [List.length_map, List.length_range]
theorem kvI_get {L : List Int} {i : Nat} (h : i < L.length) : getK (kvI L) (.inl (i : Int)) = some (.int (L.getD i 0)) := by
  have go : ∀ (k : Nat), i < k → (((List.range k).map fun i : Nat => ((.inl ((i : Nat) : Int) : Kd), D.int (L.getD i 0))).find? fun p => decide (p.1 = .inl (i : Int))).map (·.2) = some (.int (L.getD i 0)) := by
    intro k
    induction k with
    | zero => intro h; omega
    | succ k ih =>
      intro h
      rw [List.range_succ, List.map_append, List.find?_append]
      by_cases e : i < k
      · have := ih e
        cases q : ((List.range k).map fun i : Nat => ((.inl ((i : Nat) : Int) : Kd), D.int (L.getD i 0))).find? fun p => decide (p.1 = .inl (i : Int)) with
        | none => rw [q] at this; cases this
        | some z =>
          rw [q] at this
          rw [Option.some_or]
          exact this
      · have : i = k := by omega
        subst this
        have hn : ((List.range i).map fun i : Nat => ((.inl ((i : Nat) : Int) : Kd), D.int (L.getD i 0))).find? (fun p => decide (p.1 = .inl (i : Int))) = none := by
          rw [List.find?_eq_none]
          intro z hz
          obtain ⟨j, hj, rfl⟩ := List.mem_map.mp hz
          rw [List.mem_range] at hj
          simp only [decide_eq_true_eq]
          intro q
          have := Sum.inl.inj q
          omega
        rw [hn, Option.none_or]
        simp
  exact go L.length h
theorem kvI_put {L : List Int} {i : Nat} (h : i < L.length) (v : Int) : putD (kvI L) (.inl (i : Int)) (.int v) = kvI (L.set i v) := by
  have hk : hasK (kvI L) (.inl (i : Int)) = true := by rw [hasK_get, kvI_get h]; rfl
  unfold putD
  rw [if_pos hk]
  unfold kvI
  rw [List.length_set, List.map_map]
  apply List.map_congr_left
  intro j hj
  show (if (Sum.inl ((j : Nat) : Int) : Kd) = .inl (i : Int) then _ else _) = _
  by_cases e : j = i
  · subst e
    rw [if_pos rfl, getD_self h]
  · rw [if_neg (fun q => e (by have := Sum.inl.inj q; omega)), getD_set (Ne.symm e)]
theorem merge_fresh : ∀ (more acc : List (Kd × D)), ((acc ++ more).map (·.1)).Nodup → mergeD acc more = acc ++ more
  | [], acc, _ => (List.append_nil acc).symm
  | p :: r, acc, h => by
    show mergeD (putD acc p.1 p.2) r = _
    have hn : hasK acc p.1 = false := by
      cases q : hasK acc p.1 with
      | false => rfl
      | true =>
        unfold hasK at q
        obtain ⟨z, hz, e⟩ := List.any_eq_true.mp q
        rw [List.map_append, List.nodup_append] at h
        exact absurd (of_decide_eq_true e) (h.2.2 _ (List.mem_map.mpr ⟨z, hz, rfl⟩) _ (List.mem_map.mpr ⟨p, by simp, rfl⟩))
    have e : putD acc p.1 p.2 = acc ++ [p] := by
      unfold putD
      rw [hn, if_neg (by decide)]
    rw [e, merge_fresh r (acc ++ [p]) (by rw [List.append_assoc]; exact h), List.append_assoc]
    rfl
theorem kvI_nodup (L : List Int) : ((kvI L).map (·.1)).Nodup := by
  unfold kvI
  rw [List.map_map]
  refine List.Pairwise.map (R := fun a b : Nat => a ≠ b) _ (fun a b h q => h ?_) List.nodup_range
  have := Sum.inl.inj q
  omega
theorem merge_kvI (L : List Int) : mergeD [] (kvI L) = kvI L := merge_fresh (kvI L) [] (kvI_nodup L)
end PD

/-! PH, first part: owned lists lent to what only reads. -/
namespace PD
open PySem PySem.Spec PyProof.Rows L2

def scalD : D → Bool
  | .non => true
  | .bl _ => true
  | .int _ => true
  | .str _ => true
  | _ => false
theorem DR.scal {K : PySem.W.Frag} {S S' : Hp} {v : V} {x : D} (h : DR K S v x) (s : scalD x = true) : DR K S' v x := by
  cases x with
  | non => cases h; exact .non
  | bl b => cases h; exact .bl b
  | int i => cases h; exact .int i
  | str l => cases h; exact .str l
  | _ => cases s
def borE (M : List (Option O)) : AV → AV
  | .p k => (match M[k]? with
    | some (some (.lst xs)) => .d (.lst xs)
    | _ => .un)
  | x => x
open Classical in
/-- the stable data and the owned lists -/
noncomputable def borS (t : Nat → Addr) (S : Hp) (M : List (Option O)) (H : Hp) : Hp := fun a => if ∃ k xs, M[k]? = some (some (.lst xs)) ∧ a = t k then H a else S a
section
variable {K : PySem.W.Frag} {B : Bas} {t : Nat → Addr} {S : Hp} {r : Addr → Lb} {M : List (Option O)} {H : Hp}
theorem borS_lst (h : HR K B t S r M H) {k : Nat} {xs : List D} (e : M[k]? = some (some (.lst xs))) : r (t k) = some (some k) ∧ ∃ vs, H (t k) = some (.lst vs) ∧ borS t S M H (t k) = some (.lst vs) ∧ DRs K S vs xs := by
  obtain ⟨h1, vs, h2, h3⟩ := h.obj k _ e
  refine ⟨h1, vs, h2, ?_, h3⟩
  unfold borS
  rw [if_pos ⟨k, xs, e, rfl⟩]
  exact h2
theorem borS_le (h : HR K B t S r M H) : Le S (borS t S M H) := fun a u e => .inl (by
  unfold borS
  rw [if_neg ?_]
  · exact e
  · rintro ⟨k, xs, e1, rfl⟩
    rw [(h.sep _ _ (borS_lst h e1).1).1] at e
    cases e)
/-- where it differs from S a list stands -/
theorem borS_cases (h : HR K B t S r M H) (a : Addr) : borS t S M H a = S a ∨ ∃ vs, H a = some (.lst vs) ∧ borS t S M H a = some (.lst vs) := by
  unfold borS
  by_cases c : ∃ k xs, M[k]? = some (some (.lst xs)) ∧ a = t k
  · obtain ⟨k, xs, e, rfl⟩ := id c
    obtain ⟨_, vs, h2, _, _⟩ := borS_lst h e
    right
    exact ⟨vs, h2, by rw [if_pos c]; exact h2⟩
  · left
    rw [if_neg c]
def lentB (t : Nat → Addr) (S' : Hp) (H : Hp) : Bas := ⟨H, fun _ => False, S', t, 0⟩
theorem HR.lend (h : HR K B t S r M H) : HR K (lentB t (borS t S M H) H) t (borS t S M H) (fun _ => none) [] H where
  le := fun a u e => by
    rcases borS_cases h a with q | ⟨vs, q1, q2⟩
    · rw [q] at e
      exact h.le a u e
    · rw [q2] at e
      cases e
      exact .inl q1
  sep := fun a l e => by cases e
  lab := fun a n e => by cases e
  obj := fun n o e => by simp at e
  keep := fun a o e _ => .inl e
  own := fun a l e => by cases e
  stb := fun a e => .inl e
  bas := fun a o e => e
  th := fun n hn => rfl
  nl := Nat.le_refl 0
theorem SR.lend {env : List AV} {σ : L2.St} (h : HR K B t S r M H) (s : SR K S t M.length env σ) : SR K (borS t S M H) t 0 (env.map (borE M)) σ where
  len := by rw [List.length_map]; exact s.len
  ok := fun i av e => by
    rw [List.getElem?_map] at e
    obtain ⟨a0, e0, rfl⟩ := Option.map_eq_some_iff.mp e
    have q := s.ok i a0 e0
    cases a0 with
    | un => trivial
    | d x =>
      obtain ⟨v, h1, h2⟩ := q
      exact ⟨v, h1, h2.mono (borS_le h)⟩
    | p k =>
      obtain ⟨h1, h2⟩ := q
      show AVok K _ t 0 (match M[k]? with
        | some (some (.lst xs)) => .d (.lst xs)
        | _ => .un) _
      split
      · rename_i xs ek
        obtain ⟨_, vs, _, h4, h5⟩ := borS_lst h ek
        exact ⟨_, h1, .lst h4 (h5.mono (borS_le h))⟩
      · trivial
/-- back: what was lent stands as it stood -/
theorem HR.given (h : HR K B t S r M H) {t' : Nat → Addr} {S' : Hp} {r' : Addr → Lb} {M' : List (Option O)} {H' : Hp} (h' : HR K (lentB t (borS t S M H) H) t' S' r' M' H') : HR K B t S r M H' := by
  have kp : ∀ a o, H a = some o → H' a = some o ∨ (isD o = true ∧ S a = some o ∧ ∃ od, H' a = some (.frz od o)) := fun a o e => by
    rcases h'.keep a o e (fun z => z) with q | ⟨q1, q2, q3⟩
    · exact .inl q
    · have q2 : borS t S M H a = some o := q2
      rcases borS_cases h a with z | ⟨vs, z1, z2⟩
      · exact .inr ⟨q1, by rw [← z]; exact q2, q3⟩
      · rw [z2] at q2
        cases q2
        cases q1
  have ow : ∀ a l, r a = some l → H' a = H a := fun a l e => by
    obtain ⟨s1, s2⟩ := h.sep a l e
    cases q : H a with
    | none => exact absurd q s2
    | some o =>
      rcases kp a o q with z | ⟨_, z, _⟩
      · exact z
      · rw [s1] at z
        cases z
  exact
    { le := fun a u e => by
        rcases h.le a u e with q | ⟨q1, od, q2⟩
        · rcases kp a u q with z | ⟨z1, _, z3⟩
          · exact .inl z
          · exact .inr ⟨z1, z3⟩
        · rcases kp a _ q2 with z | ⟨z1, _, _⟩
          · exact .inr ⟨q1, od, z⟩
          · cases z1
      sep := fun a l e => ⟨(h.sep a l e).1, by rw [ow a l e]; exact (h.sep a l e).2⟩
      lab := h.lab
      obj := fun n o e => (h.obj n o e).move (Le.refl S) fun b hb => ow b _ hb
      keep := fun a o e nd => by
        rcases h.keep a o e nd with q | ⟨q1, q2, od, q3⟩
        · rcases kp a o q with z | ⟨z1, z2, z3⟩
          · exact .inl z
          · refine .inr ⟨z1, ?_, z3⟩
            rcases h.stb a (by rw [z2]; simp) with w | w | w
            · cases y : B.S a with
              | none => exact absurd y w
              | some o' =>
                have := h.bas a o' y
                rw [z2] at this
                exact this.symm
            · rw [w] at e; cases e
            · exact absurd w nd
        · rcases kp a _ q3 with z | ⟨z1, _, _⟩
          · exact .inr ⟨q1, q2, od, z⟩
          · cases z1
      own := h.own
      stb := h.stb
      bas := h.bas
      th := h.th
      nl := h.nl }
end
/-- while this is asked, the owned lists are data; the answer is a plain one -/
def pBor (p : PTE) : PTE := fun A P Y => p ⟨A.env.map (borE A.M), []⟩ (fun y _ => match y with
  | .d x => scalD x = true ∧ P (.d x) A
  | _ => False) (fun e _ => Y e A)
theorem DE.bor {X : Cx} {E : WX} {e : Expr} {t : TE} {p : PTE} (h : DE X E e t p) : DE X E e t (pBor p) := ⟨h.pe, fun B σ H A P Y Q ⟨t0, S, r, hr, sr⟩ x q xq => by
  refine h.sim (lentB t0 (borS t0 S A.M H) H) σ H _ _ _ Q ⟨t0, _, _, hr.lend, sr.lend hr⟩ x (fun y A' v H' py res => ?_) (fun c A' H' pc rel => ?_)
  · obtain ⟨t', S', r', h', s', k'⟩ := res
    cases y with
    | d x =>
      obtain ⟨hs, py⟩ := py
      exact q (.d x) A v H' py ⟨t0, S, r, hr.given h', sr, DR.scal (K := X.K) (S := S') k' hs⟩
    | p n => exact py.elim
    | o o => exact py.elim
  · obtain ⟨t', S', r', h', s'⟩ := rel
    exact xq c A H' pc ⟨t0, S, r, hr.given h', sr⟩⟩
end PD

set_option pp.maxSteps 1500
namespace PD
open PySem PySem.Spec PyProof.Rows L2
def pre_wbc : List AR → Prop
  | [.d (.lst ds), .d x] => isPairs ds ∧ okText x ∧ (∀ l, x = .str l → small l = true → l.length ≤ 100000)
  | _ => False
abbrev pre_x_words_by_cuts := pre_wbc
abbrev pre_x_some_words := pre_wbc
abbrev pre_x_all_words := pre_wbc
abbrev pre_x_all_places := pre_wbc
/-- the words at a place, and the length, of a text -/
def fW (g : (Nat → List Tx) → Nat → AR) : List AR → Except EN AR
  | [.d (.lst ds), .d (.str l)] => if small l = true then (if nw (wordsFrom (dictOf ds) l) l.length 0 = 0 then .error .cut else .ok (g (wordsFrom (dictOf ds) l) l.length)) else .error .text
  | _ => .error .text
def g_wbc (W : Nat → List Tx) (n : Nat) : AR := .d (.tup [.lst ((wbc W n).map wbcD), .int (nw W n 0)])
def g_some (W : Nat → List Tx) (n : Nat) : AR := .o (.lst (((wbc W n).filter fun x => decide (0 < x.2)).map fun x => spotD x.1))
def g_all (W : Nat → List Tx) (n : Nat) : AR := .o (.lst (((wbc W n).filter fun x => decide (x.2 = nw W n 0)).map fun x => spotD x.1))
def g_places (W : Nat → List Tx) (n : Nat) : AR := .o (.lst (((List.range (n + 1)).filter fun p => decide (ntT W n p * nw W n p = nw W n 0)).map fun p : Nat => .int (p : Int)))
def F_x_words_by_cuts := fW g_wbc
def F_x_some_words := fW g_some
def F_x_all_words := fW g_all
def F_x_all_places := fW g_places
def p_ways_to : PTS :=
  (pSeq (pSetD 2 (pCalls (callP pre_only_words f_only_words) (pCons (pVar 0) pNil)))
  (pSeq (pSet 3 (pCall cDict (pCons (pLc (pRng1 (pCons (pOp2 bAdd (pCall cLen (pCons (pVar 1) pNil)) (pC (.int 1))) pNil)) (tgN 4) pYes (pTup (pCons (pVar 4) (pCons (pC (.int 0)) pNil))) [4]) pNil)))
  (pSeq (pSetIx (pVar 3) (pC (.int 0)) (pC (.int 1)))
  (pSeq (pWip [4, 5] (pFor (pRng1 (pCons (pCall cLen (pCons (pVar 1) pNil)) pNil)) (tgN 4) (pGw [4, 5] [4, 5] (pWip [5] (pFor (pItL (pCalls (callP pre_words_from f_words_from) (pCons (pVar 2) (pCons (pVar 1) (pCons (pVar 4) pNil))))) (tgN 5) (pGw [5] [5] (pAugK (fun i j => i + j) (pVar 3) (pOp2 bAdd (pVar 4) (pCall cLen (pCons (pVar 5) pNil))) (pOp2 bIx (pVar 3) (pVar 4)))))))))
  (pRet (pVar 3))))))
abbrev N_ways_to : List Str := ["book", "text", "words", "found", "place", "word"]
def p_x_words_by_cuts : PTS :=
  (pSeq (pDrop (pCallX (callX pre_x_need_text F_x_need_text) (pCons (pVar 1) pNil)))
  (pSeq (pSetD 2 (pCalls (callP pre_ways_to f_ways_to) (pCons (pVar 0) (pCons (pVar 1) pNil))))
  (pSeq (pSetD 3 (pCalls (callP pre_ways_on f_ways_on) (pCons (pVar 0) (pCons (pVar 1) pNil))))
  (pSeq (pIf (pTest (pOp2 (bEq id) (pOp2 bIx (pVar 3) (pC (.int 0))) (pC (.int 0)))) (pRaise .cut)
  pNext)
  (pSeq (pSetD 4 (pCalls (callP pre_only_words f_only_words) (pCons (pVar 0) pNil)))
  (pSeq (pSet 5 (pLst pNil))
  (pSeq (pWip [6, 7] (pFor (pRng1 (pCons (pCall cLen (pCons (pVar 1) pNil)) pNil)) (tgN 6) (pGw [6, 7] [6, 7] (pWip [7] (pFor (pItL (pCalls (callP pre_words_from f_words_from) (pCons (pVar 4) (pCons (pVar 1) (pCons (pVar 6) pNil))))) (tgN 7) (pGw [7] [7] (pDrop (pLM lAppend (pVar 5) (pCons (pTup (pCons (pTup (pCons (pVar 6) (pCons (pVar 7) pNil))) (pCons (pOp2 bMul (pOp2 bIx (pVar 2) (pVar 6)) (pOp2 bIx (pVar 3) (pOp2 bAdd (pVar 6) (pCall cLen (pCons (pVar 7) pNil))))) pNil))) pNil)))))))))
  (pFz 5 (pRet (pTup (pCons (pVar 5) (pCons (pOp2 bIx (pVar 3) (pC (.int 0))) pNil))))))))))))
abbrev N_x_words_by_cuts : List Str := ["book", "text", "there", "back", "words", "found", "place", "word"]
def p_x_some_words : PTS :=
  (pSeq (pAsg (pCallX (callX pre_x_words_by_cuts F_x_words_by_cuts) (pCons (pVar 0) (pCons (pVar 1) pNil))) (tgT [2, 3]))
  (pRet (pLc (pItL (pVar 2)) (tgT [4, 5]) (pTest (pOp2 bGt (pVar 5) (pC (.int 0)))) (pVar 4) [4, 5])))
abbrev N_x_some_words : List Str := ["book", "text", "found", "all_cuts", "one", "many"]
def p_x_all_words : PTS :=
  (pSeq (pAsg (pCallX (callX pre_x_words_by_cuts F_x_words_by_cuts) (pCons (pVar 0) (pCons (pVar 1) pNil))) (tgT [2, 3]))
  (pRet (pLc (pItL (pVar 2)) (tgT [4, 5]) (pTest (pOp2 (bEq id) (pVar 5) (pVar 3))) (pVar 4) [4, 5])))
abbrev N_x_all_words : List Str := ["book", "text", "found", "all_cuts", "one", "many"]
def p_x_all_places : PTS :=
  (pSeq (pAsg (pCallX (callX pre_x_words_by_cuts F_x_words_by_cuts) (pCons (pVar 0) (pCons (pVar 1) pNil))) (tgT [2, 3]))
  (pSeq (pSetD 4 (pCalls (callP pre_ways_to f_ways_to) (pCons (pVar 0) (pCons (pVar 1) pNil))))
  (pSeq (pSetD 5 (pCalls (callP pre_ways_on f_ways_on) (pCons (pVar 0) (pCons (pVar 1) pNil))))
  (pRet (pLc (pRng1 (pCons (pOp2 bAdd (pCall cLen (pCons (pVar 1) pNil)) (pC (.int 1))) pNil)) (tgN 6) (pTest (pOp2 (bEq id) (pOp2 bMul (pOp2 bIx (pVar 4) (pVar 6)) (pOp2 bIx (pVar 5) (pVar 6))) (pVar 3))) (pVar 6) [6])))))
abbrev N_x_all_places : List Str := ["book", "text", "found", "all_cuts", "there", "back", "place"]
local macro_rules | `(tactic| walk_at "rd") => `(tactic| simp (config := { decide := true }) only [pSeq_then, pNext, pNever, pBreak, pCont, pDrop, pRet, pRetN, pIf, pSet, pSetD, setD, setP, setO, pVar, pC, pOp2, pTest, pAnd, pOr, pNot, pAndV, pOrV, pNotV, pIfE, pNil, pCons, pLst, pTup, pDict0, pDictC, pDM, dUpdate, pCall, pIsiP, pM1, bJoin, pNo, pPart, pSl, pSortI, pLM, lAppend, lInsert, lExtend, lPopAt, lPop, lReverse, lClear, pLc_eq, pFor_eq, pWhile_eq, pWip, pGw, wipeS, trunc, truncE, pItL, pItS, pRng1, pRng2, pRng3, pVarF, pAug, pDictLen, pLr3, pNeg, pCalls, callP, pEnum, pStepS, pRevL, bStarts, bEnds, pAugK, pItK, pFz, pRaise, pCallX, callX, pTry, pIsX, pLr1, pM0, bUpper, cListB, cTuple, pOrT, pDictLenT, pBor, borE, scalD, pPickL, cSum, cAbs, pre_only_words, f_only_words, pre_words_from, f_words_from, pre_ways_on, f_ways_on, pre_ways_to, f_ways_to, pre_x_need_text, F_x_need_text, merge_dictOf, filter_none, callN, toAR, R.fz, view, views, dats, O.toD, AR.toR, bAdd, bSub, bMul, bDiv, bMod, bPow, bEq, bCmp, bIn, bIs, bIx, bSl, cLen, cMin2, cMax2, cInt, cList, cDict, cSorted, plainD, isiB, tyn, pAsg, tgT, tgU, setsA, pSetIx, storeO, kdOf, pChain, cmpD, pYes, pTru, truD, Hand, tgN, wipeA, fnAbs, envA, ownsA, retA, conP, conN, List.set, List.set_cons_zero, List.set_cons_succ, List.set_nil, List.getElem?_cons_zero, List.getElem?_cons_succ, List.getElem?_nil, List.length_cons, List.length_nil, List.cons_append, List.nil_append, List.append_nil, List.replicate, Nat.reduceSub, Nat.reduceAdd, Nat.zero_add, Int.zero_add, true_and, and_true, reduceIte, Bool.false_eq_true, id, Bool.not_true, Bool.not_false, decide_true, decide_false, List.nodup_nil, List.nodup_cons, List.not_mem_nil, not_false_eq_true, List.take_zero, List.take_succ_cons, List.take_nil, List.map_cons, List.map_nil])
local macro_rules | `(tactic| walk_at "sc") => `(tactic| first | with_reducible assumption | omega | assumption | with_reducible rfl | exact True.intro | exact okD_ints | exact okD_nil | exact okD_int _ | exact okD_bl _ | exact okD_non | exact okD_sm (by assumption) | with_reducible exact cmulR (by omega) (by omega) | with_reducible exact cmulL (by omega) (by omega) | with_reducible exact cdivw (by omega) (by omega) | (with_reducible refine smallI_of ?_ ?_ <;> first | omega | (simp only [List.length_map, List.length_append, List.length_range, List.length_replicate, List.length_cons, List.length_nil, List.length_take, List.length_drop]; omega)) | (unfold CPow; decide) | (simp only [List.length_map, List.length_append, List.length_range, List.length_replicate, List.length_cons, List.length_nil, List.length_take, List.length_drop]; omega) | (refine ⟨?_, ?_⟩ <;> walk_at "sc"))
local macro_rules | `(tactic| walk_at "go") => `(tactic| repeat (first | walk_at "rd" | with_reducible refine then_go ?_ | (refine And.intro (by walk_at "sc") ?_) | (refine dict_of (by assumption) ?_) | rw [deq_self (by walk_at "sc")] | walk_at "sc"))
local macro_rules | `(tactic| walk_at "rt") => `(tactic| try walk_at "rd")
theorem r_ways_to : Law p_ways_to N_ways_to 2 (conP pre_ways_to f_ways_to) := fun ars h => by
  have h : pre_ways_to ars := h
  unfold pre_ways_to at h
  split at h
  · rename_i ds l _
    obtain ⟨hP, hll⟩ := h
    have hwd : ∀ p, ∀ w ∈ wordsFrom (dictOf ds) l p, 1 ≤ w.length ∧ p + w.length ≤ l.length ∧ w.length ≤ 12 := wds_eq (dictOf ds) l
    have hwl : ∀ p, (wordsFrom (dictOf ds) l p).length ≤ 12 := fun p => words_len (kvs := dictOf ds) (l := l) p
    refine ⟨rfl, ?_⟩
    unfold p_ways_to endsA
    walk_at "go"
    have e1 : ((l.length : Int) + 1).toNat = l.length + 1 := by omega
    rw [e1]
    generalize hW : wordsFrom (dictOf ds) l = W at hwd hwl ⊢
    refine lc_rngA0 (fun i => .tup [.int (i : Int), .int 0]) trivial (by omega) (fun i hi => ⟨_, rfl, fun J hJ => ?_⟩) ?_
    · walk_at "go"
      all_goals exact hJ
    · walk_at "go"
      refine ⟨kvI (List.replicate (l.length + 1) 0), ?_, ?_⟩
      · unfold kvI
        rw [List.length_replicate, List.map_map]
        apply List.map_congr_left
        intro i hi
        rw [List.mem_range] at hi
        show _ = D.tup [.int (i : Int), .int ((List.replicate (l.length + 1) (0 : Int)).getD i 0)]
        rw [List.getD_eq_getElem?_getD, List.getElem?_replicate, if_pos hi]
        rfl
      · rw [merge_kvI]
        have hp0 := kvI_put (L := List.replicate (l.length + 1) (0 : Int)) (i := 0) (by rw [List.length_replicate]; omega) 1
        have hp0 : putD (kvI (List.replicate (l.length + 1) 0)) (.inl 0) (.int 1) = kvI (thr W l.length 0) := hp0
        have hl0 : (kvI (List.replicate (l.length + 1) 0)).length = l.length + 1 := by rw [kvI_len, List.length_replicate]
        generalize kvI (List.replicate (l.length + 1) 0) = K0 at hp0 hl0 ⊢
        walk_at "go"
        rw [hp0]
        refine for_rng0 (fun k A => A = ⟨[AV.d (.lst ds), AV.d (.str l), .d (.dic (dictOf ds)), AV.p 0, .un, .un], [some (.dic (kvI (thr W l.length k)))]⟩) rfl (by intros; trivial) ?_ ?_
        · rintro k A hk rfl
          have hk : k < l.length := by omega
          refine ⟨_, rfl, fun J Kb hJ hK => ?_⟩
          walk_at "go"
          rw [Int.toNat_natCast, hW]
          have hln := thr_len W l.length k
          have hS : thr W l.length (k + 1) = (W k).foldl (thrW k) (thr W l.length k) := rfl
          rw [hS] at hJ
          generalize thr W l.length k = L0 at hln hJ ⊢
          refine for_over (fun pre A => A = ⟨[AV.d (.lst ds), AV.d (.str l), .d (.dic (dictOf ds)), AV.p 0, .d (.int k), .un], [some (.dic (kvI (pre.foldl (thrW k) L0)))]⟩) rfl (by intros; trivial) ?_ ?_
          · rintro pre w post A e2 rfl
            refine ⟨_, rfl, fun J2 Kb2 hJ2 hK2 => ?_⟩
            have hw : w ∈ W k := by rw [e2]; simp
            obtain ⟨h1, h2, h3⟩ := hwd k w hw
            have ea : (k : Int) + (w.length : Int) = ((k + w.length : Nat) : Int) := by omega
            rw [List.foldl_append, List.foldl_cons, List.foldl_nil] at hJ2
            have hL1 := thrF_len k pre L0
            generalize pre.foldl (thrW k) L0 = L at hL1 hJ2 ⊢
            have hL1 : L.length = l.length + 1 := hL1.trans hln
            unfold thrW at hJ2
            rw [← kvI_put (by omega)] at hJ2
            walk_at "go"
            rw [ea]
            walk_at "go"
            exact ⟨_, kvI_get (by omega), _, kvI_get (by omega), by rw [kvI_len]; omega, hJ2 _ rfl⟩
          · rintro A rfl
            walk_at "go"
            exact hJ _ rfl
        · rintro A rfl
          walk_at "go"
          exact ⟨_, rfl, rfl⟩
  · exact h.elim
theorem wayD_nw (W : Nat → List Tx) {n q : Nat} (hq : q ≤ n) : getK (wayD W n n) (.inl ((q : Nat) : Int)) = some (.int (nw W n q)) := wayD_get W (Nat.le_refl n) (by omega) hq
def wbcK (W : Nat → List Tx) (n k : Nat) : List ((Nat × Tx) × Int) := (List.range k).flatMap fun p => (W p).map fun w => ((p, w), ntT W n p * nw W n (p + w.length))
theorem wbcK_len (W : Nat → List Tx) (n : Nat) (hl : ∀ p, (W p).length ≤ 12) : ∀ k, (wbcK W n k).length ≤ 12 * k
  | 0 => by unfold wbcK; simp
  | k + 1 => by
    have ih := wbcK_len W n hl k
    unfold wbcK at ih ⊢
    rw [List.range_succ, List.flatMap_append, List.length_append]
    have := hl k
    simp only [List.flatMap_cons, List.flatMap_nil, List.append_nil, List.length_map]
    omega
theorem wbcK_succ (W : Nat → List Tx) (n k : Nat) : wbcK W n (k + 1) = wbcK W n k ++ (W k).map fun w => ((k, w), ntT W n k * nw W n (k + w.length)) := by
  unfold wbcK
  rw [List.range_succ, List.flatMap_append]
  simp only [List.flatMap_cons, List.flatMap_nil, List.append_nil]
theorem r_x_words_by_cuts : LawX p_x_words_by_cuts N_x_words_by_cuts 2 (conX pre_x_words_by_cuts F_x_words_by_cuts) := lawX_of fun ars h => by
  have h : pre_wbc ars := h
  unfold pre_wbc at h
  split at h
  · rename_i ds x _
    obtain ⟨hP, ok, hx⟩ := h
    refine ⟨rfl, ?_⟩
    by_cases ht : isTextD x = true
    · obtain ⟨l, rfl⟩ : ∃ l, x = .str l := by
        cases x with
        | str l => exact ⟨l, rfl⟩
        | _ => cases ht
      have hl : small l = true := ht
      have hll := hx l rfl hl
      have hwd : ∀ p, ∀ w ∈ wordsFrom (dictOf ds) l p, 1 ≤ w.length ∧ p + w.length ≤ l.length ∧ w.length ≤ 12 := wds_eq (dictOf ds) l
      have hwd2 : ∀ p, ∀ w ∈ wordsFrom (dictOf ds) l p, 1 ≤ w.length ∧ p + w.length ≤ l.length := fun p w hw => ⟨(hwd p w hw).1, (hwd p w hw).2.1⟩
      have hwl : ∀ p, (wordsFrom (dictOf ds) l p).length ≤ 12 := fun p => words_len (kvs := dictOf ds) (l := l) p
      have hF : F_x_words_by_cuts [AR.d (.lst ds), AR.d (.str l)] = if nw (wordsFrom (dictOf ds) l) l.length 0 = 0 then .error .cut else .ok (g_wbc (wordsFrom (dictOf ds) l) l.length) := if_pos hl
      have ht2 : isTextD (.str l) = true := hl
      rw [hF]
      unfold p_x_words_by_cuts endsR
      walk_at "rd"
      refine ⟨ok, ?_⟩
      rw [if_pos ht2]
      generalize hW : wordsFrom (dictOf ds) l = W at hwd hwd2 hwl ⊢
      walk_at "go"
      rw [hW]
      refine ⟨_, wayD_nw W (Nat.zero_le _), ?_⟩
      walk_at "go"
      by_cases h0 : nw W l.length 0 = 0
      · rw [if_pos (decide_eq_true h0), if_pos h0]
      · rw [if_neg (fun z => h0 (of_decide_eq_true z)), if_neg h0]
        walk_at "go"
        have hnt : ∀ p, p ≤ l.length → getK (kvI (thr W l.length l.length)) (.inl ((p : Nat) : Int)) = some (.int (ntT W l.length p)) := fun p hp => kvI_get (by rw [thr_len]; omega)
        refine for_rng0 (fun k A => A = ⟨[AV.d (.lst ds), AV.d (.str l), .d (.dic (kvI (thr W l.length l.length))), .d (.dic (wayD W l.length l.length)), .d (.dic (dictOf ds)), AV.p 0, .un, .un], [some (.lst ((wbcK W l.length k).map wbcD))]⟩) rfl (by intros; trivial) ?_ ?_
        · rintro k A hk rfl
          have hk : k < l.length := by omega
          refine ⟨_, rfl, fun J Kb hJ hK => ?_⟩
          walk_at "go"
          rw [Int.toNat_natCast, hW]
          have hlen := wbcK_len W l.length hwl k
          rw [wbcK_succ] at hJ
          generalize wbcK W l.length k = acc at hlen hJ ⊢
          refine for_over (fun pre A => A = ⟨[AV.d (.lst ds), AV.d (.str l), .d (.dic (kvI (thr W l.length l.length))), .d (.dic (wayD W l.length l.length)), .d (.dic (dictOf ds)), AV.p 0, .d (.int k), .un], [some (.lst ((acc ++ pre.map fun w => ((k, w), ntT W l.length k * nw W l.length (k + w.length))).map wbcD))]⟩) (by rw [List.map_nil, List.append_nil]) (by intros; trivial) ?_ ?_
          · rintro pre w post A e2 rfl
            refine ⟨_, rfl, fun J2 Kb2 hJ2 hK2 => ?_⟩
            have hw : w ∈ W k := by rw [e2]; simp
            have hpl : pre.length ≤ 12 := by
              have := hwl k
              rw [e2, List.length_append] at this
              omega
            obtain ⟨h1, h2, h3⟩ := hwd k w hw
            have ea : (k : Int) + (w.length : Int) = ((k + w.length : Nat) : Int) := by omega
            walk_at "go"
            have hb := wayD_nw W h2
            rw [← ea] at hb
            refine ⟨_, hnt k (by omega), ?_⟩
            walk_at "go"
            refine ⟨_, hb, ?_⟩
            walk_at "rd"
            refine ⟨cmul_ways hwd2 hwl hll, by rw [List.length_map, List.length_append, List.length_map]; omega, hJ2 _ ?_⟩
            rw [List.map_append (l₁ := pre), ← List.append_assoc, List.map_append (l₁ := acc ++ _)]
            rfl
          · rintro A rfl
            walk_at "go"
            exact hJ _ rfl
        · rintro A rfl
          walk_at "go"
          refine ⟨_, wayD_nw W (Nat.zero_le _), ?_⟩
          walk_at "go"
          rfl
    · have hF : F_x_words_by_cuts [AR.d (.lst ds), AR.d x] = .error .text := by
        cases x with
        | str l => exact if_neg ht
        | _ => rfl
      rw [hF]
      unfold p_x_words_by_cuts endsR
      walk_at "rd"
      refine ⟨ok, ?_⟩
      rw [if_neg ht]
  · exact h.elim
theorem wbc_fst {W : Nat → List Tx} {n : Nat} : ∀ x ∈ wbc W n, x.1.1 < n ∧ x.1.2 ∈ W x.1.1 ∧ x.2 = ntT W n x.1.1 * nw W n (x.1.1 + x.1.2.length) := fun x hx => by
  unfold wbc at hx
  obtain ⟨p, hp, hx⟩ := List.mem_flatMap.mp hx
  obtain ⟨w, hw, rfl⟩ := List.mem_map.mp hx
  exact ⟨List.mem_range.mp hp, hw, rfl⟩
theorem wbc_len {kvs : List (Kd × D)} {l : Tx} : (wbc (wordsFrom kvs l) l.length).length ≤ 12 * l.length := wbcK_len _ _ (fun p => words_len (kvs := kvs) (l := l) p) _
/-- what a def that asks for the words by cuts first is asked -/
theorem fW_cases {g : (Nat → List Tx) → Nat → AR} {ds : List D} {x : D} (h : okText x) : (fW g [.d (.lst ds), .d x] = .error .text ∧ fW g_wbc [.d (.lst ds), .d x] = .error .text) ∨ (∃ l, x = .str l ∧ small l = true ∧ nw (wordsFrom (dictOf ds) l) l.length 0 = 0 ∧ fW g [.d (.lst ds), .d x] = .error .cut ∧ fW g_wbc [.d (.lst ds), .d x] = .error .cut) ∨
    ∃ l, x = .str l ∧ small l = true ∧ nw (wordsFrom (dictOf ds) l) l.length 0 ≠ 0 ∧ fW g [.d (.lst ds), .d x] = .ok (g (wordsFrom (dictOf ds) l) l.length) ∧ fW g_wbc [.d (.lst ds), .d x] = .ok (g_wbc (wordsFrom (dictOf ds) l) l.length) := by
  cases x with
  | str l =>
    by_cases hs : small l = true
    · by_cases h0 : nw (wordsFrom (dictOf ds) l) l.length 0 = 0
      · exact .inr (.inl ⟨l, rfl, hs, h0, (if_pos hs).trans (if_pos h0), (if_pos hs).trans (if_pos h0)⟩)
      · exact .inr (.inr ⟨l, rfl, hs, h0, (if_pos hs).trans (if_neg h0), (if_pos hs).trans (if_neg h0)⟩)
    · exact .inl ⟨if_neg hs, if_neg hs⟩
  | _ => exact .inl ⟨rfl, rfl⟩
theorem r_x_some_words : LawX p_x_some_words N_x_some_words 2 (conX pre_x_some_words F_x_some_words) := lawX_of fun ars h => by
  have h : pre_wbc ars := h
  unfold pre_wbc at h
  split at h
  · rename_i ds x _
    have hp : pre_wbc [.d (.lst ds), .d x] := h
    obtain ⟨hP, ok, hx⟩ := h
    refine ⟨rfl, ?_⟩
    unfold p_x_some_words endsR
    walk_at "rd"
    refine ⟨hp, ?_⟩
    rcases fW_cases (g := g_some) (ds := ds) ok with ⟨e1, e2⟩ | ⟨l, rfl, hl, h0, e1, e2⟩ | ⟨l, rfl, hl, h0, e1, e2⟩
    · rw [show F_x_words_by_cuts _ = _ from e2]
      exact e1
    · rw [show F_x_words_by_cuts _ = _ from e2]
      exact e1
    · rw [show F_x_words_by_cuts _ = _ from e2]
      have hll := hx l rfl hl
      have hlen := wbc_len (kvs := dictOf ds) (l := l)
      unfold g_wbc
      walk_at "go"
      refine lc_over (xs := wbc (wordsFrom (dictOf ds) l) l.length) (f := wbcD) (fun x => decide (0 < x.2)) (fun x => spotD x.1) trivial (by omega) (fun x hx2 => ⟨_, rfl, fun J hJ => ?_⟩) ?_
      · unfold wbcD
        walk_at "go"
      · walk_at "go"
  · exact h.elim
theorem r_x_all_words : LawX p_x_all_words N_x_all_words 2 (conX pre_x_all_words F_x_all_words) := lawX_of fun ars h => by
  have h : pre_wbc ars := h
  unfold pre_wbc at h
  split at h
  · rename_i ds x _
    have hp : pre_wbc [.d (.lst ds), .d x] := h
    obtain ⟨hP, ok, hx⟩ := h
    refine ⟨rfl, ?_⟩
    unfold p_x_all_words endsR
    walk_at "rd"
    refine ⟨hp, ?_⟩
    rcases fW_cases (g := g_all) (ds := ds) ok with ⟨e1, e2⟩ | ⟨l, rfl, hl, h0, e1, e2⟩ | ⟨l, rfl, hl, h0, e1, e2⟩
    · rw [show F_x_words_by_cuts _ = _ from e2]
      exact e1
    · rw [show F_x_words_by_cuts _ = _ from e2]
      exact e1
    · rw [show F_x_words_by_cuts _ = _ from e2]
      have hll := hx l rfl hl
      have hlen := wbc_len (kvs := dictOf ds) (l := l)
      unfold g_wbc
      walk_at "go"
      refine lc_over (xs := wbc (wordsFrom (dictOf ds) l) l.length) (f := wbcD) (fun x => decide (x.2 = nw (wordsFrom (dictOf ds) l) l.length 0)) (fun x => spotD x.1) trivial (by omega) (fun x hx2 => ⟨_, rfl, fun J hJ => ?_⟩) ?_
      · unfold wbcD
        walk_at "go"
      · walk_at "go"
  · exact h.elim
theorem r_x_all_places : LawX p_x_all_places N_x_all_places 2 (conX pre_x_all_places F_x_all_places) := lawX_of fun ars h => by
  have h : pre_wbc ars := h
  unfold pre_wbc at h
  split at h
  · rename_i ds x _
    have hp : pre_wbc [.d (.lst ds), .d x] := h
    obtain ⟨hP, ok, hx⟩ := h
    refine ⟨rfl, ?_⟩
    unfold p_x_all_places endsR
    walk_at "rd"
    refine ⟨hp, ?_⟩
    rcases fW_cases (g := g_places) (ds := ds) ok with ⟨e1, e2⟩ | ⟨l, rfl, hl, h0, e1, e2⟩ | ⟨l, rfl, hl, h0, e1, e2⟩
    · rw [show F_x_words_by_cuts _ = _ from e2]
      exact e1
    · rw [show F_x_words_by_cuts _ = _ from e2]
      exact e1
    · rw [show F_x_words_by_cuts _ = _ from e2]
      have hll := hx l rfl hl
      have hlen := wbc_len (kvs := dictOf ds) (l := l)
      unfold g_wbc
      walk_at "go"
      have hwd : ∀ p, ∀ w ∈ wordsFrom (dictOf ds) l p, 1 ≤ w.length ∧ p + w.length ≤ l.length := fun p w hw => ⟨(wds_eq (dictOf ds) l p w hw).1, (wds_eq (dictOf ds) l p w hw).2.1⟩
      have hwl : ∀ p, (wordsFrom (dictOf ds) l p).length ≤ 12 := fun p => words_len (kvs := dictOf ds) (l := l) p
      have e2 : ((l.length : Int) + 1).toNat = l.length + 1 := by omega
      rw [e2]
      unfold g_places at e1
      generalize wordsFrom (dictOf ds) l = W at hwd hwl e1 ⊢
      refine lc_rng0 (fun p => decide (ntT W l.length p * nw W l.length p = nw W l.length 0)) (fun p => .int (p : Int)) trivial (by omega) (fun p hp => ⟨_, rfl, fun J hJ => ?_⟩) ?_
      · walk_at "go"
        refine ⟨_, kvI_get (by rw [thr_len]; omega), ?_⟩
        walk_at "go"
        refine ⟨_, wayD_nw W (by omega), ?_⟩
        walk_at "rd"
        exact ⟨cmul_ways hwd hwl hll, hJ⟩
      · walk_at "go"
  · exact h.elim
end PD

/-! Q: the best of the cuts; papers. -/
namespace PD
open PySem PySem.Spec PyProof.Rows L2
abbrev fewT : Tx := [102, 101, 119, 101, 115, 116]
abbrev heaT : Tx := [104, 101, 97, 118, 105, 101, 115, 116]
def IsWay (w : Tx) : Prop := w = fewT ∨ w = heaT
def wRows (ds : List D) (way : Tx) : List D := if way = fewT then ds.map (fun x => pairD ((unpair x).1, .int (-1))) else ds
def wtD (kvs : List (Kd × D)) (w : Tx) : Int := match getK kvs (.inr w) with
  | some (.int i) => i
  | _ => 0
def wKV (ds : List D) (way : Tx) : List (Kd × D) := dictOf (wRows ds way)
def pre_worths_of : List AR → Prop
  | [.d (.lst ds), .d (.str way)] => Rows ds ∧ ds.length ≤ 1000 ∧ IsWay way
  | _ => False
def f_worths_of : List AR → AR
  | [.d (.lst ds), .d (.str way)] => .o (.dic (wKV ds way))
  | _ => .d .non
/-- the better of what was found and one more -/
def bstep (g : Tx → Option Int) (acc : Option (Int × Tx)) (w : Tx) : Option (Int × Tx) := match g w with
  | none => acc
  | some t => (match acc with
    | none => some (t, w)
    | some b => if b.1 < t then some (t, w) else some b)
def best1 (ws : List Tx) (g : Tx → Option Int) : Option (Int × Tx) := ws.foldl (bstep g) none
/-- the best for the last k + 1 places of n -/
def bst (W : Nat → List Tx) (wt : Tx → Int) (n : Nat) : Nat → List (Option (Int × Tx))
  | 0 => [some (0, [])]
  | k + 1 => best1 (W (n - (k + 1))) (fun w => ((bst W wt n k).getD (w.length - 1) none).map fun b => wt w + b.1) :: bst W wt n k
def bt (W : Nat → List Tx) (wt : Tx → Int) (n p : Nat) : Option (Int × Tx) := (bst W wt n n).getD p none
def bTup (b : Int × Tx) : D := .tup [.int b.1, .str b.2]
/-- .. as the dict is filled -/
def bstD (W : Nat → List Tx) (wt : Tx → Int) (n k : Nat) : List (Kd × D) := (List.range (k + 1)).filterMap fun j => (bt W wt n (n - j)).map fun b => (.inl ((n - j : Nat) : Int), bTup b)
def pre_best_on : List AR → Prop
  | [.d (.lst ds), .d (.str l), .d (.str way)] => Rows ds ∧ ds.length ≤ 1000 ∧ IsWay way ∧ l.length ≤ 1000000
  | _ => False
def f_best_on : List AR → AR
  | [.d (.lst ds), .d (.str l), .d (.str way)] => .o (.dic (bstD (wordsFrom (wKV ds way) l) (wtD (wKV ds way)) l.length l.length))
  | _ => .d .non
def bcut (B : Nat → Option (Int × Tx)) (n : Nat) : Nat → Nat → List Tx
  | 0, _ => []
  | f + 1, p => if p < n then (match B p with
    | some b => b.2 :: bcut B n f (p + b.2.length)
    | none => []) else []
def bestCut (ds : List D) (l way : Tx) : D := match bt (wordsFrom (wKV ds way) l) (wtD (wKV ds way)) l.length 0 with
  | some b => .tup [.int b.1, .lst ((bcut (bt (wordsFrom (wKV ds way) l) (wtD (wKV ds way)) l.length) l.length l.length 0).map .str)]
  | none => .non
def pre_best_cut : List AR → Prop
  | [.d (.lst ds), .d (.str l), .d (.str way)] => Rows ds ∧ ds.length ≤ 1000 ∧ small l = true ∧ IsWay way ∧ l.length ≤ 1000000
  | _ => False
def f_best_cut : List AR → AR
  | [.d (.lst ds), .d (.str l), .d (.str way)] => .d (bestCut ds l way)
  | _ => .d .non
def optD : Option Int → D
  | none => .non
  | some i => .int i
/-- one word looked at from a place that is reached -/
def papW (wt : Tx → Int) (p : Nat) (L : List (Option Int)) (w : Tx) : List (Option Int) := match L.getD p none with
  | none => L
  | some a => (match L.getD (p + w.length) none with
    | none => L.set (p + w.length) (some (a + wt w))
    | some b => if b < a + wt w then L.set (p + w.length) (some (a + wt w)) else L)
def papS (W : Nat → List Tx) (wt : Tx → Int) (p : Nat) (L : List (Option Int)) : List (Option Int) := if (L.getD p none).isSome then (W p).foldl (papW wt p) L else L
def pap (W : Nat → List Tx) (wt : Tx → Int) (n : Nat) : Nat → List (Option Int)
  | 0 => some 0 :: List.replicate n none
  | k + 1 => papS W wt k (pap W wt n k)
def bestPaper (ds : List D) (l way : Tx) : List (Option Int) := pap (wordsFrom (wKV ds way) l) (wtD (wKV ds way)) l.length l.length
def pre_best_paper : List AR → Prop
  | [.d (.lst ds), .d (.str l), .d (.str way)] => Rows ds ∧ ds.length ≤ 1000 ∧ small l = true ∧ IsWay way ∧ l.length ≤ 1000000
  | _ => False
def f_best_paper : List AR → AR
  | [.d (.lst ds), .d (.str l), .d (.str way)] => if (bestPaper ds l way).getD l.length none = none then .d .non else .o (.lst ((bestPaper ds l way).map optD))
  | _ => .d .non
def unopt : D → Option Int
  | .int i => some i
  | _ => none
/-- no word from a place goes beyond what the paper holds -/
def holdsAt (W : Nat → List Tx) (wt : Tx → Int) (ps : List (Option Int)) (p : Nat) : Bool := match ps.getD p none with
  | none => true
  | some a => (W p).all fun w => (match ps.getD (p + w.length) none with
    | none => false
    | some b => decide (a + wt w ≤ b))
def shows (W : Nat → List Tx) (wt : Tx → Int) (n : Nat) (worth : Int) (ps : List (Option Int)) : Bool :=
  decide (ps.length = n + 1) && decide (ps.getD 0 none = some 0) && decide (ps.getD n none = some worth) && (List.range n).all (holdsAt W wt ps)
def isPaper (xs : List D) : Prop := ∃ ps : List (Option Int), xs = ps.map optD
def pre_best_shows : List AR → Prop
  | [.d (.lst ds), .d (.str l), .d (.str way), .d (.int _), .d (.lst xs)] => Rows ds ∧ ds.length ≤ 1000 ∧ small l = true ∧ IsWay way ∧ l.length ≤ 1000000 ∧ isPaper xs ∧ xs.length ≤ 16777216
  | _ => False
def f_best_shows : List AR → AR
  | [.d (.lst ds), .d (.str l), .d (.str way), .d (.int worth), .d (.lst xs)] => .d (.bl (shows (wordsFrom (wKV ds way) l) (wtD (wKV ds way)) l.length worth (xs.map unopt)))
  | _ => .d .non
def pre__law_worths : List AR → Prop := pre_worths_of
def f__law_worths : List AR → AR
  | [.d (.lst ds), .d (.str way)] => .o (.dic (wKV ds way))
  | _ => .d .non
/-! ### what is so of them -/
theorem unopt_map (ps : List (Option Int)) : (ps.map optD).map unopt = ps := by
  rw [List.map_map]
  exact List.map_id'' (fun x => by cases x <;> rfl) ps
section
variable {W : Nat → List Tx} {wt : Tx → Int} {n : Nat}
theorem bst_len (W : Nat → List Tx) (wt : Tx → Int) (n : Nat) : ∀ k, (bst W wt n k).length = k + 1
  | 0 => rfl
  | k + 1 => by show ((_ : Option (Int × Tx)) :: bst W wt n k).length = _; rw [List.length_cons, bst_len W wt n k]
theorem bst_drop (W : Nat → List Tx) (wt : Tx → Int) (n k : Nat) : ∀ j, (bst W wt n (j + k)).drop j = bst W wt n k
  | 0 => by rw [Nat.zero_add]; rfl
  | j + 1 => by
    have : j + 1 + k = (j + k) + 1 := by omega
    rw [this]
    show ((_ : Option (Int × Tx)) :: bst W wt n (j + k)).drop (j + 1) = _
    rw [List.drop_succ_cons, bst_drop W wt n k j]
theorem bst_get (W : Nat → List Tx) (wt : Tx → Int) {n k : Nat} (hk : k ≤ n) (i : Nat) : bt W wt n (n - k + i) = (bst W wt n k).getD i none := by
  have := bst_drop W wt n k (n - k)
  rw [Nat.sub_add_cancel hk] at this
  unfold bt
  rw [← this, List.getD_eq_getElem?_getD, List.getD_eq_getElem?_getD, List.getElem?_drop]
theorem bt_last (W : Nat → List Tx) (wt : Tx → Int) (n : Nat) : bt W wt n n = some (0, []) := by
  have := bst_get W wt (n := n) (k := 0) (Nat.zero_le n) 0
  rw [Nat.sub_zero, Nat.add_zero] at this
  rw [this]
  rfl
theorem best1_congr {ws : List Tx} {g g' : Tx → Option Int} (h : ∀ w ∈ ws, g w = g' w) : best1 ws g = best1 ws g' := by
  unfold best1
  generalize (none : Option (Int × Tx)) = acc
  induction ws generalizing acc with
  | nil => rfl
  | cons a r ih =>
    rw [List.foldl_cons, List.foldl_cons, ih (fun w hw => h w (by simp [hw]))]
    congr 1
    unfold bstep
    rw [h a (by simp)]
theorem bt_at (W : Nat → List Tx) (wt : Tx → Int) {n p : Nat} (hW : ∀ w ∈ W p, 1 ≤ w.length) (hp : p < n) : bt W wt n p = best1 (W p) fun w => (bt W wt n (p + w.length)).map fun b => wt w + b.1 := by
  obtain ⟨k, hk⟩ : ∃ k, n = p + k + 1 := ⟨n - p - 1, by omega⟩
  have e := bst_get W wt (n := n) (k := k + 1) (by omega) 0
  have e1 : n - (k + 1) + 0 = p := by omega
  rw [e1] at e
  rw [e]
  have e2 : n - (k + 1) = p := by omega
  show (best1 (W (n - (k + 1))) (fun w => ((bst W wt n k).getD (w.length - 1) none).map fun b => wt w + b.1) :: bst W wt n k).getD 0 none = _
  rw [e2]
  show best1 (W p) _ = _
  apply best1_congr
  intro w hw
  rw [← bst_get W wt (n := n) (k := k) (by omega) (w.length - 1)]
  have := hW w hw
  congr 2
  omega
theorem bstep_some {g : Tx → Option Int} {acc : Option (Int × Tx)} {w : Tx} {b : Int × Tx} (h : bstep g acc w = some b) : acc = some b ∨ (b.2 = w ∧ g w = some b.1) := by
  unfold bstep at h
  split at h
  · exact .inl h
  · rename_i t e
    split at h
    · cases h; exact .inr ⟨rfl, e⟩
    · split at h
      · cases h; exact .inr ⟨rfl, e⟩
      · exact .inl h
theorem fold_some {g : Tx → Option Int} : ∀ {ws : List Tx} {acc : Option (Int × Tx)} {b : Int × Tx}, ws.foldl (bstep g) acc = some b → acc = some b ∨ (b.2 ∈ ws ∧ g b.2 = some b.1)
  | [], acc, b, h => .inl h
  | w :: r, acc, b, h => by
    rw [List.foldl_cons] at h
    rcases fold_some h with h | ⟨h1, h2⟩
    · rcases bstep_some h with h | ⟨rfl, h2⟩
      · exact .inl h
      · exact .inr ⟨by simp, h2⟩
    · exact .inr ⟨by simp [h1], h2⟩
theorem best1_some {ws : List Tx} {g : Tx → Option Int} {b : Int × Tx} (h : best1 ws g = some b) : b.2 ∈ ws ∧ g b.2 = some b.1 := by
  rcases fold_some h with h | h
  · cases h
  · exact h
/-- a cut's worth -/
def wOf (wt : Tx → Int) (ws : List Tx) : Int := (ws.map wt).sum
theorem bt_path (hW : ∀ p, ∀ w ∈ W p, 1 ≤ w.length ∧ p + w.length ≤ n) : ∀ f p b, p ≤ n → n ≤ p + f → bt W wt n p = some b → IsPath W n p (bcut (bt W wt n) n f p) ∧ wOf wt (bcut (bt W wt n) n f p) = b.1
  | 0, p, b, h1, h2, h => by
    have : p = n := by omega
    subst this
    rw [bt_last] at h
    cases h
    exact ⟨rfl, rfl⟩
  | f + 1, p, b, h1, h2, h => by
    unfold bcut
    by_cases e : p < n
    · rw [if_pos e, h]
      rw [bt_at W wt (fun w hw => (hW p w hw).1) e] at h
      obtain ⟨g1, g2⟩ := best1_some h
      have := hW p _ g1
      cases e3 : bt W wt n (p + b.2.length) with
      | none => rw [e3] at g2; cases g2
      | some c =>
        rw [e3] at g2
        have g2 : wt b.2 + c.1 = b.1 := Option.some.inj g2
        obtain ⟨q1, q2⟩ := bt_path hW f _ c (by omega) (by omega) e3
        refine ⟨⟨e, g1, q1⟩, ?_⟩
        show wOf wt (b.2 :: _) = _
        unfold wOf at q2 ⊢
        rw [List.map_cons, List.sum_cons, q2, g2]
    · rw [if_neg e]
      have : p = n := by omega
      subst this
      rw [bt_last] at h
      cases h
      exact ⟨rfl, rfl⟩
theorem bcut_len (B : Nat → Option (Int × Tx)) (n : Nat) : ∀ f p, (bcut B n f p).length ≤ f
  | 0, _ => Nat.zero_le _
  | f + 1, p => by
    unfold bcut
    split
    · split
      · rw [List.length_cons]
        exact Nat.succ_le_succ (bcut_len B n f _)
      · simp
    · simp
/-- if the paper holds, no cut is worth more -/
theorem holds_path {ps : List (Option Int)} (hW : ∀ p, ∀ w ∈ W p, 1 ≤ w.length ∧ p + w.length ≤ n) (hh : ∀ p, p < n → holdsAt W wt ps p = true) : ∀ ws p a, ps.getD p none = some a → IsPath W n p ws → ∃ b, ps.getD n none = some b ∧ a + wOf wt ws ≤ b
  | [], p, a, h1, h2 => by
    have h2 : p = n := h2
    subst h2
    exact ⟨a, h1, by unfold wOf; simp⟩
  | w :: r, p, a, h1, ⟨h2, h3, h4⟩ => by
    have hp := hh p h2
    unfold holdsAt at hp
    rw [h1] at hp
    have hp := List.all_eq_true.mp hp w h3
    cases e : ps.getD (p + w.length) none with
    | none => rw [e] at hp; cases hp
    | some c =>
      rw [e] at hp
      have hp : a + wt w ≤ c := of_decide_eq_true hp
      obtain ⟨b, g1, g2⟩ := holds_path hW hh r _ c e h4
      refine ⟨b, g1, ?_⟩
      unfold wOf at g2 ⊢
      rw [List.map_cons, List.sum_cons]
      omega
end
end PD

set_option pp.maxSteps 1500
namespace PD
open PySem PySem.Spec PyProof.Rows L2
def p_worths_of : PTS :=
  (pSeq (pIf (pTest (pOp2 (bEq id) (pVar 1) (pC (.str [102, 101, 119, 101, 115, 116])))) (pRet (pCall cDict (pCons (pLc (pItL (pVar 0)) (tgT [2, 3]) pYes (pTup (pCons (pVar 2) (pCons (pNeg (pC (.int 1))) pNil))) [2, 3]) pNil)))
  pNext)
  (pRet (pCall cDict (pCons (pVar 0) pNil))))
abbrev N_worths_of : List Str := ["book", "way", "word", "weight"]
def p_best_on : PTS :=
  (pSeq (pSetD 3 (pCalls (callP pre_worths_of f_worths_of) (pCons (pVar 0) (pCons (pVar 2) pNil))))
  (pSeq (pSet 4 (pDictLenT 1 [.int 0, .str []]))
  (pSeq (pWip [5, 6, 7, 8] (pFor (pRng3 (pCons (pOp2 bSub (pCall cLen (pCons (pVar 1) pNil)) (pC (.int 1))) (pCons (pNeg (pC (.int 1))) (pCons (pNeg (pC (.int 1))) pNil)))) (tgN 5) (pGw [5, 6, 7, 8] [5, 6, 7, 8] (pWip [6, 7, 8] (pFor (pItL (pCalls (callP pre_words_from f_words_from) (pCons (pVar 3) (pCons (pVar 1) (pCons (pVar 5) pNil))))) (tgN 6) (pGw [6, 7, 8] [6, 7, 8] (pSeq (pSetD 7 (pOp2 bAdd (pVar 5) (pCall cLen (pCons (pVar 6) pNil))))
  (pIf (pTest (pOp2 (bIn id) (pVar 7) (pVar 4))) (pSeq (pSetD 8 (pOp2 bAdd (pOp2 bIx (pVar 3) (pVar 6)) (pOp2 bIx (pOp2 bIx (pVar 4) (pVar 7)) (pC (.int 0)))))
  (pIf (pOr (pTest (pOp2 (bIn not) (pVar 5) (pVar 4))) (pTest (pOp2 bGt (pVar 8) (pOp2 bIx (pOp2 bIx (pVar 4) (pVar 5)) (pC (.int 0)))))) (pSetIx (pVar 4) (pVar 5) (pTup (pCons (pVar 8) (pCons (pVar 6) pNil))))
  pNext))
  pNext))))))))
  (pRet (pVar 4)))))
abbrev N_best_on : List Str := ["book", "text", "way", "worths", "found", "place", "word", "end", "worth"]
def p_best_cut : PTS :=
  (pSeq (pDrop (pCalls (callP pre_need_text f_need_text) (pCons (pVar 1) pNil)))
  (pSeq (pSetD 3 (pCalls (callP pre_best_on f_best_on) (pCons (pVar 0) (pCons (pVar 1) (pCons (pVar 2) pNil)))))
  (pSeq (pIf (pTest (pOp2 (bIn not) (pC (.int 0)) (pVar 3))) (pRet (pC .non))
  pNext)
  (pSeq (pSet 4 (pLst pNil))
  (pSeq (pSet 5 (pC (.int 0)))
  (pSeq (pWhile (pTest (pOp2 bLt (pVar 5) (pCall cLen (pCons (pVar 1) pNil)))) (pGw [] [5] (pSeq (pDrop (pLM lAppend (pVar 4) (pCons (pOp2 bIx (pOp2 bIx (pVar 3) (pVar 5)) (pC (.int 1))) pNil)))
  (pAug 5 (fun i j => i + j) (pCall cLen (pCons (pOp2 bIx (pVar 4) (pNeg (pC (.int 1)))) pNil))))))
  (pFz 4 (pRet (pTup (pCons (pOp2 bIx (pOp2 bIx (pVar 3) (pC (.int 0))) (pC (.int 0))) (pCons (pVar 4) pNil)))))))))))
abbrev N_best_cut : List Str := ["book", "text", "way", "best", "cut", "place"]
def p_best_paper : PTS :=
  (pSeq (pDrop (pCalls (callP pre_need_text f_need_text) (pCons (pVar 1) pNil)))
  (pSeq (pSetD 3 (pCalls (callP pre_worths_of f_worths_of) (pCons (pVar 0) (pCons (pVar 2) pNil))))
  (pSeq (pSet 4 (pOp2 bMul (pLst (pCons (pC .non) pNil)) (pOp2 bAdd (pCall cLen (pCons (pVar 1) pNil)) (pC (.int 1)))))
  (pSeq (pSetIx (pVar 4) (pC (.int 0)) (pC (.int 0)))
  (pSeq (pWip [5, 6, 7, 8] (pFor (pRng1 (pCons (pCall cLen (pCons (pVar 1) pNil)) pNil)) (tgN 5) (pGw [5, 6, 7, 8] [5, 6, 7, 8] (pIf (pTest (pOp2 (bIs not) (pOp2 bIx (pVar 4) (pVar 5)) (pC .non))) (pWip [6, 7, 8] (pFor (pItL (pCalls (callP pre_words_from f_words_from) (pCons (pVar 3) (pCons (pVar 1) (pCons (pVar 5) pNil))))) (tgN 6) (pGw [6, 7, 8] [6, 7, 8] (pSeq (pSetD 7 (pOp2 bAdd (pVar 5) (pCall cLen (pCons (pVar 6) pNil))))
  (pSeq (pSetD 8 (pOp2 bAdd (pOp2 bIx (pVar 4) (pVar 5)) (pOp2 bIx (pVar 3) (pVar 6))))
  (pIf (pOr (pTest (pOp2 (bIs id) (pOp2 bIx (pVar 4) (pVar 7)) (pC .non))) (pTest (pOp2 bGt (pVar 8) (pOp2 bIx (pVar 4) (pVar 7))))) (pSetIx (pVar 4) (pVar 7) (pVar 8))
  pNext))))))
  pNext))))
  (pSeq (pIf (pTest (pOp2 (bIs id) (pOp2 bIx (pVar 4) (pNeg (pC (.int 1)))) (pC .non))) (pRet (pC .non))
  pNext)
  (pRet (pVar 4))))))))
abbrev N_best_paper : List Str := ["book", "text", "way", "worths", "paper", "place", "word", "end", "worth"]
def p_best_shows : PTS :=
  (pSeq (pDrop (pCalls (callP pre_need_text f_need_text) (pCons (pVar 1) pNil)))
  (pSeq (pIf (pOr (pTest (pOp2 (bEq not) (pCall cLen (pCons (pVar 4) pNil)) (pOp2 bAdd (pCall cLen (pCons (pVar 1) pNil)) (pC (.int 1))))) (pOr (pTest (pOp2 (bEq not) (pOp2 bIx (pVar 4) (pC (.int 0))) (pC (.int 0)))) (pTest (pOp2 (bEq not) (pOp2 bIx (pVar 4) (pNeg (pC (.int 1)))) (pVar 3))))) (pRet (pC (.bl false)))
  pNext)
  (pSeq (pSetD 5 (pCalls (callP pre_worths_of f_worths_of) (pCons (pVar 0) (pCons (pVar 2) pNil))))
  (pSeq (pWip [6, 7, 8] (pFor (pRng1 (pCons (pCall cLen (pCons (pVar 1) pNil)) pNil)) (tgN 6) (pGw [6, 7, 8] [6, 7, 8] (pIf (pTest (pOp2 (bIs not) (pOp2 bIx (pVar 4) (pVar 6)) (pC .non))) (pWip [7, 8] (pFor (pItL (pCalls (callP pre_words_from f_words_from) (pCons (pVar 5) (pCons (pVar 1) (pCons (pVar 6) pNil))))) (tgN 7) (pGw [7, 8] [7, 8] (pSeq (pSetD 8 (pOp2 bIx (pVar 4) (pOp2 bAdd (pVar 6) (pCall cLen (pCons (pVar 7) pNil)))))
  (pIf (pOr (pTest (pOp2 (bIs id) (pVar 8) (pC .non))) (pTest (pOp2 bLt (pVar 8) (pOp2 bAdd (pOp2 bIx (pVar 4) (pVar 6)) (pOp2 bIx (pVar 5) (pVar 7)))))) (pRet (pC (.bl false)))
  pNext)))))
  pNext))))
  (pRet (pC (.bl true)))))))
abbrev N_best_shows : List Str := ["book", "text", "way", "worth", "paper", "worths", "place", "word", "end"]
def p__law_worths : PTS :=
  (pSeq (pIf (pTest (pOp2 (bEq id) (pVar 1) (pC (.str [104, 101, 97, 118, 105, 101, 115, 116])))) (pRet (pCall cDict (pCons (pVar 0) pNil)))
  pNext)
  (pRet (pCall cDict (pCons (pLc (pItL (pVar 0)) (tgT [2, 3]) pYes (pTup (pCons (pVar 2) (pCons (pNeg (pC (.int 1))) pNil))) [2, 3]) pNil))))
abbrev N__law_worths : List Str := ["book", "way", "word", "weight"]
local macro_rules | `(tactic| walk_at "rd") => `(tactic| simp (config := { decide := true }) only [pSeq_then, pNext, pNever, pBreak, pCont, pDrop, pRet, pRetN, pIf, pSet, pSetD, setD, setP, setO, pVar, pC, pOp2, pTest, pAnd, pOr, pNot, pAndV, pOrV, pNotV, pIfE, pNil, pCons, pLst, pTup, pDict0, pDictC, pDM, dUpdate, pCall, pIsiP, pM1, bJoin, pNo, pPart, pSl, pSortI, pLM, lAppend, lInsert, lExtend, lPopAt, lPop, lReverse, lClear, pLc_eq, pFor_eq, pWhile_eq, pWip, pGw, wipeS, trunc, truncE, pItL, pItS, pRng1, pRng2, pRng3, pVarF, pAug, pDictLen, pLr3, pNeg, pCalls, callP, pEnum, pStepS, pRevL, bStarts, bEnds, pAugK, pItK, pFz, pPickL, cSum, cAbs, pre_need_text, f_need_text, pre_words_from, f_words_from, pre_worths_of, f_worths_of, pre_best_on, f_best_on, txs_map, pOrT, pDictLenT, merge_dictOf, filter_none, callN, toAR, R.fz, view, views, dats, O.toD, AR.toR, bAdd, bSub, bMul, bDiv, bMod, bPow, bEq, bCmp, bIn, bIs, bIx, bSl, cLen, cMin2, cMax2, cInt, cList, cDict, cSorted, plainD, isiB, tyn, pAsg, tgT, tgU, setsA, pSetIx, storeO, kdOf, pChain, cmpD, pYes, pTru, truD, Hand, tgN, wipeA, fnAbs, envA, ownsA, retA, conP, conN, List.set, List.set_cons_zero, List.set_cons_succ, List.set_nil, List.getElem?_cons_zero, List.getElem?_cons_succ, List.getElem?_nil, List.length_cons, List.length_nil, List.cons_append, List.nil_append, List.append_nil, List.replicate, Nat.reduceSub, Nat.reduceAdd, Nat.zero_add, Int.zero_add, true_and, and_true, reduceIte, Bool.false_eq_true, id, Bool.not_true, Bool.not_false, decide_true, decide_false, List.nodup_nil, List.nodup_cons, List.not_mem_nil, not_false_eq_true, List.take_zero, List.take_succ_cons, List.take_nil, List.map_cons, List.map_nil])
local macro_rules | `(tactic| walk_at "sc") => `(tactic| first | with_reducible assumption | omega | assumption | with_reducible rfl | exact True.intro | exact okD_ints | exact okD_nil | exact okD_int _ | exact okD_bl _ | exact okD_non | exact okD_sm (by assumption) | with_reducible exact cmulR (by omega) (by omega) | with_reducible exact cmulL (by omega) (by omega) | with_reducible exact cdivw (by omega) (by omega) | (with_reducible refine smallI_of ?_ ?_ <;> first | omega | (simp only [List.length_map, List.length_append, List.length_range, List.length_replicate, List.length_cons, List.length_nil, List.length_take, List.length_drop]; omega)) | (unfold CPow; decide) | (simp only [List.length_map, List.length_append, List.length_range, List.length_replicate, List.length_cons, List.length_nil, List.length_take, List.length_drop]; omega) | (refine ⟨?_, ?_⟩ <;> walk_at "sc"))
local macro_rules | `(tactic| walk_at "go") => `(tactic| repeat (first | walk_at "rd" | with_reducible refine then_go ?_ | (refine And.intro (by walk_at "sc") ?_) | (refine dict_of (by assumption) ?_) | rw [deq_self (by walk_at "sc")] | walk_at "sc"))
local macro_rules | `(tactic| walk_at "rt") => `(tactic| try walk_at "rd")
theorem Rows.wrows {ds : List D} (h : Rows ds) (way : Tx) : Rows (wRows ds way) := by
  obtain ⟨ps, rfl, hw, hn⟩ := h
  unfold wRows
  split
  · refine ⟨ps.map fun p => (p.1, -1), ?_, ?_, ?_⟩
    · unfold rowsD
      rw [List.map_map, List.map_map]
      rfl
    · rintro p hp
      obtain ⟨q, hq, rfl⟩ := List.mem_map.mp hp
      exact hw q hq
    · rw [List.map_map]
      exact hn
  · exact ⟨ps, rfl, hw, hn⟩
theorem wKV_has {ds : List D} (h : Rows ds) (way w : Tx) : hasK (wKV ds way) (.inr w) = hasK (dictOf ds) (.inr w) := by
  obtain ⟨ps, rfl, hw, hn⟩ := h
  unfold wKV wRows
  split
  · have e : (rowsD ps).map (fun x => pairD ((unpair x).1, .int (-1))) = rowsD (ps.map fun p => (p.1, -1)) := by
      unfold rowsD
      rw [List.map_map, List.map_map]
      rfl
    have e2 : ((ps.map fun p => (p.1, (-1 : Int))).map (·.1)) = ps.map (·.1) := by rw [List.map_map]; rfl
    rw [e, hasK_rows (by rw [e2]; exact hn), hasK_rows hn, e2]
  · rfl
theorem wds_way {ds : List D} (h : Rows ds) (way l : Tx) : wordsFrom (wKV ds way) l = wordsFrom (dictOf ds) l := by
  funext p
  unfold wordsFrom
  congr 1
  funext x
  exact wKV_has h way x
theorem wKV_get {ds : List D} (h : Rows ds) {way w : Tx} (hk : hasK (wKV ds way) (.inr w) = true) : getK (wKV ds way) (.inr w) = some (.int (wtD (wKV ds way) w)) := by
  obtain ⟨ps, e, hw, hn⟩ := h.wrows way
  unfold wKV at hk ⊢
  rw [e] at hk ⊢
  rw [hasK_rows hn] at hk
  obtain ⟨p, hp, rfl⟩ := List.mem_map.mp (of_decide_eq_true hk)
  unfold wtD
  rw [dictOf_rows hn, getK_words hn hp]
theorem fewW (ps : List (Tx × Int)) : (ps.map fun p => D.tup [.str p.1, .int (-1)]) = wRows (rowsD ps) fewT := by
  unfold wRows rowsD
  rw [if_pos rfl, List.map_map]
  rfl
theorem r_worths_of : Law p_worths_of N_worths_of 2 (conP pre_worths_of f_worths_of) := fun ars h => by
  have h : pre_worths_of ars := h
  unfold pre_worths_of at h
  split at h
  · rename_i ds way _
    obtain ⟨hR, hds, hw⟩ := h
    have hP := hR.pairs
    refine ⟨rfl, ?_⟩
    unfold p_worths_of endsA
    rcases hw with rfl | rfl
    · have hB := (hR.wrows fewT).pairs
      obtain ⟨ps, rfl, hw, hn⟩ := hR
      have hl : ps.length ≤ 1000 := by
        unfold rowsD at hds
        rwa [List.length_map] at hds
      walk_at "go"
      refine lc_each (xs := ps) (f := fun p => .tup [.str p.1, .int p.2]) (fun p => .tup [.str p.1, .int (-1)]) trivial (by omega) (fun p hp => ⟨_, rfl, fun J hJ => ?_⟩) ?_
      · walk_at "go"
      · walk_at "rd"
        rw [fewW]
        refine ⟨_, hB, ?_⟩
        walk_at "rd"
        rfl
    · walk_at "go"
      rfl
  · exact h.elim
theorem r__law_worths : Law p__law_worths N__law_worths 2 (conP pre__law_worths f__law_worths) := fun ars h => by
  have h : pre_worths_of ars := h
  unfold pre_worths_of at h
  split at h
  · rename_i ds way _
    obtain ⟨hR, hds, hw⟩ := h
    have hP := hR.pairs
    refine ⟨rfl, ?_⟩
    unfold p__law_worths endsA
    rcases hw with rfl | rfl
    · have hB := (hR.wrows fewT).pairs
      obtain ⟨ps, rfl, hw, hn⟩ := hR
      have hl : ps.length ≤ 1000 := by
        unfold rowsD at hds
        rwa [List.length_map] at hds
      walk_at "go"
      refine lc_each (xs := ps) (f := fun p => .tup [.str p.1, .int p.2]) (fun p => .tup [.str p.1, .int (-1)]) trivial (by omega) (fun p hp => ⟨_, rfl, fun J hJ => ?_⟩) ?_
      · walk_at "go"
      · walk_at "rd"
        rw [fewW]
        refine ⟨_, hB, ?_⟩
        walk_at "rd"
        rfl
    · walk_at "go"
      rfl
  · exact h.elim
/-! ### the dict of the best -/
theorem bstD_get (W : Nat → List Tx) (wt : Tx → Int) {n k q : Nat} (hk : k ≤ n) (h1 : n - k ≤ q) (h2 : q ≤ n) : getK (bstD W wt n k) (.inl (q : Int)) = (bt W wt n q).map bTup := by
  unfold bstD getK
  induction k with
  | zero =>
    have : q = n := by omega
    subst this
    show (List.find? _ ((List.range 1).filterMap _)).map _ = _
    rw [show List.range 1 = [0] from rfl, List.filterMap_cons, Nat.sub_zero, bt_last]
    show (List.find? _ [_]).map _ = _
    rw [List.find?_cons, decide_eq_true (by rfl)]
    rfl
  | succ k ih =>
    rw [List.range_succ, List.filterMap_append, List.find?_append]
    by_cases e : n - k ≤ q
    · have ih := ih (by omega) e
      cases f : List.find? (fun p => decide (p.1 = Sum.inl (q : Int))) ((List.range (k + 1)).filterMap fun j => (bt W wt n (n - j)).map fun b => ((.inl ((n - j : Nat) : Int), bTup b) : Kd × D)) with
      | some v => rw [f] at ih; rw [Option.some_or]; exact ih
      | none =>
        rw [f] at ih
        rw [Option.none_or, List.filterMap_cons]
        cases e4 : bt W wt n (n - (k + 1)) with
        | none => exact ih
        | some b =>
          show (List.find? _ [_]).map _ = _
          rw [List.find?_cons, decide_eq_false (by intro z; have z := Sum.inl.inj z; omega)]
          exact ih
    · have eq : n - (k + 1) = q := by omega
      have hn : List.find? (fun p => decide (p.1 = Sum.inl (q : Int))) ((List.range (k + 1)).filterMap fun j => (bt W wt n (n - j)).map fun b => ((.inl ((n - j : Nat) : Int), bTup b) : Kd × D)) = none := by
        rw [List.find?_eq_none]
        intro x hx hd
        obtain ⟨j, hj, e⟩ := List.mem_filterMap.mp hx
        obtain ⟨b, _, rfl⟩ := Option.map_eq_some_iff.mp e
        have := List.mem_range.mp hj
        have := Sum.inl.inj (of_decide_eq_true hd)
        omega
      rw [hn, Option.none_or, List.filterMap_cons, eq]
      cases e4 : bt W wt n q with
      | none => rfl
      | some b =>
        show (List.find? _ [_]).map _ = _
        rw [List.find?_cons, decide_eq_true (by rfl)]
        rfl
theorem bstD_has (W : Nat → List Tx) (wt : Tx → Int) {n k q : Nat} (hk : k ≤ n) (h1 : n - k ≤ q) (h2 : q ≤ n) : hasK (bstD W wt n k) (.inl (q : Int)) = (bt W wt n q).isSome := by
  rw [hasK_get, bstD_get W wt hk h1 h2, Option.isSome_map]
theorem bstD_no (W : Nat → List Tx) (wt : Tx → Int) {n k q : Nat} (hk : k ≤ n) (h1 : q < n - k) : hasK (bstD W wt n k) (.inl (q : Int)) = false := by
  unfold hasK bstD
  rw [List.any_eq_false]
  intro x hx e
  obtain ⟨j, hj, e2⟩ := List.mem_filterMap.mp hx
  obtain ⟨b, _, rfl⟩ := Option.map_eq_some_iff.mp e2
  have := List.mem_range.mp hj
  have := Sum.inl.inj (of_decide_eq_true e)
  omega
theorem bstD_len (W : Nat → List Tx) (wt : Tx → Int) (n k : Nat) : (bstD W wt n k).length ≤ k + 1 := by
  unfold bstD
  refine Nat.le_trans (List.length_filterMap_le _ _) ?_
  rw [List.length_range]
  exact Nat.le_refl _
/-- the dict while the words of place m are looked at -/
def bstM (W : Nat → List Tx) (wt : Tx → Int) (n k m : Nat) (acc : Option (Int × Tx)) : List (Kd × D) := bstD W wt n k ++ (match acc with
  | none => []
  | some b => [(.inl (m : Int), bTup b)])
theorem bstM_last (W : Nat → List Tx) (wt : Tx → Int) {n k m : Nat} (hm : n = k + m + 1) : bstM W wt n k m (bt W wt n m) = bstD W wt n (k + 1) := by
  unfold bstM
  show _ = (List.range (k + 1 + 1)).filterMap _
  rw [List.range_succ, List.filterMap_append]
  congr 1
  have : n - (k + 1) = m := by omega
  rw [List.filterMap_cons, this]
  cases bt W wt n m <;> rfl
theorem bstM_getE (W : Nat → List Tx) (wt : Tx → Int) {n k m q : Nat} {acc : Option (Int × Tx)} (hm : n = k + m + 1) (h1 : m < q) (h2 : q ≤ n) : getK (bstM W wt n k m acc) (.inl (q : Int)) = (bt W wt n q).map bTup := by
  unfold bstM getK
  rw [List.find?_append, ← bstD_get W wt (n := n) (k := k) (by omega) (by omega) h2]
  unfold getK
  have : (List.find? (fun p => decide (p.1 = Sum.inl (q : Int))) (match acc with
    | none => []
    | some b => [((.inl (m : Int), bTup b) : Kd × D)])) = none := by
    cases acc with
    | none => rfl
    | some b =>
      show List.find? _ [_] = none
      rw [List.find?_cons, decide_eq_false (by intro z; have z := Sum.inl.inj z; omega)]
      rfl
  rw [this, Option.or_none]
theorem bstM_getM (W : Nat → List Tx) (wt : Tx → Int) {n k m : Nat} {acc : Option (Int × Tx)} (hm : n = k + m + 1) : getK (bstM W wt n k m acc) (.inl (m : Int)) = acc.map bTup := by
  unfold bstM getK
  have h0 := bstD_no W wt (n := n) (k := k) (q := m) (by omega) (by omega)
  rw [hasK_get] at h0
  unfold getK at h0
  rw [Option.isSome_map] at h0
  have h0 : List.find? (fun p => decide (p.1 = Sum.inl (m : Int))) (bstD W wt n k) = none := by
    cases e : List.find? (fun p => decide (p.1 = Sum.inl (m : Int))) (bstD W wt n k) with
    | none => rfl
    | some v => rw [e] at h0; cases h0
  rw [List.find?_append, h0, Option.none_or]
  cases acc with
  | none => rfl
  | some b =>
    show (List.find? _ [_]).map _ = _
    rw [List.find?_cons, decide_eq_true (by rfl)]
    rfl
theorem bstM_put (W : Nat → List Tx) (wt : Tx → Int) {n k m : Nat} {acc : Option (Int × Tx)} (hm : n = k + m + 1) (b : Int × Tx) : putD (bstM W wt n k m acc) (.inl (m : Int)) (bTup b) = bstM W wt n k m (some b) := by
  have h0 := bstD_no W wt (n := n) (k := k) (q := m) (by omega) (by omega)
  unfold putD
  rw [hasK_get, bstM_getM W wt hm, Option.isSome_map]
  cases acc with
  | none =>
    rw [if_neg (by decide)]
    unfold bstM
    rw [List.append_nil]
  | some c =>
    rw [if_pos (by rfl)]
    unfold bstM
    rw [List.map_append]
    congr 1
    · unfold hasK at h0
      rw [List.any_eq_false] at h0
      conv => rhs; rw [← List.map_id (bstD W wt n k)]
      apply List.map_congr_left
      intro p hp
      have := h0 p hp
      rw [if_neg (fun z => this (decide_eq_true z))]
      rfl
    · show [if _ then _ else _] = _
      rw [if_pos rfl]
theorem bstD_zero (W : Nat → List Tx) (wt : Tx → Int) (n : Nat) : bstD W wt n 0 = [(.inl (n : Int), bTup (0, []))] := by
  unfold bstD
  rw [show List.range (0 + 1) = [0] from rfl, List.filterMap_cons, Nat.sub_zero, bt_last]
  rfl
theorem bstep_none {g : Tx → Option Int} {acc : Option (Int × Tx)} {w : Tx} (h : g w = none) : bstep g acc w = acc := by
  unfold bstep; rw [h]
theorem bstep_first {g : Tx → Option Int} {w : Tx} {t : Int} (h : g w = some t) : bstep g none w = some (t, w) := by
  unfold bstep; rw [h]
theorem bstep_more {g : Tx → Option Int} {b : Int × Tx} {w : Tx} {t : Int} (h : g w = some t) (hb : b.1 < t) : bstep g (some b) w = some (t, w) := by
  unfold bstep; rw [h]; exact if_pos hb
theorem bstep_less {g : Tx → Option Int} {b : Int × Tx} {w : Tx} {t : Int} (h : g w = some t) (hb : ¬ b.1 < t) : bstep g (some b) w = some b := by
  unfold bstep; rw [h]; exact if_neg hb
theorem r_best_on : Law p_best_on N_best_on 3 (conP pre_best_on f_best_on) := fun ars h => by
  have h : pre_best_on ars := h
  unfold pre_best_on at h
  split at h
  · rename_i ds l way _
    obtain ⟨hR, hds, hw, hll⟩ := h
    refine ⟨rfl, ?_⟩
    unfold p_best_on endsA
    walk_at "go"
    have hrn : ((l.length : Int) - 1 - -1).toNat = l.length := by omega
    refine ⟨l.length, by have := RgC.neg (i := (l.length : Int) - 1) (j := -1) (by omega) (by omega) (by omega) (by omega); rwa [hrn] at this, ?_⟩
    have hget : ∀ p, ∀ w ∈ wordsFrom (wKV ds way) l p, getK (wKV ds way) (.inr w) = some (.int (wtD (wKV ds way) w)) := fun p w hw => wKV_get hR (words_in.mp hw).2.2.2.2
    have hwd : ∀ p, ∀ w ∈ wordsFrom (wKV ds way) l p, 1 ≤ w.length ∧ p + w.length ≤ l.length ∧ w.length ≤ 12 := wds_eq (wKV ds way) l
    have hwl : ∀ p, (wordsFrom (wKV ds way) l p).length ≤ 12 := fun p => words_len (kvs := wKV ds way) (l := l) p
    generalize hKV : wKV ds way = KV at hget hwd hwl ⊢
    generalize hW : wordsFrom KV l = W at hget hwd hwl ⊢
    generalize hwt : wtD KV = wt at hget ⊢
    refine for_any (fun k A => A = ⟨[AV.d (.lst ds), AV.d (.str l), AV.d (.str way), AV.d (.dic KV), AV.p 0, .un, .un, .un, .un], [some (.dic (bstD W wt l.length k))]⟩) ?_ (by intros; trivial) ?_ ?_
    · rw [bstD_zero]
      rfl
    · rintro k A hk rfl
      refine ⟨_, rfl, fun J Kb hJ hK => ?_⟩
      obtain ⟨m, hm⟩ : ∃ m, l.length = k + m + 1 := ⟨l.length - k - 1, by omega⟩
      have e : (l.length : Int) - 1 + (k : Int) * -1 = (m : Int) := by omega
      rw [e]
      walk_at "go"
      rw [Int.toNat_natCast, hW]
      refine for_over (fun pre A => A = ⟨[AV.d (.lst ds), AV.d (.str l), AV.d (.str way), AV.d (.dic KV), AV.p 0, .d (.int m), .un, .un, .un], [some (.dic (bstM W wt l.length k m (pre.foldl (bstep fun w => (bt W wt l.length (m + w.length)).map fun b => wt w + b.1) none)))]⟩) ?_ (by intros; trivial) ?_ ?_
      · unfold bstM
        rw [List.foldl_nil, List.append_nil]
      · rintro pre w post A e2 rfl
        refine ⟨_, rfl, fun J2 Kb2 hJ2 hK2 => ?_⟩
        have hw : w ∈ W m := by rw [e2]; simp
        obtain ⟨h1, h2, h3⟩ := hwd m w hw
        have ea : (m : Int) + (w.length : Int) = ((m + w.length : Nat) : Int) := by omega
        rw [List.foldl_append, List.foldl_cons, List.foldl_nil] at hJ2
        generalize pre.foldl (bstep fun w => (bt W wt l.length (m + w.length)).map fun b => wt w + b.1) none = acc at hJ2 ⊢
        walk_at "go"
        rw [ea, hasK_get, bstM_getE W wt hm (by omega) (by omega)]
        cases eb : bt W wt l.length (m + w.length) with
        | none =>
          rw [bstep_none (by show Option.map _ (bt W wt l.length (m + w.length)) = none; rw [eb]; rfl)] at hJ2
          rw [if_neg (by simp)]
          exact hJ2 _ rfl
        | some b =>
          have hg : (fun w => (bt W wt l.length (m + w.length)).map fun b => wt w + b.1) w = some (wt w + b.1) := by
            show Option.map _ (bt W wt l.length (m + w.length)) = _
            rw [eb]
            rfl
          rw [if_pos (by simp)]
          refine ⟨_, hget m w hw, _, rfl, ?_⟩
          dsimp only [bTup]
          refine ⟨_, rfl, ?_⟩
          walk_at "go"
          rw [hasK_get, bstM_getM W wt hm]
          have put : putD (bstM W wt l.length k m acc) (.inl (m : Int)) (.tup [.int (wt w + b.1), .str w]) = _ := bstM_put W wt (acc := acc) hm (wt w + b.1, w)
          have hlen : (bstM W wt l.length k m acc).length ≤ 1000002 := by
            unfold bstM
            rw [List.length_append]
            have := bstD_len W wt l.length k
            cases acc <;> simp <;> omega
          cases acc with
          | none =>
            rw [bstep_first hg] at hJ2
            walk_at "go"
            rw [put]
            exact hJ2 _ rfl
          | some c =>
            by_cases hc : c.1 < wt w + b.1
            · rw [bstep_more hg hc] at hJ2
              rw [if_neg (by simp)]
              refine ⟨_, rfl, ?_⟩
              dsimp only [bTup]
              refine ⟨_, rfl, ?_⟩
              walk_at "go"
              rw [if_pos (decide_eq_true hc), put]
              exact ⟨by omega, hJ2 _ rfl⟩
            · rw [bstep_less hg hc] at hJ2
              rw [if_neg (by simp)]
              refine ⟨_, rfl, ?_⟩
              dsimp only [bTup]
              refine ⟨_, rfl, ?_⟩
              walk_at "go"
              rw [if_neg (fun z => hc (of_decide_eq_true z))]
              exact hJ2 _ rfl
      · rintro A rfl
        have hat : (W m).foldl (bstep fun w => (bt W wt l.length (m + w.length)).map fun b => wt w + b.1) none = bt W wt l.length m := (bt_at W wt (fun w hw => (hwd m w hw).1) (by omega)).symm
        rw [hat, bstM_last W wt hm]
        exact hJ _ rfl
    · rintro A rfl
      walk_at "go"
      exact ⟨_, rfl, rfl⟩
  · exact h.elim
theorem bcut_fuel {B : Nat → Option (Int × Tx)} {n : Nat} (hB : ∀ p b, p < n → B p = some b → 1 ≤ b.2.length) : ∀ f g p, n ≤ p + f → n ≤ p + g → bcut B n f p = bcut B n g p
  | 0, 0, _, _, _ => rfl
  | 0, g + 1, p, h1, h2 => by
    show [] = _
    unfold bcut
    rw [if_neg (by omega)]
  | f + 1, 0, p, h1, h2 => by
    show _ = []
    unfold bcut
    rw [if_neg (by omega)]
  | f + 1, g + 1, p, h1, h2 => by
    unfold bcut
    by_cases e : p < n
    · rw [if_pos e, if_pos e]
      cases eb : B p with
      | none => rfl
      | some b =>
        have := hB p b e eb
        show _ :: _ = _ :: _
        rw [bcut_fuel hB f g _ (by omega) (by omega)]
    · rw [if_neg e, if_neg e]
theorem bcut_step {B : Nat → Option (Int × Tx)} {n p : Nat} {b : Int × Tx} (hB : ∀ p b, p < n → B p = some b → 1 ≤ b.2.length) (hp : p < n) (e : B p = some b) : bcut B n n p = b.2 :: bcut B n n (p + b.2.length) := by
  have := hB p b hp e
  have h1 : bcut B n ((n - 1) + 1) p = b.2 :: bcut B n (n - 1) (p + b.2.length) := by
    simp only [bcut, if_pos hp, e]
  rw [bcut_fuel hB n ((n - 1) + 1) p (by omega) (by omega), h1, bcut_fuel hB (n - 1) n _ (by omega) (by omega)]
theorem r_best_cut : Law p_best_cut N_best_cut 3 (conP pre_best_cut f_best_cut) := fun ars h => by
  have h : pre_best_cut ars := h
  unfold pre_best_cut at h
  split at h
  · rename_i ds l way _
    obtain ⟨hR, hds, hl, hw, hll⟩ := h
    refine ⟨rfl, ?_⟩
    unfold p_best_cut endsA
    walk_at "go"
    have hwd : ∀ p, ∀ w ∈ wordsFrom (wKV ds way) l p, 1 ≤ w.length ∧ p + w.length ≤ l.length := fun p w hw => ⟨(wds_eq (wKV ds way) l p w hw).1, (wds_eq (wKV ds way) l p w hw).2.1⟩
    have hf : f_best_cut [AR.d (D.lst ds), AR.d (D.str l), AR.d (D.str way)] = .d (bestCut ds l way) := rfl
    rw [hf]
    unfold bestCut
    generalize wordsFrom (wKV ds way) l = W at hwd ⊢
    generalize wtD (wKV ds way) = wt at ⊢
    have hg0 := bstD_get W wt (n := l.length) (k := l.length) (q := 0) (Nat.le_refl _) (by omega) (by omega)
    have hh0 := bstD_has W wt (n := l.length) (k := l.length) (q := 0) (Nat.le_refl _) (by omega) (by omega)
    rw [show ((0 : Nat) : Int) = 0 from rfl] at hg0 hh0
    rw [hh0]
    cases e0 : bt W wt l.length 0 with
    | none =>
      walk_at "go"
    | some b0 =>
      rw [e0] at hg0
      have hg0 : getK (bstD W wt l.length l.length) (Sum.inl 0) = some (bTup b0) := hg0
      walk_at "go"
      have hB : ∀ p b, p < l.length → bt W wt l.length p = some b → b.2 ∈ W p := fun p b hp e => by
        rw [bt_at W wt (fun w hw => (hwd p w hw).1) hp] at e
        exact (best1_some e).1
      have hBn : ∀ p b, p < l.length → bt W wt l.length p = some b → ∃ c, bt W wt l.length (p + b.2.length) = some c := fun p b hp e => by
        rw [bt_at W wt (fun w hw => (hwd p w hw).1) hp] at e
        have e := (best1_some e).2
        cases e2 : bt W wt l.length (p + b.2.length) with
        | none => rw [e2] at e; cases e
        | some c => exact ⟨c, rfl⟩
      refine while_run (fun m A => ∃ (p : Nat) (cut : List Tx) (b : Int × Tx), A = ⟨[AV.d (.lst ds), AV.d (.str l), AV.d (.str way), AV.d (.dic (bstD W wt l.length l.length)), AV.p 0, AV.d (.int p)], [some (.lst (cut.map .str))]⟩ ∧ p ≤ l.length ∧ bt W wt l.length p = some b ∧ cut ++ bcut (bt W wt l.length) l.length l.length p = bcut (bt W wt l.length) l.length l.length 0 ∧ cut.length ≤ p ∧ m = l.length - p)
        l.length ⟨0, [], b0, rfl, Nat.zero_le _, e0, rfl, Nat.zero_le _, rfl⟩ ?_
      rintro m A ⟨p, cut, b, rfl, hp, hb, hc, hcl, rfl⟩ J Kb hJ hK
      walk_at "go"
      split
      · rename_i hlt
        have hlt : p < l.length := by have := of_decide_eq_true hlt; omega
        have hw := hwd p b.2 (hB p b hlt hb)
        have hgp : getK (bstD W wt l.length l.length) (.inl (p : Int)) = some (bTup b) := by rw [bstD_get W wt (Nat.le_refl _) (by omega) (by omega), hb]; rfl
        obtain ⟨c, hbc⟩ := hBn p b hlt hb
        have hst : bcut (bt W wt l.length) l.length l.length p = b.2 :: bcut (bt W wt l.length) l.length l.length (p + b.2.length) := by
          exact bcut_step (fun q d hq e => (hwd q _ (hB q d hq e)).1) hlt hb
        rw [hst] at hc
        refine ⟨_, hgp, ?_⟩
        dsimp only [bTup]
        refine ⟨_, rfl, ?_⟩
        have ec : (cut.map D.str) ++ [.str b.2] = (cut ++ [b.2]).map D.str := by rw [List.map_append]; rfl
        walk_at "go"
        rw [ec]
        refine ⟨.str b.2, by rw [← ec]; exact at_last _ _, ?_⟩
        walk_at "go"
        refine hJ (l.length - (p + b.2.length)) _ (by omega) ⟨p + b.2.length, cut ++ [b.2], c, by rw [Int.natCast_add], by omega, hbc, by rw [List.append_assoc]; exact hc, by rw [List.length_append, List.length_singleton]; omega, rfl⟩
      · rename_i hlt
        have hle : p = l.length := by
          have : ¬ ((p : Int) < l.length) := fun z => hlt (decide_eq_true z)
          omega
        have hnil : bcut (bt W wt l.length) l.length l.length p = [] := by
          cases hf : l.length with
          | zero => rfl
          | succ f => unfold bcut; rw [if_neg (by omega)]
        rw [hnil, List.append_nil] at hc
        subst hc
        walk_at "go"
        rw [hg0]
        refine ⟨_, rfl, ?_⟩
        dsimp only [bTup]
        refine ⟨_, rfl, ?_⟩
        walk_at "go"
  · exact h.elim
theorem papW_len (wt : Tx → Int) (p : Nat) (L : List (Option Int)) (w : Tx) : (papW wt p L w).length = L.length := by
  unfold papW
  split
  · rfl
  · split
    · rw [List.length_set]
    · split
      · rw [List.length_set]
      · rfl
theorem papW_at (wt : Tx → Int) {p : Nat} (L : List (Option Int)) {w : Tx} (hw : 1 ≤ w.length) : (papW wt p L w).getD p none = L.getD p none := by
  have h : ∀ x, (L.set (p + w.length) x).getD p none = L.getD p none := fun x => by
    rw [List.getD_eq_getElem?_getD, List.getD_eq_getElem?_getD, List.getElem?_set_ne (by omega)]
  unfold papW
  split
  · rfl
  · split
    · exact h _
    · split
      · exact h _
      · rfl
theorem papF_len (wt : Tx → Int) (p : Nat) : ∀ (ws : List Tx) (L : List (Option Int)), (ws.foldl (papW wt p) L).length = L.length
  | [], L => rfl
  | w :: r, L => by rw [List.foldl_cons, papF_len wt p r, papW_len]
theorem papF_at (wt : Tx → Int) (p : Nat) : ∀ (ws : List Tx) (L : List (Option Int)), (∀ w ∈ ws, 1 ≤ w.length) → (ws.foldl (papW wt p) L).getD p none = L.getD p none
  | [], L, _ => rfl
  | w :: r, L, h => by rw [List.foldl_cons, papF_at wt p r _ (fun v hv => h v (by simp [hv])), papW_at wt L (h w (by simp))]
theorem pap_len (W : Nat → List Tx) (wt : Tx → Int) (n : Nat) : ∀ k, (pap W wt n k).length = n + 1
  | 0 => by show (_ :: List.replicate n none).length = _; rw [List.length_cons, List.length_replicate]
  | k + 1 => by
    show (papS W wt k (pap W wt n k)).length = _
    unfold papS
    split
    · rw [papF_len, pap_len W wt n k]
    · exact pap_len W wt n k
theorem atI_m1 {α : Type} {xs : List α} {f : α → D} {n : Nat} (z : α) (h : xs.length = n + 1) : atI (xs.map f) (-1) = some (f (xs.getD n z)) := by
  have h1 : xs ≠ [] := fun e => by rw [e] at h; cases h
  obtain ⟨r, x, rfl⟩ : ∃ r x, xs = r ++ [x] := ⟨xs.dropLast, xs.getLast h1, (List.dropLast_concat_getLast h1).symm⟩
  have : r.length = n := by rw [List.length_append, List.length_singleton] at h; omega
  rw [List.map_append]
  show atI (_ ++ [f x]) (-1) = _
  rw [at_last]
  subst this
  rw [List.getD_eq_getElem?_getD, List.getElem?_append_right (Nat.le_refl _), Nat.sub_self]
  rfl
theorem r_best_shows : Law p_best_shows N_best_shows 5 (conP pre_best_shows f_best_shows) := fun ars h => by
  have h : pre_best_shows ars := h
  unfold pre_best_shows at h
  split at h
  · rename_i ds l way worth xs _
    obtain ⟨hR, hds, hl, hw, hll, ⟨ps, rfl⟩, hps⟩ := h
    refine ⟨rfl, ?_⟩
    have hf : f_best_shows [AR.d (.lst ds), AR.d (.str l), AR.d (.str way), AR.d (.int worth), AR.d (.lst (ps.map optD))] = .d (.bl (shows (wordsFrom (wKV ds way) l) (wtD (wKV ds way)) l.length worth ps)) := by
      show AR.d (.bl (shows _ _ _ _ ((ps.map optD).map unopt))) = _
      rw [unopt_map]
    show p_best_shows _ _
    unfold p_best_shows endsA
    walk_at "go"
    rw [hf]
    have hget : ∀ p, ∀ w ∈ wordsFrom (wKV ds way) l p, getK (wKV ds way) (.inr w) = some (.int (wtD (wKV ds way) w)) := fun p w hw => wKV_get hR (words_in.mp hw).2.2.2.2
    have hwd : ∀ p, ∀ w ∈ wordsFrom (wKV ds way) l p, 1 ≤ w.length ∧ p + w.length ≤ l.length ∧ w.length ≤ 12 := wds_eq (wKV ds way) l
    have hwl : ∀ p, (wordsFrom (wKV ds way) l p).length ≤ 12 := fun p => words_len (kvs := wKV ds way) (l := l) p
    rw [List.length_map]
    by_cases hlen : ps.length = l.length + 1
    · rw [if_neg (by rw [decide_eq_true (by omega)]; decide)]
      have a0 := atI_of (xs := ps) (f := optD) (i := 0) none (by omega) (by omega)
      rw [show (0 : Int).toNat = 0 from rfl] at a0
      refine ⟨_, a0, ?_⟩
      have am := atI_m1 (xs := ps) (f := optD) none hlen
      unfold shows
      rw [decide_eq_true hlen]
      cases h0 : ps.getD 0 none with
      | none =>
        dsimp only [optD]
        walk_at "go"
        rfl
      | some z0 =>
        dsimp only [optD]
        walk_at "rt"
        by_cases hz : z0 = 0
        · subst hz
          rw [if_neg (by decide)]
          refine ⟨_, am, ?_⟩
          cases hn : ps.getD l.length none with
          | none =>
            dsimp only [optD]
            walk_at "go"
            rw [decide_eq_false (by intro z; cases z)]
            rfl
          | some z1 =>
            dsimp only [optD]
            walk_at "rt"
            by_cases hz : z1 = worth
            · subst hz
              rw [if_neg (by rw [decide_eq_true rfl]; decide)]
              generalize hKV : wKV ds way = KV at hget hwd hwl ⊢
              generalize hW : wordsFrom KV l = W at hget hwd hwl ⊢
              generalize hwt : wtD KV = wt at hget ⊢
              generalize hq : (_ && (List.range l.length).all (holdsAt W wt ps)) = q
              have hq : q = (List.range l.length).all (holdsAt W wt ps) := by rw [← hq, decide_eq_true (p := some z1 = some z1) rfl]; rfl
              walk_at "go"
              rw [hKV]
              refine for_rng0 (fun k A => A = ⟨[AV.d (.lst ds), AV.d (.str l), AV.d (.str way), AV.d (.int z1), AV.d (.lst (ps.map optD)), AV.d (.dic KV), .un, .un, .un], []⟩ ∧ ∀ p, p < k → holdsAt W wt ps p = true) ⟨rfl, fun p hp => by omega⟩ (by intros; trivial) ?_ ?_
              · rintro k A hk ⟨rfl, hall⟩
                have hk : k < l.length := by omega
                refine ⟨_, rfl, fun J Kb hJ hK => ?_⟩
                have ak := atI_of (xs := ps) (f := optD) (i := (k : Int)) none (by omega) (by omega)
                rw [Int.toNat_natCast] at ak
                walk_at "go"
                refine ⟨_, ak, ?_⟩
                cases hk0 : ps.getD k none with
                | none =>
                  dsimp only [optD]
                  walk_at "go"
                  refine hJ _ ⟨rfl, fun p hp => ?_⟩
                  by_cases e : p < k
                  · exact hall p e
                  · have : p = k := by omega
                    subst this
                    unfold holdsAt
                    rw [hk0]
                | some a =>
                  rw [hk0] at ak
                  dsimp only [optD] at ak ⊢
                  walk_at "go"
                  rw [Int.toNat_natCast, hW]
                  refine for_over (fun pre A => A = ⟨[AV.d (.lst ds), AV.d (.str l), AV.d (.str way), AV.d (.int z1), AV.d (.lst (ps.map optD)), AV.d (.dic KV), .d (.int k), .un, .un], []⟩ ∧ ∀ w ∈ pre, ∃ b, ps.getD (k + w.length) none = some b ∧ a + wt w ≤ b) ⟨rfl, fun w hw => by simp at hw⟩ (by intros; trivial) ?_ ?_
                  · rintro pre w post A e2 ⟨rfl, hpre⟩
                    refine ⟨_, rfl, fun J2 Kb2 hJ2 hK2 => ?_⟩
                    have hw : w ∈ W k := by rw [e2]; simp
                    obtain ⟨h1, h2, h3⟩ := hwd k w hw
                    have ea : (k : Int) + (w.length : Int) = ((k + w.length : Nat) : Int) := by omega
                    have aw := atI_of (xs := ps) (f := optD) (i := ((k + w.length : Nat) : Int)) none (by omega) (by omega)
                    rw [Int.toNat_natCast] at aw
                    have hbad : (∀ b, ps.getD (k + w.length) none = some b → ¬ a + wt w ≤ b) → q = false := fun hb => by
                      rw [hq, Bool.eq_false_iff]
                      intro ht
                      have := List.all_eq_true.mp ht k (List.mem_range.mpr hk)
                      unfold holdsAt at this
                      rw [hk0] at this
                      have := List.all_eq_true.mp this w hw
                      cases e5 : ps.getD (k + w.length) none with
                      | none => rw [e5] at this; cases this
                      | some b => rw [e5] at this; exact hb b e5 (of_decide_eq_true this)
                    walk_at "go"
                    rw [ea]
                    refine ⟨_, aw, ?_⟩
                    cases hb0 : ps.getD (k + w.length) none with
                    | none =>
                      rw [hb0] at hbad
                      dsimp only [optD]
                      walk_at "go"
                      rw [hbad (fun b e => nomatch e)]
                    | some b =>
                      rw [hb0] at hbad
                      dsimp only [optD]
                      walk_at "go"
                      refine ⟨_, ak, _, hget k w hw, ?_⟩
                      walk_at "rd"
                      by_cases hc : b < a + wt w
                      · rw [if_pos (decide_eq_true hc), hbad (fun c e => by cases e; omega)]
                      · rw [if_neg (fun z => hc (of_decide_eq_true z))]
                        refine hJ2 _ ⟨rfl, fun v hv => ?_⟩
                        rcases List.mem_append.mp hv with hv | hv
                        · exact hpre v hv
                        · rw [List.mem_singleton.mp hv]
                          exact ⟨b, hb0, by omega⟩
                  · rintro A ⟨rfl, hpre⟩
                    refine hJ _ ⟨rfl, fun p hp => ?_⟩
                    by_cases e : p < k
                    · exact hall p e
                    · have : p = k := by omega
                      subst this
                      unfold holdsAt
                      rw [hk0]
                      refine List.all_eq_true.mpr fun w hw => ?_
                      obtain ⟨b, g1, g2⟩ := hpre w hw
                      rw [g1]
                      exact decide_eq_true g2
              · rintro A ⟨rfl, hall⟩
                walk_at "go"
                rw [hq]
                congr 2
                exact (List.all_eq_true.mpr fun p hp => hall p (by have := List.mem_range.mp hp; omega)).symm
            · rw [if_pos (by rw [decide_eq_false hz]; rfl), decide_eq_false (p := some z1 = some worth) (fun z => hz (Option.some.inj z))]
              simp
        · rw [if_pos (by rw [decide_eq_false hz]; rfl), decide_eq_false (p := some z0 = some 0) (fun z => hz (Option.some.inj z))]
          simp
    · rw [if_pos (by rw [decide_eq_false (by omega)]; rfl)]
      unfold shows
      rw [decide_eq_false hlen]
      rfl
  · exact h.elim
theorem optD_non (x : Option Int) : optD x = .non ↔ x = none := by cases x <;> simp [optD]
theorem r_best_paper : Law p_best_paper N_best_paper 3 (conP pre_best_paper f_best_paper) := fun ars h => by
  have h : pre_best_paper ars := h
  unfold pre_best_paper at h
  split at h
  · rename_i ds l way _
    obtain ⟨hR, hds, hl, hw, hll⟩ := h
    refine ⟨rfl, ?_⟩
    have hget : ∀ p, ∀ w ∈ wordsFrom (wKV ds way) l p, getK (wKV ds way) (.inr w) = some (.int (wtD (wKV ds way) w)) := fun p w hw => wKV_get hR (words_in.mp hw).2.2.2.2
    have hwd : ∀ p, ∀ w ∈ wordsFrom (wKV ds way) l p, 1 ≤ w.length ∧ p + w.length ≤ l.length ∧ w.length ≤ 12 := wds_eq (wKV ds way) l
    have hwl : ∀ p, (wordsFrom (wKV ds way) l p).length ≤ 12 := fun p => words_len (kvs := wKV ds way) (l := l) p
    have hf : f_best_paper [AR.d (.lst ds), AR.d (.str l), AR.d (.str way)] = if (pap (wordsFrom (wKV ds way) l) (wtD (wKV ds way)) l.length l.length).getD l.length none = none then .d .non else .o (.lst ((pap (wordsFrom (wKV ds way) l) (wtD (wKV ds way)) l.length l.length).map optD)) := rfl
    show p_best_paper _ _
    unfold p_best_paper endsA
    walk_at "go"
    rw [rep_flat]
    have e1 : ((l.length : Int) + 1).toNat = l.length + 1 := by omega
    rw [e1, hf]
    generalize hKV : wKV ds way = KV at hget hwd hwl ⊢
    generalize hW : wordsFrom KV l = W at hget hwd hwl ⊢
    generalize hwt : wtD KV = wt at hget ⊢
    have h0 : (List.replicate (l.length + 1) D.non).set 0 (.int 0) = (pap W wt l.length 0).map optD := by
      show _ = (some 0 :: List.replicate l.length none).map optD
      rw [List.replicate_succ, List.map_cons, List.map_replicate]
      rfl
    refine ⟨0, ixN_of (by omega) (by rw [List.length_replicate]; omega), ?_⟩
    rw [h0]
    walk_at "go"
    refine for_rng0 (fun k A => A = ⟨[AV.d (.lst ds), AV.d (.str l), AV.d (.str way), AV.d (.dic KV), AV.p 0, .un, .un, .un, .un], [some (.lst ((pap W wt l.length k).map optD))]⟩) rfl (by intros; trivial) ?_ ?_
    · rintro k A hk rfl
      have hk : k < l.length := by omega
      refine ⟨_, rfl, fun J Kb hJ hK => ?_⟩
      have hln := pap_len W wt l.length k
      have hS : pap W wt l.length (k + 1) = papS W wt k (pap W wt l.length k) := rfl
      rw [hS] at hJ
      unfold papS at hJ
      generalize pap W wt l.length k = L0 at hln hJ ⊢
      have ak := atI_of (xs := L0) (f := optD) (i := (k : Int)) none (by omega) (by omega)
      rw [Int.toNat_natCast] at ak
      walk_at "go"
      refine ⟨_, ak, ?_⟩
      cases hk0 : L0.getD k none with
      | none =>
        rw [hk0, if_neg (by decide)] at hJ
        dsimp only [optD]
        walk_at "go"
        exact hJ _ rfl
      | some a =>
        rw [hk0, if_pos (by rfl)] at hJ
        dsimp only [optD]
        walk_at "go"
        rw [Int.toNat_natCast, hW]
        refine for_over (fun pre A => A = ⟨[AV.d (.lst ds), AV.d (.str l), AV.d (.str way), AV.d (.dic KV), AV.p 0, .d (.int k), .un, .un, .un], [some (.lst ((pre.foldl (papW wt k) L0).map optD))]⟩) rfl (by intros; trivial) ?_ ?_
        · rintro pre w post A e2 rfl
          refine ⟨_, rfl, fun J2 Kb2 hJ2 hK2 => ?_⟩
          have hw : w ∈ W k := by rw [e2]; simp
          obtain ⟨h1, h2, h3⟩ := hwd k w hw
          have ea : (k : Int) + (w.length : Int) = ((k + w.length : Nat) : Int) := by omega
          rw [List.foldl_append, List.foldl_cons, List.foldl_nil] at hJ2
          have hL1 := papF_len wt k pre L0
          have hL2 := papF_at wt k pre L0 (fun v hv => (hwd k v (by rw [e2]; simp [hv])).1)
          rw [hk0] at hL2
          generalize pre.foldl (papW wt k) L0 = L at hL1 hL2 hJ2 ⊢
          have hL1 : L.length = l.length + 1 := hL1.trans hln
          have bk := atI_of (xs := L) (f := optD) (i := (k : Int)) none (by omega) (by omega)
          rw [Int.toNat_natCast, hL2] at bk
          have bw := atI_of (xs := L) (f := optD) (i := ((k + w.length : Nat) : Int)) none (by omega) (by omega)
          rw [Int.toNat_natCast] at bw
          unfold papW at hJ2
          rw [hL2] at hJ2
          dsimp only at hJ2
          walk_at "go"
          rw [ea]
          refine ⟨_, bk, _, hget k w hw, ?_⟩
          dsimp only [optD]
          walk_at "go"
          refine ⟨_, bw, ?_⟩
          have hix : ixN (L.map optD).length ((k + w.length : Nat) : Int) = some (k + w.length) := by
            have := ixN_of (n := (L.map optD).length) (i := ((k + w.length : Nat) : Int)) (by omega) (by rw [List.length_map]; omega)
            rwa [Int.toNat_natCast] at this
          have hset : (L.map optD).set (k + w.length) (.int (a + wt w)) = (L.set (k + w.length) (some (a + wt w))).map optD := by
            rw [List.map_set]
            rfl
          cases hb : L.getD (k + w.length) none with
          | none =>
            rw [hb] at hJ2
            dsimp only [optD]
            walk_at "go"
            refine ⟨_, hix, ?_⟩
            rw [hset]
            exact hJ2 _ rfl
          | some b =>
            rw [hb] at hJ2 bw
            dsimp only [optD] at bw hJ2 ⊢
            walk_at "go"
            refine ⟨_, bw, ?_⟩
            walk_at "rt"
            by_cases hc : b < a + wt w
            · rw [if_pos hc] at hJ2
              rw [if_pos (decide_eq_true hc)]
              refine ⟨_, hix, ?_⟩
              rw [hset]
              exact hJ2 _ rfl
            · rw [if_neg hc] at hJ2
              rw [if_neg (fun z => hc (of_decide_eq_true z))]
              exact hJ2 _ rfl
        · rintro A rfl
          exact hJ _ rfl
    · rintro A rfl
      have am := atI_m1 (xs := pap W wt l.length l.length) (f := optD) none (pap_len W wt l.length l.length)
      walk_at "go"
      rw [Int.toNat_natCast]
      refine ⟨_, am, ?_⟩
      cases hn : (pap W wt l.length l.length).getD l.length none with
      | none =>
        dsimp only [optD]
        walk_at "go"
      | some z =>
        dsimp only [optD]
        walk_at "go"
        exact ⟨_, rfl, rfl⟩
  · exact h.elim
end PD

/-! Q: no cut is better than the best, and none as good goes ahead of it. -/
namespace PD
open PySem PySem.Spec PyProof.Rows L2
theorem bstep_ge {g : Tx → Option Int} {acc : Option (Int × Tx)} {w : Tx} {c : Int × Tx} (h : acc = some c) : ∃ c', bstep g acc w = some c' ∧ c.1 ≤ c'.1 := by
  subst h
  unfold bstep
  cases e : g w with
  | none => exact ⟨c, rfl, Int.le_refl _⟩
  | some t =>
    by_cases hc : c.1 < t
    · exact ⟨(t, w), if_pos hc, Int.le_of_lt hc⟩
    · exact ⟨c, if_neg hc, Int.le_refl _⟩
theorem bstep_gt {g : Tx → Option Int} {acc : Option (Int × Tx)} {w : Tx} {t : Int} (h : g w = some t) : ∃ c', bstep g acc w = some c' ∧ t ≤ c'.1 := by
  unfold bstep
  rw [h]
  cases acc with
  | none => exact ⟨_, rfl, Int.le_refl _⟩
  | some c =>
    by_cases hc : c.1 < t
    · exact ⟨(t, w), if_pos hc, Int.le_refl _⟩
    · exact ⟨c, if_neg hc, by omega⟩
theorem fold_ge {g : Tx → Option Int} : ∀ {ws : List Tx} {acc : Option (Int × Tx)} {c : Int × Tx}, acc = some c → ∃ c', ws.foldl (bstep g) acc = some c' ∧ c.1 ≤ c'.1
  | [], acc, c, h => ⟨c, h, Int.le_refl _⟩
  | w :: r, acc, c, h => by
    obtain ⟨d, h1, h2⟩ := bstep_ge (g := g) (w := w) h
    obtain ⟨e, h3, h4⟩ := fold_ge (g := g) (ws := r) h1
    exact ⟨e, h3, Int.le_trans h2 h4⟩
theorem fold_gt {g : Tx → Option Int} : ∀ {ws : List Tx} {acc : Option (Int × Tx)} {w : Tx} {t : Int}, w ∈ ws → g w = some t → ∃ c', ws.foldl (bstep g) acc = some c' ∧ t ≤ c'.1
  | w :: r, acc, v, t, h, e => by
    rcases List.mem_cons.mp h with rfl | h
    · obtain ⟨d, h1, h2⟩ := bstep_gt (acc := acc) e
      obtain ⟨f, h3, h4⟩ := fold_ge (g := g) (ws := r) h1
      exact ⟨f, h3, Int.le_trans h2 h4⟩
    · exact fold_gt (ws := r) h e
theorem best1_max {ws : List Tx} {g : Tx → Option Int} {w : Tx} {t : Int} (h : w ∈ ws) (e : g w = some t) : ∃ b, best1 ws g = some b ∧ t ≤ b.1 := fold_gt h e
theorem fold_first {g : Tx → Option Int} : ∀ {ws : List Tx} {acc : Option (Int × Tx)} {b : Int × Tx}, ws.foldl (bstep g) acc = some b → acc = some b ∨ ∃ pre post, ws = pre ++ b.2 :: post ∧ (∀ v ∈ pre, ∀ t, g v = some t → t < b.1) ∧ ∀ c, acc = some c → c.1 < b.1
  | [], acc, b, h => .inl h
  | w :: r, acc, b, h => by
    rw [List.foldl_cons] at h
    rcases fold_first h with h | ⟨pre, post, h1, h2, h3⟩
    · unfold bstep at h
      cases e : g w with
      | none => rw [e] at h; exact .inl h
      | some t =>
        rw [e] at h
        cases acc with
        | none =>
          have h : some (t, w) = some b := h
          cases h
          exact .inr ⟨[], r, rfl, fun v hv => by simp at hv, fun c hc => nomatch hc⟩
        | some c =>
          have h : (if c.1 < t then some (t, w) else some c) = some b := h
          by_cases hc : c.1 < t
          · rw [if_pos hc] at h
            cases h
            exact .inr ⟨[], r, rfl, fun v hv => by simp at hv, fun d hd => by cases hd; exact hc⟩
          · rw [if_neg hc] at h
            exact .inl h
    · refine .inr ⟨w :: pre, post, by rw [h1]; rfl, fun v hv t ht => ?_, fun c hc => ?_⟩
      · rcases List.mem_cons.mp hv with rfl | hv
        · obtain ⟨d, q1, q2⟩ := bstep_gt (acc := acc) ht
          have := h3 d q1
          omega
        · exact h2 v hv t ht
      · obtain ⟨d, q1, q2⟩ := bstep_ge (g := g) (w := w) hc
        have := h3 d q1
        omega
theorem best1_first {ws : List Tx} {g : Tx → Option Int} {b : Int × Tx} (hp : ws.Pairwise fun a b => a.length < b.length) (h : best1 ws g = some b) {w : Tx} (hw : w ∈ ws) (e : g w = some b.1) : w = b.2 ∨ b.2.length < w.length := by
  rcases fold_first h with h | ⟨pre, post, h1, h2, h3⟩
  · cases h
  · rw [h1] at hw hp
    rw [List.pairwise_append] at hp
    rcases List.mem_append.mp hw with hw | hw
    · have := h2 w hw _ e
      omega
    · rcases List.mem_cons.mp hw with hw | hw
      · exact .inl hw
      · exact .inr ((List.pairwise_cons.mp hp.2.1).1 w hw)
section
variable {W : Nat → List Tx} {wt : Tx → Int} {n : Nat}
theorem bt_max (hW : ∀ p, ∀ w ∈ W p, 1 ≤ w.length ∧ p + w.length ≤ n) : ∀ ws p, IsPath W n p ws → ∃ b, bt W wt n p = some b ∧ wOf wt ws ≤ b.1
  | [], p, h => by
    have h : p = n := h
    subst h
    exact ⟨_, bt_last W wt p, Int.le_refl 0⟩
  | w :: r, p, ⟨h1, h2, h3⟩ => by
    obtain ⟨c, e1, e2⟩ := bt_max hW r _ h3
    obtain ⟨b, q1, q2⟩ := best1_max (g := fun w => (bt W wt n (p + w.length)).map fun b => wt w + b.1) (t := wt w + c.1) h2 (by show Option.map _ (bt W wt n (p + w.length)) = _; rw [e1]; rfl)
    refine ⟨b, by rw [bt_at W wt (fun w hw => (hW p w hw).1) h1]; exact q1, ?_⟩
    unfold wOf at e2 ⊢
    rw [List.map_cons, List.sum_cons]
    omega
theorem sum_sub {g : Tx → Int} (hg : ∀ w, 0 ≤ g w) : ∀ (ws : List Tx) (q q' : Tx → Bool), (∀ w ∈ ws, q w = true → q' w = true) → ((ws.filter q).map g).sum ≤ ((ws.filter q').map g).sum
  | [], _, _, _ => Int.le_refl _
  | w :: r, q, q', h => by
    have ih := sum_sub hg r q q' fun v hv => h v (by simp [hv])
    have hw := h w (by simp)
    have := hg w
    rw [List.filter_cons, List.filter_cons]
    cases e : q w
    · cases e' : q' w
      · exact ih
      · show ((r.filter q).map g).sum ≤ ((w :: r.filter q').map g).sum
        rw [List.map_cons, List.sum_cons]
        omega
    · rw [hw e]
      show ((w :: r.filter q).map g).sum ≤ ((w :: r.filter q').map g).sum
      rw [List.map_cons, List.sum_cons, List.map_cons, List.sum_cons]
      omega
theorem sum_put {g : Tx → Int} (hg : ∀ w, 0 ≤ g w) : ∀ (ws : List Tx) (q q' : Tx → Bool) (v : Tx), (∀ w ∈ ws, q w = true → q' w = true) → v ∈ ws → q v = false → q' v = true → ((ws.filter q).map g).sum + g v ≤ ((ws.filter q').map g).sum
  | w :: r, q, q', v, h, hv, h1, h2 => by
    have hw := h w (by simp)
    have hgw := hg w
    rw [List.filter_cons, List.filter_cons]
    by_cases ev : v = w
    · subst ev
      rw [h1, h2]
      have := sum_sub hg r q q' fun u hu => h u (by simp [hu])
      show ((r.filter q).map g).sum + g v ≤ ((v :: r.filter q').map g).sum
      rw [List.map_cons, List.sum_cons]
      omega
    · have hv : v ∈ r := by
        rcases List.mem_cons.mp hv with hv | hv
        · exact absurd hv ev
        · exact hv
      have ih := sum_put hg r q q' v (fun u hu => h u (by simp [hu])) hv h1 h2
      cases e : q w
      · cases e' : q' w
        · exact ih
        · show ((r.filter q).map g).sum + g v ≤ ((w :: r.filter q').map g).sum
          rw [List.map_cons, List.sum_cons]
          omega
      · rw [hw e]
        show ((w :: r.filter q).map g).sum + g v ≤ ((w :: r.filter q').map g).sum
        rw [List.map_cons, List.sum_cons, List.map_cons, List.sum_cons]
        omega
theorem numb_lt (hW : ∀ p, ∀ w ∈ W p, 1 ≤ w.length ∧ p + w.length ≤ n) : ∀ ws p, IsPath W n p ws → numb W n p ws < nw W n p
  | [], p, h => by
    have h : p = n := h
    subst h
    rw [nw_last]
    exact Int.one_pos
  | w :: r, p, ⟨h1, h2, h3⟩ => by
    have ih := numb_lt hW r _ h3
    have hnn : ∀ v : Tx, 0 ≤ nw W n (p + v.length) := fun v => nw_pos (fun p w hw => (hW p w hw).1) _
    have := sum_put (g := fun o => nw W n (p + o.length)) hnn (W p) (fun o => decide (o.length < w.length)) (fun _ => true) w (fun _ _ _ => rfl) h2 (by simp) rfl
    rw [nw_at W (fun w hw => (hW p w hw).1) h1]
    have e : (W p).filter (fun _ => true) = W p := List.filter_eq_self.mpr fun _ _ => rfl
    rw [e] at this
    show _ + numb W n (p + w.length) r < _
    have this : (((W p).filter fun o => decide (o.length < w.length)).map fun o => nw W n (p + o.length)).sum + nw W n (p + w.length) ≤ _ := this
    omega
theorem numb_nonneg (hn : ∀ p, 0 ≤ nw W n p) : ∀ ws p, 0 ≤ numb W n p ws
  | [], _ => Int.le_refl 0
  | w :: r, p => by
    have ih := numb_nonneg hn r (p + w.length)
    have := sum_nonneg (xs := ((W p).filter fun o => decide (o.length < w.length)).map fun o => nw W n (p + o.length)) fun x hx => by
      obtain ⟨o, _, rfl⟩ := List.mem_map.mp hx
      exact hn _
    show 0 ≤ _ + numb W n (p + w.length) r
    omega
/-- none as good as the best goes ahead of it -/
theorem bt_tie (hW : ∀ p, ∀ w ∈ W p, 1 ≤ w.length ∧ p + w.length ≤ n) (hp : ∀ p, (W p).Pairwise fun a b => a.length < b.length) : ∀ ws p b, IsPath W n p ws → bt W wt n p = some b → wOf wt ws = b.1 → numb W n p (bcut (bt W wt n) n n p) ≤ numb W n p ws
  | [], p, b, h, e, _ => by
    have h : p = n := h
    subst h
    have : bcut (bt W wt p) p p p = [] := by
      cases p with
      | zero => rfl
      | succ f => unfold bcut; rw [if_neg (by omega)]
    rw [this]
    exact Int.le_refl _
  | w :: r, p, b, ⟨h1, h2, h3⟩, e, hw => by
    have hB : ∀ p b, p < n → bt W wt n p = some b → 1 ≤ b.2.length := fun p b hp e => by
      rw [bt_at W wt (fun w hw => (hW p w hw).1) hp] at e
      exact (hW p _ (best1_some e).1).1
    obtain ⟨c, e1, e2⟩ := bt_max hW (wt := wt) r _ h3
    have e3 := id e
    rw [bt_at W wt (fun w hw => (hW p w hw).1) h1] at e3
    have hgw : (fun w => (bt W wt n (p + w.length)).map fun b => wt w + b.1) w = some (wt w + c.1) := by
      show Option.map _ (bt W wt n (p + w.length)) = _
      rw [e1]
      rfl
    obtain ⟨b', q1, q2⟩ := best1_max (g := fun w => (bt W wt n (p + w.length)).map fun b => wt w + b.1) h2 hgw
    have : b' = b := Option.some.inj (q1.symm.trans e3)
    subst this
    unfold wOf at hw e2
    rw [List.map_cons, List.sum_cons] at hw
    have hrc : (r.map wt).sum = c.1 := by omega
    have hgw : (fun w => (bt W wt n (p + w.length)).map fun b => wt w + b.1) w = some b'.1 := by rw [hgw]; congr 1; omega
    rw [bcut_step hB h1 e]
    show (((W p).filter fun o => decide (o.length < b'.2.length)).map fun o => nw W n (p + o.length)).sum + numb W n (p + b'.2.length) _ ≤ (((W p).filter fun o => decide (o.length < w.length)).map fun o => nw W n (p + o.length)).sum + numb W n (p + w.length) r
    rcases best1_first (hp p) e3 h2 hgw with rfl | hlt
    · have := bt_tie hW hp r _ c h3 e1 hrc
      omega
    · obtain ⟨g1, g2⟩ := best1_some e3
      cases e4 : bt W wt n (p + b'.2.length) with
      | none =>
        have g2 : Option.map _ (bt W wt n (p + b'.2.length)) = _ := g2
        rw [e4] at g2
        cases g2
      | some d =>
        have hb2 := hW p _ g1
        obtain ⟨k1, k2⟩ := bt_path hW n _ d hb2.2 (by omega) e4
        have := numb_lt hW _ _ k1
        have hnn : ∀ v : Tx, 0 ≤ nw W n (p + v.length) := fun v => nw_pos (fun p w hw => (hW p w hw).1) _
        have hs := sum_put (g := fun o => nw W n (p + o.length)) hnn (W p) (fun o => decide (o.length < b'.2.length)) (fun o => decide (o.length < w.length)) b'.2 (fun o _ ho => decide_eq_true (by have := of_decide_eq_true ho; omega)) g1 (by simp) (decide_eq_true hlt)
        have hr0 : 0 ≤ numb W n (p + w.length) r := numb_nonneg (fun p => nw_pos (fun p w hw => (hW p w hw).1) p) _ _
        have hs : _ + nw W n (p + b'.2.length) ≤ _ := hs
        omega
end
end PD

/-! QP: cuts of joined texts, books of fewer words. -/
namespace PD
open PySem PySem.Spec PyProof.Rows L2
theorem cutL_map {α β : Type} (f : α → β) (xs : List α) (lo hi : Option Int) : cutL (xs.map f) lo hi = (cutL xs lo hi).map f := by
  unfold cutL
  rw [List.length_map, List.map_take, List.map_drop]
theorem cutL_mem {α : Type} {xs : List α} {lo hi : Option Int} {x : α} (h : x ∈ cutL xs lo hi) : x ∈ xs := List.mem_of_mem_drop (List.mem_of_mem_take h)
theorem wt_few {ds : List D} (h : Rows ds) {w : Tx} (hk : hasK (dictOf ds) (.inr w) = true) : wtD (wKV ds fewT) w = -1 := by
  obtain ⟨ps, rfl, hw, hn⟩ := h
  have e : wRows (rowsD ps) fewT = rowsD (ps.map fun p => (p.1, -1)) := by
    unfold wRows rowsD
    rw [if_pos rfl, List.map_map, List.map_map]
    rfl
  have e2 : ((ps.map fun p => (p.1, (-1 : Int))).map (·.1)) = ps.map (·.1) := by rw [List.map_map]; rfl
  rw [hasK_rows hn] at hk
  obtain ⟨p, hp, rfl⟩ := List.mem_map.mp (of_decide_eq_true hk)
  unfold wtD wKV
  rw [e, dictOf_rows (by rw [e2]; exact hn)]
  have := getK_words (ps := ps.map fun p => (p.1, (-1 : Int))) (by rw [e2]; exact hn) (List.mem_map.mpr ⟨p, hp, rfl⟩)
  have this : getK _ (.inr p.1) = some (.int (-1)) := this
  rw [this]
theorem wOf_few {ds : List D} (h : Rows ds) : ∀ {ws : List Tx}, (∀ w ∈ ws, hasK (dictOf ds) (.inr w) = true) → wOf (wtD (wKV ds fewT)) ws = 0 - (ws.length : Int)
  | [], _ => rfl
  | w :: r, hw => by
    have ih := wOf_few h (ws := r) fun v hv => hw v (by simp [hv])
    have := wt_few h (hw w (by simp))
    unfold wOf at ih ⊢
    rw [List.map_cons, List.sum_cons, ih, this, List.length_cons]
    omega
theorem wt_at {ps : List (Tx × Int)} (hn : (ps.map (·.1)).Nodup) {p : Tx × Int} (hp : p ∈ ps) {way : Tx} : wtD (wKV (rowsD ps) way) p.1 = if way = fewT then -1 else p.2 := by
  by_cases hw : way = fewT
  · subst hw
    have e : wRows (rowsD ps) fewT = rowsD (ps.map fun p => (p.1, -1)) := by
      unfold wRows rowsD
      rw [if_pos rfl, List.map_map, List.map_map]
      rfl
    have e2 : ((ps.map fun p => (p.1, (-1 : Int))).map (·.1)) = ps.map (·.1) := by rw [List.map_map]; rfl
    unfold wtD wKV
    rw [e, dictOf_rows (by rw [e2]; exact hn)]
    have := getK_words (ps := ps.map fun p => (p.1, (-1 : Int))) (by rw [e2]; exact hn) (List.mem_map.mpr ⟨p, hp, rfl⟩)
    have this : getK _ (.inr p.1) = some (.int (-1)) := this
    rw [this, if_pos rfl]
  · unfold wtD wKV wRows
    rw [if_neg hw, dictOf_rows hn, getK_words hn hp, if_neg hw]
theorem path_mono {W W' : Nat → List Tx} {n : Nat} (h : ∀ p, ∀ w ∈ W p, w ∈ W' p) : ∀ ws p, IsPath W n p ws → IsPath W' n p ws
  | [], _, e => e
  | w :: r, p, ⟨h1, h2, h3⟩ => ⟨h1, h p w h2, path_mono h r _ h3⟩
theorem bestCut_spec (ds : List D) (l way : Tx) : bestCut ds l way = .non ∨ ∃ (b : Int) (xs : List D) (ws : List Tx), bestCut ds l way = .tup [.int b, .lst xs] ∧ IsPath (wordsFrom (wKV ds way) l) l.length 0 ws ∧ wOf (wtD (wKV ds way)) ws = b := by
  have hwd : ∀ p, ∀ w ∈ wordsFrom (wKV ds way) l p, 1 ≤ w.length ∧ p + w.length ≤ l.length := fun p w hw => ⟨(wds_eq (wKV ds way) l p w hw).1, (wds_eq (wKV ds way) l p w hw).2.1⟩
  unfold bestCut
  cases e : bt (wordsFrom (wKV ds way) l) (wtD (wKV ds way)) l.length 0 with
  | none => exact .inl rfl
  | some b =>
    obtain ⟨h1, h2⟩ := bt_path hwd l.length 0 b (Nat.zero_le _) (by omega) e
    exact .inr ⟨b.1, _, _, rfl, h1, h2⟩
theorem bestCut_full (ds : List D) (l way : Tx) : (bt (wordsFrom (wKV ds way) l) (wtD (wKV ds way)) l.length 0 = none ∧ bestCut ds l way = .non) ∨ ∃ b, bt (wordsFrom (wKV ds way) l) (wtD (wKV ds way)) l.length 0 = some b ∧ bestCut ds l way = .tup [.int b.1, .lst ((bcut (bt (wordsFrom (wKV ds way) l) (wtD (wKV ds way)) l.length) l.length l.length 0).map .str)] := by
  unfold bestCut
  cases bt (wordsFrom (wKV ds way) l) (wtD (wKV ds way)) l.length 0 with
  | none => exact .inl ⟨rfl, rfl⟩
  | some b => exact .inr ⟨b, rfl, rfl⟩
theorem words_catL {kvs : List (Kd × D)} {a b : Tx} {p : Nat} {w : Tx} (h : w ∈ wordsFrom kvs a p) : w ∈ wordsFrom kvs (a ++ b) p := by
  obtain ⟨g1, g2, g3, g4, g5⟩ := words_in.mp h
  refine words_in.mpr ⟨g1, g2, by rw [List.length_append]; omega, ?_, g5⟩
  rw [List.drop_append_of_le_length (by omega), List.take_append_of_le_length (by rw [List.length_drop]; omega)]
  exact g4
theorem words_catR {kvs : List (Kd × D)} {a b : Tx} {p : Nat} {w : Tx} (h : w ∈ wordsFrom kvs b p) : w ∈ wordsFrom kvs (a ++ b) (a.length + p) := by
  obtain ⟨g1, g2, g3, g4, g5⟩ := words_in.mp h
  refine words_in.mpr ⟨g1, g2, by rw [List.length_append]; omega, ?_, g5⟩
  rw [← List.drop_drop, List.drop_left]
  exact g4
theorem path_catR {kvs : List (Kd × D)} {a b : Tx} : ∀ ws p, IsPath (wordsFrom kvs b) b.length p ws → IsPath (wordsFrom kvs (a ++ b)) (a ++ b).length (a.length + p) ws
  | [], p, h => by
    have h : p = b.length := h
    show a.length + p = (a ++ b).length
    rw [List.length_append, h]
  | w :: r, p, ⟨h1, h2, h3⟩ => by
    refine ⟨by rw [List.length_append]; omega, words_catR h2, ?_⟩
    rw [Nat.add_assoc]
    exact path_catR r _ h3
theorem path_cat {kvs : List (Kd × D)} {a b : Tx} {vs : List Tx} (hv : IsPath (wordsFrom kvs b) b.length 0 vs) : ∀ ws p, IsPath (wordsFrom kvs a) a.length p ws → IsPath (wordsFrom kvs (a ++ b)) (a ++ b).length p (ws ++ vs)
  | [], p, h => by
    have h : p = a.length := h
    subst h
    exact path_catR vs 0 hv
  | w :: r, p, ⟨h1, h2, h3⟩ => ⟨by rw [List.length_append]; omega, words_catL h2, path_cat hv r _ h3⟩
theorem wOf_append (wt : Tx → Int) (a b : List Tx) : wOf wt (a ++ b) = wOf wt a + wOf wt b := by
  unfold wOf
  rw [List.map_append, List.sum_append]
theorem best_cat {ds : List D} (hR : Rows ds) (a b way : Tx) {x y : Int × Tx} (h1 : bt (wordsFrom (wKV ds way) a) (wtD (wKV ds way)) a.length 0 = some x) (h2 : bt (wordsFrom (wKV ds way) b) (wtD (wKV ds way)) b.length 0 = some y) : ∃ z, bt (wordsFrom (wKV ds way) (a ++ b)) (wtD (wKV ds way)) (a ++ b).length 0 = some z ∧ x.1 + y.1 ≤ z.1 := by
  have hwd : ∀ l p, ∀ w ∈ wordsFrom (wKV ds way) l p, 1 ≤ w.length ∧ p + w.length ≤ l.length := fun l p w hw => ⟨(wds_eq (wKV ds way) l p w hw).1, (wds_eq (wKV ds way) l p w hw).2.1⟩
  obtain ⟨a1, a2⟩ := bt_path (hwd a) a.length 0 x (Nat.zero_le _) (by omega) h1
  obtain ⟨b1, b2⟩ := bt_path (hwd b) b.length 0 y (Nat.zero_le _) (by omega) h2
  obtain ⟨z, z1, z2⟩ := bt_max (hwd (a ++ b)) (wt := wtD (wKV ds way)) _ 0 (path_cat b1 _ 0 a1)
  refine ⟨z, z1, ?_⟩
  rw [wOf_append, a2, b2] at z2
  exact z2
theorem plain_few {ps : List (Tx × Int)} : wKV (rowsD (ps.map fun p => (p.1, -1))) heaT = wKV (rowsD ps) fewT := by
  unfold wKV wRows
  rw [if_neg (by decide), if_pos rfl]
  unfold rowsD
  rw [List.map_map, List.map_map]
  rfl
theorem plain_best {ps : List (Tx × Int)} (l : Tx) : bestCut (rowsD (ps.map fun p => (p.1, -1))) l heaT = bestCut (rowsD ps) l fewT := by
  unfold bestCut
  rw [plain_few]
theorem best_ok {ds : List D} {l way : Tx} (hl : small l = true) : chk (bestCut ds l way) = true ∧ dep (bestCut ds l way) ≤ 2 := by
  have hwd : ∀ p, ∀ w ∈ wordsFrom (wKV ds way) l p, 1 ≤ w.length ∧ p + w.length ≤ l.length := fun p w hw => ⟨(wds_eq (wKV ds way) l p w hw).1, (wds_eq (wKV ds way) l p w hw).2.1⟩
  unfold bestCut
  cases e : bt (wordsFrom (wKV ds way) l) (wtD (wKV ds way)) l.length 0 with
  | none => exact ⟨rfl, by simp [dep]⟩
  | some b =>
    obtain ⟨h1, _⟩ := bt_path hwd l.length 0 b (Nat.zero_le _) (by omega) e
    have hs := path_small' hl _ 0 h1
    generalize bcut (bt (wordsFrom (wKV ds way) l) (wtD (wKV ds way)) l.length) l.length l.length 0 = ws at hs ⊢
    have hk : okD (.lst (ws.map .str)) := okD_strS hs
    have hd : deps (ws.map D.str) ≤ 0 := deps_le _ fun x hx => by
      obtain ⟨w, _, rfl⟩ := List.mem_map.mp hx
      exact Nat.le_refl _
    have hk1 := hk.1
    refine ⟨?_, ?_⟩
    · simp only [chk, chks, Bool.and_true, Bool.true_and] at hk1 ⊢
      exact hk1
    · simp only [dep, deps]
      omega
end PD

/-! QP: the paper made from the front holds, and ends at the greatest worth. -/
namespace PD
open PySem PySem.Spec PyProof.Rows L2
section
variable {W : Nat → List Tx} {wt : Tx → Int} {n : Nat}
/-- a word's step: what is there grows, and the new is there -/
theorem papW_up (p : Nat) (L : List (Option Int)) (w : Tx) {j : Nat} {a : Int} (h : L.getD j none = some a) : ∃ b, (papW wt p L w).getD j none = some b ∧ a ≤ b := by
  have hj : j < L.length := by
    rcases Nat.lt_or_ge j L.length with c | c
    · exact c
    · rw [List.getD_eq_getElem?_getD, List.getElem?_eq_none c] at h
      cases h
  have put : ∀ x : Int, (∀ c, L.getD (p + w.length) none = some c → c ≤ x) → ∃ b, (L.set (p + w.length) (some x)).getD j none = some b ∧ a ≤ b := fun x hx => by
    by_cases e : p + w.length = j
    · subst e
      exact ⟨x, by rw [List.getD_eq_getElem?_getD, List.getElem?_set_self hj]; rfl, hx a h⟩
    · exact ⟨a, by rw [List.getD_eq_getElem?_getD, List.getElem?_set_ne e, ← List.getD_eq_getElem?_getD]; exact h, Int.le_refl _⟩
  unfold papW
  split
  · exact ⟨a, h, Int.le_refl _⟩
  · rename_i c _
    split
    · rename_i e
      exact put _ fun d q => by rw [e] at q; cases q
    · rename_i d e
      split
      · rename_i lt
        exact put _ fun d' q => by rw [e] at q; cases q; omega
      · exact ⟨a, h, Int.le_refl _⟩
theorem papW_new {p : Nat} {L : List (Option Int)} {w : Tx} {a : Int} (h : L.getD p none = some a) (hl : p + w.length < L.length) : ∃ b, (papW wt p L w).getD (p + w.length) none = some b ∧ a + wt w ≤ b := by
  have put : (L.set (p + w.length) (some (a + wt w))).getD (p + w.length) none = some (a + wt w) := by
    rw [List.getD_eq_getElem?_getD, List.getElem?_set_self hl]
    rfl
  unfold papW
  rw [h]
  dsimp only
  split
  · exact ⟨_, put, Int.le_refl _⟩
  · rename_i b e
    split
    · exact ⟨_, put, Int.le_refl _⟩
    · exact ⟨b, e, by omega⟩
theorem papF_up (p : Nat) : ∀ (ws : List Tx) (L : List (Option Int)) {j : Nat} {a : Int}, L.getD j none = some a → ∃ b, (ws.foldl (papW wt p) L).getD j none = some b ∧ a ≤ b
  | [], L, j, a, h => ⟨a, h, Int.le_refl _⟩
  | w :: r, L, j, a, h => by
    obtain ⟨b, h1, h2⟩ := papW_up (wt := wt) p L w h
    obtain ⟨c, h3, h4⟩ := papF_up p r _ h1
    exact ⟨c, h3, by omega⟩
theorem papF_new {p : Nat} {a : Int} : ∀ (ws : List Tx) (L : List (Option Int)), (∀ w ∈ ws, 1 ≤ w.length ∧ p + w.length < L.length) → L.getD p none = some a → ∀ w ∈ ws, ∃ b, (ws.foldl (papW wt p) L).getD (p + w.length) none = some b ∧ a + wt w ≤ b
  | v :: r, L, hw, h, w, hm => by
    rcases List.mem_cons.mp hm with rfl | hm
    · obtain ⟨b, h1, h2⟩ := papW_new (wt := wt) h (hw w (by simp)).2
      obtain ⟨c, h3, h4⟩ := papF_up (wt := wt) p r _ h1
      exact ⟨c, h3, by omega⟩
    · exact papF_new r (papW wt p L v) (fun u hu => ⟨(hw u (by simp [hu])).1, by rw [papW_len]; exact (hw u (by simp [hu])).2⟩) (by rw [papW_at wt L (hw v (by simp)).1]; exact h) w hm
/-- places not behind stay -/
theorem papW_low {p : Nat} (L : List (Option Int)) {w : Tx} {j : Nat} (hj : j ≤ p) (hw : 1 ≤ w.length) : (papW wt p L w).getD j none = L.getD j none := by
  have h : ∀ x, (L.set (p + w.length) x).getD j none = L.getD j none := fun x => by
    rw [List.getD_eq_getElem?_getD, List.getD_eq_getElem?_getD, List.getElem?_set_ne (by omega)]
  unfold papW
  split
  · rfl
  · split
    · exact h _
    · split
      · exact h _
      · rfl
theorem papF_low {p j : Nat} (hj : j ≤ p) : ∀ (ws : List Tx) (L : List (Option Int)), (∀ w ∈ ws, 1 ≤ w.length) → (ws.foldl (papW wt p) L).getD j none = L.getD j none
  | [], L, _ => rfl
  | w :: r, L, h => by rw [List.foldl_cons, papF_low hj r _ (fun v hv => h v (by simp [hv])), papW_low L hj (h w (by simp))]
theorem papS_low {p j : Nat} (hj : j ≤ p) (L : List (Option Int)) (hW : ∀ w ∈ W p, 1 ≤ w.length) : (papS W wt p L).getD j none = L.getD j none := by
  unfold papS
  split
  · exact papF_low hj _ _ hW
  · rfl
theorem papS_up (p : Nat) (L : List (Option Int)) {j : Nat} {a : Int} (h : L.getD j none = some a) : ∃ b, (papS W wt p L).getD j none = some b ∧ a ≤ b := by
  unfold papS
  split
  · exact papF_up p _ _ h
  · exact ⟨a, h, Int.le_refl _⟩
/-- from the places gone on from nothing is missing -/
theorem pap_rel (hW : ∀ p, ∀ w ∈ W p, 1 ≤ w.length ∧ p + w.length ≤ n) : ∀ k, ∀ p, p < k → ∀ a, (pap W wt n k).getD p none = some a → ∀ w ∈ W p, ∃ b, (pap W wt n k).getD (p + w.length) none = some b ∧ a + wt w ≤ b
  | k + 1, p, hp, a, h, w, hw => by
    have h : (papS W wt k (pap W wt n k)).getD p none = some a := h
    rw [papS_low (by omega) _ (fun v hv => (hW k v hv).1)] at h
    show ∃ b, (papS W wt k (pap W wt n k)).getD (p + w.length) none = some b ∧ a + wt w ≤ b
    by_cases e : p = k
    · subst e
      unfold papS
      rw [h, if_pos (by rfl)]
      exact papF_new (W p) _ (fun v hv => ⟨(hW p v hv).1, by rw [pap_len]; have := (hW p v hv).2; omega⟩) h w hw
    · obtain ⟨b, h1, h2⟩ := pap_rel hW k p (by omega) a h w hw
      obtain ⟨c, h3, h4⟩ := papS_up (W := W) (wt := wt) k _ h1
      exact ⟨c, h3, by omega⟩
theorem pap_holds (hW : ∀ p, ∀ w ∈ W p, 1 ≤ w.length ∧ p + w.length ≤ n) {p : Nat} (hp : p < n) : holdsAt W wt (pap W wt n n) p = true := by
  unfold holdsAt
  split
  · rfl
  · rename_i a e
    refine List.all_eq_true.mpr fun w hw => ?_
    obtain ⟨b, h1, h2⟩ := pap_rel (wt := wt) hW n p hp a e w hw
    rw [h1]
    exact decide_eq_true h2
theorem path_snoc : ∀ ws p {j : Nat} {w : Tx}, IsPath W j p ws → w ∈ W j → 1 ≤ w.length → IsPath W (j + w.length) p (ws ++ [w])
  | [], p, j, w, h, hw, h1 => by
    have h : p = j := h
    subst h
    exact ⟨by omega, hw, rfl⟩
  | v :: r, p, j, w, ⟨h1, h2, h3⟩, hw, hl => ⟨by omega, h2, path_snoc r _ h3 hw hl⟩
/-- what is there is the worth of some beginning -/
def Att (W : Nat → List Tx) (wt : Tx → Int) (L : List (Option Int)) : Prop := ∀ j a, L.getD j none = some a → ∃ ws, IsPath W j 0 ws ∧ wOf wt ws = a
theorem papW_att {p : Nat} {L : List (Option Int)} {w : Tx} (h : Att W wt L) (hw : w ∈ W p) (h1 : 1 ≤ w.length) : Att W wt (papW wt p L w) := by
  intro j a e
  have new : ∀ c, L.getD p none = some c → (L.set (p + w.length) (some (c + wt w))).getD j none = some a → ∃ ws, IsPath W j 0 ws ∧ wOf wt ws = a := fun c hc q => by
    by_cases e : p + w.length = j
    · subst e
      by_cases hl : p + w.length < L.length
      · rw [List.getD_eq_getElem?_getD, List.getElem?_set_self hl] at q
        obtain ⟨ws, g1, g2⟩ := h p c hc
        refine ⟨ws ++ [w], path_snoc ws 0 g1 hw h1, ?_⟩
        rw [wOf_append, g2]
        have q : some (c + wt w) = some a := q
        cases q
        unfold wOf
        simp
      · rw [List.getD_eq_getElem?_getD, List.getElem?_eq_none (by rw [List.length_set]; omega)] at q
        cases q
    · rw [List.getD_eq_getElem?_getD, List.getElem?_set_ne e, ← List.getD_eq_getElem?_getD] at q
      exact h j a q
  unfold papW at e
  split at e
  · exact h j a e
  · rename_i c ec
    split at e
    · exact new c ec e
    · split at e
      · exact new c ec e
      · exact h j a e
theorem papF_att {p : Nat} : ∀ (ws : List Tx) (L : List (Option Int)), (∀ w ∈ ws, w ∈ W p ∧ 1 ≤ w.length) → Att W wt L → Att W wt (ws.foldl (papW wt p) L)
  | [], L, _, h => h
  | w :: r, L, hw, h => papF_att r _ (fun v hv => hw v (by simp [hv])) (papW_att h (hw w (by simp)).1 (hw w (by simp)).2)
theorem pap_att (hW : ∀ p, ∀ w ∈ W p, 1 ≤ w.length) : ∀ k, Att W wt (pap W wt n k)
  | 0 => fun j a e => by
    cases j with
    | zero =>
      have e : some (0 : Int) = some a := e
      cases e
      exact ⟨[], rfl, rfl⟩
    | succ j =>
      have e : (List.replicate n (none : Option Int)).getD j none = some a := e
      rw [List.getD_eq_getElem?_getD, List.getElem?_replicate] at e
      split at e <;> cases e
  | k + 1 => by
    show Att W wt (papS W wt k (pap W wt n k))
    unfold papS
    split
    · exact papF_att (W k) _ (fun w hw => ⟨hw, hW k w hw⟩) (pap_att hW k)
    · exact pap_att hW k
theorem pap_zero (hW : ∀ p, ∀ w ∈ W p, 1 ≤ w.length) : ∀ k, (pap W wt n k).getD 0 none = some 0
  | 0 => rfl
  | k + 1 => by
    show (papS W wt k (pap W wt n k)).getD 0 none = _
    rw [papS_low (Nat.zero_le _) _ (hW k)]
    exact pap_zero hW k
/-- the paper's end is the greatest worth -/
theorem pap_end (hW : ∀ p, ∀ w ∈ W p, 1 ≤ w.length ∧ p + w.length ≤ n) : (pap W wt n n).getD n none = (bt W wt n 0).map (·.1) := by
  have hz := pap_zero (wt := wt) (n := n) (fun p w hw => (hW p w hw).1) n
  cases eb : bt W wt n 0 with
  | none =>
    cases ep : (pap W wt n n).getD n none with
    | none => rfl
    | some a =>
      obtain ⟨ws, h1, _⟩ := pap_att (wt := wt) (n := n) (fun p w hw => (hW p w hw).1) n n a ep
      obtain ⟨b, h3, _⟩ := bt_max (wt := wt) hW ws 0 h1
      rw [eb] at h3
      cases h3
  | some b =>
    obtain ⟨h1, h2⟩ := bt_path hW n 0 b (Nat.zero_le _) (by omega) eb
    obtain ⟨c, h3, h4⟩ := holds_path (wt := wt) hW (fun p hp => pap_holds hW hp) _ 0 0 hz h1
    obtain ⟨ws, h5, h6⟩ := pap_att (wt := wt) (n := n) (fun p w hw => (hW p w hw).1) n n c h3
    obtain ⟨d, h7, h8⟩ := bt_max (wt := wt) hW ws 0 h5
    rw [eb] at h7
    cases h7
    rw [h3]
    show some c = some b.1
    congr 1
    omega
end
end PD

namespace PD
open PySem PySem.Spec PyProof.Rows L2
/-! ### sums over the words at their places -/
theorem sum_add {α : Type} (f g : α → Int) : ∀ xs : List α, (xs.map fun x => f x + g x).sum = (xs.map f).sum + (xs.map g).sum
  | [] => rfl
  | a :: r => by
    simp only [List.map_cons, List.sum_cons, sum_add f g r]
    omega
theorem sum_mulr {α : Type} (f : α → Int) (c : Int) : ∀ xs : List α, (xs.map fun x => f x * c).sum = (xs.map f).sum * c
  | [] => by simp
  | a :: r => by
    simp only [List.map_cons, List.sum_cons, sum_mulr f c r]
    rw [Int.add_mul]
theorem sum_mull {α : Type} (f : α → Int) (c : Int) (xs : List α) : (xs.map fun x => c * f x).sum = c * (xs.map f).sum := by
  rw [Int.mul_comm c, ← sum_mulr]
  congr 1
  exact List.map_congr_left fun x _ => Int.mul_comm _ _
theorem sum_nn {α : Type} {f : α → Int} : ∀ {xs : List α}, (∀ x ∈ xs, 0 ≤ f x) → 0 ≤ (xs.map f).sum
  | [], _ => Int.le_refl _
  | a :: r, h => by
    rw [List.map_cons, List.sum_cons]
    have := h a (by simp)
    have := sum_nn (xs := r) fun x hx => h x (by simp [hx])
    omega
theorem sum_one {α : Type} {f : α → Int} {a : α} : ∀ {xs : List α}, (∀ x ∈ xs, 0 ≤ f x) → a ∈ xs → f a ≤ (xs.map f).sum
  | b :: r, h, ha => by
    rw [List.map_cons, List.sum_cons]
    have h0 := h b (by simp)
    have h1 := sum_nn (xs := r) fun x hx => h x (by simp [hx])
    rcases List.mem_cons.mp ha with rfl | ha
    · omega
    · have := sum_one (xs := r) (fun x hx => h x (by simp [hx])) ha
      omega
theorem sum_two {α : Type} {f : α → Int} {a b : α} (hab : a ≠ b) : ∀ {xs : List α}, (∀ x ∈ xs, 0 ≤ f x) → a ∈ xs → b ∈ xs → f a + f b ≤ (xs.map f).sum
  | c :: r, h, ha, hb => by
    rw [List.map_cons, List.sum_cons]
    have h0 := h c (by simp)
    have hr : ∀ x ∈ r, 0 ≤ f x := fun x hx => h x (by simp [hx])
    rcases List.mem_cons.mp ha with rfl | ha'
    · rcases List.mem_cons.mp hb with e | hb'
      · exact absurd e.symm hab
      · have := sum_one hr hb'
        omega
    · rcases List.mem_cons.mp hb with rfl | hb'
      · have := sum_one hr ha'
        omega
      · have := sum_two hab hr ha' hb'
        omega
theorem sum_pos {α : Type} {f : α → Int} : ∀ {xs : List α}, 0 < (xs.map f).sum → ∃ x ∈ xs, 0 < f x
  | [], h => by simp at h
  | a :: r, h => by
    by_cases ha : 0 < f a
    · exact ⟨a, by simp, ha⟩
    · rw [List.map_cons, List.sum_cons] at h
      obtain ⟨x, hx, h2⟩ := sum_pos (xs := r) (f := f) (by omega)
      exact ⟨x, by simp [hx], h2⟩
theorem sum_zero {α : Type} {f : α → Int} : ∀ {xs : List α}, (∀ x ∈ xs, f x = 0) → (xs.map f).sum = 0
  | [], _ => rfl
  | a :: r, h => by
    rw [List.map_cons, List.sum_cons, h a (by simp), sum_zero fun x hx => h x (by simp [hx])]
    rfl
/-- over all words at their places -/
def sp (W : Nat → List Tx) (n : Nat) (f : Nat → Tx → Int) : Int := ((List.range n).map fun p => ((W p).map (f p)).sum).sum
section
variable {W : Nat → List Tx} {n : Nat}
theorem sp_congr {f g : Nat → Tx → Int} (h : ∀ p, p < n → ∀ w ∈ W p, f p w = g p w) : sp W n f = sp W n g := by
  unfold sp
  congr 1
  refine List.map_congr_left fun p hp => ?_
  congr 1
  exact List.map_congr_left fun w hw => h p (List.mem_range.mp hp) w hw
theorem sp_add (f g : Nat → Tx → Int) : sp W n (fun p w => f p w + g p w) = sp W n f + sp W n g := by
  unfold sp
  rw [← sum_add]
  congr 1
  exact List.map_congr_left fun p _ => sum_add _ _ _
theorem sp_mulr (f : Nat → Tx → Int) (c : Int) : sp W n (fun p w => f p w * c) = sp W n f * c := by
  unfold sp
  rw [← sum_mulr]
  congr 1
  exact List.map_congr_left fun p _ => sum_mulr _ _ _
theorem sp_nn {f : Nat → Tx → Int} (h : ∀ p, p < n → ∀ w ∈ W p, 0 ≤ f p w) : 0 ≤ sp W n f :=
  sum_nn fun p hp => sum_nn fun w hw => h p (List.mem_range.mp hp) w hw
theorem sp_one {f : Nat → Tx → Int} (h : ∀ p, p < n → ∀ w ∈ W p, 0 ≤ f p w) {p : Nat} {w : Tx} (hp : p < n) (hw : w ∈ W p) : f p w ≤ sp W n f :=
  Int.le_trans (sum_one (f := f p) (fun v hv => h p hp v hv) hw) (sum_one (f := fun p => ((W p).map (f p)).sum) (fun q hq => sum_nn fun v hv => h q (List.mem_range.mp hq) v hv) (List.mem_range.mpr hp))
theorem sp_two {f : Nat → Tx → Int} (h : ∀ p, p < n → ∀ w ∈ W p, 0 ≤ f p w) {p q : Nat} {w v : Tx} (hp : p < n) (hw : w ∈ W p) (hq : q < n) (hv : v ∈ W q) (hne : (p, w) ≠ (q, v)) : f p w + f q v ≤ sp W n f := by
  by_cases e : p = q
  · subst e
    exact Int.le_trans (sum_two (f := f p) (fun e => hne (by rw [e])) (fun v hv => h p hp v hv) hw hv) (sum_one (f := fun p => ((W p).map (f p)).sum) (fun q hq => sum_nn fun v hv => h q (List.mem_range.mp hq) v hv) (List.mem_range.mpr hp))
  · have h1 := sum_two (f := fun p => ((W p).map (f p)).sum) e (fun q hq => sum_nn fun v hv => h q (List.mem_range.mp hq) v hv) (List.mem_range.mpr hp) (List.mem_range.mpr hq)
    have h2 := sum_one (f := f p) (fun v hv => h p hp v hv) hw
    have h3 := sum_one (f := f q) (fun v hv => h q hq v hv) hv
    unfold sp
    omega
theorem sp_pos {f : Nat → Tx → Int} (h : 0 < sp W n f) : ∃ p w, p < n ∧ w ∈ W p ∧ 0 < f p w := by
  obtain ⟨p, hp, h1⟩ := sum_pos h
  obtain ⟨w, hw, h2⟩ := sum_pos h1
  exact ⟨p, w, List.mem_range.mp hp, hw, h2⟩
theorem sumR_at (g : Nat → Int) (i : Nat) : ∀ n, ((List.range n).map fun p => if p = i then g p else 0).sum = if i < n then g i else 0
  | 0 => rfl
  | n + 1 => by
    rw [List.range_succ, List.map_append, List.sum_append, sumR_at g i n]
    simp only [List.map_cons, List.map_nil, List.sum_cons, List.sum_nil]
    by_cases h : n = i
    · subst h
      rw [if_neg (by omega), if_pos rfl, if_pos (by omega)]
      omega
    · rw [if_neg h]
      by_cases h2 : i < n
      · rw [if_pos h2, if_pos (by omega)]
        omega
      · rw [if_neg h2, if_neg (by omega)]
        omega
theorem sp_at (f : Nat → Tx → Int) {i : Nat} (hi : i < n) : sp W n (fun p w => if p = i then f p w else 0) = ((W i).map (f i)).sum := by
  have := sumR_at (fun p => ((W p).map (f p)).sum) i n
  rw [if_pos hi] at this
  rw [← this]
  unfold sp
  congr 1
  refine List.map_congr_left fun p _ => ?_
  by_cases h : p = i
  · simp only [if_pos h]
  · simp only [if_neg h]
    exact sum_zero fun _ _ => rfl
/-! ### the counts from the front, and those through a word -/
theorem thrF_in (p j : Nat) : ∀ (ws : List Tx) (L : List Int), (∀ w ∈ ws, 1 ≤ w.length) → j < L.length → (ws.foldl (thrW p) L).getD j 0 = L.getD j 0 + (ws.map fun w => if p + w.length = j then L.getD p 0 else 0).sum
  | [], L, _, _ => by simp
  | w :: r, L, h, hj => by
    have hw := h w (by simp)
    rw [List.foldl_cons, thrF_in p j r (thrW p L w) (fun v hv => h v (by simp [hv])) (by rw [thrW_len]; exact hj), thrW_at L hw, List.map_cons, List.sum_cons]
    by_cases e : p + w.length = j
    · rw [if_pos e]
      unfold thrW
      rw [e, getD_self hj]
      omega
    · rw [if_neg e]
      unfold thrW
      rw [getD_set e]
      omega
theorem thr_in (hW : ∀ p, ∀ w ∈ W p, 1 ≤ w.length) {k j : Nat} (hj : j ≤ n) : (thr W n (k + 1)).getD j 0 = (thr W n k).getD j 0 + ((W k).map fun w => if k + w.length = j then (thr W n k).getD k 0 else 0).sum :=
  thrF_in k j (W k) (thr W n k) (hW k) (by rw [thr_len]; omega)
/-- what is behind is done -/
theorem thr_done (hW : ∀ p, ∀ w ∈ W p, 1 ≤ w.length) {p : Nat} (hp : p ≤ n) : ∀ k, p ≤ k → (thr W n k).getD p 0 = (thr W n p).getD p 0
  | 0, h => by
    have : p = 0 := by omega
    rw [this]
  | k + 1, h => by
    by_cases e : p = k + 1
    · rw [e]
    · rw [thr_in hW hp, thr_done hW hp k (by omega), sum_zero fun w hw => if_neg (by have := hW k w hw; omega)]
      omega
theorem ntT_at (hW : ∀ p, ∀ w ∈ W p, 1 ≤ w.length) {p k : Nat} (hp : p ≤ k) (hk : k ≤ n) : (thr W n k).getD p 0 = ntT W n p := by
  unfold ntT
  rw [thr_done hW (by omega) k hp, thr_done hW (by omega) n (by omega)]
theorem thr_sum (hW : ∀ p, ∀ w ∈ W p, 1 ≤ w.length) {j : Nat} (h1 : 1 ≤ j) (hj : j ≤ n) : ∀ k, k ≤ n → (thr W n k).getD j 0 = sp W k (fun p w => if p + w.length = j then ntT W n p else 0)
  | 0, _ => by
    show (1 :: List.replicate n (0 : Int)).getD j 0 = 0
    obtain ⟨i, rfl⟩ : ∃ i, j = i + 1 := ⟨j - 1, by omega⟩
    rw [List.getD_cons_succ, List.getD_eq_getElem?_getD, List.getElem?_replicate]
    split <;> rfl
  | k + 1, hk => by
    rw [thr_in hW hj, thr_sum hW h1 hj k (by omega), ntT_at hW (Nat.le_refl k) (by omega)]
    unfold sp
    rw [List.range_succ, List.map_append, List.sum_append]
    simp
theorem nt_zero (hW : ∀ p, ∀ w ∈ W p, 1 ≤ w.length) : ntT W n 0 = 1 := by
  rw [← ntT_at hW (Nat.le_refl 0) (Nat.zero_le n)]
  rfl
theorem nt_in (hW : ∀ p, ∀ w ∈ W p, 1 ≤ w.length) {j : Nat} (h1 : 1 ≤ j) (hj : j ≤ n) : ntT W n j = sp W n (fun p w => if p + w.length = j then ntT W n p else 0) := thr_sum hW h1 hj n (Nat.le_refl n)
theorem nt_nn (hW : ∀ p, ∀ w ∈ W p, 1 ≤ w.length) : ∀ p, p ≤ n → 0 ≤ ntT W n p := fun p => by
  induction p using Nat.strongRecOn with
  | _ p ih =>
    intro hp
    by_cases h : p = 0
    · rw [h, nt_zero hW]
      decide
    · rw [nt_in hW (by omega) hp]
      refine sp_nn fun q hq w hw => ?_
      split
      · have := hW q w hw
        exact ih q (by omega) (by omega)
      · exact Int.le_refl _
/-- how many cuts have a word at its place -/
def cnt (W : Nat → List Tx) (n p : Nat) (w : Tx) : Int := ntT W n p * nw W n (p + w.length)
theorem cnt_nn (hW : ∀ p, ∀ w ∈ W p, 1 ≤ w.length) {p : Nat} (hp : p ≤ n) (w : Tx) : 0 ≤ cnt W n p w := Int.mul_nonneg (nt_nn hW p hp) (nw_pos hW _)
/-- those over a letter -/
theorem cov (hW : ∀ p, ∀ w ∈ W p, 1 ≤ w.length) : ∀ x, x < n → sp W n (fun p w => if p ≤ x ∧ x < p + w.length then cnt W n p w else 0) = nw W n 0
  | 0, h => by
    rw [sp_congr (g := fun p w => if p = 0 then cnt W n p w else 0) fun p hp w hw => by
      have := hW p w hw
      by_cases e : p = 0
      · rw [if_pos e, if_pos ⟨by omega, by omega⟩]
      · rw [if_neg e, if_neg (by omega)], sp_at _ h, nw_at W (hW 0) h]
    congr 1
    refine List.map_congr_left fun w _ => ?_
    unfold cnt
    rw [nt_zero hW, Int.one_mul]
  | x + 1, h => by
    have ih := cov hW x (by omega)
    have hB : sp W n (fun p w => if p = x + 1 then cnt W n p w else 0) = ntT W n (x + 1) * nw W n (x + 1) := by
      rw [sp_at _ h, nw_at W (hW (x + 1)) h]
      exact sum_mull _ _ _
    have hD : sp W n (fun p w => if p + w.length = x + 1 then cnt W n p w else 0) = ntT W n (x + 1) * nw W n (x + 1) := by
      rw [nt_in hW (by omega) (by omega), ← sp_mulr]
      refine sp_congr fun p hp w hw => ?_
      by_cases e : p + w.length = x + 1
      · rw [if_pos e, if_pos e]
        unfold cnt
        rw [e]
      · rw [if_neg e, if_neg e, Int.zero_mul]
    have hs := sp_add (W := W) (n := n) (fun p w => if p ≤ x + 1 ∧ x + 1 < p + w.length then cnt W n p w else 0) (fun p w => if p + w.length = x + 1 then cnt W n p w else 0)
    have ht := sp_add (W := W) (n := n) (fun p w => if p ≤ x ∧ x < p + w.length then cnt W n p w else 0) (fun p w => if p = x + 1 then cnt W n p w else 0)
    have he := sp_congr (W := W) (n := n) (f := fun p w => (if p ≤ x + 1 ∧ x + 1 < p + w.length then cnt W n p w else 0) + (if p + w.length = x + 1 then cnt W n p w else 0)) (g := fun p w => (if p ≤ x ∧ x < p + w.length then cnt W n p w else 0) + (if p = x + 1 then cnt W n p w else 0)) fun p hp w hw => by
      have := hW p w hw
      generalize cnt W n p w = c
      by_cases e : p = x + 1
      · rw [if_pos ⟨by omega, by omega⟩, if_neg (by omega), if_neg (by omega), if_pos e]
        omega
      · rw [if_neg e]
        by_cases e2 : p + w.length = x + 1
        · rw [if_pos e2, if_neg (by omega), if_pos ⟨by omega, by omega⟩]
          omega
        · rw [if_neg e2]
          by_cases e3 : p ≤ x ∧ x < p + w.length
          · rw [if_pos e3, if_pos ⟨by omega, by omega⟩]
          · rw [if_neg e3, if_neg (by omega)]
    omega
theorem nt_end (hW : ∀ p, ∀ w ∈ W p, 1 ≤ w.length ∧ p + w.length ≤ n) : ntT W n n = nw W n 0 := by
  have hW1 : ∀ p, ∀ w ∈ W p, 1 ≤ w.length := fun p w hw => (hW p w hw).1
  by_cases h : n = 0
  · subst h
    rw [nt_zero hW1, nw_last]
  · rw [← cov hW1 (n - 1) (by omega), nt_in hW1 (by omega) (Nat.le_refl n)]
    refine sp_congr fun p hp w hw => ?_
    obtain ⟨h1, h2⟩ := hW p w hw
    by_cases e : p + w.length = n
    · rw [if_pos e, if_pos ⟨by omega, by omega⟩]
      unfold cnt
      rw [e, nw_last, Int.mul_one]
    · rw [if_neg e, if_neg (by omega)]
/-- those over a place, and those that end there -/
theorem cross (hW : ∀ p, ∀ w ∈ W p, 1 ≤ w.length ∧ p + w.length ≤ n) {m : Nat} (hm : m ≤ n) : sp W n (fun p w => if p < m ∧ m < p + w.length then cnt W n p w else 0) + ntT W n m * nw W n m = nw W n 0 := by
  have hW1 : ∀ p, ∀ w ∈ W p, 1 ≤ w.length := fun p w hw => (hW p w hw).1
  by_cases h : m = n
  · subst h
    rw [nt_end hW, nw_last, sp_congr (g := fun _ _ => 0) fun p hp w hw => if_neg (by have := hW p w hw; omega)]
    have : sp W m (fun _ _ => 0) = 0 := sum_zero fun p _ => sum_zero fun _ _ => rfl
    omega
  · have hB : sp W n (fun p w => if p = m then cnt W n p w else 0) = ntT W n m * nw W n m := by
      rw [sp_at _ (by omega), nw_at W (hW1 m) (by omega)]
      exact sum_mull _ _ _
    rw [← hB, ← sp_add, ← cov hW1 m (by omega)]
    refine sp_congr fun p hp w hw => ?_
    have := hW1 p w hw
    by_cases e : p = m
    · rw [if_neg (by omega), if_pos e, if_pos ⟨by omega, by omega⟩]
      omega
    · rw [if_neg e]
      by_cases e2 : p ≤ m ∧ m < p + w.length
      · rw [if_pos e2, if_pos ⟨by omega, by omega⟩]
        omega
      · rw [if_neg e2, if_neg (by omega)]
        omega
/-- no more than all -/
theorem cnt_le (hW : ∀ p, ∀ w ∈ W p, 1 ≤ w.length) {p : Nat} {w : Tx} (hp : p < n) (hw : w ∈ W p) : cnt W n p w ≤ nw W n 0 := by
  rw [← cov hW p hp]
  refine Int.le_trans ?_ (sp_one (fun q hq v hv => ?_) hp hw)
  · rw [if_pos ⟨Nat.le_refl p, by have := hW p w hw; omega⟩]
    exact Int.le_refl _
  · split
    · exact cnt_nn hW (by omega) v
    · exact Int.le_refl _
/-- two over a letter -/
theorem cnt_two (hW : ∀ p, ∀ w ∈ W p, 1 ≤ w.length) {p q : Nat} {w v : Tx} (hp : p < n) (hw : w ∈ W p) (hq : q < n) (hv : v ∈ W q) (hne : (p, w) ≠ (q, v)) {x : Nat} (h1 : p ≤ x) (h2 : x < p + w.length) (h3 : q ≤ x) (h4 : x < q + v.length) (hx : x < n) : cnt W n p w + cnt W n q v ≤ nw W n 0 := by
  rw [← cov hW x hx]
  refine Int.le_trans ?_ (sp_two (fun q hq v hv => ?_) hp hw hq hv hne)
  · rw [if_pos ⟨h1, h2⟩, if_pos ⟨h3, h4⟩]
    exact Int.le_refl _
  · split
    · exact cnt_nn hW (by omega) v
    · exact Int.le_refl _
theorem nt_step (hW : ∀ p, ∀ w ∈ W p, 1 ≤ w.length ∧ p + w.length ≤ n) {p : Nat} {w : Tx} (hp : p < n) (hw : w ∈ W p) : ntT W n p ≤ ntT W n (p + w.length) := by
  have hW1 : ∀ p, ∀ w ∈ W p, 1 ≤ w.length := fun p w hw => (hW p w hw).1
  have := hW p w hw
  rw [nt_in hW1 (j := p + w.length) (by omega) (by omega)]
  refine Int.le_trans ?_ (sp_one (fun q hq v hv => ?_) hp hw)
  · rw [if_pos rfl]
    exact Int.le_refl _
  · split
    · exact nt_nn hW1 q (by omega)
    · exact Int.le_refl _
theorem nw_step (hW : ∀ p, ∀ w ∈ W p, 1 ≤ w.length) {p : Nat} {w : Tx} (hp : p < n) (hw : w ∈ W p) : nw W n (p + w.length) ≤ nw W n p := by
  rw [nw_at W (hW p) hp]
  exact sum_one (f := fun w => nw W n (p + w.length)) (fun v _ => nw_pos hW _) hw
theorem nt_path (hW : ∀ p, ∀ w ∈ W p, 1 ≤ w.length ∧ p + w.length ≤ n) {j : Nat} (hj : j ≤ n) : ∀ ws p, IsPath W j p ws → 0 < ntT W n p → 0 < ntT W n j
  | [], p, h, h0 => by
    have : p = j := h
    rwa [← this]
  | w :: r, p, ⟨h1, h2, h3⟩, h0 => nt_path hW hj r _ h3 (Int.lt_of_lt_of_le h0 (nt_step hW (by omega) h2))
theorem path_nt (hW : ∀ p, ∀ w ∈ W p, 1 ≤ w.length ∧ p + w.length ≤ n) : ∀ p, p ≤ n → 0 < ntT W n p → ∃ ws, IsPath W p 0 ws := fun p => by
  have hW1 : ∀ p, ∀ w ∈ W p, 1 ≤ w.length := fun p w hw => (hW p w hw).1
  induction p using Nat.strongRecOn with
  | _ p ih =>
    intro hp h0
    by_cases h : p = 0
    · subst h
      exact ⟨[], rfl⟩
    · rw [nt_in hW1 (by omega) hp] at h0
      obtain ⟨q, w, hq, hw, h1⟩ := sp_pos h0
      by_cases e : q + w.length = p
      · rw [if_pos e] at h1
        have := hW1 q w hw
        obtain ⟨ws, hws⟩ := ih q (by omega) (by omega) h1
        exact ⟨ws ++ [w], by rw [← e]; exact path_snoc ws 0 hws hw this⟩
      · rw [if_neg e] at h1
        omega
theorem nw_path (hW : ∀ p, ∀ w ∈ W p, 1 ≤ w.length) : ∀ ws p, IsPath W n p ws → 0 < nw W n p
  | [], p, h => by
    have : p = n := h
    rw [this, nw_last]
    decide
  | w :: r, p, ⟨h1, h2, h3⟩ => Int.lt_of_lt_of_le (nw_path hW r _ h3) (nw_step hW h1 h2)
theorem path_nw (hW : ∀ p, ∀ w ∈ W p, 1 ≤ w.length ∧ p + w.length ≤ n) {p : Nat} (hp : p ≤ n) (h : 0 < nw W n p) : ∃ ws, IsPath W n p ws := ⟨_, cutBy_path hW (n - p) p 0 hp (by omega) (Int.le_refl _) h⟩
end
end PD

namespace PD
open PySem PySem.Spec PyProof.Rows L2
/-- the words at their places that are asked for -/
def spots (W : Nat → List Tx) (n : Nat) (q : Nat → Tx → Bool) : List (Nat × Tx) := (List.range n).flatMap fun p => ((W p).filter (q p)).map fun w => (p, w)
def someS (W : Nat → List Tx) (n : Nat) : List (Nat × Tx) := spots W n fun p w => decide (0 < cnt W n p w)
def allS (W : Nat → List Tx) (n : Nat) : List (Nat × Tx) := spots W n fun p w => decide (cnt W n p w = nw W n 0)
def placesS (W : Nat → List Tx) (n : Nat) : List Nat := (List.range (n + 1)).filter fun p => decide (ntT W n p * nw W n p = nw W n 0)
section
variable {W : Nat → List Tx} {n : Nat}
theorem mem_spots {q : Nat → Tx → Bool} {s : Nat × Tx} : s ∈ spots W n q ↔ s.1 < n ∧ s.2 ∈ W s.1 ∧ q s.1 s.2 = true := by
  unfold spots
  rw [List.mem_flatMap]
  constructor
  · rintro ⟨p, hp, h⟩
    obtain ⟨w, hw, rfl⟩ := List.mem_map.mp h
    have := List.mem_filter.mp hw
    exact ⟨List.mem_range.mp hp, this.1, this.2⟩
  · rintro ⟨h1, h2, h3⟩
    exact ⟨s.1, List.mem_range.mpr h1, List.mem_map.mpr ⟨s.2, List.mem_filter.mpr ⟨h2, h3⟩, rfl⟩⟩
theorem wbc_spots (P : Int → Bool) : ((wbc W n).filter fun x => P x.2).map (fun x => spotD x.1) = (spots W n fun p w => P (cnt W n p w)).map spotD := by
  unfold wbc spots
  rw [List.filter_flatMap, List.map_flatMap, List.map_flatMap]
  simp only [List.flatMap_def]
  congr 1
  refine List.map_congr_left fun p _ => ?_
  rw [List.filter_map, List.map_map, List.map_map]
  rfl
theorem g_some_eq : g_some W n = .o (.lst ((someS W n).map spotD)) := by
  unfold g_some someS
  rw [← wbc_spots fun x => decide (0 < x)]
theorem g_all_eq : g_all W n = .o (.lst ((allS W n).map spotD)) := by
  unfold g_all allS
  rw [← wbc_spots fun x => decide (x = nw W n 0)]
theorem g_places_eq : g_places W n = .o (.lst ((placesS W n).map fun p : Nat => .int (p : Int))) := rfl
theorem mem_some (s : Nat × Tx) : s ∈ someS W n ↔ s.1 < n ∧ s.2 ∈ W s.1 ∧ 0 < cnt W n s.1 s.2 := by
  unfold someS
  rw [mem_spots, decide_eq_true_eq]
theorem mem_all (s : Nat × Tx) : s ∈ allS W n ↔ s.1 < n ∧ s.2 ∈ W s.1 ∧ cnt W n s.1 s.2 = nw W n 0 := by
  unfold allS
  rw [mem_spots, decide_eq_true_eq]
theorem mem_places (p : Nat) : p ∈ placesS W n ↔ p ≤ n ∧ ntT W n p * nw W n p = nw W n 0 := by
  unfold placesS
  rw [List.mem_filter, List.mem_range, decide_eq_true_eq]
  omega
theorem all_some (h : 0 < nw W n 0) {s : Nat × Tx} (hs : s ∈ allS W n) : s ∈ someS W n := by
  rw [mem_all] at hs
  rw [mem_some]
  exact ⟨hs.1, hs.2.1, by rw [hs.2.2]; exact h⟩
theorem places_head (hW : ∀ p, ∀ w ∈ W p, 1 ≤ w.length) : ∃ r, placesS W n = 0 :: r := by
  unfold placesS
  rw [List.range_succ_eq_map, List.filter_cons, if_pos (by rw [decide_eq_true_eq, nt_zero hW, Int.one_mul])]
  exact ⟨_, rfl⟩
theorem places_last (hW : ∀ p, ∀ w ∈ W p, 1 ≤ w.length ∧ p + w.length ≤ n) : ∃ r, placesS W n = r ++ [n] := by
  unfold placesS
  rw [List.range_succ, List.filter_append, List.filter_cons, if_pos (by rw [decide_eq_true_eq, nt_end hW, nw_last, Int.mul_one])]
  exact ⟨_, rfl⟩
theorem places_begun (hW : ∀ p, ∀ w ∈ W p, 1 ≤ w.length ∧ p + w.length ≤ n) (h : 0 < nw W n 0) {p : Nat} (hp : p ∈ placesS W n) : p = n ∨ ∃ w, (p, w) ∈ someS W n := by
  have hW1 : ∀ p, ∀ w ∈ W p, 1 ≤ w.length := fun p w hw => (hW p w hw).1
  obtain ⟨h1, h2⟩ := (mem_places p).mp hp
  by_cases e : p = n
  · exact .inl e
  · refine .inr ?_
    have hlt : p < n := by omega
    have h3 : 0 < ntT W n p * nw W n p := by omega
    have h4 := nt_nn hW1 p h1
    have h5 := nw_pos (n := n) hW1 p
    have h6 : 0 < ntT W n p := by
      rcases Int.lt_or_eq_of_le h4 with h | h
      · exact h
      · rw [← h, Int.zero_mul] at h3; omega
    have h7 : 0 < nw W n p := by
      rcases Int.lt_or_eq_of_le h5 with h | h
      · exact h
      · rw [← h, Int.mul_zero] at h3; omega
    rw [nw_at W (hW1 p) hlt] at h7
    obtain ⟨w, hw, h8⟩ := sum_pos h7
    exact ⟨w, (mem_some _).mpr ⟨hlt, hw, Int.mul_pos h6 h8⟩⟩
/-! ### one cut alone -/
theorem sumL_sp (f : Nat → Nat → Tx → Int) : ∀ xs : List Nat, (xs.map fun x => sp W n (f x)).sum = sp W n (fun p w => (xs.map fun x => f x p w).sum)
  | [] => by
    simp only [List.map_nil, List.sum_nil]
    exact (sum_zero fun p _ => sum_zero fun _ _ => rfl).symm
  | x :: r => by
    simp only [List.map_cons, List.sum_cons]
    rw [sumL_sp f r, sp_add]
theorem sum_const (c : Int) : ∀ n : Nat, ((List.range n).map fun _ => c).sum = n * c
  | 0 => by simp
  | n + 1 => by
    rw [List.range_succ, List.map_append, List.sum_append, sum_const c n]
    simp only [List.map_cons, List.map_nil, List.sum_cons, List.sum_nil]
    rw [Int.natCast_add, Int.add_mul]
    simp
theorem sum_span (c : Int) (p k : Nat) : ∀ n : Nat, ((List.range n).map fun x => if p ≤ x ∧ x < p + k then c else 0).sum = ((min n (p + k) - min n p : Nat) : Int) * c
  | 0 => by simp
  | n + 1 => by
    rw [List.range_succ, List.map_append, List.sum_append, sum_span c p k n]
    simp only [List.map_cons, List.map_nil, List.sum_cons, List.sum_nil]
    by_cases h : p ≤ n ∧ n < p + k
    · rw [if_pos h, show min (n + 1) (p + k) - min (n + 1) p = (min n (p + k) - min n p) + 1 by omega, Int.natCast_add, Int.add_mul]
      simp
    · rw [if_neg h, show min (n + 1) (p + k) - min (n + 1) p = min n (p + k) - min n p by omega]
      omega
theorem len_sum (hW : ∀ p, ∀ w ∈ W p, 1 ≤ w.length ∧ p + w.length ≤ n) : sp W n (fun p w => (w.length : Int) * cnt W n p w) = n * nw W n 0 := by
  have hW1 : ∀ p, ∀ w ∈ W p, 1 ≤ w.length := fun p w hw => (hW p w hw).1
  have h := sumL_sp (W := W) (n := n) (fun x p w => if p ≤ x ∧ x < p + w.length then cnt W n p w else 0) (List.range n)
  have h2 : ((List.range n).map fun x => sp W n fun p w => if p ≤ x ∧ x < p + w.length then cnt W n p w else 0).sum = ((List.range n).map fun _ => nw W n 0).sum := by
    congr 1
    exact List.map_congr_left fun x hx => cov hW1 x (List.mem_range.mp hx)
  rw [h2, sum_const] at h
  rw [h]
  refine sp_congr fun p hp w hw => ?_
  rw [sum_span, show min n (p + w.length) - min n p = w.length by have := hW p w hw; omega]
theorem lens_spots (q : Nat → Tx → Bool) : (((spots W n q).map fun s => s.2).flatten.length : Int) = sp W n fun p w => if q p w = true then (w.length : Int) else 0 := by
  unfold spots sp
  generalize List.range n = ps
  induction ps with
  | nil => rfl
  | cons p r ih =>
    rw [List.flatMap_cons, List.map_append, List.flatten_append, List.length_append, Int.natCast_add, ih, List.map_cons, List.sum_cons]
    congr 1
    generalize W p = ws
    induction ws with
    | nil => rfl
    | cons w r ih =>
      rw [List.filter_cons, List.map_cons, List.sum_cons]
      show _ = (if q p w = true then (w.length : Int) else 0) + _
      by_cases h : q p w = true
      · rw [if_pos h, if_pos h]
        simp only [List.map_cons, List.flatten_cons, List.length_append, Int.natCast_add]
        exact congrArg (fun z => (w.length : Int) + z) ih
      · rw [if_neg h, if_neg h, Int.zero_add]
        exact ih
theorem lone_one (hW : ∀ p, ∀ w ∈ W p, 1 ≤ w.length ∧ p + w.length ≤ n) (h : 0 < nw W n 0) (hj : ((allS W n).map fun s => s.2).flatten.length = n) : nw W n 0 = 1 := by
  have hW1 : ∀ p, ∀ w ∈ W p, 1 ≤ w.length := fun p w hw => (hW p w hw).1
  have h1 := lens_spots (W := W) (n := n) fun p w => decide (cnt W n p w = nw W n 0)
  rw [show ((spots W n fun p w => decide (cnt W n p w = nw W n 0)).map fun s => s.2).flatten.length = n from hj] at h1
  have h2 := len_sum hW
  have h3 := sp_mulr (W := W) (n := n) (fun p w => if decide (cnt W n p w = nw W n 0) = true then (w.length : Int) else 0) (nw W n 0)
  rw [← h1] at h3
  have hz : ∀ p, p < n → ∀ w ∈ W p, 0 < cnt W n p w → cnt W n p w = nw W n 0 := by
    intro p hp w hw h4
    refine Classical.byContradiction fun hne => ?_
    have h5 := sp_add (W := W) (n := n) (fun p w => (if decide (cnt W n p w = nw W n 0) = true then (w.length : Int) else 0) * nw W n 0) (fun p w => if decide (cnt W n p w = nw W n 0) = true then 0 else (w.length : Int) * cnt W n p w)
    have h6 : sp W n (fun p w => (if decide (cnt W n p w = nw W n 0) = true then (w.length : Int) else 0) * nw W n 0 + if decide (cnt W n p w = nw W n 0) = true then 0 else (w.length : Int) * cnt W n p w) = sp W n (fun p w => (w.length : Int) * cnt W n p w) := sp_congr fun p hp w hw => by
      by_cases e : cnt W n p w = nw W n 0
      · rw [if_pos (decide_eq_true e), if_pos (decide_eq_true e), e]
        omega
      · rw [if_neg (fun z => e (of_decide_eq_true z)), if_neg (fun z => e (of_decide_eq_true z)), Int.zero_mul, Int.zero_add]
    have h7 := sp_one (W := W) (n := n) (f := fun p w => if decide (cnt W n p w = nw W n 0) = true then 0 else (w.length : Int) * cnt W n p w) (fun q hq v hv => by
      split
      · exact Int.le_refl _
      · exact Int.mul_nonneg (by omega) (cnt_nn hW1 (by omega) v)) hp hw
    rw [if_neg (fun z => hne (of_decide_eq_true z))] at h7
    have := hW1 p w hw
    have h8 : 0 < (w.length : Int) * cnt W n p w := Int.mul_pos (by omega) h4
    omega
  have key : ∀ f p, n ≤ p + f → p ≤ n → 0 < ntT W n p → 0 < nw W n p → nw W n p = 1 := by
    intro f
    induction f with
    | zero =>
      intro p h1 h2 _ _
      have : p = n := by omega
      rw [this, nw_last]
    | succ f ih =>
      intro p h1 h2 h3 h4
      by_cases e : p = n
      · rw [e, nw_last]
      · have hlt : p < n := by omega
        have h4' := h4
        rw [nw_at W (hW1 p) hlt] at h4'
        obtain ⟨w, hw, h5⟩ := sum_pos h4'
        have h6 := hz p hlt w hw (Int.mul_pos h3 h5)
        obtain ⟨w1, w2⟩ := hW p w hw
        have h7 := ih (p + w.length) (by omega) w2 (Int.lt_of_lt_of_le h3 (nt_step hW hlt hw)) h5
        have h8 := cross hW h2
        have h9 : 0 ≤ sp W n (fun q v => if q < p ∧ p < q + v.length then cnt W n q v else 0) := sp_nn fun q hq v hv => by
          split
          · exact cnt_nn hW1 (by omega) v
          · exact Int.le_refl _
        have h10 : ntT W n p * nw W n p ≤ ntT W n p * 1 := by
          have : cnt W n p w = ntT W n p * 1 := by unfold cnt; rw [h7]
          omega
        have := Int.le_of_mul_le_mul_left h10 h3
        omega
  exact key n 0 (by omega) (Nat.zero_le n) (by rw [nt_zero hW1]; decide) h
/-- the words from a place on -/
def Jr (e : Nat → Tx) : Nat → Nat → Tx
  | 0, _ => []
  | f + 1, p => e p ++ Jr e f (p + 1)
theorem Jr_add (e : Nat → Tx) : ∀ a b p, Jr e (a + b) p = Jr e a p ++ Jr e b (p + a)
  | 0, b, p => by rw [Nat.zero_add]; rfl
  | a + 1, b, p => by
    rw [show a + 1 + b = (a + b) + 1 by omega]
    show e p ++ Jr e (a + b) (p + 1) = (e p ++ Jr e a (p + 1)) ++ _
    rw [Jr_add e a b, List.append_assoc, show p + 1 + a = p + (a + 1) by omega]
theorem Jr_nil {e : Nat → Tx} : ∀ {a p : Nat}, (∀ q, p ≤ q → q < p + a → e q = []) → Jr e a p = []
  | 0, _, _ => rfl
  | a + 1, p, h => by
    show e p ++ Jr e a (p + 1) = []
    rw [h p (by omega) (by omega), Jr_nil fun q h1 h2 => h q (by omega) (by omega)]
    rfl
theorem Jr_range (e : Nat → Tx) : ∀ k p, Jr e k p = ((List.range k).map fun i => e (p + i)).flatten
  | 0, _ => rfl
  | k + 1, p => by
    show e p ++ Jr e k (p + 1) = _
    rw [List.range_succ_eq_map, List.map_cons, List.flatten_cons, List.map_map, Jr_range e k (p + 1)]
    congr 2
    exact List.map_congr_left fun i _ => by
      show e (p + 1 + i) = e (p + (i + 1))
      rw [show p + 1 + i = p + (i + 1) by omega]
theorem one_left {g : Tx → Int} : ∀ {ws : List Tx}, (∀ w ∈ ws, 0 ≤ g w) → (ws.map g).sum = 1 → ∃ w ∈ ws, g w = 1 ∧ ws.filter (fun v => decide (g v = 1)) = [w]
  | [], _, h => by simp at h
  | a :: r, hn, h => by
    rw [List.map_cons, List.sum_cons] at h
    have h0 := hn a (by simp)
    have hr : ∀ w ∈ r, 0 ≤ g w := fun w hw => hn w (by simp [hw])
    have h1 := sum_nn hr
    by_cases e : g a = 1
    · refine ⟨a, by simp, e, ?_⟩
      rw [List.filter_cons, if_pos (decide_eq_true e)]
      have : r.filter (fun v => decide (g v = 1)) = [] := by
        rw [List.filter_eq_nil_iff]
        intro v hv hd
        have := of_decide_eq_true hd
        have := sum_one hr hv
        omega
      rw [this]
    · obtain ⟨w, h2, h3, h4⟩ := one_left hr (by omega)
      exact ⟨w, by simp [h2], h3, by rw [List.filter_cons, if_neg (fun z => e (of_decide_eq_true z)), h4]⟩
theorem flat_snd (F : Nat → List Tx) : ∀ ps : List Nat, ((ps.flatMap fun p => (F p).map fun w => (p, w)).map fun s => s.2).flatten = (ps.map fun p => (F p).flatten).flatten
  | [] => rfl
  | p :: r => by
    rw [List.flatMap_cons, List.map_append, List.flatten_append, flat_snd F r, List.map_cons, List.flatten_cons, List.map_map]
    congr 2
    exact List.map_id _
theorem one_lone {l : Tx} (hW : ∀ p, ∀ w ∈ W p, 1 ≤ w.length ∧ p + w.length ≤ n) (hn : n = l.length) (hw : ∀ p, ∀ w ∈ W p, w = (l.drop p).take w.length) (h : nw W n 0 = 1) : ((allS W n).map fun s => s.2).flatten = l := by
  have hW1 : ∀ p, ∀ w ∈ W p, 1 ≤ w.length := fun p w hw => (hW p w hw).1
  have he : ((allS W n).map fun s => s.2).flatten = Jr (fun p => ((W p).filter fun w => decide (cnt W n p w = 1)).flatten) n 0 := by
    rw [Jr_range]
    unfold allS spots
    rw [h]
    simp only [Nat.zero_add]
    exact flat_snd (fun p => (W p).filter fun w => decide (cnt W n p w = 1)) (List.range n)
  rw [he]
  have key : ∀ f p, n = p + f → 0 < ntT W n p → 0 < nw W n p → Jr (fun p => ((W p).filter fun w => decide (cnt W n p w = 1)).flatten) f p = l.drop p := fun f => by
    induction f using Nat.strongRecOn with
    | _ f ih =>
      intro p hf h1 h2
      have hx := cross hW (m := p) (by omega)
      have h9 : 0 ≤ sp W n (fun q v => if q < p ∧ p < q + v.length then cnt W n q v else 0) := sp_nn fun q hq v hv => by
        split
        · exact cnt_nn hW1 (by omega) v
        · exact Int.le_refl _
      by_cases e : f = 0
      · subst e
        rw [List.drop_eq_nil_of_le (by omega)]
        rfl
      · have hlt : p < n := by omega
        have h3 : ntT W n p * nw W n p = 1 := by
          have := Int.mul_pos h1 h2
          omega
        have h4 : ((W p).map (cnt W n p)).sum = 1 := by
          rw [← h3, nw_at W (hW1 p) hlt]
          exact sum_mull _ _ _
        obtain ⟨w, g1, g2, g3⟩ := one_left (fun w _ => cnt_nn hW1 (by omega) w) h4
        obtain ⟨w1, w2⟩ := hW p w g1
        obtain ⟨k, hk⟩ : ∃ k, w.length = k + 1 := ⟨w.length - 1, by omega⟩
        obtain ⟨j, hj⟩ : ∃ j, f = k + 1 + j := ⟨f - (k + 1), by omega⟩
        have hnb : 0 < nw W n (p + w.length) := by
          rcases Int.lt_or_eq_of_le (nw_pos (n := n) hW1 (p + w.length)) with z | z
          · exact z
          · unfold cnt at g2
            rw [← z, Int.mul_zero] at g2
            omega
        have hi := ih j (by omega) (p + w.length) (by omega) (Int.lt_of_lt_of_le h1 (nt_step hW hlt g1)) hnb
        rw [hj, show k + 1 + j = (k + j) + 1 by omega]
        show ((W p).filter fun w => decide (cnt W n p w = 1)).flatten ++ Jr _ (k + j) (p + 1) = _
        rw [g3, Jr_add, Jr_nil (a := k) (p := p + 1), show p + 1 + k = p + w.length by omega, hi]
        · rw [List.flatten_cons, List.flatten_nil, List.append_nil, List.nil_append]
          conv => lhs; rw [hw p w g1]
          rw [List.length_take, List.length_drop, show min w.length (l.length - p) = w.length by omega, ← List.drop_drop, List.take_append_drop]
        · intro q q1 q2
          have : (W q).filter (fun v => decide (cnt W n q v = 1)) = [] := by
            rw [List.filter_eq_nil_iff]
            intro v hv hd
            have hd := of_decide_eq_true hd
            have := hW q v hv
            have := cnt_two hW1 hlt g1 (by omega) hv (by intro z; have := congrArg Prod.fst z; dsimp only at this; omega) (x := q) (by omega) (by omega) (Nat.le_refl q) (by omega) (by omega)
            omega
          rw [this]
          rfl
  exact key n 0 (by omega) (by rw [nt_zero hW1]; decide) (by rw [h]; decide)
end
/-! ### texts joined -/
theorem sum_filter {α : Type} (f : α → Int) (P : α → Bool) : ∀ xs : List α, (xs.map f).sum = ((xs.filter P).map f).sum + ((xs.filter fun x => !P x).map f).sum
  | [] => rfl
  | a :: r => by
    rw [List.map_cons, List.sum_cons, sum_filter f P r, List.filter_cons, List.filter_cons]
    by_cases h : P a = true
    · rw [if_pos h, if_neg (by rw [h]; decide), List.map_cons, List.sum_cons]
      omega
    · rw [if_neg h, if_pos (by rw [Bool.eq_false_iff.mpr h]; rfl), List.map_cons, List.sum_cons]
      omega
section
variable {kvs : List (Kd × D)} {a b : Tx}
theorem wd_ok (kvs : List (Kd × D)) (l : Tx) : ∀ p, ∀ w ∈ wordsFrom kvs l p, 1 ≤ w.length ∧ p + w.length ≤ l.length := fun p w hw => ⟨(wds_eq kvs l p w hw).1, (wds_eq kvs l p w hw).2.1⟩
theorem wd_1 (kvs : List (Kd × D)) (l : Tx) : ∀ p, ∀ w ∈ wordsFrom kvs l p, 1 ≤ w.length := fun p w hw => (wd_ok kvs l p w hw).1
/-- the words of the second one -/
theorem words_R (p : Nat) : wordsFrom kvs (a ++ b) (a.length + p) = wordsFrom kvs b p := by
  unfold wordsFrom
  rw [List.length_append, show a.length + b.length - (a.length + p) = b.length - p by omega, List.drop_append, List.drop_eq_nil_of_le (by omega), List.nil_append, show a.length + p - a.length = p by omega]
/-- the words of the first one -/
theorem words_L (p : Nat) : (wordsFrom kvs (a ++ b) p).filter (fun w => decide (p + w.length ≤ a.length)) = wordsFrom kvs a p := by
  unfold wordsFrom
  rw [List.filter_filter, List.length_append]
  obtain ⟨d, hd⟩ : ∃ d, min 12 (a.length + b.length - p) = min 12 (a.length - p) + d := ⟨min 12 (a.length + b.length - p) - min 12 (a.length - p), by omega⟩
  rw [hd, List.range_add, List.map_append, List.filter_append]
  have e2 : (((List.range d).map fun x => min 12 (a.length - p) + x).map fun k => ((a ++ b).drop p).take (k + 1)).filter (fun w => decide (p + w.length ≤ a.length) && hasK kvs (.inr w)) = [] := by
    rw [List.filter_eq_nil_iff]
    intro w hw
    obtain ⟨k, hk, rfl⟩ := List.mem_map.mp hw
    obtain ⟨x, hx, rfl⟩ := List.mem_map.mp hk
    have hx := List.mem_range.mp hx
    rw [decide_eq_false (by rw [List.length_take, List.length_drop, List.length_append]; omega)]
    simp
  rw [e2, List.append_nil]
  have e1 : ((List.range (min 12 (a.length - p))).map fun k => ((a ++ b).drop p).take (k + 1)) = (List.range (min 12 (a.length - p))).map fun k => (a.drop p).take (k + 1) := by
    refine List.map_congr_left fun k hk => ?_
    have hk := List.mem_range.mp hk
    rw [List.drop_append_of_le_length (by omega), List.take_append_of_le_length (by rw [List.length_drop]; omega)]
  rw [e1]
  refine List.filter_congr fun w hw => ?_
  obtain ⟨k, hk, rfl⟩ := List.mem_map.mp hw
  have hk := List.mem_range.mp hk
  rw [decide_eq_true (by rw [List.length_take, List.length_drop]; omega), Bool.true_and]
/-- those over the joint -/
def Wx (kvs : List (Kd × D)) (a b : Tx) (p : Nat) : List Tx := (wordsFrom kvs (a ++ b) p).filter fun w => !decide (p + w.length ≤ a.length)
theorem mem_Wx {p : Nat} {w : Tx} : w ∈ Wx kvs a b p ↔ w ∈ wordsFrom kvs (a ++ b) p ∧ a.length < p + w.length := by
  unfold Wx
  rw [List.mem_filter]
  simp
theorem sp_range_add (W : Nat → List Tx) (m k : Nat) (f : Nat → Tx → Int) : sp W (m + k) f = sp W m f + sp (fun q => W (m + q)) k (fun q w => f (m + q) w) := by
  unfold sp
  rw [List.range_add, List.map_append, List.sum_append, List.map_map]
  rfl
theorem sp_cat (f : Nat → Tx → Int) : sp (wordsFrom kvs (a ++ b)) (a ++ b).length f = sp (wordsFrom kvs a) a.length f + sp (Wx kvs a b) a.length f + sp (wordsFrom kvs b) b.length (fun q w => f (a.length + q) w) := by
  rw [List.length_append, sp_range_add]
  congr 1
  · unfold sp
    rw [← sum_add]
    congr 1
    refine List.map_congr_left fun p _ => ?_
    rw [sum_filter (f p) (fun w => decide (p + w.length ≤ a.length)), words_L]
    rfl
  · unfold sp
    congr 1
    refine List.map_congr_left fun p _ => ?_
    show ((wordsFrom kvs (a ++ b) (a.length + p)).map fun w => f (a.length + p) w).sum = _
    rw [words_R]
theorem sp_zero {W : Nat → List Tx} {n : Nat} {f : Nat → Tx → Int} (h : ∀ p, p < n → ∀ w ∈ W p, f p w = 0) : sp W n f = 0 := sum_zero fun p hp => sum_zero fun w hw => h p (List.mem_range.mp hp) w hw
/-- from the front, in the first one -/
theorem nt_L : ∀ p, p ≤ a.length → ntT (wordsFrom kvs (a ++ b)) (a ++ b).length p = ntT (wordsFrom kvs a) a.length p := fun p => by
  induction p using Nat.strongRecOn with
  | _ p ih =>
    intro hp
    by_cases h : p = 0
    · rw [h, nt_zero (wd_1 _ _), nt_zero (wd_1 _ _)]
    · rw [nt_in (wd_1 _ _) (by omega) (by rw [List.length_append]; omega), nt_in (wd_1 _ _) (by omega) hp, sp_cat,
        sp_zero (W := Wx kvs a b) fun q hq w hw => if_neg (by have := (mem_Wx.mp hw).2; omega),
        sp_zero (W := wordsFrom kvs b) fun q hq w hw => if_neg (by have := wd_1 _ _ q w hw; omega), Int.add_zero, Int.add_zero]
      refine sp_congr fun q hq w hw => ?_
      by_cases e : q + w.length = p
      · have := wd_1 _ _ q w hw
        rw [if_pos e, if_pos e, ih q (by omega) (by omega)]
      · rw [if_neg e, if_neg e]
/-- from behind, in the second one -/
theorem nw_R : ∀ k p, p ≤ b.length → b.length ≤ p + k → nw (wordsFrom kvs (a ++ b)) (a ++ b).length (a.length + p) = nw (wordsFrom kvs b) b.length p
  | 0, p, h1, h2 => by
    have : p = b.length := by omega
    rw [this, nw_last, List.length_append, ← List.length_append, nw_last]
  | k + 1, p, h1, h2 => by
    by_cases e : p = b.length
    · rw [e, nw_last, ← List.length_append, nw_last]
    · rw [nw_at _ (wd_1 _ _ _) (by rw [List.length_append]; omega), nw_at _ (wd_1 _ _ _) (show p < b.length by omega), words_R]
      congr 1
      refine List.map_congr_left fun w hw => ?_
      have := wd_ok _ _ p w hw
      rw [Nat.add_assoc]
      exact nw_R k _ (by omega) (by omega)
theorem nw_joint : nw (wordsFrom kvs (a ++ b)) (a ++ b).length a.length = nw (wordsFrom kvs b) b.length 0 := nw_R (a := a) (kvs := kvs) b.length 0 (Nat.zero_le _) (by omega)
theorem nt_joint : ntT (wordsFrom kvs (a ++ b)) (a ++ b).length a.length = nw (wordsFrom kvs a) a.length 0 := by
  rw [nt_L _ (Nat.le_refl _), nt_end (wd_ok _ _)]
section
variable (H : ntT (wordsFrom kvs (a ++ b)) (a ++ b).length a.length * nw (wordsFrom kvs (a ++ b)) (a ++ b).length a.length = nw (wordsFrom kvs (a ++ b)) (a ++ b).length 0)
include H
/-- none is over the joint -/
theorem over_zero {p : Nat} (hp : p < a.length) {w : Tx} (hw : w ∈ Wx kvs a b p) : cnt (wordsFrom kvs (a ++ b)) (a ++ b).length p w = 0 := by
  obtain ⟨h1, h2⟩ := mem_Wx.mp hw
  have hl : a.length ≤ (a ++ b).length := by rw [List.length_append]; omega
  have hc := cross (wd_ok kvs (a ++ b)) hl
  have ho := sp_one (W := wordsFrom kvs (a ++ b)) (n := (a ++ b).length) (f := fun q v => if q < a.length ∧ a.length < q + v.length then cnt (wordsFrom kvs (a ++ b)) (a ++ b).length q v else 0) (fun q hq v hv => by
    split
    · exact cnt_nn (wd_1 _ _) (by omega) v
    · exact Int.le_refl _) (show p < (a ++ b).length by omega) h1
  rw [if_pos ⟨hp, h2⟩] at ho
  have := cnt_nn (wd_1 kvs (a ++ b)) (show p ≤ (a ++ b).length by omega) w
  omega
theorem nw_L : ∀ k p, p ≤ a.length → a.length ≤ p + k → 0 < ntT (wordsFrom kvs (a ++ b)) (a ++ b).length p → nw (wordsFrom kvs (a ++ b)) (a ++ b).length p = nw (wordsFrom kvs a) a.length p * nw (wordsFrom kvs b) b.length 0
  | 0, p, h1, h2, _ => by
    have : p = a.length := by omega
    rw [this, nw_joint, nw_last, Int.one_mul]
  | k + 1, p, h1, h2, h3 => by
    by_cases e : p = a.length
    · rw [e, nw_joint, nw_last, Int.one_mul]
    · have hlt : p < a.length := by omega
      have hlb : p < (a ++ b).length := by rw [List.length_append]; omega
      rw [nw_at _ (wd_1 _ _ _) hlb, sum_filter _ (fun w => decide (p + w.length ≤ a.length)), words_L, nw_at _ (wd_1 _ _ _) hlt, ← sum_mulr]
      have e2 : (((wordsFrom kvs (a ++ b) p).filter fun w => !decide (p + w.length ≤ a.length)).map fun w => nw (wordsFrom kvs (a ++ b)) (a ++ b).length (p + w.length)).sum = 0 := by
        refine sum_zero fun w hw => ?_
        have := over_zero H hlt (show w ∈ Wx kvs a b p from hw)
        unfold cnt at this
        rcases Int.mul_eq_zero.mp this with z | z
        · omega
        · exact z
      rw [e2, Int.add_zero]
      congr 1
      refine List.map_congr_left fun w hw => ?_
      have := wd_ok _ _ p w hw
      exact nw_L k _ (by omega) (by omega) (Int.lt_of_lt_of_le h3 (nt_step (wd_ok _ _) hlb (words_catL hw)))
theorem nt_R : ∀ p, p ≤ b.length → 0 < nw (wordsFrom kvs b) b.length p → ntT (wordsFrom kvs (a ++ b)) (a ++ b).length (a.length + p) = nw (wordsFrom kvs a) a.length 0 * ntT (wordsFrom kvs b) b.length p := fun p => by
  induction p using Nat.strongRecOn with
  | _ p ih =>
    intro hp h0
    by_cases h : p = 0
    · subst h
      rw [nt_zero (wd_1 _ _), Int.mul_one]
      exact nt_joint
    · rw [nt_in (wd_1 _ _) (by omega) (by rw [List.length_append]; omega), nt_in (wd_1 _ _) (show 1 ≤ p by omega) hp, sp_cat,
        sp_zero (W := wordsFrom kvs a) fun q hq w hw => if_neg (by have := wd_ok _ _ q w hw; omega),
        sp_zero (W := Wx kvs a b) fun q hq w hw => by
          by_cases e : q + w.length = a.length + p
          · rw [if_pos e]
            have := over_zero H hq hw
            unfold cnt at this
            rw [e, nw_R (a := a) (kvs := kvs) b.length p hp (by omega)] at this
            rcases Int.mul_eq_zero.mp this with z | z
            · exact z
            · omega
          · rw [if_neg e],
        Int.zero_add, Int.zero_add]
      rw [Int.mul_comm, ← sp_mulr]
      refine sp_congr fun q hq w hw => ?_
      have := wd_1 _ _ q w hw
      by_cases e : q + w.length = p
      · rw [if_pos (by omega), if_pos e, ih q (by omega) (by omega) (Int.lt_of_lt_of_le (by rw [← e] at h0; exact h0) (nw_step (wd_1 _ _) hq hw)), Int.mul_comm]
      · rw [if_neg (by omega), if_neg e, Int.zero_mul]
theorem all_cuts : nw (wordsFrom kvs (a ++ b)) (a ++ b).length 0 = nw (wordsFrom kvs a) a.length 0 * nw (wordsFrom kvs b) b.length 0 := by
  rw [← H, nt_joint, nw_joint]
theorem cnt_L {p : Nat} (hp : p < a.length) {w : Tx} (hw : w ∈ wordsFrom kvs a p) : cnt (wordsFrom kvs (a ++ b)) (a ++ b).length p w = cnt (wordsFrom kvs a) a.length p w * nw (wordsFrom kvs b) b.length 0 := by
  have := wd_ok _ _ p w hw
  have hlb : p < (a ++ b).length := by rw [List.length_append]; omega
  have hn := nt_nn (wd_1 kvs a) p (show p ≤ a.length by omega)
  unfold cnt
  rcases Int.lt_or_eq_of_le hn with z | z
  · rw [nt_L p (by omega), nw_L H a.length (p + w.length) (by omega) (by omega) (Int.lt_of_lt_of_le (by rw [nt_L p (by omega)]; exact z) (nt_step (wd_ok _ _) hlb (words_catL hw))), Int.mul_assoc]
  · rw [nt_L p (by omega), ← z, Int.zero_mul, Int.zero_mul, Int.zero_mul]
theorem cnt_R {p : Nat} (hp : p < b.length) {w : Tx} (hw : w ∈ wordsFrom kvs b p) : cnt (wordsFrom kvs (a ++ b)) (a ++ b).length (a.length + p) w = nw (wordsFrom kvs a) a.length 0 * cnt (wordsFrom kvs b) b.length p w := by
  have := wd_ok _ _ p w hw
  unfold cnt
  rw [Nat.add_assoc, nw_R (a := a) (kvs := kvs) b.length (p + w.length) (by omega) (by omega)]
  rcases Int.lt_or_eq_of_le (nw_pos (n := b.length) (wd_1 kvs b) (p + w.length)) with z | z
  · rw [nt_R H p (by omega) (Int.lt_of_lt_of_le z (nw_step (wd_1 _ _) hp hw)), Int.mul_assoc]
  · rw [← z, Int.mul_zero, Int.mul_zero, Int.mul_zero]
end
/-! the words of both -/
theorem some_L (h2 : 0 < nw (wordsFrom kvs b) b.length 0) {s : Nat × Tx} (hs : s ∈ someS (wordsFrom kvs a) a.length) : s ∈ someS (wordsFrom kvs (a ++ b)) (a ++ b).length := by
  obtain ⟨p, w⟩ := s
  obtain ⟨hp, hw, hc⟩ := (mem_some _).mp hs
  dsimp only at hp hw hc
  have := wd_ok _ _ p w hw
  have hn := nt_nn (wd_1 kvs a) p (show p ≤ a.length by omega)
  have hm := nw_pos (n := a.length) (wd_1 kvs a) (p + w.length)
  unfold cnt at hc
  have n1 : 0 < ntT (wordsFrom kvs a) a.length p := by
    rcases Int.lt_or_eq_of_le hn with z | z
    · exact z
    · rw [← z, Int.zero_mul] at hc; omega
  have n2 : 0 < nw (wordsFrom kvs a) a.length (p + w.length) := by
    rcases Int.lt_or_eq_of_le hm with z | z
    · exact z
    · rw [← z, Int.mul_zero] at hc; omega
  obtain ⟨us, hus⟩ := path_nw (wd_ok kvs a) (show p + w.length ≤ a.length by omega) n2
  obtain ⟨vs, hvs⟩ := path_nw (wd_ok kvs b) (Nat.zero_le _) h2
  refine (mem_some _).mpr ⟨by rw [List.length_append]; show p < _; omega, words_catL hw, ?_⟩
  unfold cnt
  refine Int.mul_pos (by rw [nt_L p (by omega)]; exact n1) (nw_path (wd_1 _ _) _ _ (path_cat hvs us _ hus))
theorem nt_R_pos (h1 : 0 < nw (wordsFrom kvs a) a.length 0) {p : Nat} : ∀ ws q, IsPath (wordsFrom kvs b) p q ws → p ≤ b.length → 0 < ntT (wordsFrom kvs (a ++ b)) (a ++ b).length (a.length + q) → 0 < ntT (wordsFrom kvs (a ++ b)) (a ++ b).length (a.length + p)
  | [], q, h, _, h0 => by
    have : q = p := h
    rwa [← this]
  | w :: r, q, ⟨g1, g2, g3⟩, hp, h0 => by
    refine nt_R_pos h1 r _ g3 hp (Int.lt_of_lt_of_le h0 ?_)
    rw [← Nat.add_assoc]
    exact nt_step (wd_ok _ _) (by rw [List.length_append]; omega) (words_catR g2)
theorem some_R (h1 : 0 < nw (wordsFrom kvs a) a.length 0) {s : Nat × Tx} (hs : s ∈ someS (wordsFrom kvs b) b.length) : (a.length + s.1, s.2) ∈ someS (wordsFrom kvs (a ++ b)) (a ++ b).length := by
  obtain ⟨p, w⟩ := s
  obtain ⟨hp, hw, hc⟩ := (mem_some _).mp hs
  dsimp only at hp hw hc ⊢
  have := wd_ok _ _ p w hw
  have hn := nt_nn (wd_1 kvs b) p (show p ≤ b.length by omega)
  have hm := nw_pos (n := b.length) (wd_1 kvs b) (p + w.length)
  unfold cnt at hc
  have n1 : 0 < ntT (wordsFrom kvs b) b.length p := by
    rcases Int.lt_or_eq_of_le hn with z | z
    · exact z
    · rw [← z, Int.zero_mul] at hc; omega
  have n2 : 0 < nw (wordsFrom kvs b) b.length (p + w.length) := by
    rcases Int.lt_or_eq_of_le hm with z | z
    · exact z
    · rw [← z, Int.mul_zero] at hc; omega
  obtain ⟨us, hus⟩ := path_nt (wd_ok kvs b) p (by omega) n1
  refine (mem_some _).mpr ⟨by rw [List.length_append]; show a.length + p < _; omega, words_catR hw, ?_⟩
  unfold cnt
  refine Int.mul_pos (nt_R_pos h1 us 0 hus (by omega) (by rw [Nat.add_zero, nt_joint]; exact h1)) ?_
  show 0 < nw _ _ (a.length + p + w.length)
  rw [Nat.add_assoc, nw_R (a := a) (kvs := kvs) b.length (p + w.length) (by omega) (by omega)]
  exact n2
theorem spots_add (W : Nat → List Tx) (m k : Nat) (q : Nat → Tx → Bool) : spots W (m + k) q = spots W m q ++ (spots (fun p => W (m + p)) k fun p w => q (m + p) w).map fun s => (m + s.1, s.2) := by
  unfold spots
  rw [List.range_add, List.flatMap_append, List.map_flatMap]
  congr 1
  rw [List.flatMap_map]
  simp only [List.flatMap_def]
  congr 1
  refine List.map_congr_left fun p _ => ?_
  rw [List.map_map]
  rfl
theorem all_cat (h1 : 0 < nw (wordsFrom kvs a) a.length 0) (h2 : 0 < nw (wordsFrom kvs b) b.length 0) (H : a.length ∈ placesS (wordsFrom kvs (a ++ b)) (a ++ b).length) : allS (wordsFrom kvs (a ++ b)) (a ++ b).length = allS (wordsFrom kvs a) a.length ++ (allS (wordsFrom kvs b) b.length).map fun s => (a.length + s.1, s.2) := by
  have H := ((mem_places _).mp H).2
  have hc := all_cuts H
  have hcp : 0 < nw (wordsFrom kvs (a ++ b)) (a ++ b).length 0 := by rw [hc]; exact Int.mul_pos h1 h2
  conv => lhs; unfold allS; rw [show spots (wordsFrom kvs (a ++ b)) (a ++ b).length = spots (wordsFrom kvs (a ++ b)) (a.length + b.length) by rw [List.length_append]]
  rw [spots_add]
  congr 1
  · unfold allS spots
    simp only [List.flatMap_def]
    congr 1
    refine List.map_congr_left fun p hp => ?_
    have hp := List.mem_range.mp hp
    congr 1
    rw [← words_L (kvs := kvs) (a := a) (b := b) p, List.filter_filter]
    refine List.filter_congr fun w hw => ?_
    by_cases e : p + w.length ≤ a.length
    · have hwa : w ∈ wordsFrom kvs a p := by rw [← words_L (kvs := kvs) (a := a) (b := b) p]; exact List.mem_filter.mpr ⟨hw, decide_eq_true e⟩
      rw [decide_eq_true e, Bool.and_true, cnt_L H hp hwa, hc]
      have : (cnt (wordsFrom kvs a) a.length p w * nw (wordsFrom kvs b) b.length 0 = nw (wordsFrom kvs a) a.length 0 * nw (wordsFrom kvs b) b.length 0) = (cnt (wordsFrom kvs a) a.length p w = nw (wordsFrom kvs a) a.length 0) := propext (Int.mul_eq_mul_right_iff (by omega))
      simp only [this]
    · rw [decide_eq_false e, Bool.and_false, over_zero H hp (mem_Wx.mpr ⟨hw, by omega⟩), decide_eq_false (by omega)]
  · congr 1
    unfold allS spots
    simp only [List.flatMap_def]
    congr 1
    refine List.map_congr_left fun p hp => ?_
    have hp := List.mem_range.mp hp
    congr 1
    rw [words_R]
    refine List.filter_congr fun w hw => ?_
    rw [cnt_R H hp hw, hc]
    have : (nw (wordsFrom kvs a) a.length 0 * cnt (wordsFrom kvs b) b.length p w = nw (wordsFrom kvs a) a.length 0 * nw (wordsFrom kvs b) b.length 0) = (cnt (wordsFrom kvs b) b.length p w = nw (wordsFrom kvs b) b.length 0) := propext (Int.mul_eq_mul_left_iff (by omega))
    simp only [this]
end
end PD

set_option pp.maxSteps 1500
namespace PD
open PySem PySem.Spec PyProof.Rows L2
def pre_x_cut_count : List AR → Prop := preX 2 1 pre_cut_count
def F_x_cut_count : List AR → Except EN AR := FX 1 f_cut_count
def p_x_cut_count : PTS :=
  (pSeq (pDrop (pCallX (callX pre_x_need_text F_x_need_text) (pCons (pVar 1) pNil)))
  (pRet (pOp2 bIx (pCalls (callP pre_ways_on f_ways_on) (pCons (pVar 0) (pCons (pVar 1) pNil))) (pC (.int 0)))))
abbrev N_x_cut_count : List Str := ["book", "text"]
local macro_rules | `(tactic| walk_at "rd") => `(tactic| simp (config := { decide := true }) only [pSeq_then, pNext, pNever, pBreak, pCont, pDrop, pRet, pRetN, pIf, pSet, pSetD, setD, setP, setO, pVar, pC, pOp2, pTest, pAnd, pOr, pNot, pAndV, pOrV, pNotV, pIfE, pNil, pCons, pLst, pTup, pDict0, pDictC, pDM, dUpdate, pCall, pIsiP, pM1, bJoin, pNo, pPart, pSl, pSortI, pLM, lAppend, lInsert, lExtend, lPopAt, lPop, lReverse, lClear, pLc_eq, pFor_eq, pWhile_eq, pWip, pGw, wipeS, trunc, truncE, pItL, pItS, pRng1, pRng2, pRng3, pVarF, pAug, pDictLen, pLr3, pNeg, pCalls, callP, pEnum, pStepS, pRevL, bStarts, bEnds, pAugK, pItK, pFz, pRaise, pCallX, callX, pTry, pIsX, pLr1, pM0, bUpper, cListB, cTuple, pOrT, pDictLenT, pBor, borE, scalD, pPickL, cSum, cAbs,  merge_dictOf, filter_none, callN, toAR, R.fz, view, views, dats, O.toD, AR.toR, bAdd, bSub, bMul, bDiv, bMod, bPow, bEq, bCmp, bIn, bIs, bIx, bSl, cLen, cMin2, cMax2, cInt, cList, cDict, cSorted, plainD, isiB, tyn, pAsg, tgT, tgU, setsA, pSetIx, storeO, kdOf, pChain, cmpD, pYes, pTru, truD, Hand, tgN, wipeA, fnAbs, envA, ownsA, retA, conP, conN, List.set, List.set_cons_zero, List.set_cons_succ, List.set_nil, List.getElem?_cons_zero, List.getElem?_cons_succ, List.getElem?_nil, List.length_cons, List.length_nil, List.cons_append, List.nil_append, List.append_nil, List.replicate, Nat.reduceSub, Nat.reduceAdd, Nat.zero_add, Int.zero_add, true_and, and_true, reduceIte, Bool.false_eq_true, id, Bool.not_true, Bool.not_false, decide_true, decide_false, List.nodup_nil, List.nodup_cons, List.not_mem_nil, not_false_eq_true, List.take_zero, List.take_succ_cons, List.take_nil, List.map_cons, List.map_nil])
local macro_rules | `(tactic| walk_at "sc") => `(tactic| first | with_reducible assumption | omega | assumption | with_reducible rfl | exact True.intro | exact okD_ints | exact okD_nil | exact okD_int _ | exact okD_bl _ | exact okD_non | exact okD_sm (by assumption) | with_reducible exact cmulR (by omega) (by omega) | with_reducible exact cmulL (by omega) (by omega) | with_reducible exact cdivw (by omega) (by omega) | (with_reducible refine smallI_of ?_ ?_ <;> first | omega | (simp only [List.length_map, List.length_append, List.length_range, List.length_replicate, List.length_cons, List.length_nil, List.length_take, List.length_drop]; omega)) | (unfold CPow; decide) | (simp only [List.length_map, List.length_append, List.length_range, List.length_replicate, List.length_cons, List.length_nil, List.length_take, List.length_drop]; omega) | (refine ⟨?_, ?_⟩ <;> walk_at "sc"))
local macro_rules | `(tactic| walk_at "go") => `(tactic| repeat (first | walk_at "rd" | with_reducible refine then_go ?_ | (refine And.intro (by walk_at "sc") ?_) | (refine dict_of (by assumption) ?_) | rw [deq_self (by walk_at "sc")] | walk_at "sc"))
local macro_rules | `(tactic| walk_at "rt") => `(tactic| try walk_at "rd")
theorem r_x_cut_count : LawX p_x_cut_count N_x_cut_count 2 (conX pre_x_cut_count F_x_cut_count) := law_need (show Law (pSeq (headN 1) _) _ _ _ from r_cut_count)
end PD

namespace PD
open PySem PySem.Spec PyProof.Rows L2
/-! ### words at their places as data -/
theorem words_sm {kvs : List (Kd × D)} {l : Tx} (hl : small l = true) {p : Nat} {w : Tx} (hw : w ∈ wordsFrom kvs l p) : small w = true := by
  obtain ⟨_, _, _, e, _⟩ := words_in.mp hw
  rw [e]
  exact small_take (small_drop hl _) _
theorem spot_ok {s : Nat × Tx} (h : small s.2 = true) : chk (spotD s) = true ∧ dep (spotD s) ≤ 1 := by
  have := chkx_str (small_okX h)
  refine ⟨?_, by simp [spotD, dep, deps]⟩
  unfold spotD
  simp only [chk, chks, Bool.and_true, Bool.true_and]
  have := this.1
  simp only [chk] at this
  exact this
theorem spot_okD {s : Nat × Tx} (h : small s.2 = true) : okD (spotD s) := ⟨(spot_ok h).1, by have := (spot_ok h).2; omega⟩
theorem spots_okD {ss : List (Nat × Tx)} (h : ∀ s ∈ ss, small s.2 = true) : okD (.lst (ss.map spotD)) := okD_map (m := 1) (by decide) fun s hs => spot_ok (h s hs)
theorem in_spots {ss : List (Nat × Tx)} {s : Nat × Tx} (hm : s ∈ ss) (h : small s.2 = true) : (ss.map spotD).any (fun z => deq z (spotD s)) = true := by
  rw [List.any_map, List.any_eq_true]
  exact ⟨s, hm, deq_self (spot_okD h)⟩
theorem spot_inj {s t : Nat × Tx} (h : deq (spotD s) (spotD t) = true) : s = t := by
  unfold spotD at h
  rw [deq_tup] at h
  unfold deqs deqs deqs at h
  rw [deq_int, deq_str, Bool.and_true, Bool.and_eq_true, decide_eq_true_eq, decide_eq_true_eq] at h
  obtain ⟨h1, h2⟩ := h
  exact Prod.ext (by omega) h2
theorem any_spots {ss : List (Nat × Tx)} {s : Nat × Tx} (h : small s.2 = true) : (ss.map spotD).any (fun z => deq z (spotD s)) = decide (s ∈ ss) := by
  rw [Bool.eq_iff_iff, decide_eq_true_eq]
  refine ⟨fun e => ?_, fun e => in_spots e h⟩
  rw [List.any_map, List.any_eq_true] at e
  obtain ⟨t, ht, e⟩ := e
  rw [← spot_inj e]
  exact ht
theorem spots_len (kvs : List (Kd × D)) (l : Tx) (P : Int → Bool) : (spots (wordsFrom kvs l) l.length fun p w => P (cnt (wordsFrom kvs l) l.length p w)).length ≤ 12 * l.length := by
  have e := congrArg List.length (wbc_spots (W := wordsFrom kvs l) (n := l.length) P)
  rw [List.length_map, List.length_map] at e
  rw [← e]
  exact Nat.le_trans (List.length_filter_le _ _) wbc_len
theorem some_len (kvs : List (Kd × D)) (l : Tx) : (someS (wordsFrom kvs l) l.length).length ≤ 12 * l.length := spots_len kvs l fun x => decide (0 < x)
theorem all_len (kvs : List (Kd × D)) (l : Tx) : (allS (wordsFrom kvs l) l.length).length ≤ 12 * l.length := spots_len kvs l fun x => decide (x = nw (wordsFrom kvs l) l.length 0)
theorem places_len (W : Nat → List Tx) (n : Nat) : (placesS W n).length ≤ n + 1 := by
  have := List.length_filter_le (fun p => decide (ntT W n p * nw W n p = nw W n 0)) (List.range (n + 1))
  rwa [List.length_range] at this
theorem some_sm {kvs : List (Kd × D)} {l : Tx} (hl : small l = true) : ∀ s ∈ someS (wordsFrom kvs l) l.length, small s.2 = true := fun s hs => words_sm hl ((mem_some s).mp hs).2.1
theorem all_sm {kvs : List (Kd × D)} {l : Tx} (hl : small l = true) : ∀ s ∈ allS (wordsFrom kvs l) l.length, small s.2 = true := fun s hs => words_sm hl ((mem_all s).mp hs).2.1
/-! ### what the defs answer -/
theorem fx_pre {ds : List D} {l : Tx} (hp : isPairs ds) (hl : small l = true) (hll : l.length ≤ 100000) : pre_wbc [.d (.lst ds), .d (.str l)] :=
  ⟨hp, ⟨rfl, fun l' e => by cases e; exact ⟨small_okX hl, by omega⟩⟩, fun l' e _ => by cases e; exact hll⟩
theorem fx_prec {ds : List D} {l : Tx} (hp : isPairs ds) (hl : small l = true) (hll : l.length ≤ 100000) : pre_x_cut_count [.d (.lst ds), .d (.str l)] :=
  ⟨rfl, _, rfl, ⟨rfl, fun l' e => by cases e; exact ⟨small_okX hl, by omega⟩⟩, fun _ => ⟨hp, hl, by omega⟩⟩
theorem fx_count {ds : List D} {l : Tx} (hl : small l = true) : F_x_cut_count [.d (.lst ds), .d (.str l)] = .ok (.d (.int (nw (wordsFrom (dictOf ds) l) l.length 0))) := if_pos hl
theorem fx_W {g : (Nat → List Tx) → Nat → AR} {ds : List D} {l : Tx} (hl : small l = true) (h : 0 < nw (wordsFrom (dictOf ds) l) l.length 0) : fW g [.d (.lst ds), .d (.str l)] = .ok (g (wordsFrom (dictOf ds) l) l.length) := by
  unfold fW
  dsimp only
  rw [if_pos hl, if_neg (by omega)]
theorem fx_some {ds : List D} {l : Tx} (hl : small l = true) (h : 0 < nw (wordsFrom (dictOf ds) l) l.length 0) : F_x_some_words [.d (.lst ds), .d (.str l)] = .ok (.o (.lst ((someS (wordsFrom (dictOf ds) l) l.length).map spotD))) := by
  rw [← g_some_eq]
  exact fx_W hl h
theorem fx_all {ds : List D} {l : Tx} (hl : small l = true) (h : 0 < nw (wordsFrom (dictOf ds) l) l.length 0) : F_x_all_words [.d (.lst ds), .d (.str l)] = .ok (.o (.lst ((allS (wordsFrom (dictOf ds) l) l.length).map spotD))) := by
  rw [← g_all_eq]
  exact fx_W hl h
theorem fx_places {ds : List D} {l : Tx} (hl : small l = true) (h : 0 < nw (wordsFrom (dictOf ds) l) l.length 0) : F_x_all_places [.d (.lst ds), .d (.str l)] = .ok (.o (.lst ((placesS (wordsFrom (dictOf ds) l) l.length).map fun p : Nat => .int (p : Int)))) := fx_W hl h
/-! ### cuts of lists -/
theorem cut_first {α : Type} (x : α) (r : List α) : cutL (x :: r) none (some 1) = [x] := by
  unfold cutL HT.sIx
  simp
theorem cut_last {α : Type} (x : α) (r : List α) : cutL (r ++ [x]) (some (-1)) none = [x] := by
  unfold cutL HT.sIx
  simp
  rw [show (-1 + ((r.length : Int) + 1)).toNat = r.length by omega, List.drop_left, show r.length + 1 - r.length = 1 by omega]
  rfl
end PD

/-! PO, first part: lists and tuples that own lists. -/
namespace PD
open PySem PySem.Spec PyProof.Rows L2

section
variable {K : PySem.W.Frag} {B : Bas} {t : Nat → Addr} {S : Hp} {r : Addr → Lb} {M : List (Option O)} {H : Hp}
/-! ### data from here on -/
def pFzN (i : Nat) (p : PTS) : PTS := fun P A => match A.env[i]? with
  | some (.d _) => p P A
  | some (.p n) => (match A.M[n]? with
    | some (some (.nst x)) => p P ⟨A.env.set i (.d x.toD), A.M.set n none⟩
    | _ => False)
  | _ => False
theorem SR.known {m : Nat} {env : List AV} {σ : L2.St} {av : AV} (s : SR K S t m env σ) (i : Nat) (h : AVok K S t m av σ[i]?) : SR K S t m (env.set i av) σ where
  len := by rw [List.length_set]; exact s.len
  ok := fun j w e => by
    by_cases q : i = j
    · subst q
      have hi : i < env.length := by
        have := (List.getElem?_eq_some_iff.mp e).1
        rwa [List.length_set] at this
      rw [List.getElem?_set_self hi] at e
      cases e
      exact h
    · rw [List.getElem?_set_ne q] at e
      exact s.ok j w e
theorem DS.fzN {X : Cx} {E : WX} {e : Stmt} {t : TS} {p : PTS} (i : Nat) (h : DS X E e t p) : DS X E e t (pFzN i p) := ⟨h.pe, fun B σ H A P D rel x c => by
  unfold pFzN at x
  split at x
  · exact h.sim B σ H A P D rel x c
  · rename_i n e
    split at x
    · rename_i y ey
      obtain ⟨t, S, r, hr, s⟩ := rel
      obtain ⟨e1, hn⟩ := s.getP e
      obtain ⟨fp, h1, h2, h3, h4⟩ := hr.obj n _ ey
      have ex : Ext t S A.M.length t (fun b => if b ∈ fp then H b else S b) (A.M.set n none).length := ⟨fun b o q => hr.ext_fp (l := some n) h3 b o q, fun _ _ => rfl, by rw [List.length_set]; exact Nat.le_refl _⟩
      refine h.sim B σ H ⟨A.env.set i (.d y.toD), A.M.set n none⟩ P D ⟨t, _, _, hr.freezeN (l := some n) h3 (A.M.set n none) List.length_set fun m w q => ?_, (s.ext ex).known i ⟨_, e1, h4.dr ex.le fun b hb => if_pos hb⟩⟩ x c
      by_cases em : m = n
      · subst em
        rw [List.getElem?_set_self hn] at q
        cases q
      · rw [List.getElem?_set_ne (Ne.symm em)] at q
        exact ⟨q, fun z => em (Option.some.inj z).symm⟩
    · exact x.elim
  · exact x.elim⟩

/-! ### displays that own what they hold -/
def pConsN (p : PTE) (q : PTA) : PTA := fun A P Y => p A (fun y A1 => match y with
  | .o o => q ⟨A1.env, A1.M ++ [some o]⟩ (fun zs A2 => P (.p A1.M.length :: zs) A2) Y
  | .d x => q A1 (fun zs A2 => P (.d x :: zs) A2) Y
  | .p n => q A1 (fun zs A2 => P (.p n :: zs) A2) Y) Y
theorem nameA_ext {m : Nat} {a : Addr} : Ext t S m (nameA t m a) S (m + 1) := ⟨fun _ _ h => h, fun n hn => by unfold nameA; rw [if_neg (by omega)], by omega⟩
theorem sim_consN {E : WX} {te : TE} {ta : TA} {p : PTE} {q : PTA} (h1 : SimE K E te p) (h2 : SimA K E ta q) : SimA K E (tCons te ta) (pConsN p q) := fun B σ H A P Y Q rel k c xq => by
  refine h1 B σ H A _ Y _ rel k (fun y A1 v H1 p1 res => ?_) xq
  obtain ⟨t, S, ρ, h, s, k⟩ := res
  cases y with
  | d x =>
    refine h2 _ σ H1 A1 _ Y _ ⟨t, S, _, h.rebase, s⟩ p1 (fun zs A2 vs H2 p2 ⟨t2, S2, ρ2, n2, rl⟩ => ?_) (xq.back h)
    exact c _ A2 (v :: vs) H2 p2 ⟨t2, S2, ρ2, ⟨h.back n2.h, n2.s⟩, .cons (fun o z => nomatch z) (fun r H => (Rok.ext (y := .d x) (r' := r) (H' := H) k (fun o z => nomatch z) n2.h.ext)) rl⟩
  | p n =>
    refine h2 _ σ H1 A1 _ Y _ ⟨t, S, _, h.rebase, s⟩ p1 (fun zs A2 vs H2 p2 ⟨t2, S2, ρ2, n2, rl⟩ => ?_) (xq.back h)
    exact c _ A2 (v :: vs) H2 p2 ⟨t2, S2, ρ2, ⟨h.back n2.h, n2.s⟩, .cons (fun o z => nomatch z) (fun r H => (Rok.ext (y := .p n) (r' := r) (H' := H) k (fun o z => nomatch z) n2.h.ext)) rl⟩
  | o o =>
    obtain ⟨a, rfl, ok⟩ := k
    have hn := h.name ok
    have sn : SR K S (nameA t A1.M.length a) (A1.M ++ [some o]).length A1.env σ := by
      rw [List.length_append, List.length_singleton]
      exact s.ext nameA_ext
    have kn : Rok K S ρ (nameA t A1.M.length a) (A1.M ++ [some o]).length H1 (.p A1.M.length) (.ref a) := ⟨by unfold nameA; rw [if_pos rfl], by rw [List.length_append, List.length_singleton]; omega⟩
    refine h2 _ σ H1 ⟨A1.env, A1.M ++ [some o]⟩ _ Y _ ⟨_, S, _, hn.rebase, sn⟩ p1 (fun zs A2 vs H2 p2 ⟨t2, S2, ρ2, n2, rl⟩ => ?_) (xq.back hn)
    exact c _ A2 (.ref a :: vs) H2 p2 ⟨t2, S2, ρ2, ⟨hn.back n2.h, n2.s⟩, .cons (fun o z => nomatch z) (fun r H => (Rok.ext (y := .p A1.M.length) (r' := r) (H' := H) kn (fun o z => nomatch z) n2.h.ext)) rl⟩
theorem da_consN {X : Cx} {E : WX} {e : Expr} {es : List Expr} {t : TE} {u : TA} {p : PTE} {q : PTA} (h : DE X E e t p) (k : DA X E es u q) (hs : starEach (e :: es) X.env = (false, eval e X.env) :: starEach es X.env := by rfl) : DA X E (e :: es) (tCons t u) (pConsN p q) := ⟨pa_cons h.pe k.pe hs, sim_consN h.sim k.sim⟩
def takeN (M : List (Option O)) : List R → Option (List N × List Nat)
  | [] => some ([], [])
  | .d x :: r => (match takeN M r with
    | some (xs, ns) => some (.d x :: xs, ns)
    | none => none)
  | .p n :: r => (match M[n]?, takeN M r with
    | some (some (.lst ds)), some (xs, ns) => some (.lst (ds.map .d) :: xs, n :: ns)
    | some (some (.nst y)), some (xs, ns) => some (y :: xs, n :: ns)
    | _, _ => none)
  | .o _ :: _ => none
def wipeM (M : List (Option O)) : List Nat → List (Option O)
  | [] => M
  | n :: r => (wipeM M r).set n none
theorem wipeM_len : ∀ ns : List Nat, (wipeM M ns).length = M.length
  | [] => rfl
  | n :: r => by rw [wipeM, List.length_set, wipeM_len r]
theorem wipeM_some {n : Nat} {o : O} : ∀ {ns : List Nat}, (wipeM M ns)[n]? = some (some o) → n ∉ ns ∧ M[n]? = some (some o)
  | [], h => ⟨by simp, h⟩
  | k :: r, h => by
    unfold wipeM at h
    by_cases e : k = n
    · subst e
      have hk : k < (wipeM M r).length := by
        have := (List.getElem?_eq_some_iff.mp h).1
        rwa [List.length_set] at this
      rw [List.getElem?_set_self hk] at h
      cases h
    · rw [List.getElem?_set_ne e] at h
      obtain ⟨h1, h2⟩ := wipeM_some h
      exact ⟨fun z => (List.mem_cons.mp z).elim (fun q => e q.symm) h1, h2⟩
theorem NRs.leaves : ∀ {vs : List V} {ds : List D}, DRs K S vs ds → NRs K S H vs (ds.map N.d) []
  | _, _, .nil => .nil
  | _, _, .cons h t => .cons (f1 := []) (f2 := []) (.d h) (NRs.leaves t)
theorem takeN_ok (h : HR K B t S r M H) : ∀ {zs : List R} {vs : List V} {xs : List N} {ns : List Nat}, takeN M zs = some (xs, ns) → RL K S t M.length zs vs →
    ∃ fp, NRs K S H vs xs fp ∧ (∀ b ∈ fp, ∃ n ∈ ns, r b = some (some n)) ∧ (ns.Nodup → fp.Nodup)
  | [], _, _, _, e, .nil => by
    cases e
    exact ⟨[], .nil, fun b hb => by simp at hb, fun _ => List.nodup_nil⟩
  | .d x :: zs, _, xs, ns, e, .cons h1 h2 h3 => by
    simp only [takeN] at e
    cases q : takeN M zs with
    | none => rw [q] at e; cases e
    | some pr =>
      obtain ⟨ys, ms⟩ := pr
      rw [q] at e
      cases e
      obtain ⟨fp, g1, g2, g3⟩ := takeN_ok h q h3
      exact ⟨_, .cons (f1 := []) (f2 := fp) (.d (h2 r H)) g1, g2, g3⟩
  | .p n :: zs, _, xs, ns, e, .cons h1 h2 h3 => by
    obtain ⟨rfl, hn⟩ := h2 r H
    have fin : ∀ {y : N} {ys : List N} {ms : List Nat} {vs' : List V} {f1 fp : List Addr}, NR K S H (.ref (t n)) y f1 → (∀ b ∈ f1, r b = some (some n)) → f1.Nodup → NRs K S H vs' ys fp → (∀ b ∈ fp, ∃ n ∈ ms, r b = some (some n)) → (ms.Nodup → fp.Nodup) →
        ∃ fp, NRs K S H (.ref (t n) :: vs') (y :: ys) fp ∧ (∀ b ∈ fp, ∃ k ∈ n :: ms, r b = some (some k)) ∧ ((n :: ms).Nodup → fp.Nodup) := fun k1 k2 k3 k4 k5 k6 => by
      refine ⟨_, .cons k1 k4, fun b hb => ?_, fun nd => ?_⟩
      · rcases List.mem_append.mp hb with hb | hb
        · exact ⟨n, by simp, k2 b hb⟩
        · obtain ⟨m, hm, e⟩ := k5 b hb
          exact ⟨m, by simp [hm], e⟩
      · rw [List.nodup_cons] at nd
        refine List.nodup_append.mpr ⟨k3, k6 nd.2, fun b hb c hc z => ?_⟩
        subst z
        obtain ⟨m, hm, e⟩ := k5 b hc
        rw [k2 b hb] at e
        have e : n = m := Option.some.inj (Option.some.inj e)
        exact nd.1 (by rw [e]; exact hm)
    simp only [takeN] at e
    split at e
    · rename_i ds ys ms e1 e2
      cases e
      obtain ⟨fp, g1, g2, g3⟩ := takeN_ok h e2 h3
      obtain ⟨q1, ws, q2, q3⟩ := h.obj n _ e1
      exact fin (f1 := [t n]) (.lst q2 (NRs.leaves q3)) (fun b hb => by rw [List.mem_singleton.mp hb]; exact q1) (by simp) g1 g2 g3
    · rename_i y ys ms e1 e2
      cases e
      obtain ⟨fp, g1, g2, g3⟩ := takeN_ok h e2 h3
      obtain ⟨f1, q1, q2, q3, q4⟩ := h.obj n _ e1
      exact fin q4 q3 q2 g1 g2 g3
    · cases e
  | .o _ :: _, _, _, _, e, _ => by cases e
def gatT (r : Addr → Lb) (p : Addr) (ns : List Nat) : Addr → Lb := fun a => if a = p then some none else match r a with
  | some (some k) => if k ∈ ns then some none else some (some k)
  | _ => none
theorem gatT_cases {p a : Addr} {ns : List Nat} {l : Option Nat} (h : gatT r p ns a = some l) : (a = p ∧ l = none) ∨ (a ≠ p ∧ ∃ k, r a = some (some k) ∧ ((k ∈ ns ∧ l = none) ∨ (k ∉ ns ∧ l = some k))) := by
  unfold gatT at h
  split at h
  · rename_i e; cases h; exact .inl ⟨e, rfl⟩
  · rename_i ne
    split at h
    · rename_i k e
      split at h
      · rename_i hk; cases h; exact .inr ⟨ne, k, e, .inl ⟨hk, rfl⟩⟩
      · rename_i hk; cases h; exact .inr ⟨ne, k, e, .inr ⟨hk, rfl⟩⟩
    · cases h
/-- a new object takes over what names held -/
theorem HR.gather (h : HR K B t S r M H) {p : Addr} (hp : H p = none) (u : HO) (ns : List Nat) : HR K B t S (gatT r p ns) (wipeM M ns) (upd H p u) where
  le := fun a w e => by
    have ne : a ≠ p := fun q => by rw [q, h.of_none hp] at e; cases e
    rw [upd_ne ne]
    exact h.le a w e
  sep := fun a l e => by
    rcases gatT_cases e with ⟨rfl, _⟩ | ⟨ne, k, e, _⟩
    · exact ⟨h.of_none hp, by rw [upd_same]; simp⟩
    · rw [upd_ne ne]
      exact h.sep a _ e
  lab := fun a n e => by
    rw [wipeM_len]
    rcases gatT_cases e with ⟨_, z⟩ | ⟨ne, k, e, ⟨_, z⟩ | ⟨_, z⟩⟩
    · cases z
    · cases z
    · cases z; exact h.lab a n e
  obj := fun n o e => by
    obtain ⟨e1, e2⟩ := wipeM_some e
    have np : ∀ b, r b = some (some n) → b ≠ p := fun b hb q => (h.sep b _ hb).2 (by rw [q]; exact hp)
    refine ((h.obj n o e2).move (Le.refl S) fun b hb => upd_ne (np b hb)).iff fun b => ⟨fun z => ?_, fun z => ?_⟩
    · unfold gatT
      rw [if_neg (np b z), z]
      dsimp only
      rw [if_neg e1]
    · rcases gatT_cases z with ⟨_, y⟩ | ⟨ne, k, y, ⟨_, x⟩ | ⟨_, x⟩⟩
      · cases y
      · cases x
      · cases x; exact y
  keep := fun a o e nd => by
    have ne : a ≠ p := fun q => by
      subst q
      rcases h.keep a o e nd with z | ⟨_, _, _, z⟩
      · rw [hp] at z; cases z
      · rw [hp] at z; cases z
    rw [upd_ne ne]
    exact h.keep a o e nd
  own := fun a l e => by
    rcases gatT_cases e with ⟨rfl, _⟩ | ⟨ne, k, e, _⟩
    · exact h.fresh hp
    · exact h.own a _ e
  stb := h.stb
  bas := h.bas
  th := h.th
  nl := by rw [wipeM_len]; exact h.nl
def pLstN (q : PTA) : PTE := fun A P Y => q A (fun zs A1 => match takeN A1.M zs with
  | some (xs, ns) => ns.Nodup ∧ xs.length ≤ 16777216 ∧ P (.o (.nst (.lst xs))) ⟨A1.env, wipeM A1.M ns⟩
  | none => False) Y
def pTupN (q : PTA) : PTE := fun A P Y => q A (fun zs A1 => match takeN A1.M zs with
  | some (xs, ns) => ns.Nodup ∧ xs.length ≤ 16777216 ∧ P (.o (.nst (.tup xs))) ⟨A1.env, wipeM A1.M ns⟩
  | none => False) Y
theorem NRs.length : ∀ {vs : List V} {xs : List N} {fp : List Addr}, NRs K S H vs xs fp → vs.length = xs.length
  | _, _, _, .nil => rfl
  | _, _, _, .cons _ t => by simp [NRs.length t]
theorem gather_res {A : Abs} {σ : L2.St} (n : Now K B t S r A σ H) {vs : List V} {xs : List N} {ns : List Nat} {fp : List Addr} (g1 : NRs K S H vs xs fp) (g2 : ∀ b ∈ fp, ∃ n ∈ ns, r b = some (some n)) (nd : fp.Nodup) {p : Addr} (hp : H p = none) (u : HO) (y : N)
    (hy : ∀ H' : Hp, H' p = some u → NRs K S H' vs xs fp → NR K S H' (.ref p) y (p :: fp)) : Res K B ⟨A.env, wipeM A.M ns⟩ (.o (.nst y)) (.ref p) σ (upd H p u) := by
  have np : p ∉ fp := fun z => by
    obtain ⟨u, hu, _⟩ := NRs.there g1 p z
    rw [hp] at hu; cases hu
  refine ⟨t, S, _, n.h.gather hp u ns, ?_, p, rfl, p :: fp, by simp, List.nodup_cons.mpr ⟨np, nd⟩, fun b hb => ?_, hy _ upd_same (g1.move (Le.refl S) fun b hb => upd_ne fun q => np (by rw [← q]; exact hb))⟩
  · show SR K S t (wipeM A.M ns).length A.env σ
    rw [wipeM_len]
    exact n.s
  · unfold gatT
    rcases List.mem_cons.mp hb with rfl | hb
    · rw [if_pos rfl]
    · rw [if_neg fun q => np (by rw [← q]; exact hb)]
      obtain ⟨m, hm, e⟩ := g2 b hb
      rw [e]
      dsimp only
      rw [if_pos hm]
end
section
variable {X : Cx} {E : WX} {pos : Pos}
theorem de_lstN {es : List Expr} {t : TA} {q : PTA} (h : DA X E es t q) : DE X E (.List es pos) (tLst t) (pLstN q) := by
  obtain ⟨h1, h2⟩ := h
  refine ⟨pe_lst h1, fun B σ H A P Y Q rel k c xq => ?_⟩
  refine h2 B σ H A _ Y _ rel k (fun zs A1 vs H1 p1 ⟨t, S, ρ, n, rl⟩ => ?_) xq
  split at p1
  · rename_i xs ns ed
    obtain ⟨nd, hl, p1⟩ := p1
    obtain ⟨fp, g1, g2, g3⟩ := takeN_ok n.h ed rl
    exact ⟨by rw [g1.length]; exact hl, fun p hp => c _ _ _ _ p1 (gather_res n g1 g2 (g3 nd) hp _ _ fun H' e1 e2 => .lst e1 e2)⟩
  · exact p1.elim
theorem de_tupN {es : List Expr} {t : TA} {q : PTA} {k} (h : DA X E es t q) : DE X E (.Tuple es k pos) (tTup t) (pTupN q) := by
  obtain ⟨h1, h2⟩ := h
  refine ⟨pe_tup h1, fun B σ H A P Y Q rel k c xq => ?_⟩
  refine h2 B σ H A _ Y _ rel k (fun zs A1 vs H1 p1 ⟨t, S, ρ, n, rl⟩ => ?_) xq
  split at p1
  · rename_i xs ns ed
    obtain ⟨nd, hl, p1⟩ := p1
    obtain ⟨fp, g1, g2, g3⟩ := takeN_ok n.h ed rl
    exact ⟨by rw [g1.length]; exact hl, fun p hp => c _ _ _ _ p1 (gather_res n g1 g2 (g3 nd) hp _ _ fun H' e1 e2 => .tup e1 e2)⟩
  · exact p1.elim
end
end PD

/-! PO, second part: o[i].m(..) that changes a list within; what is lent. -/
namespace PD
open PySem PySem.Spec PyProof.Rows L2

section
variable {K : PySem.W.Frag} {B : Bas} {t : Nat → Addr} {S : Hp} {r : Addr → Lb} {M : List (Option O)} {H : Hp}
/-! ### one name set aside -/
def forgT (r : Addr → Lb) (n : Nat) : Addr → Lb := fun a => if r a = some (some n) then none else r a
theorem forgT_some {n : Nat} {a : Addr} {l : Option Nat} (h : forgT r n a = some l) : r a = some l ∧ l ≠ some n := by
  unfold forgT at h
  split at h
  · cases h
  · rename_i q
    exact ⟨h, fun z => q (by rw [h, z])⟩
theorem forgT_of {n : Nat} {a : Addr} {l : Option Nat} (h : r a = some l) (hl : l ≠ some n) : forgT r n a = some l := by
  unfold forgT
  rw [if_neg fun z => hl (by rw [h] at z; exact Option.some.inj z)]
  exact h
theorem HR.forget (h : HR K B t S r M H) (n : Nat) : HR K B t S (forgT r n) (M.set n none) H where
  le := h.le
  sep := fun a l e => h.sep a l (forgT_some e).1
  lab := fun a m e => by rw [List.length_set]; exact h.lab a m (forgT_some e).1
  obj := fun m o e => by
    have ne : m ≠ n := fun q => by
      subst q
      have hm : m < M.length := by
        have := (List.getElem?_eq_some_iff.mp e).1
        rwa [List.length_set] at this
      rw [List.getElem?_set_self hm] at e
      cases e
    rw [List.getElem?_set_ne (Ne.symm ne)] at e
    exact (h.obj m o e).iff fun b => ⟨fun z => forgT_of z fun q => ne (Option.some.inj q), fun z => (forgT_some z).1⟩
  keep := h.keep
  own := fun a l e => h.own a l (forgT_some e).1
  stb := h.stb
  bas := h.bas
  th := h.th
  nl := by rw [List.length_set]; exact h.nl
def recT (r r' : Addr → Lb) (n : Nat) : Addr → Lb := fun a => if r a = some (some n) then some (some n) else if r' a = some (some n) then none else r' a
structure Aside (n : Nat) (r : Addr → Lb) (H : Hp) (r' : Addr → Lb) (S' H' : Hp) : Prop where
  hp : ∀ a, r a = some (some n) → H' a = H a
  st : ∀ a, r a = some (some n) → S' a = none
  lb : ∀ a, r a = some (some n) → r' a = none
theorem HR.aside (h : HR K B t S r M H) {n m : Nat} {t' : Nat → Addr} {S' : Hp} {r' : Addr → Lb} {M' : List (Option O)} {H' : Hp} (h' : HR K (baseOf t S (forgT r n) m H) t' S' r' M' H') : Aside n r H r' S' H' := by
  have nd : ∀ a, r a = some (some n) → ¬ ∃ k, forgT r n a = some (some k) := fun a e ⟨k, z⟩ => by
    obtain ⟨z1, z2⟩ := forgT_some z
    rw [e] at z1
    exact z2 (Option.some.inj z1).symm
  refine ⟨fun a e => ?_, fun a e => ?_, fun a e => ?_⟩
  · obtain ⟨s1, s2⟩ := h.sep a _ e
    cases q : H a with
    | none => exact absurd q s2
    | some o =>
      rcases h'.keep a o q (nd a e) with z | ⟨_, z, _⟩
      · exact z
      · have z : S a = some o := z
        rw [s1] at z; cases z
  · obtain ⟨s1, s2⟩ := h.sep a _ e
    cases q : S' a with
    | none => rfl
    | some o =>
      rcases h'.stb a (by rw [q]; simp) with z | z | z
      · exact absurd s1 z
      · exact absurd z s2
      · exact absurd z (nd a e)
  · obtain ⟨s1, s2⟩ := h.sep a _ e
    cases q : r' a with
    | none => rfl
    | some l =>
      rcases h'.own a l q with z | z
      · exact absurd z (nd a e)
      · exact absurd z s2
/-- what was set aside is back, changed -/
theorem HR.recall (h : HR K B t S r M H) {n : Nat} (hn : n < M.length) {t' : Nat → Addr} {S' : Hp} {r' : Addr → Lb} {M' : List (Option O)} {H' : Hp} (h' : HR K (baseOf t S (forgT r n) (M.set n none).length H) t' S' r' M' H')
    {o : Option O} {H2 : Hp} (same : ∀ b, r b ≠ some (some n) → H2 b = H' b) (there : ∀ b, r b = some (some n) → H2 b ≠ none) (ok : ∀ o', o = some o' → OOk K S' (fun b => r b = some (some n)) H2 (t n) o') :
    HR K B t' S' (recT r r' n) (M'.set n o) H2 := by
  have as := h.aside h'
  have hb := (h.forget n).back h'
  have hl : n < M'.length := Nat.lt_of_lt_of_le hn (by have := h'.nl; rw [List.length_set] at this; exact this)
  have cs : ∀ {a l}, recT r r' n a = some l → (r a = some (some n) ∧ l = some n) ∨ (r a ≠ some (some n) ∧ r' a = some l ∧ l ≠ some n) := fun {a l} e => by
    unfold recT at e
    split at e
    · rename_i q; cases e; exact .inl ⟨q, rfl⟩
    · rename_i q
      split at e
      · cases e
      · rename_i z
        exact .inr ⟨q, e, fun y => z (by rw [e, y])⟩
  exact
    { le := fun a w e => by
        have ne : r a ≠ some (some n) := fun q => by rw [as.st a q] at e; cases e
        rw [same a ne]
        exact hb.le a w e
      sep := fun a l e => by
        rcases cs e with ⟨q, _⟩ | ⟨q, z, _⟩
        · exact ⟨as.st a q, there a q⟩
        · rw [same a q]; exact hb.sep a _ z
      lab := fun a m e => by
        rw [List.length_set]
        rcases cs e with ⟨_, q⟩ | ⟨q, z, _⟩
        · cases q; exact hl
        · exact hb.lab a _ z
      obj := fun m o' e => by
        by_cases q : m = n
        · subst q
          rw [List.getElem?_set_self hl] at e
          have et : t' m = t m := h'.th m (by show m < (M.set m none).length; rw [List.length_set]; exact hn)
          rw [et]
          refine (ok o' (Option.some.inj e)).iff fun b => ⟨fun z => ?_, fun z => ?_⟩
          · unfold recT; rw [if_pos z]
          · rcases cs z with ⟨q, _⟩ | ⟨_, _, q⟩
            · exact q
            · exact absurd rfl q
        · rw [List.getElem?_set_ne (Ne.symm q)] at e
          have nn : ∀ b, r' b = some (some m) → r b ≠ some (some n) := fun b z y => by rw [as.lb b y] at z; cases z
          refine ((hb.obj m o' e).move (Le.refl _) fun b z => same b (nn b z)).iff fun b => ⟨fun z => ?_, fun z => ?_⟩
          · unfold recT
            rw [if_neg (nn b z), if_neg (by rw [z]; intro y; exact q (Option.some.inj (Option.some.inj y)))]
            exact z
          · rcases cs z with ⟨_, y⟩ | ⟨_, y, _⟩
            · exact absurd (Option.some.inj y) q
            · exact y
      keep := fun a o' e nd => by
        have ne : r a ≠ some (some n) := fun q => by
          rcases h.own a _ q with z | z
          · exact nd z
          · rw [z] at e; cases e
        rw [same a ne]
        exact hb.keep a o' e nd
      own := fun a l e => by
        rcases cs e with ⟨q, _⟩ | ⟨q, z, _⟩
        · exact h.own a _ q
        · exact hb.own a _ z
      stb := hb.stb
      bas := hb.bas
      th := hb.th
      nl := by rw [List.length_set]; exact hb.nl }

/-! ### a list within -/
def kidAt (x : N) (k : Int) (j : Nat) (ds : List D) : Prop := ∃ xs, (x = .lst xs ∨ x = .tup xs) ∧ ixN xs.length k = some j ∧ xs[j]? = some (.lst (ds.map N.d))
def putKid : N → Nat → List D → N
  | .lst xs, j, ds => .lst (xs.set j (.lst (ds.map N.d)))
  | .tup xs, j, ds => .tup (xs.set j (.lst (ds.map N.d)))
  | x, _, _ => x
theorem NRs.unleaf : ∀ {ds : List D} {vs : List V} {fp : List Addr}, NRs K S H vs (ds.map N.d) fp → fp = [] ∧ DRs K S vs ds
  | [], _, _, h => by cases h; exact ⟨rfl, .nil⟩
  | d :: ds, _, _, h => by
    rw [List.map_cons] at h
    cases h with
    | cons h1 h2 =>
      cases h1 with
      | d h1 =>
        obtain ⟨e, h3⟩ := NRs.unleaf h2
        exact ⟨by rw [e]; rfl, .cons h1 h3⟩
theorem NRs.kid : ∀ {xs : List N} {vs : List V} {fp : List Addr} {j : Nat} {ds : List D}, NRs K S H vs xs fp → fp.Nodup → xs[j]? = some (.lst (ds.map N.d)) → ∃ b ws, vs[j]? = some (.ref b) ∧ b ∈ fp ∧ H b = some (.lst ws) ∧ DRs K S ws ds ∧
    ∀ (S' H' : Hp) (ws' : List V) (ds' : List D), Le S S' → (∀ c ∈ fp, c ≠ b → H' c = H c) → H' b = some (.lst ws') → DRs K S' ws' ds' → NRs K S' H' vs (xs.set j (.lst (ds'.map N.d))) fp
  | [], _, _, _, _, _, _, e => by simp at e
  | x :: xs, _, _, 0, ds, .cons (v := v) (vs := vs) (f2 := f2) h1 h2, nd, e => by
    have e : x = .lst (ds.map N.d) := by simpa using e
    subst e
    cases h1 with
    | lst g1 g2 =>
      obtain ⟨ez, g3⟩ := NRs.unleaf g2
      subst ez
      rename_i a ws
      refine ⟨a, ws, by simp, by simp, g1, g3, fun S' H' ws' ds' le k1 k2 k3 => ?_⟩
      have na : a ∉ f2 := by
        have nd : (a :: f2).Nodup := nd
        exact (List.nodup_cons.mp nd).1
      exact .cons (f1 := [a]) (.lst k2 (NRs.leaves k3)) (h2.move le fun c hc => k1 c (by simp [hc]) fun z => na (by rw [← z]; exact hc))
  | x :: xs, _, _, j + 1, ds, .cons (f1 := f1) (f2 := f2) h1 h2, nd, e => by
    obtain ⟨nd1, nd2, nd3⟩ := List.nodup_append.mp nd
    obtain ⟨b, ws, q1, q2, q3, q4, q5⟩ := NRs.kid (j := j) h2 nd2 (by simpa using e)
    refine ⟨b, ws, by simpa using q1, by simp [q2], q3, q4, fun S' H' ws' ds' le k1 k2 k3 => ?_⟩
    exact .cons (h1.move le fun c hc => k1 c (by simp [hc]) fun z => nd3 c hc b q2 z) (q5 S' H' ws' ds' le (fun c hc => k1 c (by simp [hc])) k2 k3)
def topV (H : Hp) (a : Addr) (vs : List V) : Prop := H a = some (.lst vs) ∨ H a = some (.tup vs)
theorem NR.kid {a : Addr} {x : N} {fp : List Addr} {k : Int} {j : Nat} {ds : List D} (h : NR K S H (.ref a) x fp) (nd : fp.Nodup) (e : kidAt x k j ds) : ∃ vs b ws, topV H a vs ∧ atI vs k = some (.ref b) ∧ b ∈ fp ∧ H b = some (.lst ws) ∧ DRs K S ws ds ∧
    ∀ (S' H' : Hp) (ws' : List V) (ds' : List D), Le S S' → (∀ c ∈ fp, c ≠ b → H' c = H c) → H' b = some (.lst ws') → DRs K S' ws' ds' → NR K S' H' (.ref a) (putKid x j ds') fp := by
  obtain ⟨xs, hx, e1, e2⟩ := e
  rcases hx with rfl | rfl
  · cases h with
    | lst g1 g2 =>
      rename_i vs f
      rw [List.nodup_cons] at nd
      obtain ⟨b, ws, q1, q2, q3, q4, q5⟩ := g2.kid nd.2 e2
      have ne : a ≠ b := fun z => nd.1 (by rw [z]; exact q2)
      refine ⟨vs, b, ws, .inl g1, by unfold atI; rw [g2.length, e1]; exact q1, by simp [q2], q3, q4, fun S' H' ws' ds' le k1 k2 k3 => ?_⟩
      exact .lst ((k1 a (by simp) ne).trans g1) (q5 S' H' ws' ds' le (fun c hc => k1 c (by simp [hc])) k2 k3)
  · cases h with
    | tup g1 g2 =>
      rename_i vs f
      rw [List.nodup_cons] at nd
      obtain ⟨b, ws, q1, q2, q3, q4, q5⟩ := g2.kid nd.2 e2
      have ne : a ≠ b := fun z => nd.1 (by rw [z]; exact q2)
      refine ⟨vs, b, ws, .inr g1, by unfold atI; rw [g2.length, e1]; exact q1, by simp [q2], q3, q4, fun S' H' ws' ds' le k1 k2 k3 => ?_⟩
      exact .tup ((k1 a (by simp) ne).trans g1) (q5 S' H' ws' ds' le (fun c hc => k1 c (by simp [hc])) k2 k3)
def pNM (lm : LM) (i : Nat) (pk : PTE) (pa : PTA) : PTE := fun A P Y => match A.env[i]? with
  | some (.p n) => pk A (fun y A1 => match y, A1.M[n]? with
    | .d (.int k), some (some (.nst x)) => ∃ j ds, kidAt x k j ds ∧ pa ⟨A1.env, A1.M.set n none⟩ (fun zs A2 => match dats zs with
      | some args => lm ds args fun y ds' => P y ⟨A2.env, A2.M.set n (some (.nst (putKid x j ds')))⟩
      | none => False) (fun _ _ => False)
    | _, _ => False) Y
  | _ => False
theorem sim_nm {E : WX} {rr : V → List V → Hp → VK → Prop} {lm : LM} {i : Nat} {tk : TE} {ta : TA} {pk : PTE} {pa : PTA} (hr : SndL K rr lm) (hk : SimE K E tk pk) (ha : SimA K E ta pa) : SimE K E (tBM K "list" rr (tOp (rIxA K) (tVar i) tk) ta) (pNM lm i pk pa) := fun B σ H A P Y Q rel x q xq => by
  unfold pNM at x
  split at x
  · rename_i n e
    obtain ⟨t, S, r, h, s⟩ := rel
    obtain ⟨e1, hn⟩ := s.getP e
    refine ⟨_, e1, ?_⟩
    refine hk _ σ H A _ Y _ ⟨t, S, _, h.rebase, s⟩ x (fun y A1 v H1 p1 res => ?_) (xq.back h)
    obtain ⟨t1, S1, r1, h1', s1, k1⟩ := res
    have h1 := h.back h1'
    have et1 : t1 n = t n := h1'.ext.th n hn
    split at p1
    · rename_i kk xx e2
      obtain ⟨j, ds, kid, p1⟩ := p1
      cases DR.int_of k1
      obtain ⟨fp, g1, g2, g3, g4⟩ := h1.obj n _ e2
      obtain ⟨vs, b, ws, w1, w2, w3, w4, w5, w6⟩ := g4.kid g2 kid
      have go : tyV K "list" (.ref b) H1 ∧ ta σ H1 (fun xs H2 => rr (.ref b) xs H2 Q) := by
        refine ⟨tyV_lst w4, ?_⟩
        have hf := h1.forget n
        have sf : SR K S1 t1 (A1.M.set n none).length A1.env σ := by rw [List.length_set]; exact s1
        refine ha _ σ H1 ⟨A1.env, A1.M.set n none⟩ _ _ _ ⟨t1, S1, _, hf.rebase, sf⟩ p1 (fun zs A2 us H2 p2 ⟨t2, S2, r2, n2, rl⟩ => ?_) (fun _ _ _ z _ => z.elim)
        split at p2
        · rename_i args ea
          have b2 : HR K (baseOf t1 S1 (forgT r1 n) (A1.M.set n none).length H1) t2 S2 r2 A2.M H2 := n2.h
          have hn1 : n < A1.M.length := (List.getElem?_eq_some_iff.mp e2).1
          have as := h1.aside b2
          have hb : H2 b = some (.lst ws) := (as.hp b (g3 b w3)).trans w4
          refine hr S2 H2 b ds args ws us _ Q n2.h.le hb (w5.mono b2.ext.le) (rl.dats ea) p2 fun d v xs' vs' pd dd dx => ?_
          have rec_ := h1.recall hn1 b2 (o := some (.nst (putKid xx j xs'))) (H2 := upd H2 b (.lst vs')) (fun c hc => upd_ne fun z => hc (by rw [z]; exact g3 b w3)) (fun c hc => by
            by_cases z : c = b
            · rw [z, upd_same]; simp
            · rw [upd_ne z, as.hp c hc]; exact (h1.sep c _ hc).2) (fun o' eo => by
            cases eo
            exact ⟨fp, g1, g2, g3, w6 S2 _ vs' xs' b2.ext.le (fun c hc hcb => by rw [upd_ne hcb]; exact as.hp c (g3 c hc)) upd_same dx⟩)
          refine q (.d d) ⟨A2.env, A2.M.set n _⟩ v _ pd ⟨t2, S2, _, rec_, ?_, dd⟩
          show SR K S2 t2 (A2.M.set n _).length A2.env σ
          rw [List.length_set]
          exact n2.s
        · exact p2.elim
      rw [← et1]
      rcases w1 with w1 | w1
      · exact .inl (.inl ⟨_, vs, kk, _, rfl, rfl, SqL.of w1, w2, go⟩)
      · exact .inl (.inr (.inl ⟨_, vs, kk, _, rfl, rfl, SqT.of w1, w2, go⟩))
    · exact p1.elim
  · exact x.elim
end
theorem knm {X : Cx} {E : WX} {K : PySem.W.Frag} {o ke e : Expr} {es : List Expr} {name : Str} {id : String} {r : V → List V → Hp → VK → Prop} {lm : LM} {i : Nat} {tk : TE} {ta : TA} {po pk : PTE} {pa : PTA} {apos cpos spos : Pos} (hu : X.A.units + 1 < cLine) (slot : Slot "list" name id) (hty : typeOf (.builtin id) = pure (.type "method_descriptor")) (hm : MtR X id r) (hr : SndL K r lm)
    (ho : DE X E o (tVar i) po) (hk : DE X E ke tk pk) (ha : DA X E (e :: es) ta pa) (hK : X.K = K := by rfl) (hs1 : PlainIx ke := by exact fun _ _ => rfl) (hbase : attributeBase (.Subscript o ke spos) name X.env (eval (.Subscript o ke spos) X.env) = eval (.Subscript o ke spos) X.env := by rfl)
    (hfew : ((backTo cpos (starEach (e :: es) X.env)).all (fun x => !x.1) && (backToKw cpos (keywordEach [] X.env)).all (fun x => x.1.isSome)
      && decide ((e :: es).length + ([] : List Keyword).length + (if ([] : List Keyword).isEmpty then 0 else 1) < 30)) = true := by rfl)
    (hline : (apos.endLine == cpos.line) = true := by rfl) (hs : starEach (e :: es) X.env = (false, eval e X.env) :: starEach es X.env := by rfl) (hplain : (backTo cpos (starEach es X.env)).any (·.1) = false := by rfl) :
    DE X E (.Call (.Attribute (.Subscript o ke spos) name apos) (e :: es) [] cpos) (tBM K "list" r (tOp (rIxA K) (tVar i) tk) ta) (pNM lm i pk pa) := by
  subst hK
  exact ⟨(de_lm slot hty hm hr (de_ix hu ho hk hs1) ha hbase hfew hline hs hplain).pe, sim_nm hr hk.sim ha.sim⟩
theorem knm0 {X : Cx} {E : WX} {K : PySem.W.Frag} {o ke : Expr} {name : Str} {id : String} {r : V → List V → Hp → VK → Prop} {lm : LM} {i : Nat} {tk : TE} {po pk : PTE} {apos cpos spos : Pos} (hu : X.A.units + 1 < cLine) (slot : Slot "list" name id) (hty : typeOf (.builtin id) = pure (.type "method_descriptor")) (hm : MtR X id r) (hr : SndL K r lm)
    (ho : DE X E o (tVar i) po) (hk : DE X E ke tk pk) (hK : X.K = K := by rfl) (hs1 : PlainIx ke := by exact fun _ _ => rfl) (hbase : attributeBase (.Subscript o ke spos) name X.env (eval (.Subscript o ke spos) X.env) = eval (.Subscript o ke spos) X.env := by rfl) (hline : (apos.endLine == cpos.line) = true := by rfl) :
    DE X E (.Call (.Attribute (.Subscript o ke spos) name apos) [] [] cpos) (tBM0 K "list" r (tOp (rIxA K) (tVar i) tk)) (pNM lm i pk pNil) := by
  subst hK
  have hn : DA X E [] tNil pNil := da_nil
  exact ⟨pe_bm0 PySem.F.plainAttrs_list slot hty hm (de_ix hu ho hk hs1).pe hbase hline, sim_nm hr hk.sim hn.sim⟩

theorem nds_leaf (ds : List D) : nds (ds.map N.d) = ds := by
  induction ds with
  | nil => rfl
  | cons a r ih => rw [List.map_cons, nds, ih]; rfl

/-! ### lent -/
def lendD : O → Option D
  | .lst xs => some (.lst xs)
  | .nst x => some x.toD
  | _ => none
def borN (M : List (Option O)) : AV → AV
  | .p k => (match M[k]? with
    | some (some o) => (match lendD o with
      | some x => .d x
      | none => .un)
    | _ => .un)
  | x => x
open Classical in
noncomputable def borNS (r : Addr → Lb) (S : Hp) (M : List (Option O)) (H : Hp) : Hp := fun a => if ∃ k o u, r a = some (some k) ∧ M[k]? = some (some o) ∧ (lendD o).isSome = true ∧ H a = some u ∧ isD u = false then H a else S a
section
variable {K : PySem.W.Frag} {B : Bas} {t : Nat → Addr} {S : Hp} {r : Addr → Lb} {M : List (Option O)} {H : Hp}
theorem borNS_le (h : HR K B t S r M H) : Le S (borNS r S M H) := fun a u e => .inl (by
  unfold borNS
  rw [if_neg ?_]
  · exact e
  · rintro ⟨k, o, w, e1, _⟩
    rw [(h.sep _ _ e1).1] at e
    cases e)
theorem borNS_cases (a : Addr) : borNS r S M H a = S a ∨ ∃ u, H a = some u ∧ isD u = false ∧ borNS r S M H a = some u := by
  unfold borNS
  by_cases c : ∃ k o u, r a = some (some k) ∧ M[k]? = some (some o) ∧ (lendD o).isSome = true ∧ H a = some u ∧ isD u = false
  · rw [if_pos c]
    obtain ⟨k, o, u, _, _, _, h1, h2⟩ := c
    exact .inr ⟨u, h1, h2, h1⟩
  · rw [if_neg c]
    exact .inl rfl
theorem borNS_at {k : Nat} {o : O} {a : Addr} {u : HO} (e1 : r a = some (some k)) (e2 : M[k]? = some (some o)) (e3 : (lendD o).isSome = true) (e4 : H a = some u) (e5 : isD u = false) : borNS r S M H a = H a := by
  unfold borNS
  rw [if_pos ⟨k, o, u, e1, e2, e3, e4, e5⟩]
theorem borNS_dr (h : HR K B t S r M H) {k : Nat} {o : O} {x : D} (e : M[k]? = some (some o)) (ex : lendD o = some x) : DR K (borNS r S M H) (.ref (t k)) x := by
  have ok := h.obj k o e
  cases o with
  | lst xs =>
    cases ex
    obtain ⟨h1, vs, h2, h3⟩ := ok
    exact .lst ((borNS_at h1 e rfl h2 rfl).trans h2) (h3.mono (borNS_le h))
  | nst x =>
    cases ex
    obtain ⟨fp, h1, h2, h3, h4⟩ := ok
    refine h4.dr (borNS_le h) fun b hb => ?_
    obtain ⟨u, g1, g2⟩ := h4.there b hb
    exact borNS_at (h3 b hb) e rfl g1 g2
  | dic _ => cases ex
  | dit _ => cases ex
  | res _ => cases ex
theorem HR.lendN (h : HR K B t S r M H) : HR K (lentB t (borNS r S M H) H) t (borNS r S M H) (fun _ => none) [] H where
  le := fun a u e => by
    rcases borNS_cases (r := r) (S := S) (M := M) (H := H) a with q | ⟨u', q1, q2, q3⟩
    · rw [q] at e
      exact h.le a u e
    · rw [q3] at e
      cases e
      exact .inl q1
  sep := fun a l e => by cases e
  lab := fun a n e => by cases e
  obj := fun n o e => by simp at e
  keep := fun a o e _ => .inl e
  own := fun a l e => by cases e
  stb := fun a e => .inl e
  bas := fun a o e => e
  th := fun n hn => rfl
  nl := Nat.le_refl 0
theorem SR.lendN {env : List AV} {σ : L2.St} (h : HR K B t S r M H) (s : SR K S t M.length env σ) : SR K (borNS r S M H) t 0 (env.map (borN M)) σ where
  len := by rw [List.length_map]; exact s.len
  ok := fun i av e => by
    rw [List.getElem?_map] at e
    obtain ⟨a0, e0, rfl⟩ := Option.map_eq_some_iff.mp e
    have q := s.ok i a0 e0
    cases a0 with
    | un => trivial
    | d x =>
      obtain ⟨v, h1, h2⟩ := q
      exact ⟨v, h1, h2.mono (borNS_le h)⟩
    | p k =>
      obtain ⟨h1, h2⟩ := q
      unfold borN
      dsimp only
      split
      · rename_i o ek
        split
        · rename_i x ex
          exact ⟨_, h1, borNS_dr h ek ex⟩
        · trivial
      · trivial
theorem HR.givenN (h : HR K B t S r M H) {t' : Nat → Addr} {S' : Hp} {r' : Addr → Lb} {M' : List (Option O)} {H' : Hp} (h' : HR K (lentB t (borNS r S M H) H) t' S' r' M' H') : HR K B t S r M H' := by
  have kp : ∀ a o, H a = some o → H' a = some o ∨ (isD o = true ∧ S a = some o ∧ ∃ od, H' a = some (.frz od o)) := fun a o e => by
    rcases h'.keep a o e (fun z => z) with q | ⟨q1, q2, q3⟩
    · exact .inl q
    · have q2 : borNS r S M H a = some o := q2
      rcases borNS_cases (r := r) (S := S) (M := M) (H := H) a with z | ⟨vs, z1, z2, z3⟩
      · exact .inr ⟨q1, by rw [← z]; exact q2, q3⟩
      · rw [z3] at q2
        cases q2
        rw [z2] at q1
        cases q1
  have ow : ∀ a l, r a = some l → H' a = H a := fun a l e => by
    obtain ⟨s1, s2⟩ := h.sep a l e
    cases q : H a with
    | none => exact absurd q s2
    | some o =>
      rcases kp a o q with z | ⟨_, z, _⟩
      · exact z
      · rw [s1] at z
        cases z
  exact
    { le := fun a u e => by
        rcases h.le a u e with q | ⟨q1, od, q2⟩
        · rcases kp a u q with z | ⟨z1, _, z3⟩
          · exact .inl z
          · exact .inr ⟨z1, z3⟩
        · rcases kp a _ q2 with z | ⟨z1, _, _⟩
          · exact .inr ⟨q1, od, z⟩
          · cases z1
      sep := fun a l e => ⟨(h.sep a l e).1, by rw [ow a l e]; exact (h.sep a l e).2⟩
      lab := h.lab
      obj := fun n o e => (h.obj n o e).move (Le.refl S) fun b hb => ow b _ hb
      keep := fun a o e nd => by
        rcases h.keep a o e nd with q | ⟨q1, q2, od, q3⟩
        · rcases kp a o q with z | ⟨z1, z2, z3⟩
          · exact .inl z
          · refine .inr ⟨z1, ?_, z3⟩
            rcases h.stb a (by rw [z2]; simp) with w | w | w
            · cases y : B.S a with
              | none => exact absurd y w
              | some o' =>
                have := h.bas a o' y
                rw [z2] at this
                exact this.symm
            · rw [w] at e; cases e
            · exact absurd w nd
        · rcases kp a _ q3 with z | ⟨z1, _, _⟩
          · exact .inr ⟨q1, q2, od, z⟩
          · cases z1
      own := h.own
      stb := h.stb
      bas := h.bas
      th := h.th
      nl := h.nl }
end
/-- while this is asked, the owned lists are data; the answer is a plain one -/
def pBorN (p : PTE) : PTE := fun A P Y => p ⟨A.env.map (borN A.M), []⟩ (fun y _ => match y with
  | .d x => scalD x = true ∧ P (.d x) A
  | _ => False) (fun e _ => Y e A)
theorem DE.borN {X : Cx} {E : WX} {e : Expr} {t : TE} {p : PTE} (h : DE X E e t p) : DE X E e t (pBorN p) := ⟨h.pe, fun B σ H A P Y Q ⟨t0, S, r, hr, sr⟩ x q xq => by
  refine h.sim (lentB t0 (borNS r S A.M H) H) σ H _ _ _ Q ⟨t0, _, _, hr.lendN, sr.lendN hr⟩ x (fun y A' v H' py res => ?_) (fun c A' H' pc rel => ?_)
  · obtain ⟨t', S', r', h', s', k'⟩ := res
    cases y with
    | d x =>
      obtain ⟨hs, py⟩ := py
      exact q (.d x) A v H' py ⟨t0, S, r, hr.givenN h', sr, DR.scal (K := X.K) (S := S') k' hs⟩
    | p n => exact py.elim
    | o o => exact py.elim
  · obtain ⟨t', S', r', h', s'⟩ := rel
    exact xq c A H' pc ⟨t0, S, r, hr.givenN h', sr⟩⟩
/-- .. a test -/
def pBorT (p : PTT) : PTT := fun A P Y => p ⟨A.env.map (borN A.M), []⟩ (fun b _ => P b A) (fun e _ => Y e A)
theorem DT.borN {X : Cx} {E : WX} {e : Expr} {t : TT} {p : PTT} (h : DT X E e t p) : DT X E e t (pBorT p) := ⟨h.pe, fun B σ H A P Y Q ⟨t0, S, r, hr, sr⟩ x q xq => by
  refine h.sim (lentB t0 (borNS r S A.M H) H) σ H _ _ _ Q ⟨t0, _, _, hr.lendN, sr.lendN hr⟩ x (fun b A' H' py res => ?_) (fun c A' H' pc rel => ?_)
  · obtain ⟨t', S', r', h', s'⟩ := res
    exact q b A H' py ⟨t0, S, r, hr.givenN h', sr⟩
  · obtain ⟨t', S', r', h', s'⟩ := rel
    exact xq c A H' pc ⟨t0, S, r, hr.givenN h', sr⟩⟩
end PD

set_option pp.maxSteps 1500
namespace PD
open PySem PySem.Spec PyProof.Rows L2
def pre__law_there : List AR → Prop
  | [.d (.lst ds), .d (.str l)] => Rows ds ∧ ds.length ≤ 1000 ∧ small l = true ∧ l.length ≤ 100000
  | _ => False
def f__law_there : List AR → AR
  | [.d (.lst ds), .d (.str l)] => .o (.lst ((thr (wordsFrom (dictOf ds) l) l.length l.length).map .int))
  | _ => .d .non
def pre__law_due : List AR → Prop := pre__law_there
def dueD (W : Nat → List Tx) (n : Nat) : D := .lst [.lst ((someS W n).map spotD), .lst ((allS W n).map spotD), .lst ((placesS W n).map fun p : Nat => .int (p : Int))]
def f__law_due : List AR → AR
  | [.d (.lst ds), .d (.str l)] => if nw (wordsFrom (dictOf ds) l) l.length 0 = 0 then .d .non else .d (dueD (wordsFrom (dictOf ds) l) l.length)
  | _ => .d .non
def pre_law : List AR → Prop
  | [.d (.scr ns)] => ns.length ≤ 63
  | _ => False
def f_law : List AR → AR := fun _ => .d (.bl true)
def p__law_there : PTS :=
  (pSeq (pSet 2 (pOp2 bAdd (pLst (pCons (pC (.int 1)) pNil)) (pOp2 bMul (pLst (pCons (pC (.int 0)) pNil)) (pCall cLen (pCons (pVar 1) pNil)))))
  (pSeq (pWip [3, 4, 5] (pFor (pRng1 (pCons (pCall cLen (pCons (pVar 1) pNil)) pNil)) (tgN 3) (pGw [3, 4, 5] [3, 4, 5] (pWip [4, 5] (pFor (pItL (pCalls (callP pre__law_at f__law_at) (pCons (pVar 0) (pCons (pVar 1) (pCons (pVar 3) pNil))))) (tgN 4) (pGw [4, 5] [4, 5] (pSeq (pSetD 5 (pOp2 bAdd (pVar 3) (pCall cLen (pCons (pVar 4) pNil))))
  (pSetIx (pVar 2) (pVar 5) (pOp2 bAdd (pOp2 bIx (pVar 2) (pVar 5)) (pOp2 bIx (pVar 2) (pVar 3)))))))))))
  (pRet (pVar 2))))
abbrev N__law_there : List Str := ["book", "text", "found", "place", "word", "end"]
def p__law_due : PTS :=
  (pSeq (pSetD 2 (pCalls (callP pre__law_there f__law_there) (pCons (pVar 0) (pCons (pVar 1) pNil))))
  (pSeq (pSetD 3 (pCalls (callP pre__law_ways f__law_ways) (pCons (pVar 0) (pCons (pVar 1) pNil))))
  (pSeq (pIf (pTest (pOp2 (bEq id) (pOp2 bIx (pVar 3) (pC (.int 0))) (pC (.int 0)))) (pRet (pC .non))
  pNext)
  (pSeq (pSet 4 (pLst pNil))
  (pSeq (pWip [5] (pFor (pRng1 (pCons (pOp2 bAdd (pCall cLen (pCons (pVar 1) pNil)) (pC (.int 1))) pNil)) (tgN 5) (pGw [5] [5] (pIf (pTest (pOp2 (bEq id) (pOp2 bMul (pOp2 bIx (pVar 2) (pVar 5)) (pOp2 bIx (pVar 3) (pVar 5))) (pOp2 bIx (pVar 3) (pC (.int 0))))) (pDrop (pLM lAppend (pVar 4) (pCons (pVar 5) pNil)))
  pNext))))
  (pSeq (pSet 6 (pLstN (pConsN (pLst pNil) (pConsN (pLst pNil) (pConsN (pVar 4) pNil)))))
  (pSeq (pWip [5, 7, 8] (pFor (pRng1 (pCons (pCall cLen (pCons (pVar 1) pNil)) pNil)) (tgN 5) (pGw [5, 7, 8] [5, 7, 8] (pWip [7, 8] (pFor (pItL (pCalls (callP pre__law_at f__law_at) (pCons (pVar 0) (pCons (pVar 1) (pCons (pVar 5) pNil))))) (tgN 7) (pGw [7, 8] [7, 8] (pSeq (pSetD 8 (pOp2 bMul (pOp2 bIx (pVar 2) (pVar 5)) (pOp2 bIx (pVar 3) (pOp2 bAdd (pVar 5) (pCall cLen (pCons (pVar 7) pNil))))))
  (pSeq (pIf (pTest (pOp2 bGt (pVar 8) (pC (.int 0)))) (pDrop (pNM lAppend 6 (pC (.int 0)) (pCons (pTup (pCons (pVar 5) (pCons (pVar 7) pNil))) pNil)))
  pNext)
  (pIf (pTest (pOp2 (bEq id) (pVar 8) (pOp2 bIx (pVar 3) (pC (.int 0))))) (pDrop (pNM lAppend 6 (pC (.int 1)) (pCons (pTup (pCons (pVar 5) (pCons (pVar 7) pNil))) pNil)))
  pNext)))))))))
  (pFzN 6 (pRet (pVar 6))))))))))
abbrev N__law_due : List Str := ["book", "text", "there", "ways", "places", "place", "found", "word", "many"]
def p_law : PTS :=
  (pSeq (pSetD 1 (pCalls (callN pre__law_draws ok__law_draws) (pCons (pVar 0) (pCons (pC (.int 120)) pNil))))
  (pSeq (pSetD 2 (pCalls (callN pre__law_book ok__law_book) (pCons (pVar 1) (pCons (pC (.int 0)) pNil))))
  (pSeq (pSetD 3 (pCalls (callN pre__law_letters ok__law_letters) (pCons (pOp2 bIx (pVar 1) (pC (.int 0))) pNil)))
  (pSeq (pSetD 4 (pCall cListB (pCons (pVar 2) pNil)))
  (pSeq (pWip [5, 6, 7, 8] (pFor (pRng1 (pCons (pC (.int 4)) pNil)) (tgN 5) (pGw [5, 6, 7, 8] [5, 6, 7, 8] (pSeq (pSetD 6 (pCalls (callN pre__law_text ok__law_text) (pCons (pVar 1) (pCons (pOp2 bAdd (pC (.int 31)) (pOp2 bMul (pC (.int 16)) (pVar 5))) (pCons (pVar 2) (pCons (pVar 3) pNil))))))
  (pSeq (pSetD 7 (pCalls (callP pre__law_due f__law_due) (pCons (pVar 2) (pCons (pVar 6) pNil))))
  (pIf (pTest (pOp2 (bIs not) (pVar 7) (pC .non))) (pSeq (pSet 8 (pCallX (callX pre_x_all_places F_x_all_places) (pCons (pVar 4) (pCons (pVar 6) pNil))))
  (pSeq (pIf (pOr (pNot (pTest (pIsiP "list" (pVar 8)))) (pOr (pTest (pOp2 (bEq not) (pVar 8) (pOp2 bIx (pVar 7) (pC (.int 2))))) (pTest (pOp2 (bEq not) (pVar 4) (pVar 2))))) (pRet (pC (.bl false)))
  pNext)
  (pSeq (pIf (pTest (pOp2 (bEq not) (pLc (pItL (pVar 8)) (tgN 9) (pTest (pIsiP "bool" (pVar 9))) (pVar 9) [9]) (pLst pNil))) (pRet (pC (.bl false)))
  pNext)
  (pSeq (pDrop (pLM lInsert (pVar 8) (pCons (pC (.int 0)) (pCons (pNeg (pC (.int 1))) pNil))))
  (pIf (pTest (pOp2 (bEq not) (pCallX (callX pre_x_all_places F_x_all_places) (pCons (pVar 4) (pCons (pVar 6) pNil))) (pOp2 bIx (pVar 7) (pC (.int 2))))) (pRet (pC (.bl false)))
  pNext)))))
  pNext))))))
  (pSeq (pIf (pOr (pTest (pOp2 (bEq not) (pCallX (callX pre_x_all_places F_x_all_places) (pCons (pVar 4) (pCons (pC (.str [])) pNil))) (pLst (pCons (pC (.int 0)) pNil)))) (pTest (pOp2 bGt (pOp2 bMod (pOp2 bIx (pVar 1) (pC (.int 119))) (pC (.int 16))) (pC (.int 0))))) (pRet (pAndV (pOp2 bGt (pOp2 bMod (pOp2 bIx (pVar 1) (pC (.int 119))) (pC (.int 16))) (pC (.int 0))) (pOp2 (bEq id) (pCallX (callX pre_x_all_places F_x_all_places) (pCons (pVar 4) (pCons (pC (.str [])) pNil))) (pLst (pCons (pC (.int 0)) pNil)))))
  pNext)
  (pSeq (pAsg (pCalls (callN pre__law_long ok__law_long) (pCons (pVar 1) (pCons (pC (.int 112)) pNil))) (tgT [2, 6]))
  (pSeq (pSetD 7 (pCalls (callP pre__law_due f__law_due) (pCons (pVar 2) (pCons (pVar 6) pNil))))
  (pRet (pOrV (pOp2 (bIs id) (pVar 7) (pC .non)) (pOp2 (bEq id) (pCallX (callX pre_x_all_places F_x_all_places) (pCons (pVar 2) (pCons (pVar 6) pNil))) (pOp2 bIx (pVar 7) (pC (.int 2))))))))))))))
abbrev N_law : List Str := ["script", "d", "book", "letters", "handed", "turn", "text", "due", "found", "one"]
local macro_rules | `(tactic| walk_at "rd") => `(tactic| simp (config := { decide := true }) only [pSeq_then, pNext, pNever, pBreak, pCont, pDrop, pRet, pRetN, pIf, pSet, pSetD, setD, setP, setO, pVar, pC, pOp2, pTest, pAnd, pOr, pNot, pAndV, pOrV, pNotV, pIfE, pNil, pCons, pLst, pTup, pDict0, pDictC, pDM, dUpdate, pCall, pIsiP, pM1, bJoin, pNo, pPart, pSl, pSortI, pLM, lAppend, lInsert, lExtend, lPopAt, lPop, lReverse, lClear, pLc_eq, pFor_eq, pWhile_eq, pWip, pGw, wipeS, trunc, truncE, pItL, pItS, pRng1, pRng2, pRng3, pVarF, pAug, pDictLen, pLr3, pNeg, pCalls, callP, pEnum, pStepS, pRevL, bStarts, bEnds, pAugK, pItK, pFz, pRaise, pCallX, callX, pTry, pIsX, pLr1, pM0, bUpper, cListB, cTuple, pOrT, pDictLenT, pBor, borE, scalD, pPickL, pLstN, pTupN, pConsN, takeN, wipeM, pNM, pFzN, pBorN, borN, lendD, pBorT, putKid, N.toD, nds, nds_leaf, cSum, cAbs, pre_x_is_text, f_x_is_text, pre_x_need_text, pre_only_words, f_only_words, pre_words_from, f_words_from, pre_ways_on, f_ways_on, pre_ways_to, f_ways_to, pre_x_words_by_cuts, pre_x_all_places, pre__law_draws, pre__law_word, pre__law_weight, pre__law_letters, pre__law_begins, pre__law_book, pre__law_joined, pre__law_text, pre__law_at, f__law_at, pre__law_ways, f__law_ways, pre__law_there, f__law_there, pre__law_due, f__law_due, pre__law_long, pre_law, f_law, merge_dictOf, filter_none, callN, txs_map, toAR, R.fz, view, views, dats, O.toD, AR.toR, bAdd, bSub, bMul, bDiv, bMod, bPow, bEq, bCmp, bIn, bIs, bIx, bSl, cLen, cMin2, cMax2, cInt, cList, cDict, cSorted, plainD, isiB, tyn, pAsg, tgT, tgU, setsA, pSetIx, storeO, kdOf, pChain, cmpD, pYes, pTru, truD, Hand, tgN, wipeA, fnAbs, envA, ownsA, retA, conP, conN, List.set, List.set_cons_zero, List.set_cons_succ, List.set_nil, List.getElem?_cons_zero, List.getElem?_cons_succ, List.getElem?_nil, List.length_cons, List.length_nil, List.cons_append, List.nil_append, List.append_nil, List.replicate, Nat.reduceSub, Nat.reduceAdd, Nat.zero_add, Int.zero_add, true_and, and_true, reduceIte, Bool.false_eq_true, id, Bool.not_true, Bool.not_false, decide_true, decide_false, List.nodup_nil, List.nodup_cons, List.not_mem_nil, not_false_eq_true, List.take_zero, List.take_succ_cons, List.take_nil, List.map_cons, List.map_nil])
local macro_rules | `(tactic| walk_at "sc") => `(tactic| first | with_reducible assumption | omega | assumption | with_reducible rfl | exact True.intro | exact okD_ints | exact okD_nil | exact okD_int _ | exact okD_bl _ | exact okD_non | exact okD_sm (by assumption) | with_reducible exact cmulR (by omega) (by omega) | with_reducible exact cmulL (by omega) (by omega) | with_reducible exact cdivw (by omega) (by omega) | (with_reducible refine smallI_of ?_ ?_ <;> first | omega | (simp only [List.length_map, List.length_append, List.length_range, List.length_replicate, List.length_cons, List.length_nil, List.length_take, List.length_drop]; omega)) | (unfold CPow; decide) | (simp only [List.length_map, List.length_append, List.length_range, List.length_replicate, List.length_cons, List.length_nil, List.length_take, List.length_drop]; omega) | (refine ⟨?_, ?_⟩ <;> walk_at "sc"))
local macro_rules | `(tactic| walk_at "go") => `(tactic| repeat (first | walk_at "rd" | with_reducible refine then_go ?_ | (refine And.intro (by walk_at "sc") ?_) | (refine dict_of (by assumption) ?_) | rw [deq_self (by walk_at "sc")] | walk_at "sc"))
local macro_rules | `(tactic| walk_at "rt") => `(tactic| try walk_at "rd")
theorem spots_succ (W : Nat → List Tx) (k : Nat) (q : Nat → Tx → Bool) : spots W (k + 1) q = spots W k q ++ ((W k).filter (q k)).map fun w => (k, w) := by
  unfold spots
  rw [List.range_succ, List.flatMap_append]
  simp only [List.flatMap_cons, List.flatMap_nil, List.append_nil]
theorem spots_le (W : Nat → List Tx) (hl : ∀ p, (W p).length ≤ 12) (q : Nat → Tx → Bool) : ∀ k, (spots W k q).length ≤ 12 * k
  | 0 => by simp [spots]
  | k + 1 => by
    rw [spots_succ, List.length_append, List.length_map]
    have := spots_le W hl q k
    have := List.length_filter_le (q k) (W k)
    have := hl k
    omega
theorem filter_step (q : Tx → Bool) (k : Nat) (S : List (Nat × Tx)) (pre : List Tx) (w : Tx) : S ++ ((pre ++ [w]).filter q).map (fun w => (k, w)) = if q w = true then (S ++ (pre.filter q).map fun w => (k, w)) ++ [(k, w)] else S ++ (pre.filter q).map fun w => (k, w) := by
  rw [List.filter_append, List.filter_cons]
  by_cases h : q w = true
  · rw [if_pos h, if_pos h, List.map_append, ← List.append_assoc]
    rfl
  · rw [if_neg h, if_neg h, List.filter_nil, List.append_nil]
theorem r__law_there : Law p__law_there N__law_there 2 (conP pre__law_there f__law_there) := fun ars h => by
  have h : pre__law_there ars := h
  unfold pre__law_there at h
  split at h
  · rename_i ds l _
    obtain ⟨hR, hds, hl, hll⟩ := h
    have hwd : ∀ p, ∀ w ∈ wordsFrom (dictOf ds) l p, 1 ≤ w.length ∧ p + w.length ≤ l.length ∧ w.length ≤ 12 := wds_eq (dictOf ds) l
    have hwl : ∀ p, (wordsFrom (dictOf ds) l p).length ≤ 12 := fun p => words_len (kvs := dictOf ds) (l := l) p
    refine ⟨rfl, ?_⟩
    unfold p__law_there endsA
    walk_at "go"
    rw [rep_flat, Int.toNat_natCast]
    refine ⟨by rw [List.length_replicate]; omega, ?_⟩
    walk_at "go"
    generalize hW : wordsFrom (dictOf ds) l = W at hwd hwl ⊢
    rw [Int.toNat_natCast]
    refine for_rng0 (fun k A => A = ⟨[AV.d (.lst ds), AV.d (.str l), AV.p 0, .un, .un, .un], [some (.lst ((thr W l.length k).map .int))]⟩) ?_ (by intros; trivial) ?_ ?_
    · show _ = (⟨_, [some (.lst ((1 :: List.replicate l.length 0).map D.int))]⟩ : Abs)
      rw [List.map_cons, List.map_replicate]
    · rintro k A hk rfl
      refine ⟨_, rfl, fun J Kb hJ hK => ?_⟩
      walk_at "go"
      rw [Int.toNat_natCast, hW]
      have hln := thr_len W l.length k
      have hS : thr W l.length (k + 1) = (W k).foldl (thrW k) (thr W l.length k) := rfl
      rw [hS] at hJ
      generalize thr W l.length k = L0 at hln hJ ⊢
      refine for_over (fun pre A => A = ⟨[AV.d (.lst ds), AV.d (.str l), AV.p 0, .d (.int k), .un, .un], [some (.lst ((pre.foldl (thrW k) L0).map .int))]⟩) rfl (by intros; trivial) ?_ ?_
      · rintro pre w post A e2 rfl
        refine ⟨_, rfl, fun J2 Kb2 hJ2 hK2 => ?_⟩
        have hw : w ∈ W k := by rw [e2]; simp
        obtain ⟨h1, h2, h3⟩ := hwd k w hw
        have ea : (k : Int) + (w.length : Int) = ((k + w.length : Nat) : Int) := by omega
        rw [List.foldl_append, List.foldl_cons, List.foldl_nil] at hJ2
        have hL1 := thrF_len k pre L0
        generalize pre.foldl (thrW k) L0 = L at hL1 hJ2 ⊢
        have hL1 : L.length = l.length + 1 := hL1.trans hln
        unfold thrW at hJ2
        have a1 := atI_of (xs := L) (f := D.int) (i := ((k + w.length : Nat) : Int)) 0 (by omega) (by omega)
        have a2 := atI_of (xs := L) (f := D.int) (i := ((k : Nat) : Int)) 0 (by omega) (by omega)
        rw [Int.toNat_natCast] at a1 a2
        have hix : ixN (L.map D.int).length ((k + w.length : Nat) : Int) = some (k + w.length) := by
          have := ixN_of (n := (L.map D.int).length) (i := ((k + w.length : Nat) : Int)) (by omega) (by rw [List.length_map]; omega)
          rwa [Int.toNat_natCast] at this
        walk_at "go"
        rw [ea]
        refine ⟨_, a1, _, a2, ?_⟩
        walk_at "rt"
        refine ⟨_, hix, ?_⟩
        rw [List.map_set] at hJ2
        exact hJ2 _ rfl
      · rintro A rfl
        walk_at "go"
        exact hJ _ rfl
    · rintro A rfl
      walk_at "go"
      exact ⟨_, rfl, rfl⟩
  · exact h.elim
theorem r__law_due : Law p__law_due N__law_due 2 (conP pre__law_due f__law_due) := fun ars h => by
  have h : pre__law_there ars := h
  unfold pre__law_there at h
  split at h
  · rename_i ds l _
    have hp : pre__law_there [.d (.lst ds), .d (.str l)] := h
    obtain ⟨hR, hds, hl, hll⟩ := h
    have hwd : ∀ p, ∀ w ∈ wordsFrom (dictOf ds) l p, 1 ≤ w.length ∧ p + w.length ≤ l.length ∧ w.length ≤ 12 := wds_eq (dictOf ds) l
    have hwd2 : ∀ p, ∀ w ∈ wordsFrom (dictOf ds) l p, 1 ≤ w.length ∧ p + w.length ≤ l.length := fun p w hw => ⟨(hwd p w hw).1, (hwd p w hw).2.1⟩
    have hwl : ∀ p, (wordsFrom (dictOf ds) l p).length ≤ 12 := fun p => words_len (kvs := dictOf ds) (l := l) p
    refine ⟨rfl, ?_⟩
    show p__law_due _ _
    unfold p__law_due endsA
    walk_at "go"
    generalize hW : wordsFrom (dictOf ds) l = W at hwd hwd2 hwl ⊢
    have hat : ∀ p : Nat, p ≤ l.length → atI ((wayL W l.length l.length).map D.int) (p : Int) = some (.int (nw W l.length p)) := fun p hp => by
      have := atI_of (xs := wayL W l.length l.length) (f := D.int) (i := (p : Int)) 0 (by omega) (by rw [wayL_len]; omega)
      rwa [Int.toNat_natCast] at this
    have hat2 : ∀ p : Nat, p ≤ l.length → atI ((thr W l.length l.length).map D.int) (p : Int) = some (.int (ntT W l.length p)) := fun p hp => by
      have := atI_of (xs := thr W l.length l.length) (f := D.int) (i := (p : Int)) 0 (by omega) (by rw [thr_len]; omega)
      rwa [Int.toNat_natCast] at this
    have h0 := hat 0 (Nat.zero_le _)
    rw [show ((0 : Nat) : Int) = 0 from rfl] at h0
    refine ⟨_, h0, ?_⟩
    walk_at "rt"
    by_cases hn : nw W l.length 0 = 0
    · rw [if_pos (decide_eq_true hn), if_pos hn]
    · rw [if_neg (fun z => hn (of_decide_eq_true z)), if_neg hn]
      walk_at "go"
      have e1 : ((l.length : Int) + 1).toNat = l.length + 1 := by omega
      rw [e1]
      refine for_rng0 (fun k A => A = ⟨[AV.d (.lst ds), AV.d (.str l), AV.d (.lst ((thr W l.length l.length).map .int)), AV.d (.lst ((wayL W l.length l.length).map .int)), AV.p 0, .un, .un, .un, .un], [some (.lst (((List.range k).filter fun p => decide (ntT W l.length p * nw W l.length p = nw W l.length 0)).map fun p : Nat => .int (p : Int)))]⟩) rfl (by intros; trivial) ?_ ?_
      · rintro k A hk rfl
        refine ⟨_, rfl, fun J Kb hJ hK => ?_⟩
        have hlen : ((List.range k).filter fun p => decide (ntT W l.length p * nw W l.length p = nw W l.length 0)).length ≤ k := by
          have := List.length_filter_le (fun p => decide (ntT W l.length p * nw W l.length p = nw W l.length 0)) (List.range k)
          rwa [List.length_range] at this
        walk_at "rd"
        refine ⟨_, hat2 k (by omega), _, hat k (by omega), ?_⟩
        walk_at "rt"
        refine ⟨cmul_ways hwd2 hwl hll, _, h0, ?_⟩
        walk_at "rt"
        rw [List.range_succ, List.filter_append, List.map_append] at hJ
        by_cases hq : ntT W l.length k * nw W l.length k = nw W l.length 0
        · rw [if_pos (decide_eq_true hq)]
          rw [List.filter_cons, if_pos (decide_eq_true hq)] at hJ
          walk_at "go"
          exact hJ _ rfl
        · rw [if_neg (fun z => hq (of_decide_eq_true z))]
          rw [List.filter_cons, if_neg (fun z => hq (of_decide_eq_true z)), List.filter_nil, List.map_nil, List.append_nil] at hJ
          exact hJ _ rfl
      · rintro A rfl
        walk_at "go"
        rw [Int.toNat_natCast]
        have hdue : dueD W l.length = .lst [.lst ((spots W l.length fun p w => decide (0 < cnt W l.length p w)).map spotD), .lst ((spots W l.length fun p w => decide (cnt W l.length p w = nw W l.length 0)).map spotD), .lst (((List.range (l.length + 1)).filter fun p => decide (ntT W l.length p * nw W l.length p = nw W l.length 0)).map fun p : Nat => .int (p : Int))] := rfl
        rw [hdue]
        generalize (((List.range (l.length + 1)).filter fun p => decide (ntT W l.length p * nw W l.length p = nw W l.length 0)).map fun p : Nat => D.int (p : Int)) = PL
        have hs1 := spots_le W hwl fun p w => decide (0 < cnt W l.length p w)
        have hs2 := spots_le W hwl fun p w => decide (cnt W l.length p w = nw W l.length 0)
        have hu1 := fun k => spots_succ W k fun p w => decide (0 < cnt W l.length p w)
        have hu2 := fun k => spots_succ W k fun p w => decide (cnt W l.length p w = nw W l.length 0)
        generalize hF1 : (fun k => spots W k fun p w => decide (0 < cnt W l.length p w)) = F1
        generalize hF2 : (fun k => spots W k fun p w => decide (cnt W l.length p w = nw W l.length 0)) = F2
        have hF1 := fun k => congrFun hF1 k
        have hF2 := fun k => congrFun hF2 k
        simp only [hF1] at hs1 hu1 ⊢
        simp only [hF2] at hs2 hu2 ⊢
        have hz1 : F1 0 = [] := by rw [← hF1]; rfl
        have hz2 : F2 0 = [] := by rw [← hF2]; rfl
        clear hF1 hF2 hdue
        refine for_rng0 (fun k A => A = ⟨[AV.d (.lst ds), AV.d (.str l), AV.d (.lst ((thr W l.length l.length).map .int)), AV.d (.lst ((wayL W l.length l.length).map .int)), AV.p 0, .un, .p 3, .un, .un], [none, none, none, some (.nst (.lst [.lst (((F1 k).map spotD).map N.d), .lst (((F2 k).map spotD).map N.d), .lst (PL.map N.d)]))]⟩) (by rw [hz1, hz2]; rfl) (by intros; trivial) ?_ ?_
        · rintro k A hk rfl
          refine ⟨_, rfl, fun J Kb hJ hK => ?_⟩
          walk_at "go"
          rw [Int.toNat_natCast, hW]
          have hs1 := hs1 k
          have hs2 := hs2 k
          rw [hu1, hu2] at hJ
          generalize F1 k = S1 at hs1 hJ ⊢
          generalize F2 k = S2 at hs2 hJ ⊢
          refine for_over (fun pre A => A = ⟨[AV.d (.lst ds), AV.d (.str l), AV.d (.lst ((thr W l.length l.length).map .int)), AV.d (.lst ((wayL W l.length l.length).map .int)), AV.p 0, .d (.int k), .p 3, .un, .un], [none, none, none, some (.nst (.lst [.lst (((S1 ++ (pre.filter fun w => decide (0 < cnt W l.length k w)).map fun w => (k, w)).map spotD).map N.d), .lst (((S2 ++ (pre.filter fun w => decide (cnt W l.length k w = nw W l.length 0)).map fun w => (k, w)).map spotD).map N.d), .lst (PL.map N.d)]))]⟩) ?_ (by intros; trivial) ?_ ?_
          · simp only [List.filter_nil, List.map_nil, List.append_nil]
          · rintro pre w post A e2 rfl
            refine ⟨_, rfl, fun J2 Kb2 hJ2 hK2 => ?_⟩
            have hw : w ∈ W k := by rw [e2]; simp
            have hpl : pre.length ≤ 12 := by
              have := hwl k
              rw [e2, List.length_append] at this
              omega
            obtain ⟨h1, h2, h3⟩ := hwd k w hw
            have ea : (k : Int) + (w.length : Int) = ((k + w.length : Nat) : Int) := by omega
            have hl1 := List.length_filter_le (fun w => decide (0 < cnt W l.length k w)) pre
            have hl2 := List.length_filter_le (fun w => decide (cnt W l.length k w = nw W l.length 0)) pre
            have ha1 := filter_step (fun w => decide (0 < cnt W l.length k w)) k S1 pre w
            have ha2 := filter_step (fun w => decide (cnt W l.length k w = nw W l.length 0)) k S2 pre w
            rw [ha1, ha2] at hJ2
            have hb1 : (S1 ++ (pre.filter fun w => decide (0 < cnt W l.length k w)).map fun w => (k, w)).length ≤ 12 * k + 12 := by rw [List.length_append, List.length_map]; omega
            have hb2 : (S2 ++ (pre.filter fun w => decide (cnt W l.length k w = nw W l.length 0)).map fun w => (k, w)).length ≤ 12 * k + 12 := by rw [List.length_append, List.length_map]; omega
            generalize (S1 ++ (pre.filter fun w => decide (0 < cnt W l.length k w)).map fun w => (k, w)) = T1 at hb1 hJ2 ⊢
            generalize (S2 ++ (pre.filter fun w => decide (cnt W l.length k w = nw W l.length 0)).map fun w => (k, w)) = T2 at hb2 hJ2 ⊢
            walk_at "rd"
            rw [ea]
            refine ⟨_, hat2 k (by omega), ?_⟩
            walk_at "rt"
            refine ⟨by omega, _, hat _ h2, ?_⟩
            walk_at "rt"
            refine ⟨cmul_ways hwd2 hwl hll, ?_⟩
            have hc : ntT W l.length k * nw W l.length (k + w.length) = cnt W l.length k w := rfl
            rw [hc]
            rw [then_eq]
            walk_at "rd"
            have ex : ∀ T : List (Nat × Tx), (T ++ [(k, w)]).map spotD = T.map spotD ++ [.tup [.int k, .str w]] := fun T => by
              rw [List.map_append]
              rfl
            by_cases q1 : 0 < cnt W l.length k w
            · rw [if_pos (decide_eq_true q1), ex] at hJ2
              rw [if_pos (decide_eq_true (show cnt W l.length k w > 0 from q1))]
              refine ⟨0, _, ⟨_, .inl rfl, rfl, rfl⟩, by rw [List.length_map]; omega, ?_⟩
              rw [then_eq]
              walk_at "rd"
              refine ⟨_, h0, ?_⟩
              walk_at "rt"
              by_cases q2 : cnt W l.length k w = nw W l.length 0
              · rw [if_pos (decide_eq_true q2), ex] at hJ2
                rw [if_pos (decide_eq_true q2)]
                refine ⟨1, _, ⟨_, .inl rfl, rfl, rfl⟩, by rw [List.length_map]; omega, ?_⟩
                exact hJ2 _ rfl
              · rw [if_neg (fun z => q2 (of_decide_eq_true z))] at hJ2
                rw [if_neg (fun z => q2 (of_decide_eq_true z))]
                exact hJ2 _ rfl
            · rw [if_neg (fun z => q1 (of_decide_eq_true z))] at hJ2
              rw [if_neg (fun z => q1 (of_decide_eq_true z))]
              rw [then_eq]
              walk_at "rd"
              refine ⟨_, h0, ?_⟩
              walk_at "rt"
              by_cases q2 : cnt W l.length k w = nw W l.length 0
              · rw [if_pos (decide_eq_true q2), ex] at hJ2
                rw [if_pos (decide_eq_true q2)]
                refine ⟨1, _, ⟨_, .inl rfl, rfl, rfl⟩, by rw [List.length_map]; omega, ?_⟩
                exact hJ2 _ rfl
              · rw [if_neg (fun z => q2 (of_decide_eq_true z))] at hJ2
                rw [if_neg (fun z => q2 (of_decide_eq_true z))]
                exact hJ2 _ rfl
          · rintro A rfl
            walk_at "go"
            exact hJ _ rfl
        · rintro A rfl
          walk_at "go"
  · exact h.elim
theorem pl_okD (xs : List Nat) : okD (.lst (xs.map fun p : Nat => D.int (p : Int))) := by
  have e : (xs.map fun p : Nat => D.int (p : Int)) = (xs.map fun p : Nat => (p : Int)).map D.int := by
    rw [List.map_map]
    rfl
  rw [e]
  exact okD_ints
theorem fx_places0 {ds : List D} : F_x_all_places [.d (.lst ds), .d (.str [])] = .ok (.o (.lst [.int 0])) := by
  have h := fx_places (ds := ds) (l := []) rfl (by show 0 < nw _ 0 0; rw [nw_last]; decide)
  rw [h]
  rfl
theorem dr_get26 {dd : List D} {n : Int} (h : Dr dd n) : ∃ is : List Int, dd = is.map D.int ∧ (∀ i ∈ is, 0 ≤ i ∧ i < 10007) ∧ n ≤ is.length := by
  obtain ⟨is, h1, h2, h3, _⟩ := h
  exact ⟨is, h1, h2, h3⟩
theorem r_law : Law p_law N_law 1 (conP pre_law f_law) := fun ars h => by
  have h : pre_law ars := h
  unfold pre_law at h
  split at h
  · rename_i ns _
    refine ⟨rfl, ?_⟩
    unfold p_law endsA
    walk_at "go"
    rintro y ⟨dd, rfl, hd⟩
    walk_at "go"
    refine ⟨hd.mono (by omega), ?_⟩
    rintro y ⟨ds, rfl, hB, hds⟩
    have hR := hB.rows
    have hP : isPairs ds := hR.pairs
    have hbk : okD (.lst ds) := book_okD hB
    walk_at "rd"
    rw [then_eq]
    walk_at "rd"
    refine dr_at hd (by omega) (by omega) fun x x0 x1 => ?_
    walk_at "rd"
    refine ⟨⟨x0, x1⟩, ?_⟩
    rintro y ⟨s, rfl, s1, s2, s3⟩
    walk_at "go"
    have hp0 := fx_pre (l := []) hP rfl (by decide)
    refine for_cR (by trivial) (fun i hi => ⟨_, rfl, fun J Kb hJ hK => ?_⟩) ?_
    · have hi : i < 4 := hi
      walk_at "rd"
      refine ⟨cmulL (by decide) (by decide), ⟨by omega, hd.mono (by omega), hR, by omega, s1, s2, s3⟩, ?_⟩
      rintro y ⟨l, rfl, hl, hll⟩
      have hfp := fx_pre hP hl (show l.length ≤ 100000 by omega)
      have hpl := places_len (wordsFrom (dictOf ds) l) l.length
      walk_at "rd"
      rw [then_eq]
      walk_at "rd"
      refine ⟨⟨hR, by omega, hl, by omega⟩, ?_⟩
      by_cases h0 : nw (wordsFrom (dictOf ds) l) l.length 0 = 0
      · rw [if_pos h0]
        walk_at "go"
      · rw [if_neg h0]
        have h1 : 0 < nw (wordsFrom (dictOf ds) l) l.length 0 := by
          have := nw_pos (n := l.length) (wd_1 (dictOf ds) l) 0
          omega
        unfold dueD
        walk_at "go"
        rw [fx_places hl h1]
        walk_at "go"
        have hok := pl_okD (placesS (wordsFrom (dictOf ds) l) l.length)
        generalize hpe : placesS (wordsFrom (dictOf ds) l) l.length = pl at hok hpl ⊢
        refine ⟨_, rfl, ?_⟩
        walk_at "rt"
        refine ⟨hok, hok, ?_⟩
        rw [deq_self hok]
        walk_at "go"
        refine lc_over (xs := pl) (f := fun p : Nat => .int (p : Int)) (fun _ => false) (fun p : Nat => .int (p : Int)) rfl (by omega) (fun p hp => ⟨_, rfl, fun J3 hJ3 => ?_⟩) ?_
        · walk_at "go"
        · rw [filter_none]
          walk_at "go"
          rw [fx_places hl h1, hpe]
          walk_at "rt"
          refine ⟨_, rfl, ?_⟩
          walk_at "rt"
          refine ⟨hok, hok, ?_⟩
          rw [deq_self hok]
          walk_at "go"
    · have e0 : (List.map (fun p : Nat => D.int (p : Int)) (List.filter (fun p => decide (ntT (wordsFrom (dictOf ds) []) 0 p * nw (wordsFrom (dictOf ds) []) 0 p = nw (wordsFrom (dictOf ds) []) 0 0)) (List.range 1))) = [.int 0] := by
        rw [List.range_one, List.filter_cons, nt_zero (wd_1 (dictOf ds) []), Int.one_mul, if_pos (decide_eq_true rfl)]
        rfl
      have hk0 : okD (.lst [.int 0]) := okD_ints (xs := [0])
      walk_at "go"
      rw [e0, deq_self hk0]
      walk_at "go"
      obtain ⟨is, rfl, hi1, hi2⟩ := dr_get26 hd
      have ea := atI_of (xs := is) (f := D.int) (i := ((119 : Nat) : Int)) 0 (by omega) (by omega)
      rw [Int.toNat_natCast] at ea
      refine ⟨_, ea, ?_⟩
      walk_at "rt"
      by_cases hq : is.getD 119 0 % 16 > 0
      · rw [if_pos (decide_eq_true hq)]
        refine ⟨_, ea, ?_⟩
        walk_at "rt"
        rw [if_pos (decide_eq_true hq)]
        refine ⟨hp0, ?_⟩
        rw [fx_places0]
        walk_at "rt"
        refine ⟨hk0, hk0, ?_⟩
        rw [deq_self hk0]
      · rw [if_neg (fun z => hq (of_decide_eq_true z))]
        rw [then_eq]
        walk_at "rd"
        refine ⟨⟨hd.mono (by omega), hd.mono (by omega)⟩, ?_⟩
        rintro y ⟨ds3, l3, rfl, h1, h2, h3, h4⟩
        have hfp := fx_pre h1.pairs h3 (show l3.length ≤ 100000 by omega)
        walk_at "rd"
        rw [then_eq]
        walk_at "rd"
        refine ⟨⟨h1, by omega, h3, by omega⟩, ?_⟩
        by_cases h0 : nw (wordsFrom (dictOf ds3) l3) l3.length 0 = 0
        · rw [if_pos h0]
          walk_at "go"
        · rw [if_neg h0]
          have h5 : 0 < nw (wordsFrom (dictOf ds3) l3) l3.length 0 := by
            have := nw_pos (n := l3.length) (wd_1 (dictOf ds3) l3) 0
            omega
          unfold dueD
          walk_at "go"
          rw [fx_places h3 h5]
          have hok := pl_okD (placesS (wordsFrom (dictOf ds3) l3) l3.length)
          walk_at "rt"
          refine ⟨_, rfl, ?_⟩
          walk_at "rt"
          refine ⟨hok, hok, ?_⟩
          rw [deq_self hok]
  · exact h.elim
end PD

namespace PD
open PySem PySem.Spec PyProof.Rows L2
section
open PySem PySem.Spec PyProof.Rows L2
def top (i : Nat) : Stmt := PySem.Challenge.pw_bookcuts_k26_places_of_every_cut.main.body.getD i (.Pass ⟨0, 0, 0, 0⟩)
abbrev s_is_text : Stmt := top 7
abbrev s_need_text : Stmt := top 8
abbrev s_only_words : Stmt := top 9
abbrev s_words_from : Stmt := top 10
abbrev s_ways_on : Stmt := top 12
abbrev s_ways_to : Stmt := top 14
abbrev s_words_by_cuts : Stmt := top 15
abbrev s_all_places : Stmt := top 16
abbrev s__law_draws : Stmt := top 18
abbrev s__law_word : Stmt := top 19
abbrev s__law_weight : Stmt := top 20
abbrev s__law_letters : Stmt := top 21
abbrev s__law_begins : Stmt := top 22
abbrev s__law_book : Stmt := top 23
abbrev s__law_joined : Stmt := top 24
abbrev s__law_text : Stmt := top 25
abbrev s__law_at : Stmt := top 26
abbrev s__law_ways : Stmt := top 27
abbrev s__law_there : Stmt := top 28
abbrev s__law_due : Stmt := top 29
abbrev s__law_long : Stmt := top 30
abbrev s_law : Stmt := top 31
/-- what the names of the text hold -/
structure Txt (K : PySem.W.Frag) (mg : Str → Option Value) : Prop where
  b_abs : mg "abs" = none
  b_bool : mg "bool" = none
  b_dict : mg "dict" = none
  b_enumerate : mg "enumerate" = none
  b_int : mg "int" = none
  b_isinstance : mg "isinstance" = none
  b_len : mg "len" = none
  b_list : mg "list" = none
  b_max : mg "max" = none
  b_min : mg "min" = none
  b_range : mg "range" = none
  b_sorted : mg "sorted" = none
  b_str : mg "str" = none
  b_sum : mg "sum" = none
  g_LONGEST_WORD : ∃ u, mg "LONGEST_WORD" = some (.int 12 u)
  g_SMALL_LETTERS : ∃ u, mg "SMALL_LETTERS" = some (.str "abcdefghijklmnopqrstuvwxyz" u)
  x_cut : ExcR K mg .cut
  x_text : ExcR K mg .text
variable {P : Program} {w : World} {K : PySem.W.Frag} {mg : Str → Option Value} {base : Heap}
theorem sc_is_text : FnScope ["thing", "sign"] ["thing"] (defScope s_is_text) := ⟨rfl, rfl, rfl, by decide +kernel, rfl, by decide +kernel, by decide +kernel⟩
theorem w_is_text (T : Txt K mg) (f : Addr) (cdv : Value) (A : Around) (outer : List Env) (s : Shared) (H : Hp) (E : XK) (hr : Room 0 (A.deeper (envOfC "is_text" (defScope s_is_text) s.heap.objs.size f cdv))) :
    ∃ t, DSs (cxOf CX0 P w K mg base ["thing", "sign"] "is_text" (defScope s_is_text) f cdv A outer s H E).nox W0 (defBody s_is_text) t p_x_is_text := by
  have hu65 := hu65_of hr
  have hu64 := hr.units
  have hu1 := hu_of hr
  obtain ⟨u_SMALL_LETTERS, g_SMALL_LETTERS⟩ := T.g_SMALL_LETTERS
  exact ⟨_, (dss_one (ds_ret (de_and (kisi (K := K) (de_var 0) (by decide) rfl T.b_isinstance rfl rfl T.b_str rfl) (de_one (de_cmp (r := rEqA K id) (op_eqA hu64) (snd_eq id) rfl (de_lc (own := [("sign", 1)]) rfl sc_is_text.nd (di_str (de_var 0)) (show blkC ["thing", "sign"] (defScope s_is_text) _ _ = true by decide +kernel) (fun _ _ _ _ _ => (dg_n 1 sc_is_text.nd)) (fun _ _ _ _ _ => (dts_one (dt_cmp (r := rInA K not) (op_notInA hu65) (snd_in not) rfl (de_var 1) (de_gstr rfl g_SMALL_LETTERS rfl)))) (fun _ _ _ _ _ => (de_var 1)) (by decide) (s, H)) (de_lst da_nil))))))⟩
theorem sc_need_text : FnScope ["thing"] ["thing"] (defScope s_need_text) := ⟨rfl, rfl, rfl, by decide +kernel, rfl, by decide +kernel, by decide +kernel⟩
theorem w_need_text (T : Txt K mg) (c_is_text : ACal P w K mg base 1 "is_text" (conP pre_x_is_text f_x_is_text)) (f : Addr) (cdv : Value) (A : Around) (outer : List Env) (s : Shared) (H : Hp) (E : XK) (hr : Room 1 (A.deeper (envOfC "need_text" (defScope s_need_text) s.heap.objs.size f cdv))) :
    ∃ t, DSs (cxOf (L2.CX P w) P w K mg base ["thing"] "need_text" (defScope s_need_text) f cdv A outer s H E) (fun C d _ H => E C d H) (defBody s_need_text) t p_x_need_text := by
  have tk := tk_cx (P := P) (w := w) (K := K) (mg := mg) (base := base) (N := ["thing"]) (qual := "need_text") (sc := defScope s_need_text) (f := f) (cdv := cdv) (A := A) (outer := outer) (s := s) (H := H) (E := E)
  have po := po_cx (P := P) (w := w) (K := K) (mg := mg) (base := base) (N := ["thing"]) (qual := "need_text") (sc := defScope s_need_text) (f := f) (cdv := cdv) (A := A) (outer := outer) (s := s) (H := H) (E := E)
  have hu65 := hu65_of hr
  have hu64 := hr.units
  have hu1 := hu_of hr
  exact ⟨_, (dss_one (ds_if (dt_not (dt_val (kcall (K := K) (reads_P pre_x_is_text f_x_is_text) c_is_text hr (by decide) rfl (da_cons (de_var 0) da_nil)))) (dss_one (ds_raise rfl tk T.x_text rfl rfl))
  dss_nil))⟩
theorem sc_only_words : FnScope ["book"] ["book"] (defScope s_only_words) := ⟨rfl, rfl, rfl, by decide +kernel, rfl, by decide +kernel, by decide +kernel⟩
theorem w_only_words (T : Txt K mg) (f : Addr) (cdv : Value) (A : Around) (outer : List Env) (s : Shared) (H : Hp) (E : XK) (hr : Room 0 (A.deeper (envOfC "only_words" (defScope s_only_words) s.heap.objs.size f cdv))) :
    ∃ t, DSs (cxOf CX0 P w K mg base ["book"] "only_words" (defScope s_only_words) f cdv A outer s H E).nox W0 (defBody s_only_words) t p_only_words := by
  have hu65 := hu65_of hr
  have hu64 := hr.units
  have hu1 := hu_of hr
  exact ⟨_, (dss_one (ds_ret (de_cty (r := rDictA K) (call_dictA rfl) snd_dict rfl T.b_dict rfl (da_cons (de_var 0) da_nil))))⟩
theorem sc_words_from : FnScope ["words", "text", "place", "pieces", "many", "piece"] ["words", "text", "place"] (defScope s_words_from) := ⟨rfl, rfl, rfl, by decide +kernel, rfl, by decide +kernel, by decide +kernel⟩
theorem w_words_from (T : Txt K mg) (f : Addr) (cdv : Value) (A : Around) (outer : List Env) (s : Shared) (H : Hp) (E : XK) (hr : Room 0 (A.deeper (envOfC "words_from" (defScope s_words_from) s.heap.objs.size f cdv))) :
    ∃ t, DSs (cxOf CX0 P w K mg base ["words", "text", "place", "pieces", "many", "piece"] "words_from" (defScope s_words_from) f cdv A outer s H E).nox W0 (defBody s_words_from) t p_words_from := by
  have hu65 := hu65_of hr
  have hu64 := hr.units
  have hu1 := hu_of hr
  obtain ⟨u_LONGEST_WORD, g_LONGEST_WORD⟩ := T.g_LONGEST_WORD
  exact ⟨_, (dss_cons (ds_setLc 3 (own := [("many", 4)]) rfl sc_words_from.nd (di_rng2 rfl T.b_range (da_cons de_int (da_cons (de_op op_addA snd_add (de_cb (call_min2 rfl) snd_min2 rfl T.b_min rfl (da_cons (de_gint rfl g_LONGEST_WORD) (da_cons (de_op op_sub snd_sub (de_cb (r := rLenA K) call_lenA snd_len rfl T.b_len rfl (da_cons (de_var 1) da_nil)) (de_var 2)) da_nil))) de_int) da_nil))) (show blkC ["words", "text", "place", "pieces", "many", "piece"] (defScope s_words_from) _ _ = true by decide +kernel) (fun _ _ _ _ _ => (dg_n 4 sc_words_from.nd)) (fun _ _ _ _ _ => dts_nil) (fun _ _ _ _ _ => (ksl (K := K) (de_var 1) (do_some (de_var 2)) (do_some (de_op op_addA snd_add (de_var 2) (de_var 4))))) (by decide) (s, H))
  (dss_one (ds_ret (de_lc (own := [("piece", 5)]) rfl sc_words_from.nd (klst (K := K) (de_var 3)) (show blkC ["words", "text", "place", "pieces", "many", "piece"] (defScope s_words_from) _ _ = true by decide +kernel) (fun _ _ _ _ _ => (dg_n 5 sc_words_from.nd)) (fun _ _ _ _ _ => (dts_one (dt_cmp (r := rInA K id) (op_inA hu65) (snd_in id) rfl (de_var 5) (de_var 0)))) (fun _ _ _ _ _ => (de_var 5)) (by decide) (s, H)))))⟩
theorem sc_ways_on : FnScope ["book", "text", "words", "found", "place", "word"] ["book", "text"] (defScope s_ways_on) := ⟨rfl, rfl, rfl, by decide +kernel, rfl, by decide +kernel, by decide +kernel⟩
theorem w_ways_on (T : Txt K mg) (c_only_words : ACal P w K mg base 1 "only_words" (conP pre_only_words f_only_words)) (c_words_from : ACal P w K mg base 1 "words_from" (conP pre_words_from f_words_from)) (f : Addr) (cdv : Value) (A : Around) (outer : List Env) (s : Shared) (H : Hp) (E : XK) (hr : Room 1 (A.deeper (envOfC "ways_on" (defScope s_ways_on) s.heap.objs.size f cdv))) :
    ∃ t, DSs (cxOf CX0 P w K mg base ["book", "text", "words", "found", "place", "word"] "ways_on" (defScope s_ways_on) f cdv A outer s H E).nox W0 (defBody s_ways_on) t p_ways_on := by
  have hu65 := hu65_of hr
  have hu64 := hr.units
  have hu1 := hu_of hr
  exact ⟨_, (dss_cons (ds_setD 2 sc_ways_on.nd (kcall (K := K) (reads_P pre_only_words f_only_words) c_only_words hr (by decide) rfl (da_cons (de_var 0) da_nil)))
  (dss_cons (ds_set 3 sc_ways_on.nd (kdictLen (K := K) (i := 1) (de_cb (r := rLenA K) call_lenA snd_len rfl T.b_len rfl (da_cons (de_var 1) da_nil)) de_int (fun _ => .int 1)))
  (dss_cons (DS.wip (ws := [4]) (ds_for PassesOwn.never rfl (di_rng3 rfl T.b_range (da_cons (de_op op_sub snd_sub (de_cb (r := rLenA K) call_lenA snd_len rfl T.b_len rfl (da_cons (de_var 1) da_nil)) de_int) (da_cons (de_neg de_int) (da_cons (de_neg de_int) da_nil)))) (dg_n 4 sc_ways_on.nd) (DSs.gw (ws := [4]) (wb := [4]) (dss_one (ds_setIx hu1 (de_var 3) (de_var 4) (de_cb (r := rSum K) (cr_sum rfl) snd_sum rfl T.b_sum rfl (da_cons (de_lc (own := [("word", 5)]) rfl sc_ways_on.nd (klst (K := K) (kcall (K := K) (reads_P pre_words_from f_words_from) c_words_from hr (by decide) rfl (da_cons (de_var 2) (da_cons (de_var 1) (da_cons (de_var 4) da_nil))))) (show blkC ["book", "text", "words", "found", "place", "word"] (defScope s_ways_on) _ _ = true by decide +kernel) (fun _ _ _ _ _ => (dg_n 5 sc_ways_on.nd)) (fun _ _ _ _ _ => dts_nil) (fun _ _ _ _ _ => (kix (K := K) hu1 (de_var 3) (de_op op_addA snd_add (de_var 4) (de_cb (r := rLenA K) call_lenA snd_len rfl T.b_len rfl (da_cons (de_var 5) da_nil))))) (by decide) (s, H)) da_nil)))))))
  (dss_one (ds_ret (de_var 3))))))⟩
theorem sc_ways_to : FnScope ["book", "text", "words", "found", "place", "word"] ["book", "text"] (defScope s_ways_to) := ⟨rfl, rfl, rfl, by decide +kernel, rfl, by decide +kernel, by decide +kernel⟩
theorem w_ways_to (T : Txt K mg) (c_only_words : ACal P w K mg base 1 "only_words" (conP pre_only_words f_only_words)) (c_words_from : ACal P w K mg base 1 "words_from" (conP pre_words_from f_words_from)) (f : Addr) (cdv : Value) (A : Around) (outer : List Env) (s : Shared) (H : Hp) (E : XK) (hr : Room 1 (A.deeper (envOfC "ways_to" (defScope s_ways_to) s.heap.objs.size f cdv))) :
    ∃ t, DSs (cxOf CX0 P w K mg base ["book", "text", "words", "found", "place", "word"] "ways_to" (defScope s_ways_to) f cdv A outer s H E).nox W0 (defBody s_ways_to) t p_ways_to := by
  have hu65 := hu65_of hr
  have hu64 := hr.units
  have hu1 := hu_of hr
  exact ⟨_, (dss_cons (ds_setD 2 sc_ways_to.nd (kcall (K := K) (reads_P pre_only_words f_only_words) c_only_words hr (by decide) rfl (da_cons (de_var 0) da_nil)))
  (dss_cons (ds_set 3 sc_ways_to.nd (de_cty (r := rDictA K) (call_dictA rfl) snd_dict rfl T.b_dict rfl (da_cons (de_lc (own := [("place", 4)]) rfl sc_ways_to.nd (di_rng1 rfl T.b_range (da_cons (de_op op_addA snd_add (de_cb (r := rLenA K) call_lenA snd_len rfl T.b_len rfl (da_cons (de_var 1) da_nil)) de_int) da_nil)) (show blkC ["book", "text", "words", "found", "place", "word"] (defScope s_ways_to) _ _ = true by decide +kernel) (fun _ _ _ _ _ => (dg_n 4 sc_ways_to.nd)) (fun _ _ _ _ _ => dts_nil) (fun _ _ _ _ _ => (de_tup (da_cons (de_var 4) (da_cons de_int da_nil)))) (by decide) (s, H)) da_nil)))
  (dss_cons (ds_setIx hu1 (de_var 3) de_int de_int)
  (dss_cons (DS.wip (ws := [4, 5]) (ds_for PassesOwn.never rfl (di_rng1 rfl T.b_range (da_cons (de_cb (r := rLenA K) call_lenA snd_len rfl T.b_len rfl (da_cons (de_var 1) da_nil)) da_nil)) (dg_n 4 sc_ways_to.nd) (DSs.gw (ws := [4, 5]) (wb := [4, 5]) (dss_one (DS.wip (ws := [5]) (ds_for PassesOwn.never rfl (klst (K := K) (kcall (K := K) (reads_P pre_words_from f_words_from) c_words_from hr (by decide) rfl (da_cons (de_var 2) (da_cons (de_var 1) (da_cons (de_var 4) da_nil))))) (dg_n 5 sc_ways_to.nd) (DSs.gw (ws := [5]) (wb := [5]) (dss_one (ds_augK hu1 (de_var 3) (de_op op_addA snd_add (de_var 4) (de_cb (r := rLenA K) call_lenA snd_len rfl T.b_len rfl (da_cons (de_var 5) da_nil))) (kix (K := K) hu1 (de_var 3) (de_var 4)))))))))))
  (dss_one (ds_ret (de_var 3)))))))⟩
theorem sc_words_by_cuts : FnScope ["book", "text", "there", "back", "words", "found", "place", "word"] ["book", "text"] (defScope s_words_by_cuts) := ⟨rfl, rfl, rfl, by decide +kernel, rfl, by decide +kernel, by decide +kernel⟩
theorem w_words_by_cuts (T : Txt K mg) (c_need_text : XCal P w K mg base 2 "need_text" (conX pre_x_need_text F_x_need_text)) (c_ways_to : ACal P w K mg base 2 "ways_to" (conP pre_ways_to f_ways_to)) (c_ways_on : ACal P w K mg base 2 "ways_on" (conP pre_ways_on f_ways_on)) (c_only_words : ACal P w K mg base 1 "only_words" (conP pre_only_words f_only_words)) (c_words_from : ACal P w K mg base 1 "words_from" (conP pre_words_from f_words_from)) (f : Addr) (cdv : Value) (A : Around) (outer : List Env) (s : Shared) (H : Hp) (E : XK) (hr : Room 2 (A.deeper (envOfC "words_by_cuts" (defScope s_words_by_cuts) s.heap.objs.size f cdv))) :
    ∃ t, DSs (cxOf (L2.CX P w) P w K mg base ["book", "text", "there", "back", "words", "found", "place", "word"] "words_by_cuts" (defScope s_words_by_cuts) f cdv A outer s H E) (fun C d _ H => E C d H) (defBody s_words_by_cuts) t p_x_words_by_cuts := by
  have tk := tk_cx (P := P) (w := w) (K := K) (mg := mg) (base := base) (N := ["book", "text", "there", "back", "words", "found", "place", "word"]) (qual := "words_by_cuts") (sc := defScope s_words_by_cuts) (f := f) (cdv := cdv) (A := A) (outer := outer) (s := s) (H := H) (E := E)
  have po := po_cx (P := P) (w := w) (K := K) (mg := mg) (base := base) (N := ["book", "text", "there", "back", "words", "found", "place", "word"]) (qual := "words_by_cuts") (sc := defScope s_words_by_cuts) (f := f) (cdv := cdv) (A := A) (outer := outer) (s := s) (H := H) (E := E)
  have hu65 := hu65_of hr
  have hu64 := hr.units
  have hu1 := hu_of hr
  exact ⟨_, (dss_cons (ds_expr (kcallX (K := K) (reads_X pre_x_need_text F_x_need_text) c_need_text hr (by decide) (tk_of tk) rfl (da_cons (de_var 1) da_nil)))
  (dss_cons (ds_setD 2 sc_words_by_cuts.nd (kcall (K := K) (reads_P pre_ways_to f_ways_to) c_ways_to hr (by decide) rfl (da_cons (de_var 0) (da_cons (de_var 1) da_nil))))
  (dss_cons (ds_setD 3 sc_words_by_cuts.nd (kcall (K := K) (reads_P pre_ways_on f_ways_on) c_ways_on hr (by decide) rfl (da_cons (de_var 0) (da_cons (de_var 1) da_nil))))
  (dss_cons (ds_if (dt_cmp (r := rEqA K id) (op_eqA hu64) (snd_eq id) rfl (kix (K := K) hu1 (de_var 3) de_int) de_int) (dss_one (ds_raise rfl tk T.x_cut rfl rfl))
  dss_nil)
  (dss_cons (ds_setD 4 sc_words_by_cuts.nd (kcall (K := K) (reads_P pre_only_words f_only_words) c_only_words hr (by decide) rfl (da_cons (de_var 0) da_nil)))
  (dss_cons (ds_set 5 sc_words_by_cuts.nd (de_lst da_nil))
  (dss_cons (DS.wip (ws := [6, 7]) (ds_for po rfl (di_rng1 rfl T.b_range (da_cons (de_cb (r := rLenA K) call_lenA snd_len rfl T.b_len rfl (da_cons (de_var 1) da_nil)) da_nil)) (dg_n 6 sc_words_by_cuts.nd) (DSs.gw (ws := [6, 7]) (wb := [6, 7]) (dss_one (DS.wip (ws := [7]) (ds_for po rfl (klst (K := K) (kcall (K := K) (reads_P pre_words_from f_words_from) c_words_from hr (by decide) rfl (da_cons (de_var 4) (da_cons (de_var 1) (da_cons (de_var 6) da_nil))))) (dg_n 7 sc_words_by_cuts.nd) (DSs.gw (ws := [7]) (wb := [7]) (dss_one (ds_expr (klm (K := K) PySem.F.slot_list_append PySem.F.type_list_append mt_append snd_append (de_var 5) (da_cons (de_tup (da_cons (de_tup (da_cons (de_var 6) (da_cons (de_var 7) da_nil))) (da_cons (de_op op_mulA snd_mul (kix (K := K) hu1 (de_var 2) (de_var 6)) (kix (K := K) hu1 (de_var 3) (de_op op_addA snd_add (de_var 6) (de_cb (r := rLenA K) call_lenA snd_len rfl T.b_len rfl (da_cons (de_var 7) da_nil))))) da_nil))) da_nil)))))))))))
  (dss_one (DS.fz 5 (ds_ret (de_tup (da_cons (de_var 5) (da_cons (kix (K := K) hu1 (de_var 3) de_int) da_nil)))))))))))))⟩
theorem sc_all_places : FnScope ["book", "text", "found", "all_cuts", "there", "back", "place"] ["book", "text"] (defScope s_all_places) := ⟨rfl, rfl, rfl, by decide +kernel, rfl, by decide +kernel, by decide +kernel⟩
theorem w_all_places (T : Txt K mg) (c_words_by_cuts : XCal P w K mg base 3 "words_by_cuts" (conX pre_x_words_by_cuts F_x_words_by_cuts)) (c_ways_to : ACal P w K mg base 2 "ways_to" (conP pre_ways_to f_ways_to)) (c_ways_on : ACal P w K mg base 2 "ways_on" (conP pre_ways_on f_ways_on)) (f : Addr) (cdv : Value) (A : Around) (outer : List Env) (s : Shared) (H : Hp) (E : XK) (hr : Room 3 (A.deeper (envOfC "all_places" (defScope s_all_places) s.heap.objs.size f cdv))) :
    ∃ t, DSs (cxOf (L2.CX P w) P w K mg base ["book", "text", "found", "all_cuts", "there", "back", "place"] "all_places" (defScope s_all_places) f cdv A outer s H E) (fun C d _ H => E C d H) (defBody s_all_places) t p_x_all_places := by
  have tk := tk_cx (P := P) (w := w) (K := K) (mg := mg) (base := base) (N := ["book", "text", "found", "all_cuts", "there", "back", "place"]) (qual := "all_places") (sc := defScope s_all_places) (f := f) (cdv := cdv) (A := A) (outer := outer) (s := s) (H := H) (E := E)
  have po := po_cx (P := P) (w := w) (K := K) (mg := mg) (base := base) (N := ["book", "text", "found", "all_cuts", "there", "back", "place"]) (qual := "all_places") (sc := defScope s_all_places) (f := f) (cdv := cdv) (A := A) (outer := outer) (s := s) (H := H) (E := E)
  have hu65 := hu65_of hr
  have hu64 := hr.units
  have hu1 := hu_of hr
  exact ⟨_, (dss_cons (ds_asg (kcallX (K := K) (reads_X pre_x_words_by_cuts F_x_words_by_cuts) c_words_by_cuts hr (by decide) (tk_of tk) rfl (da_cons (de_var 0) (da_cons (de_var 1) da_nil))) (kdg_t (K := K) [2, 3] rfl (pgs_cons (pg_name (i := 2) sc_all_places.nd rfl (by first | exact Or.inl rfl | exact Or.inr rfl)) (pgs_cons (pg_name (i := 3) sc_all_places.nd rfl (by first | exact Or.inl rfl | exact Or.inr rfl)) pgs_nil))))
  (dss_cons (ds_setD 4 sc_all_places.nd (kcall (K := K) (reads_P pre_ways_to f_ways_to) c_ways_to hr (by decide) rfl (da_cons (de_var 0) (da_cons (de_var 1) da_nil))))
  (dss_cons (ds_setD 5 sc_all_places.nd (kcall (K := K) (reads_P pre_ways_on f_ways_on) c_ways_on hr (by decide) rfl (da_cons (de_var 0) (da_cons (de_var 1) da_nil))))
  (dss_one (ds_ret (de_lc (own := [("place", 6)]) rfl sc_all_places.nd (di_rng1 rfl T.b_range (da_cons (de_op op_addA snd_add (de_cb (r := rLenA K) call_lenA snd_len rfl T.b_len rfl (da_cons (de_var 1) da_nil)) de_int) da_nil)) (show blkC ["book", "text", "found", "all_cuts", "there", "back", "place"] (defScope s_all_places) _ _ = true by decide +kernel) (fun _ _ _ _ _ => (dg_n 6 sc_all_places.nd)) (fun _ _ _ _ _ => (dts_one (dt_cmp (r := rEqA K id) (op_eqA hu64) (snd_eq id) rfl (de_op op_mulA snd_mul (kix (K := K) hu1 (de_var 4) (de_var 6)) (kix (K := K) hu1 (de_var 5) (de_var 6))) (de_var 3)))) (fun _ _ _ _ _ => (de_var 6)) (by decide) (s, H)))))))⟩
theorem sc__law_draws : FnScope ["script", "many", "drawn", "base", "k", "cell", "number", "one"] ["script", "many"] (defScope s__law_draws) := ⟨rfl, rfl, rfl, by decide +kernel, rfl, by decide +kernel, by decide +kernel⟩
theorem w__law_draws (T : Txt K mg) (f : Addr) (cdv : Value) (A : Around) (outer : List Env) (s : Shared) (H : Hp) (E : XK) (hr : Room 0 (A.deeper (envOfC "_law_draws" (defScope s__law_draws) s.heap.objs.size f cdv))) :
    ∃ t, DSs (cxOf CX0 P w K mg base ["script", "many", "drawn", "base", "k", "cell", "number", "one"] "_law_draws" (defScope s__law_draws) f cdv A outer s H E).nox W0 (defBody s__law_draws) t p__law_draws := by
  have hu65 := hu65_of hr
  have hu64 := hr.units
  have hu1 := hu_of hr
  exact ⟨_, (dss_cons (ds_set 2 sc__law_draws.nd (de_lst da_nil))
  (dss_cons (ds_set 3 sc__law_draws.nd de_int)
  (dss_cons (DS.wip (ws := [4, 5, 6, 7]) (ds_for PassesOwn.never rfl (di_enum (K := K) rfl T.b_enumerate (ksl (K := K) (de_var 0) do_no (do_some de_int))) (kdg_t (K := K) [4, 5] rfl (pgs_cons (pg_name (i := 4) sc__law_draws.nd rfl (by first | exact Or.inl rfl | exact Or.inr rfl)) (pgs_cons (pg_name (i := 5) sc__law_draws.nd rfl (by first | exact Or.inl rfl | exact Or.inr rfl)) pgs_nil))) (DSs.gw (ws := [4, 5, 6, 7]) (wb := [4, 5, 6, 7]) (dss_cons (ds_set 6 sc__law_draws.nd (de_cb call_abs snd_abs rfl T.b_abs rfl (da_cons (de_var 5) da_nil)))
  (dss_cons (ds_set 3 sc__law_draws.nd (de_op op_mod snd_mod (de_op op_addA snd_add (de_op op_mulA snd_mul (de_var 3) de_int) (de_var 6)) de_int))
  (dss_one (ds_if (dt_cmp op_geA (snd_cmp _ _) rfl (de_var 6) (de_op op_pow snd_pow de_int de_int)) (dss_one (ds_while PassesOwn.never (dt_w (dw_and (dt_cmp op_gtA (snd_cmp _ _) rfl (de_var 6) de_int) (dw_and1 (dt_cmp op_ltA (snd_cmp _ _) rfl (de_cb (r := rLenA K) call_lenA snd_len rfl T.b_len rfl (da_cons (de_var 2) da_nil)) (de_var 1))))) (DSs.gw (ws := []) (wb := [6]) (dss_cons (ds_expr (klm (K := K) PySem.F.slot_list_append PySem.F.type_list_append mt_append snd_append (de_var 2) (da_cons (de_op op_mod snd_mod (de_var 6) de_int) da_nil)))
  (dss_one (ds_set 6 sc__law_draws.nd (de_op op_fdivW snd_div (de_var 6) de_int)))))))
  (dss_cons (ds_setD 7 sc__law_draws.nd (de_op op_mod snd_mod (de_op op_mulA snd_mul (de_op op_addA snd_add (de_op op_addA snd_add (de_op op_mod snd_mod (de_var 6) de_int) (de_var 4)) de_int) de_int) de_int))
  (dss_cons (ds_setD 7 sc__law_draws.nd (de_op op_mod snd_mod (de_op op_mulA snd_mul (de_var 7) (de_var 7)) de_int))
  (dss_cons (ds_expr (klm (K := K) PySem.F.slot_list_append PySem.F.type_list_append mt_append snd_append (de_var 2) (da_cons (de_op op_mod snd_mod (de_op op_fdivW snd_div (de_var 7) de_int) de_int) da_nil)))
  (dss_cons (ds_setD 7 sc__law_draws.nd (de_op op_mod snd_mod (de_op op_addA snd_add (de_op op_addA snd_add (de_op op_mulA snd_mul (de_var 7) de_int) (de_op op_mulA snd_mul de_int (de_var 4))) de_int) de_int))
  (dss_cons (ds_setD 7 sc__law_draws.nd (de_op op_mod snd_mod (de_op op_mulA snd_mul (de_var 7) (de_var 7)) de_int))
  (dss_one (ds_expr (klm (K := K) PySem.F.slot_list_append PySem.F.type_list_append mt_append snd_append (de_var 2) (da_cons (de_op op_mod snd_mod (de_op op_fdivW snd_div (de_var 7) de_int) de_int) da_nil))))))))))))))))
  (dss_cons (DS.wip (ws := [4, 7]) (ds_for PassesOwn.never rfl (di_rng1 rfl T.b_range (da_cons (de_op op_sub snd_sub (de_var 1) (de_cb (r := rLenA K) call_lenA snd_len rfl T.b_len rfl (da_cons (de_var 2) da_nil))) da_nil)) (dg_n 4 sc__law_draws.nd) (DSs.gw (ws := [4, 7]) (wb := [4, 7]) (dss_cons (ds_setD 7 sc__law_draws.nd (de_op op_mod snd_mod (de_op op_addA snd_add (de_op op_addA snd_add (de_var 3) (de_op op_mulA snd_mul de_int (de_var 4))) de_int) de_int))
  (dss_cons (ds_setD 7 sc__law_draws.nd (de_op op_mod snd_mod (de_op op_mulA snd_mul (de_var 7) (de_var 7)) de_int))
  (dss_cons (ds_setD 7 sc__law_draws.nd (de_op op_mod snd_mod (de_op op_addA snd_add (de_op op_mulA snd_mul (de_var 7) de_int) (de_var 4)) de_int))
  (dss_one (ds_expr (klm (K := K) PySem.F.slot_list_append PySem.F.type_list_append mt_append snd_append (de_var 2) (da_cons (de_op op_mod snd_mod (de_op op_fdivW snd_div (de_op op_mod snd_mod (de_op op_mulA snd_mul (de_var 7) (de_var 7)) de_int) de_int) de_int) da_nil))))))))))
  (dss_one (ds_ret (de_var 2)))))))⟩
theorem sc__law_word : FnScope ["x", "letters", "size", "word", "k", "at"] ["x", "letters"] (defScope s__law_word) := ⟨rfl, rfl, rfl, by decide +kernel, rfl, by decide +kernel, by decide +kernel⟩
theorem w__law_word (T : Txt K mg) (f : Addr) (cdv : Value) (A : Around) (outer : List Env) (s : Shared) (H : Hp) (E : XK) (hr : Room 0 (A.deeper (envOfC "_law_word" (defScope s__law_word) s.heap.objs.size f cdv))) :
    ∃ t, DSs (cxOf CX0 P w K mg base ["x", "letters", "size", "word", "k", "at"] "_law_word" (defScope s__law_word) f cdv A outer s H E).nox W0 (defBody s__law_word) t p__law_word := by
  have hu65 := hu65_of hr
  have hu64 := hr.units
  have hu1 := hu_of hr
  exact ⟨_, (dss_cons (ds_setD 2 sc__law_word.nd (kix (K := K) hu1 (de_lst (da_cons de_int (da_cons de_int (da_cons de_int (da_cons de_int (da_cons de_int (da_cons de_int (da_cons de_int (da_cons (de_op op_addA snd_add de_int (de_op op_mod snd_mod (de_op op_fdivW snd_div (de_var 0) de_int) de_int)) da_nil))))))))) (de_op op_mod snd_mod (de_var 0) de_int)))
  (dss_cons (ds_set 3 sc__law_word.nd (de_str rfl))
  (dss_cons (DS.wip (ws := [4, 5]) (ds_for PassesOwn.never rfl (di_rng1 rfl T.b_range (da_cons (de_var 2) da_nil)) (dg_n 4 sc__law_word.nd) (DSs.gw (ws := [4, 5]) (wb := [4, 5]) (dss_cons (ds_setD 5 sc__law_word.nd (de_op op_addA snd_add (de_op op_fdivW snd_div (de_var 0) (de_op op_addA snd_add de_int (de_op op_mulA snd_mul de_int (de_var 4)))) (de_op op_mulA snd_mul (de_var 4) (de_op op_fdivW snd_div (de_var 0) de_int))))
  (dss_one (ds_set 3 sc__law_word.nd (de_op op_addA snd_add (de_var 3) (kix (K := K) hu1 (de_var 1) (de_op op_mod snd_mod (de_var 5) (de_cb (r := rLenA K) call_lenA snd_len rfl T.b_len rfl (da_cons (de_var 1) da_nil)))))))))))
  (dss_one (ds_ret (de_var 3))))))⟩
theorem sc__law_weight : FnScope ["x", "some"] ["x"] (defScope s__law_weight) := ⟨rfl, rfl, rfl, by decide +kernel, rfl, by decide +kernel, by decide +kernel⟩
theorem w__law_weight (T : Txt K mg) (f : Addr) (cdv : Value) (A : Around) (outer : List Env) (s : Shared) (H : Hp) (E : XK) (hr : Room 0 (A.deeper (envOfC "_law_weight" (defScope s__law_weight) s.heap.objs.size f cdv))) :
    ∃ t, DSs (cxOf CX0 P w K mg base ["x", "some"] "_law_weight" (defScope s__law_weight) f cdv A outer s H E).nox W0 (defBody s__law_weight) t p__law_weight := by
  have hu65 := hu65_of hr
  have hu64 := hr.units
  have hu1 := hu_of hr
  exact ⟨_, (dss_cons (ds_setD 1 sc__law_weight.nd (de_lst (da_cons (de_op op_sub snd_sub (de_op op_mod snd_mod (de_var 0) de_int) de_int) (da_cons de_int (da_cons de_int (da_cons (de_op op_sub snd_sub (de_op op_mod snd_mod (de_var 0) de_int) de_int) (da_cons (de_op op_mulA snd_mul (de_op op_addA snd_add (de_var 0) de_int) (de_op op_pow snd_pow de_int de_int)) (da_cons (de_op op_sub snd_sub de_int (de_op op_mulA snd_mul (de_var 0) (de_op op_pow snd_pow de_int de_int))) da_nil))))))))
  (dss_one (ds_ret (kix (K := K) hu1 (de_var 1) (de_op op_mod snd_mod (de_op op_fdivW snd_div (de_var 0) de_int) de_int)))))⟩
theorem sc__law_letters : FnScope ["x", "at"] ["x"] (defScope s__law_letters) := ⟨rfl, rfl, rfl, by decide +kernel, rfl, by decide +kernel, by decide +kernel⟩
theorem w__law_letters (T : Txt K mg) (f : Addr) (cdv : Value) (A : Around) (outer : List Env) (s : Shared) (H : Hp) (E : XK) (hr : Room 0 (A.deeper (envOfC "_law_letters" (defScope s__law_letters) s.heap.objs.size f cdv))) :
    ∃ t, DSs (cxOf CX0 P w K mg base ["x", "at"] "_law_letters" (defScope s__law_letters) f cdv A outer s H E).nox W0 (defBody s__law_letters) t p__law_letters := by
  have hu65 := hu65_of hr
  have hu64 := hr.units
  have hu1 := hu_of hr
  exact ⟨_, (dss_cons (ds_setD 1 sc__law_letters.nd (de_op op_mod snd_mod (de_op op_fdivW snd_div (de_var 0) de_int) de_int))
  (dss_cons (ds_if (dt_cmp (r := rEqA K id) (op_eqA hu64) (snd_eq id) rfl (de_op op_mod snd_mod (de_op op_fdivW snd_div (de_var 0) de_int) de_int) de_int) (dss_one (ds_ret (de_str rfl)))
  dss_nil)
  (dss_cons (ds_if (dt_cmp (r := rEqA K id) (op_eqA hu64) (snd_eq id) rfl (de_op op_mod snd_mod (de_op op_fdivW snd_div (de_var 0) de_int) de_int) de_int) (dss_one (ds_ret (de_stepS (de_str rfl) (do_some (de_op op_mod snd_mod (de_var 1) de_int)) (do_some de_int))))
  dss_nil)
  (dss_one (ds_ret (ksl (K := K) (de_str rfl) (do_some (de_var 1)) (do_some (de_op op_addA snd_add (de_var 1) (kix (K := K) hu1 (de_lst (da_cons de_int (da_cons de_int (da_cons de_int (da_cons de_int (da_cons de_int da_nil)))))) (de_op op_mod snd_mod (de_var 0) de_int))))))))))⟩
theorem sc__law_begins : FnScope ["word", "words", "longer", "one"] ["word", "words"] (defScope s__law_begins) := ⟨rfl, rfl, rfl, by decide +kernel, rfl, by decide +kernel, by decide +kernel⟩
theorem w__law_begins (T : Txt K mg) (f : Addr) (cdv : Value) (A : Around) (outer : List Env) (s : Shared) (H : Hp) (E : XK) (hr : Room 0 (A.deeper (envOfC "_law_begins" (defScope s__law_begins) s.heap.objs.size f cdv))) :
    ∃ t, DSs (cxOf CX0 P w K mg base ["word", "words", "longer", "one"] "_law_begins" (defScope s__law_begins) f cdv A outer s H E).nox W0 (defBody s__law_begins) t p__law_begins := by
  have hu65 := hu65_of hr
  have hu64 := hr.units
  have hu1 := hu_of hr
  exact ⟨_, (dss_cons (ds_setLcD 2 (own := [("one", 3)]) rfl sc__law_begins.nd (di_keys (de_var 1)) (show blkC ["word", "words", "longer", "one"] (defScope s__law_begins) _ _ = true by decide +kernel) (fun _ _ _ _ _ => (dg_n 3 sc__law_begins.nd)) (fun _ _ _ _ _ => (dts_one (dt_cmp op_gtA (snd_cmp _ _) rfl (de_cb (r := rLenA K) call_lenA snd_len rfl T.b_len rfl (da_cons (de_var 3) da_nil)) (de_cb (r := rLenA K) call_lenA snd_len rfl T.b_len rfl (da_cons (de_var 0) da_nil))))) (fun _ _ _ _ _ => (de_var 3)) (by decide) (s, H))
  (dss_one (ds_ret (de_cmp (r := rEqA K not) (op_neA hu64) (snd_eq not) rfl (de_lc (own := [("one", 3)]) rfl sc__law_begins.nd (klst (K := K) (de_var 2)) (show blkC ["word", "words", "longer", "one"] (defScope s__law_begins) _ _ = true by decide +kernel) (fun _ _ _ _ _ => (dg_n 3 sc__law_begins.nd)) (fun _ _ _ _ _ => (dts_one (dt_cmp (r := rEqA K id) (op_eqA hu64) (snd_eq id) rfl (ksl (K := K) (de_var 3) do_no (do_some (de_cb (r := rLenA K) call_lenA snd_len rfl T.b_len rfl (da_cons (de_var 0) da_nil)))) (de_var 0)))) (fun _ _ _ _ _ => (de_var 3)) (by decide) (s, H)) (de_lst da_nil)))))⟩
theorem sc__law_book : FnScope ["d", "spot", "letters", "words", "last", "k", "x", "word", "rows"] ["d", "spot"] (defScope s__law_book) := ⟨rfl, rfl, rfl, by decide +kernel, rfl, by decide +kernel, by decide +kernel⟩
theorem w__law_book (T : Txt K mg) (c__law_letters : ACal P w K mg base 1 "_law_letters" (conN pre__law_letters ok__law_letters)) (c__law_word : ACal P w K mg base 1 "_law_word" (conN pre__law_word ok__law_word)) (c__law_weight : ACal P w K mg base 1 "_law_weight" (conN pre__law_weight ok__law_weight)) (c__law_begins : ACal P w K mg base 1 "_law_begins" (conN pre__law_begins ok__law_begins)) (f : Addr) (cdv : Value) (A : Around) (outer : List Env) (s : Shared) (H : Hp) (E : XK) (hr : Room 1 (A.deeper (envOfC "_law_book" (defScope s__law_book) s.heap.objs.size f cdv))) :
    ∃ t, DSs (cxOf CX0 P w K mg base ["d", "spot", "letters", "words", "last", "k", "x", "word", "rows"] "_law_book" (defScope s__law_book) f cdv A outer s H E).nox W0 (defBody s__law_book) t p__law_book := by
  have hu65 := hu65_of hr
  have hu64 := hr.units
  have hu1 := hu_of hr
  exact ⟨_, (dss_cons (ds_setD 2 sc__law_book.nd (kcall (K := K) (reads_N pre__law_letters ok__law_letters) c__law_letters hr (by decide) rfl (da_cons (kix (K := K) hu1 (de_var 0) (de_var 1)) da_nil)))
  (dss_cons (ds_set 3 sc__law_book.nd de_dict0)
  (dss_cons (ds_set 4 sc__law_book.nd (de_str rfl))
  (dss_cons (DS.wip (ws := [5, 6, 7]) (ds_for PassesOwn.never rfl (di_rng1 rfl T.b_range (da_cons (de_op op_mod snd_mod (kix (K := K) hu1 (de_var 0) (de_op op_addA snd_add (de_var 1) de_int)) de_int) da_nil)) (dg_n 5 sc__law_book.nd) (DSs.gw (ws := [5, 6, 7]) (wb := [4, 5, 6, 7]) (dss_cons (ds_setD 6 sc__law_book.nd (kix (K := K) hu1 (de_var 0) (de_op op_addA snd_add (de_op op_addA snd_add (de_var 1) de_int) (de_var 5))))
  (dss_cons (ds_setD 7 sc__law_book.nd (kcall (K := K) (reads_N pre__law_word ok__law_word) c__law_word hr (by decide) rfl (da_cons (de_var 6) (da_cons (de_var 2) da_nil))))
  (dss_cons (ds_if (dt_cmp (r := rEqA K id) (op_eqA hu64) (snd_eq id) rfl (de_op op_mod snd_mod (de_op op_fdivW snd_div (de_var 6) de_int) de_int) de_int) (dss_one (ds_setD 7 sc__law_book.nd (ksl (K := K) (de_op op_addA snd_add (de_var 4) (de_var 7)) do_no (do_some de_int))))
  dss_nil)
  (dss_cons (ds_setIx hu1 (de_var 3) (de_var 7) (kcall (K := K) (reads_N pre__law_weight ok__law_weight) c__law_weight hr (by decide) rfl (da_cons (kix (K := K) hu1 (de_var 0) (de_op op_addA snd_add (de_op op_addA snd_add (de_var 1) de_int) (de_var 5))) da_nil)))
  (dss_one (ds_set 4 sc__law_book.nd (de_var 7))))))))))
  (dss_cons (DS.fz 3 (ds_setD 8 sc__law_book.nd (de_cb (r := rSortA K) (call_sortA rfl hu64) snd_sorted rfl T.b_sorted rfl (da_cons (de_var 3) da_nil))))
  (dss_cons (ds_if (dt_cmp (r := rEqA K id) (op_eqA hu64) (snd_eq id) rfl (de_op op_mod snd_mod (de_op op_fdivW snd_div (kix (K := K) hu1 (de_var 0) (de_op op_addA snd_add (de_var 1) de_int)) de_int) de_int) de_int) (dss_one (ds_setLcD 8 (own := [("word", 7)]) rfl sc__law_book.nd (klst (K := K) (de_var 8)) (show blkC ["d", "spot", "letters", "words", "last", "k", "x", "word", "rows"] (defScope s__law_book) _ _ = true by decide +kernel) (fun _ _ _ _ _ => (dg_n 7 sc__law_book.nd)) (fun _ _ _ _ _ => (dts_one (dt_not (dt_val (kcall (K := K) (reads_N pre__law_begins ok__law_begins) c__law_begins hr (by decide) rfl (da_cons (de_var 7) (da_cons (de_var 3) da_nil))))))) (fun _ _ _ _ _ => (de_var 7)) (by decide) (s, H)))
  dss_nil)
  (dss_one (ds_ret (de_lc (own := [("word", 7)]) rfl sc__law_book.nd (klst (K := K) (de_var 8)) (show blkC ["d", "spot", "letters", "words", "last", "k", "x", "word", "rows"] (defScope s__law_book) _ _ = true by decide +kernel) (fun _ _ _ _ _ => (dg_n 7 sc__law_book.nd)) (fun _ _ _ _ _ => dts_nil) (fun _ _ _ _ _ => (de_tup (da_cons (de_var 7) (da_cons (kix (K := K) hu1 (de_var 3) (de_var 7)) da_nil)))) (by decide) (s, H))))))))))⟩
theorem sc__law_joined : FnScope ["d", "spot", "book", "many", "text", "k", "x"] ["d", "spot", "book", "many"] (defScope s__law_joined) := ⟨rfl, rfl, rfl, by decide +kernel, rfl, by decide +kernel, by decide +kernel⟩
theorem w__law_joined (T : Txt K mg) (f : Addr) (cdv : Value) (A : Around) (outer : List Env) (s : Shared) (H : Hp) (E : XK) (hr : Room 0 (A.deeper (envOfC "_law_joined" (defScope s__law_joined) s.heap.objs.size f cdv))) :
    ∃ t, DSs (cxOf CX0 P w K mg base ["d", "spot", "book", "many", "text", "k", "x"] "_law_joined" (defScope s__law_joined) f cdv A outer s H E).nox W0 (defBody s__law_joined) t p__law_joined := by
  have hu65 := hu65_of hr
  have hu64 := hr.units
  have hu1 := hu_of hr
  exact ⟨_, (dss_cons (ds_set 4 sc__law_joined.nd (de_str rfl))
  (dss_cons (DS.wip (ws := [5, 6]) (ds_for PassesOwn.never rfl (di_rng1 rfl T.b_range (da_cons (de_op op_mulA snd_mul (de_var 3) (de_cty call_int1 snd_int rfl T.b_int rfl (da_cons (de_cmp (r := rEqA K not) (op_neA hu64) (snd_eq not) rfl (de_var 2) (de_lst da_nil)) da_nil))) da_nil)) (dg_n 5 sc__law_joined.nd) (DSs.gw (ws := [5, 6]) (wb := [5, 6]) (dss_cons (ds_setD 6 sc__law_joined.nd (de_op op_fdivW snd_div (kix (K := K) hu1 (de_var 0) (de_op op_addA snd_add (de_var 1) (de_op op_mod snd_mod (de_var 5) de_int))) (de_op op_addA snd_add de_int (de_op op_fdivW snd_div (de_var 5) de_int))))
  (dss_one (ds_set 4 sc__law_joined.nd (de_op op_addA snd_add (de_var 4) (kix (K := K) hu1 (kix (K := K) hu1 (de_var 2) (de_op op_mod snd_mod (de_var 6) (de_cb (r := rLenA K) call_lenA snd_len rfl T.b_len rfl (da_cons (de_var 2) da_nil)))) de_int))))))))
  (dss_one (ds_ret (de_var 4)))))⟩
theorem sc__law_text : FnScope ["d", "spot", "book", "letters", "x", "text", "at", "letter", "some", "one"] ["d", "spot", "book", "letters"] (defScope s__law_text) := ⟨rfl, rfl, rfl, by decide +kernel, rfl, by decide +kernel, by decide +kernel⟩
theorem w__law_text (T : Txt K mg) (c__law_joined : ACal P w K mg base 1 "_law_joined" (conN pre__law_joined ok__law_joined)) (f : Addr) (cdv : Value) (A : Around) (outer : List Env) (s : Shared) (H : Hp) (E : XK) (hr : Room 1 (A.deeper (envOfC "_law_text" (defScope s__law_text) s.heap.objs.size f cdv))) :
    ∃ t, DSs (cxOf CX0 P w K mg base ["d", "spot", "book", "letters", "x", "text", "at", "letter", "some", "one"] "_law_text" (defScope s__law_text) f cdv A outer s H E).nox W0 (defBody s__law_text) t p__law_text := by
  have hu65 := hu65_of hr
  have hu64 := hr.units
  have hu1 := hu_of hr
  exact ⟨_, (dss_cons (ds_setD 4 sc__law_text.nd (kix (K := K) hu1 (de_var 0) (de_var 1)))
  (dss_cons (ds_set 5 sc__law_text.nd (kcall (K := K) (reads_N pre__law_joined ok__law_joined) c__law_joined hr (by decide) rfl (da_cons (de_var 0) (da_cons (de_op op_addA snd_add (de_var 1) de_int) (da_cons (de_var 2) (da_cons (de_op op_mod snd_mod (de_op op_fdivW snd_div (de_var 4) de_int) de_int) da_nil))))))
  (dss_cons (ds_setD 6 sc__law_text.nd (de_op op_mod snd_mod (de_op op_addA snd_add (de_op op_mulA snd_mul (de_op op_fdivW snd_div (de_var 4) de_int) de_int) (de_var 4)) (de_op op_addA snd_add (de_cb (r := rLenA K) call_lenA snd_len rfl T.b_len rfl (da_cons (de_var 5) da_nil)) de_int)))
  (dss_cons (ds_setD 7 sc__law_text.nd (kix (K := K) hu1 (de_var 3) (de_op op_mod snd_mod (de_var 4) (de_cb (r := rLenA K) call_lenA snd_len rfl T.b_len rfl (da_cons (de_var 3) da_nil)))))
  (dss_cons (ds_if (dt_cmp (r := rEqA K id) (op_eqA hu64) (snd_eq id) rfl (de_op op_mod snd_mod (de_var 4) de_int) de_int) (dss_one (ds_set 5 sc__law_text.nd (de_op op_addA snd_add (de_op op_addA snd_add (ksl (K := K) (de_var 5) do_no (do_some (de_var 6))) (de_var 7)) (ksl (K := K) (de_var 5) (do_some (de_op op_addA snd_add (de_var 6) (kix (K := K) hu1 (de_lst (da_cons de_int (da_cons de_int da_nil))) (de_op op_mod snd_mod (de_op op_fdivW snd_div (de_var 4) de_int) de_int)))) do_no))))
  dss_nil)
  (dss_cons (ds_if (dt_cmp (r := rEqA K id) (op_eqA hu64) (snd_eq id) rfl (de_op op_mod snd_mod (de_var 4) de_int) de_int) (dss_one (ds_set 5 sc__law_text.nd (de_op op_addA snd_add (ksl (K := K) (de_var 5) do_no (do_some (de_var 6))) (ksl (K := K) (de_var 5) (do_some (de_op op_addA snd_add (de_var 6) de_int)) do_no))))
  dss_nil)
  (dss_cons (ds_if (dt_cmp (r := rEqA K id) (op_eqA hu64) (snd_eq id) rfl (de_op op_mod snd_mod (de_var 4) de_int) de_int) (dss_cons (ds_setD 8 sc__law_text.nd (ksl (K := K) (de_var 0) (do_some (de_op op_addA snd_add (de_var 1) de_int)) (do_some (de_op op_addA snd_add (de_op op_addA snd_add (de_var 1) de_int) (de_op op_mod snd_mod (de_op op_fdivW snd_div (de_var 4) de_int) de_int)))))
  (dss_one (ds_set 5 sc__law_text.nd (kjoin (K := K) (de_str rfl) (de_lc (own := [("one", 9)]) rfl sc__law_text.nd (klst (K := K) (de_var 8)) (show blkC ["d", "spot", "book", "letters", "x", "text", "at", "letter", "some", "one"] (defScope s__law_text) _ _ = true by decide +kernel) (fun _ _ _ _ _ => (dg_n 9 sc__law_text.nd)) (fun _ _ _ _ _ => dts_nil) (fun _ _ _ _ _ => (kix (K := K) hu1 (de_var 3) (de_op op_mod snd_mod (de_var 9) (de_cb (r := rLenA K) call_lenA snd_len rfl T.b_len rfl (da_cons (de_var 3) da_nil))))) (by decide) (s, H))))))
  dss_nil)
  (dss_one (ds_ret (de_var 5))))))))))⟩
theorem sc__law_at : FnScope ["book", "text", "place", "found", "word", "weight", "size"] ["book", "text", "place"] (defScope s__law_at) := ⟨rfl, rfl, rfl, by decide +kernel, rfl, by decide +kernel, by decide +kernel⟩
theorem w__law_at (T : Txt K mg) (f : Addr) (cdv : Value) (A : Around) (outer : List Env) (s : Shared) (H : Hp) (E : XK) (hr : Room 0 (A.deeper (envOfC "_law_at" (defScope s__law_at) s.heap.objs.size f cdv))) :
    ∃ t, DSs (cxOf CX0 P w K mg base ["book", "text", "place", "found", "word", "weight", "size"] "_law_at" (defScope s__law_at) f cdv A outer s H E).nox W0 (defBody s__law_at) t p__law_at := by
  have hu65 := hu65_of hr
  have hu64 := hr.units
  have hu1 := hu_of hr
  exact ⟨_, (dss_cons (ds_set 3 sc__law_at.nd de_dict0)
  (dss_cons (DS.wip (ws := [4, 5]) (ds_for PassesOwn.never rfl (klst (K := K) (de_var 0)) (kdg_t (K := K) [4, 5] rfl (pgs_cons (pg_name (i := 4) sc__law_at.nd rfl (by first | exact Or.inl rfl | exact Or.inr rfl)) (pgs_cons (pg_name (i := 5) sc__law_at.nd rfl (by first | exact Or.inl rfl | exact Or.inr rfl)) pgs_nil))) (DSs.gw (ws := [4, 5]) (wb := [4, 5]) (dss_one (ds_if (dt_cmp (r := rEqA K id) (op_eqA hu64) (snd_eq id) rfl (ksl (K := K) (de_var 1) (do_some (de_var 2)) (do_some (de_op op_addA snd_add (de_var 2) (de_cb (r := rLenA K) call_lenA snd_len rfl T.b_len rfl (da_cons (de_var 4) da_nil))))) (de_var 4)) (dss_one (ds_setIx hu1 (de_var 3) (de_cb (r := rLenA K) call_lenA snd_len rfl T.b_len rfl (da_cons (de_var 4) da_nil)) (de_var 4)))
  dss_nil)))))
  (dss_one (ds_ret (de_lc (own := [("size", 6)]) rfl sc__law_at.nd (klst (K := K) (de_cb (r := rSortA K) (call_sortA rfl hu64) snd_sorted rfl T.b_sorted rfl (da_cons (de_var 3) da_nil))) (show blkC ["book", "text", "place", "found", "word", "weight", "size"] (defScope s__law_at) _ _ = true by decide +kernel) (fun _ _ _ _ _ => (dg_n 6 sc__law_at.nd)) (fun _ _ _ _ _ => dts_nil) (fun _ _ _ _ _ => (kix (K := K) hu1 (de_var 3) (de_var 6))) (by decide) (s, H))))))⟩
theorem sc__law_ways : FnScope ["book", "text", "found", "place", "word"] ["book", "text"] (defScope s__law_ways) := ⟨rfl, rfl, rfl, by decide +kernel, rfl, by decide +kernel, by decide +kernel⟩
theorem w__law_ways (T : Txt K mg) (c__law_at : ACal P w K mg base 1 "_law_at" (conP pre__law_at f__law_at)) (f : Addr) (cdv : Value) (A : Around) (outer : List Env) (s : Shared) (H : Hp) (E : XK) (hr : Room 1 (A.deeper (envOfC "_law_ways" (defScope s__law_ways) s.heap.objs.size f cdv))) :
    ∃ t, DSs (cxOf CX0 P w K mg base ["book", "text", "found", "place", "word"] "_law_ways" (defScope s__law_ways) f cdv A outer s H E).nox W0 (defBody s__law_ways) t p__law_ways := by
  have hu65 := hu65_of hr
  have hu64 := hr.units
  have hu1 := hu_of hr
  exact ⟨_, (dss_cons (ds_set 2 sc__law_ways.nd (de_op op_addA snd_add (de_op op_mulA snd_mul (de_lst (da_cons de_int da_nil)) (de_cb (r := rLenA K) call_lenA snd_len rfl T.b_len rfl (da_cons (de_var 1) da_nil))) (de_lst (da_cons de_int da_nil))))
  (dss_cons (DS.wip (ws := [3, 4]) (ds_for PassesOwn.never rfl (di_rng3 rfl T.b_range (da_cons (de_op op_sub snd_sub (de_cb (r := rLenA K) call_lenA snd_len rfl T.b_len rfl (da_cons (de_var 1) da_nil)) de_int) (da_cons (de_neg de_int) (da_cons (de_neg de_int) da_nil)))) (dg_n 3 sc__law_ways.nd) (DSs.gw (ws := [3, 4]) (wb := [3, 4]) (dss_one (DS.wip (ws := [4]) (ds_for PassesOwn.never rfl (klst (K := K) (kcall (K := K) (reads_P pre__law_at f__law_at) c__law_at hr (by decide) rfl (da_cons (de_var 0) (da_cons (de_var 1) (da_cons (de_var 3) da_nil))))) (dg_n 4 sc__law_ways.nd) (DSs.gw (ws := [4]) (wb := [4]) (dss_one (ds_setIx hu1 (de_var 2) (de_var 3) (de_op op_addA snd_add (kix (K := K) hu1 (de_var 2) (de_var 3)) (kix (K := K) hu1 (de_var 2) (de_op op_addA snd_add (de_var 3) (de_cb (r := rLenA K) call_lenA snd_len rfl T.b_len rfl (da_cons (de_var 4) da_nil))))))))))))))
  (dss_one (ds_ret (de_var 2)))))⟩
theorem sc__law_there : FnScope ["book", "text", "found", "place", "word", "end"] ["book", "text"] (defScope s__law_there) := ⟨rfl, rfl, rfl, by decide +kernel, rfl, by decide +kernel, by decide +kernel⟩
theorem w__law_there (T : Txt K mg) (c__law_at : ACal P w K mg base 1 "_law_at" (conP pre__law_at f__law_at)) (f : Addr) (cdv : Value) (A : Around) (outer : List Env) (s : Shared) (H : Hp) (E : XK) (hr : Room 1 (A.deeper (envOfC "_law_there" (defScope s__law_there) s.heap.objs.size f cdv))) :
    ∃ t, DSs (cxOf CX0 P w K mg base ["book", "text", "found", "place", "word", "end"] "_law_there" (defScope s__law_there) f cdv A outer s H E).nox W0 (defBody s__law_there) t p__law_there := by
  have hu65 := hu65_of hr
  have hu64 := hr.units
  have hu1 := hu_of hr
  exact ⟨_, (dss_cons (ds_set 2 sc__law_there.nd (de_op op_addA snd_add (de_lst (da_cons de_int da_nil)) (de_op op_mulA snd_mul (de_lst (da_cons de_int da_nil)) (de_cb (r := rLenA K) call_lenA snd_len rfl T.b_len rfl (da_cons (de_var 1) da_nil)))))
  (dss_cons (DS.wip (ws := [3, 4, 5]) (ds_for PassesOwn.never rfl (di_rng1 rfl T.b_range (da_cons (de_cb (r := rLenA K) call_lenA snd_len rfl T.b_len rfl (da_cons (de_var 1) da_nil)) da_nil)) (dg_n 3 sc__law_there.nd) (DSs.gw (ws := [3, 4, 5]) (wb := [3, 4, 5]) (dss_one (DS.wip (ws := [4, 5]) (ds_for PassesOwn.never rfl (klst (K := K) (kcall (K := K) (reads_P pre__law_at f__law_at) c__law_at hr (by decide) rfl (da_cons (de_var 0) (da_cons (de_var 1) (da_cons (de_var 3) da_nil))))) (dg_n 4 sc__law_there.nd) (DSs.gw (ws := [4, 5]) (wb := [4, 5]) (dss_cons (ds_setD 5 sc__law_there.nd (de_op op_addA snd_add (de_var 3) (de_cb (r := rLenA K) call_lenA snd_len rfl T.b_len rfl (da_cons (de_var 4) da_nil))))
  (dss_one (ds_setIx hu1 (de_var 2) (de_var 5) (de_op op_addA snd_add (kix (K := K) hu1 (de_var 2) (de_var 5)) (kix (K := K) hu1 (de_var 2) (de_var 3)))))))))))))
  (dss_one (ds_ret (de_var 2)))))⟩
theorem sc__law_due : FnScope ["book", "text", "there", "ways", "places", "place", "found", "word", "many"] ["book", "text"] (defScope s__law_due) := ⟨rfl, rfl, rfl, by decide +kernel, rfl, by decide +kernel, by decide +kernel⟩
theorem w__law_due (T : Txt K mg) (c__law_there : ACal P w K mg base 2 "_law_there" (conP pre__law_there f__law_there)) (c__law_ways : ACal P w K mg base 2 "_law_ways" (conP pre__law_ways f__law_ways)) (c__law_at : ACal P w K mg base 1 "_law_at" (conP pre__law_at f__law_at)) (f : Addr) (cdv : Value) (A : Around) (outer : List Env) (s : Shared) (H : Hp) (E : XK) (hr : Room 2 (A.deeper (envOfC "_law_due" (defScope s__law_due) s.heap.objs.size f cdv))) :
    ∃ t, DSs (cxOf CX0 P w K mg base ["book", "text", "there", "ways", "places", "place", "found", "word", "many"] "_law_due" (defScope s__law_due) f cdv A outer s H E).nox W0 (defBody s__law_due) t p__law_due := by
  have hu65 := hu65_of hr
  have hu64 := hr.units
  have hu1 := hu_of hr
  exact ⟨_, (dss_cons (ds_setD 2 sc__law_due.nd (kcall (K := K) (reads_P pre__law_there f__law_there) c__law_there hr (by decide) rfl (da_cons (de_var 0) (da_cons (de_var 1) da_nil))))
  (dss_cons (ds_setD 3 sc__law_due.nd (kcall (K := K) (reads_P pre__law_ways f__law_ways) c__law_ways hr (by decide) rfl (da_cons (de_var 0) (da_cons (de_var 1) da_nil))))
  (dss_cons (ds_if (dt_cmp (r := rEqA K id) (op_eqA hu64) (snd_eq id) rfl (kix (K := K) hu1 (de_var 3) de_int) de_int) (dss_one (ds_ret de_non))
  dss_nil)
  (dss_cons (ds_set 4 sc__law_due.nd (de_lst da_nil))
  (dss_cons (DS.wip (ws := [5]) (ds_for PassesOwn.never rfl (di_rng1 rfl T.b_range (da_cons (de_op op_addA snd_add (de_cb (r := rLenA K) call_lenA snd_len rfl T.b_len rfl (da_cons (de_var 1) da_nil)) de_int) da_nil)) (dg_n 5 sc__law_due.nd) (DSs.gw (ws := [5]) (wb := [5]) (dss_one (ds_if (dt_cmp (r := rEqA K id) (op_eqA hu64) (snd_eq id) rfl (de_op op_mulA snd_mul (kix (K := K) hu1 (de_var 2) (de_var 5)) (kix (K := K) hu1 (de_var 3) (de_var 5))) (kix (K := K) hu1 (de_var 3) de_int)) (dss_one (ds_expr (klm (K := K) PySem.F.slot_list_append PySem.F.type_list_append mt_append snd_append (de_var 4) (da_cons (de_var 5) da_nil))))
  dss_nil)))))
  (dss_cons (ds_set 6 sc__law_due.nd (de_lstN (da_consN (de_lst da_nil) (da_consN (de_lst da_nil) (da_consN (de_var 4) da_nil)))))
  (dss_cons (DS.wip (ws := [5, 7, 8]) (ds_for PassesOwn.never rfl (di_rng1 rfl T.b_range (da_cons (de_cb (r := rLenA K) call_lenA snd_len rfl T.b_len rfl (da_cons (de_var 1) da_nil)) da_nil)) (dg_n 5 sc__law_due.nd) (DSs.gw (ws := [5, 7, 8]) (wb := [5, 7, 8]) (dss_one (DS.wip (ws := [7, 8]) (ds_for PassesOwn.never rfl (klst (K := K) (kcall (K := K) (reads_P pre__law_at f__law_at) c__law_at hr (by decide) rfl (da_cons (de_var 0) (da_cons (de_var 1) (da_cons (de_var 5) da_nil))))) (dg_n 7 sc__law_due.nd) (DSs.gw (ws := [7, 8]) (wb := [7, 8]) (dss_cons (ds_setD 8 sc__law_due.nd (de_op op_mulA snd_mul (kix (K := K) hu1 (de_var 2) (de_var 5)) (kix (K := K) hu1 (de_var 3) (de_op op_addA snd_add (de_var 5) (de_cb (r := rLenA K) call_lenA snd_len rfl T.b_len rfl (da_cons (de_var 7) da_nil))))))
  (dss_cons (ds_if (dt_cmp op_gtA (snd_cmp _ _) rfl (de_var 8) de_int) (dss_one (ds_expr (knm (K := K) hu1 PySem.F.slot_list_append PySem.F.type_list_append mt_append snd_append (de_var 6) de_int (da_cons (de_tup (da_cons (de_var 5) (da_cons (de_var 7) da_nil))) da_nil))))
  dss_nil)
  (dss_one (ds_if (dt_cmp (r := rEqA K id) (op_eqA hu64) (snd_eq id) rfl (de_var 8) (kix (K := K) hu1 (de_var 3) de_int)) (dss_one (ds_expr (knm (K := K) hu1 PySem.F.slot_list_append PySem.F.type_list_append mt_append snd_append (de_var 6) de_int (da_cons (de_tup (da_cons (de_var 5) (da_cons (de_var 7) da_nil))) da_nil))))
  dss_nil)))))))))))
  (dss_one (DS.fzN 6 (ds_ret (de_var 6)))))))))))⟩
theorem sc__law_long : FnScope ["d", "spot", "way", "many", "words", "text", "letters", "k", "word", "at", "book", "weight"] ["d", "spot"] (defScope s__law_long) := ⟨rfl, rfl, rfl, by decide +kernel, rfl, by decide +kernel, by decide +kernel⟩
theorem w__law_long (T : Txt K mg) (c__law_book : ACal P w K mg base 2 "_law_book" (conN pre__law_book ok__law_book)) (c__law_joined : ACal P w K mg base 1 "_law_joined" (conN pre__law_joined ok__law_joined)) (f : Addr) (cdv : Value) (A : Around) (outer : List Env) (s : Shared) (H : Hp) (E : XK) (hr : Room 2 (A.deeper (envOfC "_law_long" (defScope s__law_long) s.heap.objs.size f cdv))) :
    ∃ t, DSs (cxOf CX0 P w K mg base ["d", "spot", "way", "many", "words", "text", "letters", "k", "word", "at", "book", "weight"] "_law_long" (defScope s__law_long) f cdv A outer s H E).nox W0 (defBody s__law_long) t p__law_long := by
  have hu65 := hu65_of hr
  have hu64 := hr.units
  have hu1 := hu_of hr
  exact ⟨_, (dss_cons (ds_setD 2 sc__law_long.nd (de_op op_mod snd_mod (kix (K := K) hu1 (de_var 0) (de_var 1)) de_int))
  (dss_cons (ds_set 3 sc__law_long.nd (de_op op_addA snd_add de_int (de_op op_mod snd_mod (kix (K := K) hu1 (de_var 0) (de_op op_addA snd_add (de_var 1) de_int)) de_int)))
  (dss_cons (ds_set 4 sc__law_long.nd (kpick (K := K) hu1 (da_cons (de_lst (da_cons (de_str rfl) (da_cons (de_str rfl) (da_cons (de_str rfl) da_nil)))) (da_cons (de_lst (da_cons (de_str rfl) (da_cons (de_str rfl) (da_cons (de_str rfl) da_nil)))) (da_cons (de_lst (da_cons (de_str rfl) (da_cons (de_str rfl) (da_cons (de_str rfl) (da_cons (de_str rfl) da_nil))))) (da_cons (de_lst da_nil) (da_cons (de_lst da_nil) da_nil))))) (mks_cons (cst_str rfl (cst_str rfl (cst_str rfl cst_nil))) (by decide) (mks_cons (cst_str rfl (cst_str rfl (cst_str rfl cst_nil))) (by decide) (mks_cons (cst_str rfl (cst_str rfl (cst_str rfl (cst_str rfl cst_nil)))) (by decide) (mks_cons cst_nil (by decide) (mks_cons cst_nil (by decide) mks_nil))))) (de_var 2)))
  (dss_cons (ds_setD 5 sc__law_long.nd (de_op op_mulA snd_mul (kix (K := K) hu1 (de_lst (da_cons (de_str rfl) (da_cons (de_str rfl) (da_cons (de_str rfl) (da_cons (de_str rfl) (da_cons (de_str rfl) da_nil)))))) (de_var 2)) de_int))
  (dss_cons (ds_if (dt_cmp (r := rEqA K id) (op_eqA hu64) (snd_eq id) rfl (de_var 2) de_int) (dss_cons (ds_set 6 sc__law_long.nd (de_str rfl))
  (dss_cons (DS.wip (ws := [7, 8]) (ds_for PassesOwn.never rfl (di_rng1 rfl T.b_range (da_cons de_int da_nil)) (dg_n 7 sc__law_long.nd) (DSs.gw (ws := [7, 8]) (wb := [7, 8]) (dss_cons (ds_setD 8 sc__law_long.nd (de_op op_addA snd_add (de_op op_addA snd_add (de_str rfl) (kix (K := K) hu1 (de_var 6) (de_op op_fdivW snd_div (de_var 7) de_int))) (kix (K := K) hu1 (de_var 6) (de_op op_mod snd_mod (de_var 7) de_int))))
  (dss_one (ds_expr (klm (K := K) PySem.F.slot_list_append PySem.F.type_list_append mt_append snd_append (de_var 4) (da_cons (de_var 8) da_nil))))))))
  (dss_cons (ds_set 4 sc__law_long.nd (de_op op_addA snd_add (de_lst (da_cons (de_str rfl) (da_cons (de_str rfl) (da_cons (de_str rfl) da_nil)))) (de_var 4)))
  (dss_cons (DS.wip (ws := [7, 9]) (ds_for PassesOwn.never rfl (di_rng1 rfl T.b_range (da_cons de_int da_nil)) (dg_n 7 sc__law_long.nd) (DSs.gw (ws := [7, 9]) (wb := [7, 9]) (dss_cons (ds_setD 9 sc__law_long.nd (de_op op_addA snd_add (de_op op_mulA snd_mul (kix (K := K) hu1 (de_var 0) (de_op op_addA snd_add (de_var 1) de_int)) (de_op op_addA snd_add (de_var 7) de_int)) (de_op op_mulA snd_mul (de_op op_mulA snd_mul de_int (de_var 7)) (de_var 7))))
  (dss_one (ds_setD 5 sc__law_long.nd (de_op op_addA snd_add (de_var 5) (kix (K := K) hu1 (de_var 4) (de_op op_mod snd_mod (de_var 9) de_int)))))))))
  (dss_one (ds_set 3 sc__law_long.nd de_int))))))
  dss_nil)
  (dss_cons (ds_if (dt_cmp (r := rEqA K id) (op_eqA hu64) (snd_eq id) rfl (de_var 2) de_int) (dss_cons (ds_set 10 sc__law_long.nd (kcall (K := K) (reads_N pre__law_book ok__law_book) c__law_book hr (by decide) rfl (da_cons (de_var 0) (da_cons de_int da_nil))))
  (dss_cons (ds_setD 5 sc__law_long.nd (kcall (K := K) (reads_N pre__law_joined ok__law_joined) c__law_joined hr (by decide) rfl (da_cons (de_var 0) (da_cons de_int (da_cons (de_varF 10) (da_cons de_int da_nil))))))
  (dss_one (ds_ret (de_tup (da_cons (de_varF 10) (da_cons (de_op op_mulA snd_mul (de_var 5) (de_op op_fdivW snd_div (de_var 3) (de_cb (call_max2 rfl) snd_max2 rfl T.b_max rfl (da_cons de_int (da_cons (de_cb (r := rLenA K) call_lenA snd_len rfl T.b_len rfl (da_cons (de_var 5) da_nil)) da_nil))))) da_nil)))))))
  dss_nil)
  (dss_cons (ds_set 10 sc__law_long.nd (de_lst da_nil))
  (dss_cons (DS.wip (ws := [7, 11]) (ds_for PassesOwn.never rfl (di_rng1 rfl T.b_range (da_cons (de_cb (r := rLenA K) call_lenA snd_len rfl T.b_len rfl (da_cons (de_var 4) da_nil)) da_nil)) (dg_n 7 sc__law_long.nd) (DSs.gw (ws := [7, 11]) (wb := [7, 11]) (dss_cons (ds_setD 11 sc__law_long.nd (de_op op_addA snd_add (kix (K := K) hu1 (de_var 0) (de_op op_addA snd_add (de_op op_addA snd_add (de_var 1) de_int) (de_op op_mod snd_mod (de_var 7) de_int))) (de_op op_mulA snd_mul de_int (de_var 7))))
  (dss_one (ds_expr (klm (K := K) PySem.F.slot_list_append PySem.F.type_list_append mt_append snd_append (de_var 10) (da_cons (de_tup (da_cons (kix (K := K) hu1 (de_var 4) (de_var 7)) (da_cons (de_op op_sub snd_sub (de_op op_mod snd_mod (de_var 11) de_int) de_int) da_nil))) da_nil))))))))
  (dss_one (ds_ret (de_tup (da_cons (de_varF 10) (da_cons (ksl (K := K) (de_var 5) do_no (do_some (de_var 3))) da_nil)))))))))))))⟩
theorem sc_law : FnScope ["script", "d", "book", "letters", "handed", "turn", "text", "due", "found", "one"] ["script"] (defScope s_law) := ⟨rfl, rfl, rfl, by decide +kernel, rfl, by decide +kernel, by decide +kernel⟩
theorem w_law (T : Txt K mg) (c__law_draws : ACal P w K mg base 1 "_law_draws" (conN pre__law_draws ok__law_draws)) (c__law_book : ACal P w K mg base 2 "_law_book" (conN pre__law_book ok__law_book)) (c__law_letters : ACal P w K mg base 1 "_law_letters" (conN pre__law_letters ok__law_letters)) (c__law_text : ACal P w K mg base 2 "_law_text" (conN pre__law_text ok__law_text)) (c__law_due : ACal P w K mg base 3 "_law_due" (conP pre__law_due f__law_due)) (c_all_places : XCal P w K mg base 4 "all_places" (conX pre_x_all_places F_x_all_places)) (c__law_long : ACal P w K mg base 3 "_law_long" (conN pre__law_long ok__law_long)) (f : Addr) (cdv : Value) (A : Around) (outer : List Env) (s : Shared) (H : Hp) (E : XK) (hr : Room 4 (A.deeper (envOfC "law" (defScope s_law) s.heap.objs.size f cdv))) :
    ∃ t, DSs (cxOf CX0 P w K mg base ["script", "d", "book", "letters", "handed", "turn", "text", "due", "found", "one"] "law" (defScope s_law) f cdv A outer s H E).nox W0 (defBody s_law) t p_law := by
  have hu65 := hu65_of hr
  have hu64 := hr.units
  have hu1 := hu_of hr
  exact ⟨_, (dss_cons (ds_setD 1 sc_law.nd (kcall (K := K) (reads_N pre__law_draws ok__law_draws) c__law_draws hr (by decide) rfl (da_cons (de_var 0) (da_cons de_int da_nil))))
  (dss_cons (ds_setD 2 sc_law.nd (kcall (K := K) (reads_N pre__law_book ok__law_book) c__law_book hr (by decide) rfl (da_cons (de_var 1) (da_cons de_int da_nil))))
  (dss_cons (ds_setD 3 sc_law.nd (kcall (K := K) (reads_N pre__law_letters ok__law_letters) c__law_letters hr (by decide) rfl (da_cons (kix (K := K) hu1 (de_var 1) de_int) da_nil)))
  (dss_cons (ds_setD 4 sc_law.nd (de_cty (r := rListB K) (call_listB rfl) snd_listB rfl T.b_list rfl (da_cons (de_var 2) da_nil)))
  (dss_cons (DS.wip (ws := [5, 6, 7, 8]) (ds_for PassesOwn.never rfl (di_rng1 rfl T.b_range (da_cons de_int da_nil)) (dg_n 5 sc_law.nd) (DSs.gw (ws := [5, 6, 7, 8]) (wb := [5, 6, 7, 8]) (dss_cons (ds_setD 6 sc_law.nd (kcall (K := K) (reads_N pre__law_text ok__law_text) c__law_text hr (by decide) rfl (da_cons (de_var 1) (da_cons (de_op op_addA snd_add de_int (de_op op_mulA snd_mul de_int (de_var 5))) (da_cons (de_var 2) (da_cons (de_var 3) da_nil))))))
  (dss_cons (ds_setD 7 sc_law.nd (kcall (K := K) (reads_P pre__law_due f__law_due) c__law_due hr (by decide) rfl (da_cons (de_var 2) (da_cons (de_var 6) da_nil))))
  (dss_one (ds_if (dt_cmp op_isNotA (snd_is not) rfl (de_var 7) de_non) (dss_cons (ds_set 8 sc_law.nd (kcallX (K := K) (reads_X pre_x_all_places F_x_all_places) c_all_places hr (by decide) tk0 rfl (da_cons (de_var 4) (da_cons (de_var 6) da_nil))))
  (dss_cons (ds_if (dt_w (dw_or (dt_not (dt_val (kisi (K := K) (de_var 8) (by decide) rfl T.b_isinstance rfl rfl T.b_list rfl))) (dw_or (dt_cmp (r := rEqA K not) (op_neA hu64) (snd_eq not) rfl (de_var 8) (kix (K := K) hu1 (de_var 7) de_int)) (dw_or1 (dt_cmp (r := rEqA K not) (op_neA hu64) (snd_eq not) rfl (de_var 4) (de_var 2)))))) (dss_one (ds_ret de_bl))
  dss_nil)
  (dss_cons (ds_if (dt_cmp (r := rEqA K not) (op_neA hu64) (snd_eq not) rfl (de_lc (own := [("one", 9)]) rfl sc_law.nd (klst (K := K) (de_var 8)) (show blkC ["script", "d", "book", "letters", "handed", "turn", "text", "due", "found", "one"] (defScope s_law) _ _ = true by decide +kernel) (fun _ _ _ _ _ => (dg_n 9 sc_law.nd)) (fun _ _ _ _ _ => (dts_one (dt_val (kisi (K := K) (de_var 9) (by decide) rfl T.b_isinstance rfl rfl T.b_bool rfl)))) (fun _ _ _ _ _ => (de_var 9)) (by decide) (s, H)) (de_lst da_nil)) (dss_one (ds_ret de_bl))
  dss_nil)
  (dss_cons (ds_expr (klm (K := K) PySem.F.slot_list_insert PySem.F.type_list_insert mt_insertA snd_insert (de_var 8) (da_cons de_int (da_cons (de_neg de_int) da_nil))))
  (dss_one (ds_if (dt_cmp (r := rEqA K not) (op_neA hu64) (snd_eq not) rfl (kcallX (K := K) (reads_X pre_x_all_places F_x_all_places) c_all_places hr (by decide) tk0 rfl (da_cons (de_var 4) (da_cons (de_var 6) da_nil))) (kix (K := K) hu1 (de_var 7) de_int)) (dss_one (ds_ret de_bl))
  dss_nil))))))
  dss_nil)))))))
  (dss_cons (ds_if (dt_w (dw_or (dt_cmp (r := rEqA K not) (op_neA hu64) (snd_eq not) rfl (kcallX (K := K) (reads_X pre_x_all_places F_x_all_places) c_all_places hr (by decide) tk0 rfl (da_cons (de_var 4) (da_cons (de_str rfl) da_nil))) (de_lst (da_cons de_int da_nil))) (dw_or1 (dt_cmp op_gtA (snd_cmp _ _) rfl (de_op op_mod snd_mod (kix (K := K) hu1 (de_var 1) de_int) de_int) de_int)))) (dss_one (ds_ret (de_and (de_cmp op_gtA (snd_cmp _ _) rfl (de_op op_mod snd_mod (kix (K := K) hu1 (de_var 1) de_int) de_int) de_int) (de_one (de_cmp (r := rEqA K id) (op_eqA hu64) (snd_eq id) rfl (kcallX (K := K) (reads_X pre_x_all_places F_x_all_places) c_all_places hr (by decide) tk0 rfl (da_cons (de_var 4) (da_cons (de_str rfl) da_nil))) (de_lst (da_cons de_int da_nil)))))))
  dss_nil)
  (dss_cons (ds_asg (kcall (K := K) (reads_N pre__law_long ok__law_long) c__law_long hr (by decide) rfl (da_cons (de_var 1) (da_cons de_int da_nil))) (kdg_t (K := K) [2, 6] rfl (pgs_cons (pg_name (i := 2) sc_law.nd rfl (by first | exact Or.inl rfl | exact Or.inr rfl)) (pgs_cons (pg_name (i := 6) sc_law.nd rfl (by first | exact Or.inl rfl | exact Or.inr rfl)) pgs_nil))))
  (dss_cons (ds_setD 7 sc_law.nd (kcall (K := K) (reads_P pre__law_due f__law_due) c__law_due hr (by decide) rfl (da_cons (de_var 2) (da_cons (de_var 6) da_nil))))
  (dss_one (ds_ret (de_or (de_cmp op_isA (snd_is id) rfl (de_var 7) de_non) (de_one (de_cmp (r := rEqA K id) (op_eqA hu64) (snd_eq id) rfl (kcallX (K := K) (reads_X pre_x_all_places F_x_all_places) c_all_places hr (by decide) tk0 rfl (da_cons (de_var 2) (da_cons (de_var 6) da_nil))) (kix (K := K) hu1 (de_var 7) de_int))))))))))))))⟩
end
end PD

namespace PD
section
open PySem PySem.Spec PyProof.Rows L2
theorem all_mk {l : PySem.W.OpenLaw} {w : World} {K : PySem.W.Frag} {h : Heap} {mg : Str → Option Value} {fa f0 f1 f2 f3 f4 f5 f6 f7 f8 f9 f10 f11 f12 f13 f14 f15 f16 f17 f18 f19 f20 f21 : Addr} (X : K.In h) (G : h.Ns mainGlobals mg) (hfa : mg "law" = some (.ref fa))
    {od0 an0 od1 an1 od2 an2 od3 an3 od4 an4 od5 an5 od6 an6 od7 an7 od8 an8 od9 an9 od10 an10 od11 an11 od12 an12 od13 an13 od14 an14 od15 an15 od16 an16 od17 an17 od18 an18 od19 an19 od20 an20 od21 an21 : Option Addr} {sl0 sl1 sl2 sl3 sl4 sl5 sl6 sl7 sl8 sl9 sl10 sl11 sl12 sl13 sl14 sl15 sl16 sl17 sl18 sl19 sl20 sl21 : Array (Option Value)} {oc0 kV0 dc0 pm0 cd0 ct0 oc1 kV1 dc1 pm1 cd1 ct1 oc2 kV2 dc2 pm2 cd2 ct2 oc3 kV3 dc3 pm3 cd3 ct3 oc4 kV4 dc4 pm4 cd4 ct4 oc5 kV5 dc5 pm5 cd5 ct5 oc6 kV6 dc6 pm6 cd6 ct6 oc7 kV7 dc7 pm7 cd7 ct7 oc8 kV8 dc8 pm8 cd8 ct8 oc9 kV9 dc9 pm9 cd9 ct9 oc10 kV10 dc10 pm10 cd10 ct10 oc11 kV11 dc11 pm11 cd11 ct11 oc12 kV12 dc12 pm12 cd12 ct12 oc13 kV13 dc13 pm13 cd13 ct13 oc14 kV14 dc14 pm14 cd14 ct14 oc15 kV15 dc15 pm15 cd15 ct15 oc16 kV16 dc16 pm16 cd16 ct16 oc17 kV17 dc17 pm17 cd17 ct17 oc18 kV18 dc18 pm18 cd18 ct18 oc19 kV19 dc19 pm19 cd19 ct19 oc20 kV20 dc20 pm20 cd20 ct20 oc21 kV21 dc21 pm21 cd21 ct21 : Value} {u_LONGEST_WORD u_SMALL_LETTERS : Tok}
    (a0 : PySem.W.nsIn K mainGlobals "is_text" = some (some (.ref f0))) (l0 : K.lookup f0 = some ⟨oc0, od0, .func (PySem.W.fnOf "is_text" "is_text" (defArgs s_is_text) (defBody s_is_text) (defScope s_is_text) .none kV0 dc0 pm0 an0 cd0 ct0), sl0⟩) (c0 : PySem.W.codeIn K cd0 "is_text" = true) (k0 : PySem.W.keepIn K (.ref f0) = true)
    (a1 : PySem.W.nsIn K mainGlobals "need_text" = some (some (.ref f1))) (l1 : K.lookup f1 = some ⟨oc1, od1, .func (PySem.W.fnOf "need_text" "need_text" (defArgs s_need_text) (defBody s_need_text) (defScope s_need_text) .none kV1 dc1 pm1 an1 cd1 ct1), sl1⟩) (c1 : PySem.W.codeIn K cd1 "need_text" = true) (k1 : PySem.W.keepIn K (.ref f1) = true)
    (a2 : PySem.W.nsIn K mainGlobals "only_words" = some (some (.ref f2))) (l2 : K.lookup f2 = some ⟨oc2, od2, .func (PySem.W.fnOf "only_words" "only_words" (defArgs s_only_words) (defBody s_only_words) (defScope s_only_words) .none kV2 dc2 pm2 an2 cd2 ct2), sl2⟩) (c2 : PySem.W.codeIn K cd2 "only_words" = true) (k2 : PySem.W.keepIn K (.ref f2) = true)
    (a3 : PySem.W.nsIn K mainGlobals "words_from" = some (some (.ref f3))) (l3 : K.lookup f3 = some ⟨oc3, od3, .func (PySem.W.fnOf "words_from" "words_from" (defArgs s_words_from) (defBody s_words_from) (defScope s_words_from) .none kV3 dc3 pm3 an3 cd3 ct3), sl3⟩) (c3 : PySem.W.codeIn K cd3 "words_from" = true) (k3 : PySem.W.keepIn K (.ref f3) = true)
    (a4 : PySem.W.nsIn K mainGlobals "ways_on" = some (some (.ref f4))) (l4 : K.lookup f4 = some ⟨oc4, od4, .func (PySem.W.fnOf "ways_on" "ways_on" (defArgs s_ways_on) (defBody s_ways_on) (defScope s_ways_on) .none kV4 dc4 pm4 an4 cd4 ct4), sl4⟩) (c4 : PySem.W.codeIn K cd4 "ways_on" = true) (k4 : PySem.W.keepIn K (.ref f4) = true)
    (a5 : PySem.W.nsIn K mainGlobals "ways_to" = some (some (.ref f5))) (l5 : K.lookup f5 = some ⟨oc5, od5, .func (PySem.W.fnOf "ways_to" "ways_to" (defArgs s_ways_to) (defBody s_ways_to) (defScope s_ways_to) .none kV5 dc5 pm5 an5 cd5 ct5), sl5⟩) (c5 : PySem.W.codeIn K cd5 "ways_to" = true) (k5 : PySem.W.keepIn K (.ref f5) = true)
    (a6 : PySem.W.nsIn K mainGlobals "words_by_cuts" = some (some (.ref f6))) (l6 : K.lookup f6 = some ⟨oc6, od6, .func (PySem.W.fnOf "words_by_cuts" "words_by_cuts" (defArgs s_words_by_cuts) (defBody s_words_by_cuts) (defScope s_words_by_cuts) .none kV6 dc6 pm6 an6 cd6 ct6), sl6⟩) (c6 : PySem.W.codeIn K cd6 "words_by_cuts" = true) (k6 : PySem.W.keepIn K (.ref f6) = true)
    (a7 : PySem.W.nsIn K mainGlobals "all_places" = some (some (.ref f7))) (l7 : K.lookup f7 = some ⟨oc7, od7, .func (PySem.W.fnOf "all_places" "all_places" (defArgs s_all_places) (defBody s_all_places) (defScope s_all_places) .none kV7 dc7 pm7 an7 cd7 ct7), sl7⟩) (c7 : PySem.W.codeIn K cd7 "all_places" = true) (k7 : PySem.W.keepIn K (.ref f7) = true)
    (a8 : PySem.W.nsIn K mainGlobals "_law_draws" = some (some (.ref f8))) (l8 : K.lookup f8 = some ⟨oc8, od8, .func (PySem.W.fnOf "_law_draws" "_law_draws" (defArgs s__law_draws) (defBody s__law_draws) (defScope s__law_draws) .none kV8 dc8 pm8 an8 cd8 ct8), sl8⟩) (c8 : PySem.W.codeIn K cd8 "_law_draws" = true) (k8 : PySem.W.keepIn K (.ref f8) = true)
    (a9 : PySem.W.nsIn K mainGlobals "_law_word" = some (some (.ref f9))) (l9 : K.lookup f9 = some ⟨oc9, od9, .func (PySem.W.fnOf "_law_word" "_law_word" (defArgs s__law_word) (defBody s__law_word) (defScope s__law_word) .none kV9 dc9 pm9 an9 cd9 ct9), sl9⟩) (c9 : PySem.W.codeIn K cd9 "_law_word" = true) (k9 : PySem.W.keepIn K (.ref f9) = true)
    (a10 : PySem.W.nsIn K mainGlobals "_law_weight" = some (some (.ref f10))) (l10 : K.lookup f10 = some ⟨oc10, od10, .func (PySem.W.fnOf "_law_weight" "_law_weight" (defArgs s__law_weight) (defBody s__law_weight) (defScope s__law_weight) .none kV10 dc10 pm10 an10 cd10 ct10), sl10⟩) (c10 : PySem.W.codeIn K cd10 "_law_weight" = true) (k10 : PySem.W.keepIn K (.ref f10) = true)
    (a11 : PySem.W.nsIn K mainGlobals "_law_letters" = some (some (.ref f11))) (l11 : K.lookup f11 = some ⟨oc11, od11, .func (PySem.W.fnOf "_law_letters" "_law_letters" (defArgs s__law_letters) (defBody s__law_letters) (defScope s__law_letters) .none kV11 dc11 pm11 an11 cd11 ct11), sl11⟩) (c11 : PySem.W.codeIn K cd11 "_law_letters" = true) (k11 : PySem.W.keepIn K (.ref f11) = true)
    (a12 : PySem.W.nsIn K mainGlobals "_law_begins" = some (some (.ref f12))) (l12 : K.lookup f12 = some ⟨oc12, od12, .func (PySem.W.fnOf "_law_begins" "_law_begins" (defArgs s__law_begins) (defBody s__law_begins) (defScope s__law_begins) .none kV12 dc12 pm12 an12 cd12 ct12), sl12⟩) (c12 : PySem.W.codeIn K cd12 "_law_begins" = true) (k12 : PySem.W.keepIn K (.ref f12) = true)
    (a13 : PySem.W.nsIn K mainGlobals "_law_book" = some (some (.ref f13))) (l13 : K.lookup f13 = some ⟨oc13, od13, .func (PySem.W.fnOf "_law_book" "_law_book" (defArgs s__law_book) (defBody s__law_book) (defScope s__law_book) .none kV13 dc13 pm13 an13 cd13 ct13), sl13⟩) (c13 : PySem.W.codeIn K cd13 "_law_book" = true) (k13 : PySem.W.keepIn K (.ref f13) = true)
    (a14 : PySem.W.nsIn K mainGlobals "_law_joined" = some (some (.ref f14))) (l14 : K.lookup f14 = some ⟨oc14, od14, .func (PySem.W.fnOf "_law_joined" "_law_joined" (defArgs s__law_joined) (defBody s__law_joined) (defScope s__law_joined) .none kV14 dc14 pm14 an14 cd14 ct14), sl14⟩) (c14 : PySem.W.codeIn K cd14 "_law_joined" = true) (k14 : PySem.W.keepIn K (.ref f14) = true)
    (a15 : PySem.W.nsIn K mainGlobals "_law_text" = some (some (.ref f15))) (l15 : K.lookup f15 = some ⟨oc15, od15, .func (PySem.W.fnOf "_law_text" "_law_text" (defArgs s__law_text) (defBody s__law_text) (defScope s__law_text) .none kV15 dc15 pm15 an15 cd15 ct15), sl15⟩) (c15 : PySem.W.codeIn K cd15 "_law_text" = true) (k15 : PySem.W.keepIn K (.ref f15) = true)
    (a16 : PySem.W.nsIn K mainGlobals "_law_at" = some (some (.ref f16))) (l16 : K.lookup f16 = some ⟨oc16, od16, .func (PySem.W.fnOf "_law_at" "_law_at" (defArgs s__law_at) (defBody s__law_at) (defScope s__law_at) .none kV16 dc16 pm16 an16 cd16 ct16), sl16⟩) (c16 : PySem.W.codeIn K cd16 "_law_at" = true) (k16 : PySem.W.keepIn K (.ref f16) = true)
    (a17 : PySem.W.nsIn K mainGlobals "_law_ways" = some (some (.ref f17))) (l17 : K.lookup f17 = some ⟨oc17, od17, .func (PySem.W.fnOf "_law_ways" "_law_ways" (defArgs s__law_ways) (defBody s__law_ways) (defScope s__law_ways) .none kV17 dc17 pm17 an17 cd17 ct17), sl17⟩) (c17 : PySem.W.codeIn K cd17 "_law_ways" = true) (k17 : PySem.W.keepIn K (.ref f17) = true)
    (a18 : PySem.W.nsIn K mainGlobals "_law_there" = some (some (.ref f18))) (l18 : K.lookup f18 = some ⟨oc18, od18, .func (PySem.W.fnOf "_law_there" "_law_there" (defArgs s__law_there) (defBody s__law_there) (defScope s__law_there) .none kV18 dc18 pm18 an18 cd18 ct18), sl18⟩) (c18 : PySem.W.codeIn K cd18 "_law_there" = true) (k18 : PySem.W.keepIn K (.ref f18) = true)
    (a19 : PySem.W.nsIn K mainGlobals "_law_due" = some (some (.ref f19))) (l19 : K.lookup f19 = some ⟨oc19, od19, .func (PySem.W.fnOf "_law_due" "_law_due" (defArgs s__law_due) (defBody s__law_due) (defScope s__law_due) .none kV19 dc19 pm19 an19 cd19 ct19), sl19⟩) (c19 : PySem.W.codeIn K cd19 "_law_due" = true) (k19 : PySem.W.keepIn K (.ref f19) = true)
    (a20 : PySem.W.nsIn K mainGlobals "_law_long" = some (some (.ref f20))) (l20 : K.lookup f20 = some ⟨oc20, od20, .func (PySem.W.fnOf "_law_long" "_law_long" (defArgs s__law_long) (defBody s__law_long) (defScope s__law_long) .none kV20 dc20 pm20 an20 cd20 ct20), sl20⟩) (c20 : PySem.W.codeIn K cd20 "_law_long" = true) (k20 : PySem.W.keepIn K (.ref f20) = true)
    (a21 : PySem.W.nsIn K mainGlobals "law" = some (some (.ref f21))) (l21 : K.lookup f21 = some ⟨oc21, od21, .func (PySem.W.fnOf "law" "law" (defArgs s_law) (defBody s_law) (defScope s_law) .none kV21 dc21 pm21 an21 cd21 ct21), sl21⟩) (c21 : PySem.W.codeIn K cd21 "law" = true) (k21 : PySem.W.keepIn K (.ref f21) = true)
    {q_cut q_text : Addr}
    (xn_cut : PySem.W.nsIn K mainGlobals "NoCut" = some (some (.ref q_cut)))
    (xd_cut : PySem.W.hasDictIn K q_cut = true)
    (xt_cut : PySem.W.typeIn K (.ref q_cut) = some (.type "type"))
    (xb_cut : PySem.W.subIn K (.ref q_cut) (.type "BaseException") = some true)
    (xn_text : PySem.W.nsIn K mainGlobals "NoText" = some (some (.ref q_text)))
    (xd_text : PySem.W.hasDictIn K q_text = true)
    (xt_text : PySem.W.typeIn K (.ref q_text) = some (.type "type"))
    (xb_text : PySem.W.subIn K (.ref q_text) (.type "BaseException") = some true)
    (xo_n : PySem.W.specialIn K (.builtin "object.__class__") "__get__" = some (some (.builtin "getset_descriptor.__get__")))
    (xo_t : PySem.W.takesIn K (.builtin "object.__class__") = some true)
    (xe_cut : PySem.W.excIn K q_cut [.type "ValueError", .type "Exception", .type "BaseException", .type "object"] "ValueError.__new__" = true)
    (xk_cut : PySem.W.keepIn K (.ref q_cut) = true)
    (x1_cut : PySem.W.findIn K (.ref q_cut) "__getattribute__" = some (some (.builtin "BaseException.__getattribute__")))
    (x2_cut : PySem.W.findIn K (.ref q_cut) "__getattr__" = some none)
    (x3_cut : PySem.W.findIn K (.ref q_cut) "__class__" = some (some (.builtin "object.__class__")))
    (x4_cut : PySem.W.mroIn K q_cut (.type "object") = some true)
    (xe_text : PySem.W.excIn K q_text [.type "ValueError", .type "Exception", .type "BaseException", .type "object"] "ValueError.__new__" = true)
    (xk_text : PySem.W.keepIn K (.ref q_text) = true)
    (x1_text : PySem.W.findIn K (.ref q_text) "__getattribute__" = some (some (.builtin "BaseException.__getattribute__")))
    (x2_text : PySem.W.findIn K (.ref q_text) "__getattr__" = some none)
    (x3_text : PySem.W.findIn K (.ref q_text) "__class__" = some (some (.builtin "object.__class__")))
    (x4_text : PySem.W.mroIn K q_text (.type "object") = some true)
    (z_abs : PySem.W.nsIn K mainGlobals "abs" = some none)
    (z_bool : PySem.W.nsIn K mainGlobals "bool" = some none)
    (z_dict : PySem.W.nsIn K mainGlobals "dict" = some none)
    (z_enumerate : PySem.W.nsIn K mainGlobals "enumerate" = some none)
    (z_int : PySem.W.nsIn K mainGlobals "int" = some none)
    (z_isinstance : PySem.W.nsIn K mainGlobals "isinstance" = some none)
    (z_len : PySem.W.nsIn K mainGlobals "len" = some none)
    (z_list : PySem.W.nsIn K mainGlobals "list" = some none)
    (z_max : PySem.W.nsIn K mainGlobals "max" = some none)
    (z_min : PySem.W.nsIn K mainGlobals "min" = some none)
    (z_range : PySem.W.nsIn K mainGlobals "range" = some none)
    (z_sorted : PySem.W.nsIn K mainGlobals "sorted" = some none)
    (z_str : PySem.W.nsIn K mainGlobals "str" = some none)
    (z_sum : PySem.W.nsIn K mainGlobals "sum" = some none)
    (g_LONGEST_WORD : PySem.W.nsIn K mainGlobals "LONGEST_WORD" = some (some (.int 12 u_LONGEST_WORD)))
    (g_SMALL_LETTERS : PySem.W.nsIn K mainGlobals "SMALL_LETTERS" = some (some (.str "abcdefghijklmnopqrstuvwxyz" u_SMALL_LETTERS)))
    : ∃ fd : FuncData, (∀ (s : Shared) (v : Value), BindsTo s fd ⟨[v], []⟩ [("script", v)]) ∧ ∀ base : Heap, K.In base → base.Ns mainGlobals mg → FnOk l.prog w K mg base CX0 5 fa fd ["script"] (spTrue K) := by
  have e := hfa.symm.trans (PySem.W.mg_of X G a21)
  cases e
  have XC_cut : ExcC K q_cut := ⟨x1_cut, x2_cut, xb_cut, xd_cut, x3_cut, xo_n, xo_t, x4_cut⟩
  have XC_text : ExcC K q_text := ⟨x1_text, x2_text, xb_text, xd_text, x3_text, xo_n, xo_t, x4_text⟩
  have T : Txt K mg := ⟨PySem.W.mg_none_of X G z_abs, PySem.W.mg_none_of X G z_bool, PySem.W.mg_none_of X G z_dict, PySem.W.mg_none_of X G z_enumerate, PySem.W.mg_none_of X G z_int, PySem.W.mg_none_of X G z_isinstance, PySem.W.mg_none_of X G z_len, PySem.W.mg_none_of X G z_list, PySem.W.mg_none_of X G z_max, PySem.W.mg_none_of X G z_min, PySem.W.mg_none_of X G z_range, PySem.W.mg_none_of X G z_sorted, PySem.W.mg_none_of X G z_str, PySem.W.mg_none_of X G z_sum, ⟨_, PySem.W.mg_of X G g_LONGEST_WORD⟩, ⟨_, PySem.W.mg_of X G g_SMALL_LETTERS⟩, excR_mk xn_cut (PySem.W.mg_of X G xn_cut) xe_cut xk_cut xb_cut xt_cut XC_cut, excR_mk xn_text (PySem.W.mg_of X G xn_text) xe_text xk_text xb_text xt_text XC_text⟩
  have F0 := fun_mk (st := s_is_text) l0 c0 k0
  have b0 := F0.binds (ps := ["thing"]) fun _ _ _ _ _ _ us hl => match us, hl with | [_], _ => rfl
  have F1 := fun_mk (st := s_need_text) l1 c1 k1
  have b1 := F1.binds (ps := ["thing"]) fun _ _ _ _ _ _ us hl => match us, hl with | [_], _ => rfl
  have F2 := fun_mk (st := s_only_words) l2 c2 k2
  have b2 := F2.binds (ps := ["book"]) fun _ _ _ _ _ _ us hl => match us, hl with | [_], _ => rfl
  have F3 := fun_mk (st := s_words_from) l3 c3 k3
  have b3 := F3.binds (ps := ["words", "text", "place"]) fun _ _ _ _ _ _ us hl => match us, hl with | [_, _, _], _ => rfl
  have F4 := fun_mk (st := s_ways_on) l4 c4 k4
  have b4 := F4.binds (ps := ["book", "text"]) fun _ _ _ _ _ _ us hl => match us, hl with | [_, _], _ => rfl
  have F5 := fun_mk (st := s_ways_to) l5 c5 k5
  have b5 := F5.binds (ps := ["book", "text"]) fun _ _ _ _ _ _ us hl => match us, hl with | [_, _], _ => rfl
  have F6 := fun_mk (st := s_words_by_cuts) l6 c6 k6
  have b6 := F6.binds (ps := ["book", "text"]) fun _ _ _ _ _ _ us hl => match us, hl with | [_, _], _ => rfl
  have F7 := fun_mk (st := s_all_places) l7 c7 k7
  have b7 := F7.binds (ps := ["book", "text"]) fun _ _ _ _ _ _ us hl => match us, hl with | [_, _], _ => rfl
  have F8 := fun_mk (st := s__law_draws) l8 c8 k8
  have b8 := F8.binds (ps := ["script", "many"]) fun _ _ _ _ _ _ us hl => match us, hl with | [_, _], _ => rfl
  have F9 := fun_mk (st := s__law_word) l9 c9 k9
  have b9 := F9.binds (ps := ["x", "letters"]) fun _ _ _ _ _ _ us hl => match us, hl with | [_, _], _ => rfl
  have F10 := fun_mk (st := s__law_weight) l10 c10 k10
  have b10 := F10.binds (ps := ["x"]) fun _ _ _ _ _ _ us hl => match us, hl with | [_], _ => rfl
  have F11 := fun_mk (st := s__law_letters) l11 c11 k11
  have b11 := F11.binds (ps := ["x"]) fun _ _ _ _ _ _ us hl => match us, hl with | [_], _ => rfl
  have F12 := fun_mk (st := s__law_begins) l12 c12 k12
  have b12 := F12.binds (ps := ["word", "words"]) fun _ _ _ _ _ _ us hl => match us, hl with | [_, _], _ => rfl
  have F13 := fun_mk (st := s__law_book) l13 c13 k13
  have b13 := F13.binds (ps := ["d", "spot"]) fun _ _ _ _ _ _ us hl => match us, hl with | [_, _], _ => rfl
  have F14 := fun_mk (st := s__law_joined) l14 c14 k14
  have b14 := F14.binds (ps := ["d", "spot", "book", "many"]) fun _ _ _ _ _ _ us hl => match us, hl with | [_, _, _, _], _ => rfl
  have F15 := fun_mk (st := s__law_text) l15 c15 k15
  have b15 := F15.binds (ps := ["d", "spot", "book", "letters"]) fun _ _ _ _ _ _ us hl => match us, hl with | [_, _, _, _], _ => rfl
  have F16 := fun_mk (st := s__law_at) l16 c16 k16
  have b16 := F16.binds (ps := ["book", "text", "place"]) fun _ _ _ _ _ _ us hl => match us, hl with | [_, _, _], _ => rfl
  have F17 := fun_mk (st := s__law_ways) l17 c17 k17
  have b17 := F17.binds (ps := ["book", "text"]) fun _ _ _ _ _ _ us hl => match us, hl with | [_, _], _ => rfl
  have F18 := fun_mk (st := s__law_there) l18 c18 k18
  have b18 := F18.binds (ps := ["book", "text"]) fun _ _ _ _ _ _ us hl => match us, hl with | [_, _], _ => rfl
  have F19 := fun_mk (st := s__law_due) l19 c19 k19
  have b19 := F19.binds (ps := ["book", "text"]) fun _ _ _ _ _ _ us hl => match us, hl with | [_, _], _ => rfl
  have F20 := fun_mk (st := s__law_long) l20 c20 k20
  have b20 := F20.binds (ps := ["d", "spot"]) fun _ _ _ _ _ _ us hl => match us, hl with | [_, _], _ => rfl
  have F21 := fun_mk (st := s_law) l21 c21 k21
  have b21 := F21.binds (ps := ["script"]) fun _ _ _ _ _ _ us hl => match us, hl with | [_], _ => rfl
  refine ⟨PySem.W.fnOf "law" "law" (defArgs s_law) (defBody s_law) (defScope s_law) .none kV21 dc21 pm21 an21 cd21 ct21, fun s v => .of_eq rfl, fun base _ _ => ?_⟩
  have c_is_text : ACal l.prog w K mg base 1 "is_text" (conP pre_x_is_text f_x_is_text) := acalL F0 (PySem.W.mg_of X G a0) b0 sc_is_text (fun cdv A outer s H E hr => w_is_text T _ cdv A outer s H E hr) r_x_is_text
  have c_need_text : XCal l.prog w K mg base 2 "need_text" (conX pre_x_need_text F_x_need_text) := xcalL F1 (PySem.W.mg_of X G a1) b1 sc_need_text (fun cdv A outer s H E hr => w_need_text T c_is_text _ cdv A outer s H E hr) r_x_need_text
  have c_only_words : ACal l.prog w K mg base 1 "only_words" (conP pre_only_words f_only_words) := acalL F2 (PySem.W.mg_of X G a2) b2 sc_only_words (fun cdv A outer s H E hr => w_only_words T _ cdv A outer s H E hr) r_only_words
  have c_words_from : ACal l.prog w K mg base 1 "words_from" (conP pre_words_from f_words_from) := acalL F3 (PySem.W.mg_of X G a3) b3 sc_words_from (fun cdv A outer s H E hr => w_words_from T _ cdv A outer s H E hr) r_words_from
  have c_ways_on : ACal l.prog w K mg base 2 "ways_on" (conP pre_ways_on f_ways_on) := acalL F4 (PySem.W.mg_of X G a4) b4 sc_ways_on (fun cdv A outer s H E hr => w_ways_on T c_only_words c_words_from _ cdv A outer s H E hr) r_ways_on
  have c_ways_to : ACal l.prog w K mg base 2 "ways_to" (conP pre_ways_to f_ways_to) := acalL F5 (PySem.W.mg_of X G a5) b5 sc_ways_to (fun cdv A outer s H E hr => w_ways_to T c_only_words c_words_from _ cdv A outer s H E hr) r_ways_to
  have c_words_by_cuts : XCal l.prog w K mg base 3 "words_by_cuts" (conX pre_x_words_by_cuts F_x_words_by_cuts) := xcalL F6 (PySem.W.mg_of X G a6) b6 sc_words_by_cuts (fun cdv A outer s H E hr => w_words_by_cuts T c_need_text c_ways_to c_ways_on c_only_words c_words_from _ cdv A outer s H E hr) r_x_words_by_cuts
  have c_all_places : XCal l.prog w K mg base 4 "all_places" (conX pre_x_all_places F_x_all_places) := xcalL F7 (PySem.W.mg_of X G a7) b7 sc_all_places (fun cdv A outer s H E hr => w_all_places T c_words_by_cuts c_ways_to c_ways_on _ cdv A outer s H E hr) r_x_all_places
  have c__law_draws : ACal l.prog w K mg base 1 "_law_draws" (conN pre__law_draws ok__law_draws) := acalL F8 (PySem.W.mg_of X G a8) b8 sc__law_draws (fun cdv A outer s H E hr => w__law_draws T _ cdv A outer s H E hr) r__law_draws
  have c__law_word : ACal l.prog w K mg base 1 "_law_word" (conN pre__law_word ok__law_word) := acalL F9 (PySem.W.mg_of X G a9) b9 sc__law_word (fun cdv A outer s H E hr => w__law_word T _ cdv A outer s H E hr) r__law_word
  have c__law_weight : ACal l.prog w K mg base 1 "_law_weight" (conN pre__law_weight ok__law_weight) := acalL F10 (PySem.W.mg_of X G a10) b10 sc__law_weight (fun cdv A outer s H E hr => w__law_weight T _ cdv A outer s H E hr) r__law_weight
  have c__law_letters : ACal l.prog w K mg base 1 "_law_letters" (conN pre__law_letters ok__law_letters) := acalL F11 (PySem.W.mg_of X G a11) b11 sc__law_letters (fun cdv A outer s H E hr => w__law_letters T _ cdv A outer s H E hr) r__law_letters
  have c__law_begins : ACal l.prog w K mg base 1 "_law_begins" (conN pre__law_begins ok__law_begins) := acalL F12 (PySem.W.mg_of X G a12) b12 sc__law_begins (fun cdv A outer s H E hr => w__law_begins T _ cdv A outer s H E hr) r__law_begins
  have c__law_book : ACal l.prog w K mg base 2 "_law_book" (conN pre__law_book ok__law_book) := acalL F13 (PySem.W.mg_of X G a13) b13 sc__law_book (fun cdv A outer s H E hr => w__law_book T c__law_letters c__law_word c__law_weight c__law_begins _ cdv A outer s H E hr) r__law_book
  have c__law_joined : ACal l.prog w K mg base 1 "_law_joined" (conN pre__law_joined ok__law_joined) := acalL F14 (PySem.W.mg_of X G a14) b14 sc__law_joined (fun cdv A outer s H E hr => w__law_joined T _ cdv A outer s H E hr) r__law_joined
  have c__law_text : ACal l.prog w K mg base 2 "_law_text" (conN pre__law_text ok__law_text) := acalL F15 (PySem.W.mg_of X G a15) b15 sc__law_text (fun cdv A outer s H E hr => w__law_text T c__law_joined _ cdv A outer s H E hr) r__law_text
  have c__law_at : ACal l.prog w K mg base 1 "_law_at" (conP pre__law_at f__law_at) := acalL F16 (PySem.W.mg_of X G a16) b16 sc__law_at (fun cdv A outer s H E hr => w__law_at T _ cdv A outer s H E hr) r__law_at
  have c__law_ways : ACal l.prog w K mg base 2 "_law_ways" (conP pre__law_ways f__law_ways) := acalL F17 (PySem.W.mg_of X G a17) b17 sc__law_ways (fun cdv A outer s H E hr => w__law_ways T c__law_at _ cdv A outer s H E hr) r__law_ways
  have c__law_there : ACal l.prog w K mg base 2 "_law_there" (conP pre__law_there f__law_there) := acalL F18 (PySem.W.mg_of X G a18) b18 sc__law_there (fun cdv A outer s H E hr => w__law_there T c__law_at _ cdv A outer s H E hr) r__law_there
  have c__law_due : ACal l.prog w K mg base 3 "_law_due" (conP pre__law_due f__law_due) := acalL F19 (PySem.W.mg_of X G a19) b19 sc__law_due (fun cdv A outer s H E hr => w__law_due T c__law_there c__law_ways c__law_at _ cdv A outer s H E hr) r__law_due
  have c__law_long : ACal l.prog w K mg base 3 "_law_long" (conN pre__law_long ok__law_long) := acalL F20 (PySem.W.mg_of X G a20) b20 sc__law_long (fun cdv A outer s H E hr => w__law_long T c__law_book c__law_joined _ cdv A outer s H E hr) r__law_long
  exact law_fn F21 sc_law (fun cdv A outer s H E hr => w_law T c__law_draws c__law_book c__law_letters c__law_text c__law_due c_all_places c__law_long _ cdv A outer s H E hr) r_law (fun ns h => h) fun ns y os h => h.1
end
end PD

open PySem PySem.W PyProof.Rows in
set_option maxRecDepth 100000 in
set_option maxHeartbeats 0 in
theorem PySem.Challenge.cw_bookcuts_k26_places_of_every_cut_holds : PySem.Challenge.rw_bookcuts_k26_places_of_every_cut.Holds := by
  w_on; o_law; k_head; (case hw => w_witness2)
  k_fill
  refine PD.walk_law (k := 5) (l := PySem.Challenge.rw_bookcuts_k26_places_of_every_cut) ⟨rfl, by decide, by decide⟩ rfl rfl (fun w h Y => PySem.W.kIn_of Y) ?F
  case F =>
    intro w mg fa h KX G hmg
    refine' PD.all_mk KX G hmg ?a0 ?l0 ?c0 ?k0 ?a1 ?l1 ?c1 ?k1 ?a2 ?l2 ?c2 ?k2 ?a3 ?l3 ?c3 ?k3 ?a4 ?l4 ?c4 ?k4 ?a5 ?l5 ?c5 ?k5 ?a6 ?l6 ?c6 ?k6 ?a7 ?l7 ?c7 ?k7 ?a8 ?l8 ?c8 ?k8 ?a9 ?l9 ?c9 ?k9 ?a10 ?l10 ?c10 ?k10 ?a11 ?l11 ?c11 ?k11 ?a12 ?l12 ?c12 ?k12 ?a13 ?l13 ?c13 ?k13 ?a14 ?l14 ?c14 ?k14 ?a15 ?l15 ?c15 ?k15 ?a16 ?l16 ?c16 ?k16 ?a17 ?l17 ?c17 ?k17 ?a18 ?l18 ?c18 ?k18 ?a19 ?l19 ?c19 ?k19 ?a20 ?l20 ?c20 ?k20 ?a21 ?l21 ?c21 ?k21 ?xn_cut ?xd_cut ?xt_cut ?xb_cut ?xn_text ?xd_text ?xt_text ?xb_text ?xo_n ?xo_t ?xe_cut ?xk_cut ?x1_cut ?x2_cut ?x3_cut ?x4_cut ?xe_text ?xk_text ?x1_text ?x2_text ?x3_text ?x4_text ?z_abs ?z_bool ?z_dict ?z_enumerate ?z_int ?z_isinstance ?z_len ?z_list ?z_max ?z_min ?z_range ?z_sorted ?z_str ?z_sum ?g_LONGEST_WORD ?g_SMALL_LETTERS
    (case a0 => k_is)
    (case l0 => k_is)
    (case c0 => k_is)
    (case k0 => k_is)
    (case a1 => k_is)
    (case l1 => k_is)
    (case c1 => k_is)
    (case k1 => k_is)
    (case a2 => k_is)
    (case l2 => k_is)
    (case c2 => k_is)
    (case k2 => k_is)
    (case a3 => k_is)
    (case l3 => k_is)
    (case c3 => k_is)
    (case k3 => k_is)
    (case a4 => k_is)
    (case l4 => k_is)
    (case c4 => k_is)
    (case k4 => k_is)
    (case a5 => k_is)
    (case l5 => k_is)
    (case c5 => k_is)
    (case k5 => k_is)
    (case a6 => k_is)
    (case l6 => k_is)
    (case c6 => k_is)
    (case k6 => k_is)
    (case a7 => k_is)
    (case l7 => k_is)
    (case c7 => k_is)
    (case k7 => k_is)
    (case a8 => k_is)
    (case l8 => k_is)
    (case c8 => k_is)
    (case k8 => k_is)
    (case a9 => k_is)
    (case l9 => k_is)
    (case c9 => k_is)
    (case k9 => k_is)
    (case a10 => k_is)
    (case l10 => k_is)
    (case c10 => k_is)
    (case k10 => k_is)
    (case a11 => k_is)
    (case l11 => k_is)
    (case c11 => k_is)
    (case k11 => k_is)
    (case a12 => k_is)
    (case l12 => k_is)
    (case c12 => k_is)
    (case k12 => k_is)
    (case a13 => k_is)
    (case l13 => k_is)
    (case c13 => k_is)
    (case k13 => k_is)
    (case a14 => k_is)
    (case l14 => k_is)
    (case c14 => k_is)
    (case k14 => k_is)
    (case a15 => k_is)
    (case l15 => k_is)
    (case c15 => k_is)
    (case k15 => k_is)
    (case a16 => k_is)
    (case l16 => k_is)
    (case c16 => k_is)
    (case k16 => k_is)
    (case a17 => k_is)
    (case l17 => k_is)
    (case c17 => k_is)
    (case k17 => k_is)
    (case a18 => k_is)
    (case l18 => k_is)
    (case c18 => k_is)
    (case k18 => k_is)
    (case a19 => k_is)
    (case l19 => k_is)
    (case c19 => k_is)
    (case k19 => k_is)
    (case a20 => k_is)
    (case l20 => k_is)
    (case c20 => k_is)
    (case k20 => k_is)
    (case a21 => k_is)
    (case l21 => k_is)
    (case c21 => k_is)
    (case k21 => k_is)
    (case xn_cut => k_is)
    (case xd_cut => k_is)
    (case xt_cut => k_is)
    (case xb_cut => k_is)
    (case xn_text => k_is)
    (case xd_text => k_is)
    (case xt_text => k_is)
    (case xb_text => k_is)
    (case xo_n => k_is)
    (case xo_t => k_is)
    (case xe_cut => k_exc)
    (case xk_cut => k_is)
    (case x1_cut => k_is)
    (case x2_cut => k_is)
    (case x3_cut => k_is)
    (case x4_cut => k_is)
    (case xe_text => k_exc)
    (case xk_text => k_is)
    (case x1_text => k_is)
    (case x2_text => k_is)
    (case x3_text => k_is)
    (case x4_text => k_is)
    (case z_abs => k_is)
    (case z_bool => k_is)
    (case z_dict => k_is)
    (case z_enumerate => k_is)
    (case z_int => k_is)
    (case z_isinstance => k_is)
    (case z_len => k_is)
    (case z_list => k_is)
    (case z_max => k_is)
    (case z_min => k_is)
    (case z_range => k_is)
    (case z_sorted => k_is)
    (case z_str => k_is)
    (case z_sum => k_is)
    (case g_LONGEST_WORD => k_is)
    (case g_SMALL_LETTERS => k_is)

