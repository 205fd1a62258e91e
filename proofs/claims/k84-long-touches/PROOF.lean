import PyProof.Rows.All
import HandS.ForMost
import HandS.Deep
import HandS.TupAny
import HandS.Lambda
import HandS.Zip
import HandS.SetKeys
import HandS.DictComp
import HandS.SortInts
import HandS.IsInst
import KE.SortData
import HandS.Steps
import HandS.Flow
import HandS.Style
import PyProof.ReprRoads
import KE.SortKeyHeap
import HandS.SortKw
import KE.GoesEnum
import PySem.Challenge.RW_reinways_k84_whole_long_touches
import HandS.Iter
import HandS.SetFor
import HandS.TupSets
import HandS.ExcSuper
import HandS.ExcOwn
import HandS.ExcIs
import HandS.WordsExc
import HandS.TryMany
import KE.KExcIs
import PyProof.StrLawsRepr
import PyProof.FitsInt
import HandS.EndTab
import HandS.Head0
import HandS.Head1
import HandS.Head2
import HandS.HeadHook4
import KE.KDictPairs
import KE.KRevSl
import HandS.Conv
set_option Elab.async false
set_option linter.all false
set_option maxRecDepth 100000
set_option maxHeartbeats 0
/-! Ledgers: what is known of the heap as a list of facts; weakest preconditions over ledgers. -/
namespace Lg
open PySem PySem.Spec PyProof.Rows L2

/-! ### data is kept where the frozen part grows -/
def Sub (T H : Hp) : Prop := ∀ a o, T a = some o → H a = some o
theorem Sub.refl (T : Hp) : Sub T T := fun _ _ h => h
theorem Sub.trans {A B C : Hp} (x : Sub A B) (y : Sub B C) : Sub A C := fun a o h => y a o (x a o h)
theorem Sub.non {T H : Hp} (s : Sub T H) {p : Addr} (h : H p = Option.none) : T p = Option.none := by
  cases q : T p with
  | none => rfl
  | some o => rw [s p o q] at h; cases h
theorem Sub.up {T H : Hp} (s : Sub T H) {p : Addr} {o : HO} (h : T p = Option.none) : Sub T (L2.upd H p o) := fun a u e => by
  rw [upd_ne (ne_of_none e h)]; exact s a u e
theorem Sub.both {T H : Hp} (s : Sub T H) {p : Addr} {o : HO} : Sub (L2.upd T p o) (L2.upd H p o) := fun a u e => by
  by_cases h : a = p
  · subst h; rw [upd_same] at e ⊢; exact e
  · rw [upd_ne h] at e ⊢; exact s a u e
theorem Sub.new {T : Hp} {p : Addr} {o : HO} (h : T p = Option.none) : Sub T (L2.upd T p o) := (Sub.refl T).up h
section
variable {K : PySem.W.Frag} {T H : Hp}
theorem Sub.rd (s : Sub T H) {a : Addr} {u : HO} (h : Rd T a u) : Rd H a u := h.elim (fun h => .inl (s _ _ h)) fun ⟨o, h⟩ => .inr ⟨o, s _ _ h⟩
theorem Sub.sqL (s : Sub T H) {a : Addr} {xs : List V} (h : SqL K T a xs) : SqL K H a xs := h.elim (fun h => .inl (s.rd h)) .inr
theorem Sub.sqT (s : Sub T H) {a : Addr} {xs : List V} (h : SqT K T a xs) : SqT K H a xs := h.elim (fun h => .inl (s.rd h)) .inr
end

/-- the key as data -/
def keyD : Key → PyData
  | .inl i => .int i
  | .inr x => .str x
mutual
/-- a value is a datum (its tuples tracked) -/
inductive Dq (K : PySem.W.Frag) (H : Hp) : V → PyData → Prop
  | non : Dq K H .non .none
  | bl (b : Bool) : Dq K H (.bl b) (.bool b)
  | int (i : Int) : Dq K H (.int i) (.int i)
  | str (x : Str) : Dq K H (.str x) (.str x)
  | lst {a : Addr} {xs : List V} {ds : List PyData} : SqL K H a xs → DqAll K H xs ds → Dq K H (.ref a) (.list ds)
  | tup {a : Addr} {xs : List V} {ds : List PyData} : H a = some (.tup xs) → DqAll K H xs ds → Dq K H (.ref a) (.tuple ds)
  | dic {a : Addr} {xs : List (Key × V)} {ds : List (PyData × PyData)} : Rd H a (.dK xs) → DqKv K H xs ds → Dq K H (.ref a) (.dict ds)
inductive DqAll (K : PySem.W.Frag) (H : Hp) : List V → List PyData → Prop
  | nil : DqAll K H [] []
  | cons {v : V} {vs : List V} {d : PyData} {ds : List PyData} : Dq K H v d → DqAll K H vs ds → DqAll K H (v :: vs) (d :: ds)
inductive DqKv (K : PySem.W.Frag) (H : Hp) : List (Key × V) → List (PyData × PyData) → Prop
  | nil : DqKv K H [] []
  | cons {k : Key} {v : V} {vs : List (Key × V)} {d : PyData} {ds : List (PyData × PyData)} : Dq K H v d → DqKv K H vs ds → DqKv K H ((k, v) :: vs) ((keyD k, d) :: ds)
end
section
variable {K : PySem.W.Frag} {T H : Hp}
mutual
theorem Sub.dp (s : Sub T H) : ∀ (d : PyData) (v : V), Dq K T v d → Dq K H v d
  | .none, _, h => by cases h; exact .non
  | .bool b, _, h => by cases h; exact .bl b
  | .int i, _, h => by cases h; exact .int i
  | .str x, _, h => by cases h; exact .str x
  | .list ds, _, h => by cases h with | lst hs ha => exact .lst (s.sqL hs) (Sub.dps s ds _ ha)
  | .tuple ds, _, h => by cases h with | tup hs ha => exact .tup (s _ _ hs) (Sub.dps s ds _ ha)
  | .dict ds, _, h => by cases h with | dic hs ha => exact .dic (s.rd hs) (Sub.dpk s ds _ ha)
theorem Sub.dps (s : Sub T H) : ∀ (ds : List PyData) (vs : List V), DqAll K T vs ds → DqAll K H vs ds
  | [], _, h => by cases h; exact .nil
  | d :: ds, _, h => by cases h with | cons h1 h2 => exact .cons (Sub.dp s d _ h1) (Sub.dps s ds _ h2)
theorem Sub.dpk (s : Sub T H) : ∀ (ds : List (PyData × PyData)) (vs : List (Key × V)), DqKv K T vs ds → DqKv K H vs ds
  | [], _, h => by cases h; exact .nil
  | (k, d) :: ds, _, h => by cases h with | cons h1 h2 => exact .cons (Sub.dp s d _ h1) (Sub.dpk s ds _ h2)
end
theorem dps_len : ∀ {vs : List V} {ds : List PyData}, DqAll K T vs ds → vs.length = ds.length
  | _, _, .nil => rfl
  | _, _, .cons _ h => by rw [List.length_cons, List.length_cons, dps_len h]
theorem dps_get : ∀ {vs : List V} {ds : List PyData} {i : Nat} {d : PyData}, DqAll K T vs ds → ds[i]? = some d → ∃ v, vs[i]? = some v ∧ Dq K T v d
  | _, _, _, _, .nil, e => by simp at e
  | _, _, 0, _, .cons h _, e => by simp at e; subst e; exact ⟨_, rfl, h⟩
  | _, _, i + 1, d, .cons _ t, e => by
    obtain ⟨v, h1, h2⟩ := dps_get (i := i) (d := d) t (by simpa using e)
    exact ⟨v, by simpa using h1, h2⟩
theorem dps_at : ∀ {vs : List V} {ds : List PyData} {i : Nat} {v : V}, DqAll K T vs ds → vs[i]? = some v → ∃ d, ds[i]? = some d ∧ Dq K T v d
  | _, _, _, _, .nil, e => by simp at e
  | _, _, 0, _, .cons h _, e => by simp at e; subst e; exact ⟨_, rfl, h⟩
  | _, _, i + 1, v, .cons _ t, e => by
    obtain ⟨d, h1, h2⟩ := dps_at (i := i) (v := v) t (by simpa using e)
    exact ⟨d, by simpa using h1, h2⟩
theorem dps_app : ∀ {vs us : List V} {ds es : List PyData}, DqAll K T vs ds → DqAll K T us es → DqAll K T (vs ++ us) (ds ++ es)
  | _, _, _, _, .nil, h => h
  | _, _, _, _, .cons h t, h2 => .cons h (dps_app t h2)
theorem dps_take : ∀ {vs : List V} {ds : List PyData} (n : Nat), DqAll K T vs ds → DqAll K T (vs.take n) (ds.take n)
  | _, _, 0, _ => .nil
  | _, _, _ + 1, .nil => .nil
  | _, _, n + 1, .cons h t => .cons h (dps_take n t)
theorem dps_drop : ∀ {vs : List V} {ds : List PyData} (n : Nat), DqAll K T vs ds → DqAll K T (vs.drop n) (ds.drop n)
  | _, _, 0, h => h
  | _, _, _ + 1, .nil => .nil
  | _, _, n + 1, .cons _ t => dps_drop n t
theorem dps_one {v : V} {d : PyData} (h : Dq K T v d) : DqAll K T [v] [d] := .cons h .nil
theorem dps_rev : ∀ {vs : List V} {ds : List PyData}, DqAll K T vs ds → DqAll K T vs.reverse ds.reverse
  | _, _, .nil => .nil
  | _, _, .cons h t => by rw [List.reverse_cons, List.reverse_cons]; exact dps_app (dps_rev t) (dps_one h)
theorem dps_set : ∀ {vs : List V} {ds : List PyData} {v : V} {d : PyData} (i : Nat), DqAll K T vs ds → Dq K T v d → DqAll K T (vs.set i v) (ds.set i d)
  | _, _, _, _, _, .nil, _ => .nil
  | _, _, _, _, 0, .cons _ t, h => .cons h t
  | _, _, _, _, i + 1, .cons h t, h2 => .cons h (dps_set i t h2)
theorem dps_ints : ∀ {vs : List V} {ns : List Int}, DqAll K T vs (ns.map PyData.int) → vs = ns.map V.int
  | _, [], h => by cases h; rfl
  | _, n :: ns, h => by
    cases h with
    | cons h t => cases h; rw [dps_ints t]; rfl
theorem ints_dps : ∀ (ns : List Int), DqAll K T (ns.map V.int) (ns.map PyData.int)
  | [] => .nil
  | n :: ns => .cons (.int n) (ints_dps ns)
theorem dp_int {v : V} {n : Int} (h : Dq K T v (.int n)) : v = .int n := by cases h; rfl
theorem dp_bl {v : V} {b : Bool} (h : Dq K T v (.bool b)) : v = .bl b := by cases h; rfl
theorem dp_str {v : V} {x : Str} (h : Dq K T v (.str x)) : v = .str x := by cases h; rfl
theorem dp_non {v : V} (h : Dq K T v .none) : v = .non := by cases h; rfl
end

/-! ### facts -/
inductive As where
  /-- an object of one's own -/
  | pt (a : Addr) (o : HO)
  /-- a list of data, a dict with int and text keys whose values are data, one whose keys are tuples: of one's own -/
  | ld (a : Addr) (ds : List PyData)
  | dk (a : Addr) (kvs : List (Key × PyData))
  | dt (a : Addr) (kvs : List (List Key × PyData))
  /-- a value is a datum that never changes -/
  | da (v : V) (d : PyData)
  /-- a table of code objects of one name -/
  | tb (a : Addr) (q : Str)
def As.adr : As → Option Addr
  | .pt a _ => some a
  | .ld a _ => some a
  | .dk a _ => some a
  | .dt a _ => some a
  | .da _ _ => none
  | .tb a _ => some a
abbrev KD {κ : Type} (K : PySem.W.Frag) (T : Hp) : List (κ × V) → List (κ × PyData) → Prop := Paired fun p q => p.1 = q.1 ∧ Dq K T p.2 q.2
def As.ok (K : PySem.W.Frag) (T H : Hp) : As → Prop
  | .pt a o => H a = some o
  | .ld a ds => ∃ xs, H a = some (.lst xs) ∧ DqAll K T xs ds
  | .dk a kvs => ∃ xs, H a = some (.dK xs) ∧ KD K T xs kvs
  | .dt a kvs => ∃ xs, H a = some (.dT xs) ∧ KD K T xs kvs
  | .da v d => Dq K T v d
  | .tb a q => ∃ ps : Array Value, H a = some (.tbl ps) ∧ TriplesOk ps.toList ∧ ∀ (pos : Pos) (cv : Value), codeAmong pos ps.toList = some cv → ∃ c, cv = .ref c ∧ T c = some (LamX.CodeO c q)
def Apart (x y : As) : Prop := ∀ a, x.adr = some a → y.adr = some a → False
structure HsT (K : PySem.W.Frag) (T H : Hp) (L : List As) : Prop where
  sub : Sub T H
  ok : ∀ x ∈ L, x.ok K T H
  out : ∀ x ∈ L, ∀ a, x.adr = some a → T a = none
  ap : L.Pairwise Apart
def Hs (K : PySem.W.Frag) (H : Hp) (L : List As) : Prop := ∃ T, HsT K T H L

section
variable {K : PySem.W.Frag} {T T' H H' : Hp} {L L' : List As} {x y : As} {a p : Addr} {o : HO}
theorem As.ok.here (h : x.ok K T H) (e : x.adr = some a) : ∃ o, H a = some o := by
  cases x with
  | pt b o => cases e; exact ⟨o, h⟩
  | ld b ds => cases e; obtain ⟨xs, h, _⟩ := h; exact ⟨_, h⟩
  | dk b ds => cases e; obtain ⟨xs, h, _⟩ := h; exact ⟨_, h⟩
  | dt b ds => cases e; obtain ⟨xs, h, _⟩ := h; exact ⟨_, h⟩
  | da v d => cases e
  | tb b q => cases e; obtain ⟨xs, h, _⟩ := h; exact ⟨_, h⟩
theorem As.ok.move (h : x.ok K T H) (s : Sub T T') (e : ∀ a o, x.adr = some a → H a = some o → H' a = some o) : x.ok K T' H' := by
  cases x with
  | pt b o => exact e b o rfl h
  | ld b ds => obtain ⟨xs, h1, h2⟩ := h; exact ⟨xs, e b _ rfl h1, s.dps _ _ h2⟩
  | dk b ds => obtain ⟨xs, h1, h2⟩ := h; exact ⟨xs, e b _ rfl h1, Paired.mapP h2 fun p q z => ⟨z.1, s.dp _ _ z.2⟩⟩
  | dt b ds => obtain ⟨xs, h1, h2⟩ := h; exact ⟨xs, e b _ rfl h1, Paired.mapP h2 fun p q z => ⟨z.1, s.dp _ _ z.2⟩⟩
  | da v d => exact s.dp _ _ h
  | tb b q =>
    obtain ⟨ps, h1, h2, h3⟩ := h
    refine ⟨ps, e b _ rfl h1, h2, fun pos cv hc => ?_⟩
    obtain ⟨c, e1, e2⟩ := h3 pos cv hc
    exact ⟨c, e1, s _ _ e2⟩
/-- an item of one's own is laid at a new place -/
theorem HsT.lay (h : HsT K T H L) (hp : H p = none) (hx : x.adr = some p) (ok : x.ok K T (upd H p o)) : HsT K T (upd H p o) (x :: L) := by
  have tn := h.sub.non hp
  refine ⟨h.sub.up tn, fun y hy => ?_, fun y hy a ha => ?_, List.pairwise_cons.mpr ⟨fun y hy a e1 e2 => ?_, h.ap⟩⟩
  · rcases List.mem_cons.mp hy with rfl | hy
    · exact ok
    · exact (h.ok y hy).move (Sub.refl T) fun a u e q => by rw [upd_ne (ne_of_none q hp)]; exact q
  · rcases List.mem_cons.mp hy with rfl | hy
    · rw [hx] at ha; cases ha; exact tn
    · exact h.out y hy a ha
  · rw [hx] at e1; cases e1
    obtain ⟨u, q⟩ := (h.ok y hy).here e2
    rw [hp] at q; cases q
/-- a datum is laid at a new place -/
theorem HsT.layD (h : HsT K T H L) (hp : H p = none) {d : PyData} (ok : Dq K (upd T p o) (.ref p) d) : HsT K (upd T p o) (upd H p o) (.da (.ref p) d :: L) := by
  have tn := h.sub.non hp
  refine ⟨h.sub.both, fun y hy => ?_, fun y hy a ha => ?_, List.pairwise_cons.mpr ⟨fun y hy a e1 e2 => (nomatch e1), h.ap⟩⟩
  · rcases List.mem_cons.mp hy with rfl | hy
    · exact ok
    · exact (h.ok y hy).move (Sub.new tn) fun a u e q => by rw [upd_ne (ne_of_none q hp)]; exact q
  · rcases List.mem_cons.mp hy with rfl | hy
    · exact nomatch ha
    · obtain ⟨u, q⟩ := (h.ok y hy).here ha
      rw [upd_ne (ne_of_none q hp)]; exact h.out y hy a ha
theorem HsT.cons (h : HsT K T H L) {v : V} {d : PyData} (ok : Dq K T v d) : HsT K T H (.da v d :: L) :=
  ⟨h.sub, fun y hy => (List.mem_cons.mp hy).elim (fun e => e ▸ ok) (h.ok y), fun y hy a ha => (List.mem_cons.mp hy).elim (fun e => by subst e; exact nomatch ha) fun q => h.out y q a ha, List.pairwise_cons.mpr ⟨fun y hy a e1 e2 => (nomatch e1), h.ap⟩⟩
theorem HsT.sublist (h : HsT K T H L) (s : List.Sublist L' L) : HsT K T H L' := ⟨h.sub, fun y hy => h.ok y (s.subset hy), fun y hy => h.out y (s.subset hy), h.ap.sublist s⟩
theorem apart_comm : ∀ {x y : As}, Apart x y → Apart y x := fun h a e1 e2 => h a e2 e1
theorem HsT.perm (h : HsT K T H L) (s : List.Perm L L') : HsT K T H L' :=
  ⟨h.sub, fun y hy => h.ok y (s.mem_iff.mpr hy), fun y hy => h.out y (s.mem_iff.mpr hy), (s.pairwise_iff fun h => apart_comm h).mp h.ap⟩
/-- the item at the head is written -/
theorem HsT.write (h : HsT K T H (x :: L)) (hx : x.adr = some p) (hy : y.adr = some p) (ok : y.ok K T (upd H p o)) : HsT K T (upd H p o) (y :: L) := by
  have tn := h.out x (.head _) p hx
  obtain ⟨h1, h2⟩ := List.pairwise_cons.mp h.ap
  refine ⟨h.sub.up tn, fun z hz => ?_, fun z hz a ha => ?_, List.pairwise_cons.mpr ⟨fun z hz a e1 e2 => ?_, h2⟩⟩
  · rcases List.mem_cons.mp hz with rfl | hz
    · exact ok
    · refine (h.ok z (.tail _ hz)).move (Sub.refl T) fun a u e q => ?_
      by_cases ea : a = p
      · subst ea; exact (h1 z hz a hx e).elim
      · rw [upd_ne ea]; exact q
  · rcases List.mem_cons.mp hz with rfl | hz
    · rw [hy] at ha; cases ha; exact tn
    · exact h.out z (.tail _ hz) a ha
  · rw [hy] at e1; cases e1
    exact h1 z hz p hx e2
end

/-! ### picking an item -/
inductive Pick (x : As) : List As → List As → Prop
  | here {L} : Pick x (x :: L) L
  | there {y L L'} : Pick x L L' → Pick x (y :: L) (y :: L')
/-- the first x of L becomes y -/
inductive Put (x y : As) : List As → List As → Prop
  | here {L} : Put x y (x :: L) (y :: L)
  | there {z L L'} : Put x y L L' → Put x y (z :: L) (z :: L')
theorem Pick.perm {x : As} : ∀ {L L' : List As}, Pick x L L' → List.Perm L (x :: L')
  | _, _, .here => List.Perm.refl _
  | _, _, .there h => ((Pick.perm h).cons _).trans (List.Perm.swap _ _ _)
theorem Put.split {x y : As} : ∀ {L L' : List As}, Put x y L L' → ∃ R, List.Perm L (x :: R) ∧ List.Perm (y :: R) L'
  | _, _, .here => ⟨_, List.Perm.refl _, List.Perm.refl _⟩
  | _, _, .there (z := z) h => by
    obtain ⟨R, h1, h2⟩ := Put.split h
    exact ⟨z :: R, (h1.cons z).trans (List.Perm.swap _ _ _), (List.Perm.swap _ _ _).trans (h2.cons z)⟩
theorem Pick.mem {x : As} {L L' : List As} (h : Pick x L L') : x ∈ L := h.perm.mem_iff.mpr (.head _)
theorem Put.mem {x y : As} {L L' : List As} (h : Put x y L L') : x ∈ L := by
  obtain ⟨R, h1, _⟩ := h.split
  exact h1.mem_iff.mpr (.head _)
/-- what follows from a ledger, from left to right -/
def Ent (K : PySem.W.Frag) (L L' : List As) : Prop := ∀ T H, HsT K T H L → HsT K T H L'
theorem Ent.refl {K : PySem.W.Frag} {L : List As} : Ent K L L := fun _ _ h => h
theorem Ent.nil {K : PySem.W.Frag} {L : List As} : Ent K L [] := fun _ _ h => ⟨h.sub, fun _ q => (nomatch q), fun _ q => (nomatch q), List.Pairwise.nil⟩
theorem Ent.trans {K : PySem.W.Frag} {A B C : List As} (x : Ent K A B) (y : Ent K B C) : Ent K A C := fun T H h => y T H (x T H h)
theorem Ent.cons {K : PySem.W.Frag} {x : As} {L M R : List As} (p : Pick x L M) (e : Ent K M R) : Ent K L (x :: R) := fun T H h => by
  have h1 := h.perm p.perm
  have h2 := e T H (h1.sublist (List.sublist_cons_self _ _))
  obtain ⟨q1, q2⟩ := List.pairwise_cons.mp h1.ap
  refine ⟨h1.sub, fun y hy => ?_, fun y hy => ?_, List.pairwise_cons.mpr ⟨fun y hy a e1 e2 => ?_, h2.ap⟩⟩
  · rcases List.mem_cons.mp hy with rfl | hy
    · exact h1.ok _ (.head _)
    · exact h2.ok y hy
  · rcases List.mem_cons.mp hy with rfl | hy
    · exact h1.out _ (.head _)
    · exact h2.out y hy
  · -- y's place is one of M's, apart from x: by the heap where x's object is hidden
    have g : HsT K T (fun b => if b = a then none else H b) M := by
      have tn := h1.out x (.head _) a e1
      refine ⟨fun b o q => ?_, fun z hz => (h1.ok z (.tail _ hz)).move (Sub.refl T) fun b o e q => ?_, fun z hz => h1.out z (.tail _ hz), q2⟩
      · show (if b = a then none else H b) = some o
        rw [if_neg (ne_of_none q tn)]; exact h1.sub b o q
      · show (if b = a then none else H b) = some o
        rw [if_neg (fun eq => by subst eq; exact q1 z hz b e1 e)]; exact q
    obtain ⟨o, q⟩ := ((e T _ g).ok y hy).here e2
    have q' : (if a = a then none else H a) = some o := q
    rw [if_pos rfl] at q'; cases q'
/-- a datum is told again -/
theorem Ent.dup {K : PySem.W.Frag} {v : V} {d : PyData} {L R : List As} (m : As.da v d ∈ L) (e : Ent K L R) : Ent K L (.da v d :: R) := fun T H h => (e T H h).cons (h.ok _ m)
theorem Ent.drop {K : PySem.W.Frag} {x : As} {L R : List As} (e : Ent K L R) : Ent K (x :: L) R := fun T H h => e T H (h.sublist (List.sublist_cons_self _ _))
theorem Ent.hs {K : PySem.W.Frag} {L R : List As} (e : Ent K L R) {H : Hp} (h : Hs K H L) : Hs K H R := let ⟨T, q⟩ := h; ⟨T, e T H q⟩

/-! ### a value is a datum, by a ledger -/
def Dv (K : PySem.W.Frag) (L : List As) (v : V) (d : PyData) : Prop := ∀ T H, HsT K T H L → Dq K T v d
def Dvs (K : PySem.W.Frag) (L : List As) (vs : List V) (ds : List PyData) : Prop := ∀ T H, HsT K T H L → DqAll K T vs ds
section
variable {K : PySem.W.Frag} {L : List As} {v : V} {d : PyData} {vs : List V} {ds : List PyData}
theorem Dv.mem (m : As.da v d ∈ L) : Dv K L v d := fun _ _ h => h.ok _ m
theorem Dv.int {n : Int} : Dv K L (.int n) (.int n) := fun _ _ _ => .int n
theorem Dv.bl {n : Bool} : Dv K L (.bl n) (.bool n) := fun _ _ _ => .bl n
theorem Dv.str {n : Str} : Dv K L (.str n) (.str n) := fun _ _ _ => .str n
theorem Dv.non : Dv K L .non .none := fun _ _ _ => .non
theorem Dvs.nil : Dvs K L [] [] := fun _ _ _ => .nil
theorem Dvs.cons (h : Dv K L v d) (t : Dvs K L vs ds) : Dvs K L (v :: vs) (d :: ds) := fun T H q => .cons (h T H q) (t T H q)
end
end Lg
/-! Weakest preconditions over ledgers: the rules. -/
namespace Lg
open PySem PySem.Spec PyProof.Rows L2

abbrev LK := V → List As → Prop
def Up (K : PySem.W.Frag) (Q : LK) (Q0 : VK) : Prop := ∀ v H L, Hs K H L → Q v L → Q0 v H
def UpB (K : PySem.W.Frag) (Q : Bool → List As → Prop) (Q0 : Bool → Hp → Prop) : Prop := ∀ v H L, Hs K H L → Q v L → Q0 v H
def UpA (K : PySem.W.Frag) (Q : List V → List As → Prop) (Q0 : List V → Hp → Prop) : Prop := ∀ v H L, Hs K H L → Q v L → Q0 v H
def UpS (K : PySem.W.Frag) (Q : L2.St → List As → Prop) (Q0 : L2.St → Hp → Prop) : Prop := ∀ v H L, Hs K H L → Q v L → Q0 v H
def UpH (K : PySem.W.Frag) (Q : List As → Prop) (Q0 : Hp → Prop) : Prop := ∀ H L, Hs K H L → Q L → Q0 H
def Wp (K : PySem.W.Frag) (t : TE) (σ : L2.St) (L : List As) (Q : LK) : Prop := ∀ H, Hs K H L → ∀ Q0, Up K Q Q0 → t σ H Q0
def Wt (K : PySem.W.Frag) (t : TT) (σ : L2.St) (L : List As) (Q : Bool → List As → Prop) : Prop := ∀ H, Hs K H L → ∀ Q0, UpB K Q Q0 → t σ H Q0
def Wa (K : PySem.W.Frag) (t : TA) (σ : L2.St) (L : List As) (Q : List V → List As → Prop) : Prop := ∀ H, Hs K H L → ∀ Q0, UpA K Q Q0 → t σ H Q0
def W2 (K : PySem.W.Frag) (r : R2) (x y : V) (L : List As) (Q : LK) : Prop := ∀ H, Hs K H L → ∀ Q0, Up K Q Q0 → r x y H Q0
def W1 (K : PySem.W.Frag) (r : V → Hp → VK → Prop) (x : V) (L : List As) (Q : LK) : Prop := ∀ H, Hs K H L → ∀ Q0, Up K Q Q0 → r x H Q0
def Wc (K : PySem.W.Frag) (r : List V → Hp → VK → Prop) (xs : List V) (L : List As) (Q : LK) : Prop := ∀ H, Hs K H L → ∀ Q0, Up K Q Q0 → r xs H Q0
def Wm (K : PySem.W.Frag) (r : V → List V → Hp → VK → Prop) (x : V) (xs : List V) (L : List As) (Q : LK) : Prop := ∀ H, Hs K H L → ∀ Q0, Up K Q Q0 → r x xs H Q0
def Wo (K : PySem.W.Frag) (t : TO) (σ : L2.St) (L : List As) (Q : Option Int → List As → Prop) : Prop :=
  ∀ H, Hs K H L → ∀ Q0 : Option Int → Hp → Prop, (∀ v H L, Hs K H L → Q v L → Q0 v H) → t σ H Q0
def Wsl (K : PySem.W.Frag) (r : V → Option Int → Option Int → Hp → VK → Prop) (x : V) (l h : Option Int) (L : List As) (Q : LK) : Prop := ∀ H, Hs K H L → ∀ Q0, Up K Q Q0 → r x l h H Q0
def Wg (K : PySem.W.Frag) (g : TG) (v : V) (σ : L2.St) (L : List As) (Q : L2.St → List As → Prop) : Prop := ∀ H, Hs K H L → ∀ Q0, UpS K Q Q0 → g v σ H Q0
def Wgs (K : PySem.W.Frag) (g : TGs) (v : List V) (σ : L2.St) (L : List As) (Q : L2.St → List As → Prop) : Prop := ∀ H, Hs K H L → ∀ Q0, UpS K Q Q0 → g v σ H Q0
structure LE where
  nx : L2.St → List As → Prop
  rt : LK
  bk : L2.St → List As → Prop := fun _ _ => False
  ct : L2.St → List As → Prop := fun _ _ => False
structure LE.le (K : PySem.W.Frag) (D : LE) (D0 : Ends) : Prop where
  nx : UpS K D.nx D0.nx
  rt : Up K D.rt D0.rt
  bk : UpS K D.bk D0.bk
  ct : UpS K D.ct D0.ct
def Ws (K : PySem.W.Frag) (t : TS) (D : LE) (σ : L2.St) (L : List As) : Prop := ∀ H, Hs K H L → ∀ D0, D.le K D0 → t D0 σ H

section
variable {K : PySem.W.Frag} {σ : L2.St} {L L' : List As} {Q : LK} {ta tb tc te : TE} {t u : TT} {x y v : V} {r r' : R2} {a : Addr}
/-! ### from one ledger to another -/
theorem Wp.ent (e : Ent K L L') (h : Wp K te σ L' Q) : Wp K te σ L Q := fun H hs => h H (e.hs hs)
theorem Ws.ent {ts : TS} {D : LE} (e : Ent K L L') (h : Ws K ts D σ L') : Ws K ts D σ L := fun H hs => h H (e.hs hs)
theorem Wp.imp {Q' : LK} (h : Wp K te σ L Q) (i : ∀ v L, Q v L → Q' v L) : Wp K te σ L Q' := fun H hs Q0 u => h H hs Q0 fun v H L h q => u v H L h (i v L q)

/-! ### expressions -/
theorem wp_var {i : Nat} (h : σ[i]? = some (some v)) (q : Q v L) : Wp K (tVar i) σ L Q := fun H hs _ u => ⟨v, h, u v H L hs q⟩
theorem wp_c (q : Q v L) : Wp K (tC v) σ L Q := fun H hs _ u => u v H L hs q
theorem wp_op (h : Wp K ta σ L fun x L1 => Wp K tb σ L1 fun y L2 => W2 K r x y L2 Q) : Wp K (tOp r ta tb) σ L Q := fun H hs Q0 u =>
  h H hs _ fun x H1 L1 h1 q => q H1 h1 _ fun y H2 L2 h2 q2 => q2 H2 h2 Q0 u
theorem wp_un {r : V → Hp → VK → Prop} (h : Wp K ta σ L fun x L1 => W1 K r x L1 Q) : Wp K (tUn r ta) σ L Q := fun H hs Q0 u =>
  h H hs _ fun x H1 L1 h1 q => q H1 h1 Q0 u
theorem wp_chain (h : Wp K ta σ L fun x L1 => Wp K tb σ L1 fun y L2 => W2 K r x y L2 fun z L3 => ∃ k, z = .bl k ∧ (if k = true then Wp K tc σ L3 fun w L4 => W2 K r' y w L4 Q else Q (.bl false) L3)) :
    Wp K (tChain r r' ta tb tc) σ L Q := fun H hs Q0 u =>
  h H hs _ fun x H1 L1 h1 q => q H1 h1 _ fun y H2 L2 h2 q2 => q2 H2 h2 _ fun z H3 L3 h3 ⟨k, e, q3⟩ => ⟨k, e, by
    cases k with
    | true => exact q3 H3 h3 _ fun w H4 L4 h4 q4 => q4 H4 h4 Q0 u
    | false => exact u _ H3 L3 h3 q3⟩
theorem wp_if (h : Wt K t σ L fun b L1 => if b = true then Wp K ta σ L1 Q else Wp K tb σ L1 Q) : Wp K (tIf t ta tb) σ L Q := fun H hs Q0 u =>
  h H hs _ fun b H1 L1 h1 q => by
    cases b with
    | true => exact q H1 h1 Q0 u
    | false => exact q H1 h1 Q0 u
theorem wp_andV (h : Wp K ta σ L fun x L1 => ∃ c, x = .bl c ∧ if c = true then Wp K tb σ L1 Q else Q (.bl false) L1) : Wp K (tAndV ta tb) σ L Q := fun H hs Q0 u =>
  h H hs _ fun x H1 L1 h1 ⟨c, e, q⟩ => ⟨c, e, by
    cases c with
    | true => exact q H1 h1 Q0 u
    | false => exact u _ H1 L1 h1 q⟩
theorem wp_orV (h : Wp K ta σ L fun x L1 => ∃ c, x = .bl c ∧ if c = true then Q (.bl true) L1 else Wp K tb σ L1 Q) : Wp K (tOrV ta tb) σ L Q := fun H hs Q0 u =>
  h H hs _ fun x H1 L1 h1 ⟨c, e, q⟩ => ⟨c, e, by
    cases c with
    | true => exact u _ H1 L1 h1 q
    | false => exact q H1 h1 Q0 u⟩
theorem wp_notV (h : Wp K ta σ L fun x L1 => ∃ c, x = .bl c ∧ Q (.bl (!c)) L1) : Wp K (tNotV ta) σ L Q := fun H hs Q0 u =>
  h H hs _ fun x H1 L1 h1 ⟨c, e, q⟩ => ⟨c, e, u _ H1 L1 h1 q⟩
theorem wp_cb {r : List V → Hp → VK → Prop} {ta : TA} (h : Wa K ta σ L fun vs L1 => Wc K r vs L1 Q) : Wp K (tCB r ta) σ L Q := fun H hs Q0 u =>
  h H hs _ fun x H1 L1 h1 q => q H1 h1 Q0 u
theorem wa_nil {Q : List V → List As → Prop} (q : Q [] L) : Wa K tNil σ L Q := fun H hs _ u => u _ H L hs q
theorem wa_cons {Q : List V → List As → Prop} {tr : TA} (h : Wp K ta σ L fun x L1 => Wa K tr σ L1 fun xs L2 => Q (x :: xs) L2) : Wa K (tCons ta tr) σ L Q := fun H hs Q0 u =>
  h H hs _ fun x H1 L1 h1 q => q H1 h1 _ fun xs H2 L2 h2 q2 => u _ H2 L2 h2 q2
/-- a tuple of data; a raw one -/
theorem wp_tup {ta : TA} (h : Wa K ta σ L fun vs L1 => ∃ ds, Dvs K L1 vs ds ∧ vs.length ≤ sizeLine ∧ ∀ p, Q (.ref p) (.da (.ref p) (.tuple ds) :: L1)) : Wp K (tTup ta) σ L Q := fun H hs Q0 u =>
  h H hs _ fun vs H1 L1 h1 ⟨ds, hd, hl, q⟩ => ⟨hl, fun p hp => by
    obtain ⟨T, ht⟩ := h1
    have tn := ht.sub.non hp
    exact u _ _ _ ⟨_, ht.layD hp (.tup upd_same ((Sub.new tn).dps _ _ (hd T H1 ht)))⟩ (q p)⟩
theorem wp_tupP {ta : TA} (h : Wa K ta σ L fun vs L1 => vs.length ≤ sizeLine ∧ ∀ p, Q (.ref p) (.pt p (.tup vs) :: L1)) : Wp K (tTup ta) σ L Q := fun H hs Q0 u =>
  h H hs _ fun vs H1 L1 h1 ⟨hl, q⟩ => ⟨hl, fun p hp => by
    obtain ⟨T, ht⟩ := h1
    exact u _ _ _ ⟨_, ht.lay (x := .pt p (.tup vs)) hp rfl upd_same⟩ (q p)⟩
/-- a list of data; a raw one -/
theorem wp_lst {ta : TA} (h : Wa K ta σ L fun vs L1 => ∃ ds, Dvs K L1 vs ds ∧ vs.length ≤ sizeLine ∧ ∀ p, Q (.ref p) (.ld p ds :: L1)) : Wp K (tLst ta) σ L Q := fun H hs Q0 u =>
  h H hs _ fun vs H1 L1 h1 ⟨ds, hd, hl, q⟩ => ⟨hl, fun p hp => by
    obtain ⟨T, ht⟩ := h1
    exact u _ _ _ ⟨_, ht.lay (x := .ld p ds) hp rfl ⟨vs, upd_same, hd T H1 ht⟩⟩ (q p)⟩
theorem wp_lstP {ta : TA} (h : Wa K ta σ L fun vs L1 => vs.length ≤ sizeLine ∧ ∀ p, Q (.ref p) (.pt p (.lst vs) :: L1)) : Wp K (tLst ta) σ L Q := fun H hs Q0 u =>
  h H hs _ fun vs H1 L1 h1 ⟨hl, q⟩ => ⟨hl, fun p hp => by
    obtain ⟨T, ht⟩ := h1
    exact u _ _ _ ⟨_, ht.lay (x := .pt p (.lst vs)) hp rfl upd_same⟩ (q p)⟩

/-! ### tests -/
theorem wt_test {Q : Bool → List As → Prop} (h : Wp K te σ L fun x L1 => ∃ k, x = .bl k ∧ Q k L1) : Wt K (tTest te) σ L Q := fun H hs Q0 u =>
  h H hs _ fun x H1 L1 h1 ⟨k, e, q⟩ => ⟨k, e, u _ H1 L1 h1 q⟩
theorem wt_B {Q : Bool → List As → Prop} (h : Wp K te σ L fun x L1 => ∃ k, x = .bl k ∧ Q k L1) : Wt K (tB te) σ L Q := fun H hs Q0 u =>
  h H hs _ fun x H1 L1 h1 ⟨k, e, q⟩ => ⟨k, e, u _ H1 L1 h1 q⟩
theorem wt_yes {Q : Bool → List As → Prop} (q : Q true L) : Wt K tYes σ L Q := fun H hs Q0 u => u _ H L hs q
theorem wt_and {Q : Bool → List As → Prop} (h : Wt K t σ L fun b L1 => if b = true then Wt K u σ L1 Q else Q false L1) : Wt K (tAnd t u) σ L Q := fun H hs Q0 up =>
  h H hs _ fun b H1 L1 h1 q => by
    cases b with
    | true => exact q H1 h1 Q0 up
    | false => exact up _ H1 L1 h1 q
theorem wt_or {Q : Bool → List As → Prop} (h : Wt K t σ L fun b L1 => if b = true then Q true L1 else Wt K u σ L1 Q) : Wt K (tOr t u) σ L Q := fun H hs Q0 up =>
  h H hs _ fun b H1 L1 h1 q => by
    cases b with
    | true => exact up _ H1 L1 h1 q
    | false => exact q H1 h1 Q0 up
theorem wt_not {Q : Bool → List As → Prop} (h : Wt K t σ L fun b L1 => Q (!b) L1) : Wt K (tNot t) σ L Q := fun H hs Q0 up => h H hs _ fun b H1 L1 h1 q => up _ H1 L1 h1 q
theorem Wt.imp {Q Q' : Bool → List As → Prop} (h : Wt K t σ L Q) (i : ∀ v L, Q v L → Q' v L) : Wt K t σ L Q' := fun H hs Q0 u => h H hs Q0 fun v H L h q => u v H L h (i v L q)

/-! ### statements -/
variable {ts us : TS} {D : LE}
theorem ws_next (q : D.nx σ L) : Ws K tNext D σ L := fun H hs D0 le => le.nx _ H L hs q
theorem ws_brk (q : D.bk σ L) : Ws K tBreak D σ L := fun H hs D0 le => le.bk _ H L hs q
theorem ws_cont (q : D.ct σ L) : Ws K tCont D σ L := fun H hs D0 le => le.ct _ H L hs q
theorem ws_seq (h : Ws K ts { D with nx := fun σ' L' => Ws K us D σ' L' } σ L) : Ws K (tSeq ts us) D σ L := fun H hs D0 le =>
  h H hs _ ⟨fun σ' H' L' h' q => q H' h' D0 le, le.rt, le.bk, le.ct⟩
theorem ws_asg {i : Nat} (h : Wp K te σ L fun x L1 => D.nx (σ.set i (some x)) L1) : Ws K (tAsg te (gName i)) D σ L := fun H hs D0 le =>
  h H hs _ fun x H1 L1 h1 q => le.nx _ H1 L1 h1 q
theorem ws_asgG {g : TG} (h : Wp K te σ L fun x L1 => Wg K g x σ L1 D.nx) : Ws K (tAsg te g) D σ L := fun H hs D0 le =>
  h H hs _ fun x H1 L1 h1 q => q H1 h1 _ le.nx
theorem wg_name {i : Nat} {Q : L2.St → List As → Prop} (q : Q (σ.set i (some x)) L) : Wg K (gName i) x σ L Q := fun H hs Q0 u => u _ H L hs q
theorem wgs_nil {Q : L2.St → List As → Prop} (q : Q σ L) : Wgs K gNil [] σ L Q := fun H hs Q0 u => ⟨rfl, u _ H L hs q⟩
theorem wgs_cons {g : TG} {gs : TGs} {vs : List V} {Q : L2.St → List As → Prop} (h : Wg K g x σ L fun σ1 L1 => Wgs K gs vs σ1 L1 Q) : Wgs K (gCons g gs) (x :: vs) σ L Q := fun H hs Q0 u =>
  ⟨x, vs, rfl, h H hs _ fun σ1 H1 L1 h1 q => q H1 h1 Q0 u⟩
/-- a, b = a raw tuple of one's own -/
theorem wg_tupP {n : Nat} {gs : TGs} {vs : List V} {Q : L2.St → List As → Prop} (m : As.pt a (.tup vs) ∈ L) (hn : vs.length = n) (h : Wgs K gs vs σ L Q) : Wg K (gTup K n gs) (.ref a) σ L Q := fun H hs Q0 u => by
  obtain ⟨T, ht⟩ := id hs
  exact ⟨a, vs, rfl, SqT.of (ht.ok _ m), hn, h H hs Q0 u⟩
theorem hst_zip {T H : Hp} : ∀ {xs : List V} {ds : List PyData}, DqAll K T xs ds → HsT K T H L → HsT K T H (List.zipWith As.da xs ds ++ L)
  | _, _, .nil, h => h
  | _, _, .cons h1 h2, h => (hst_zip h2 h).cons h1
/-- a, b = a datum that is a tuple: each place's value is a datum -/
theorem wg_tupD {n : Nat} {gs : TGs} {ds : List PyData} {Q : L2.St → List As → Prop} (m : Dv K L x (.tuple ds)) (hn : ds.length = n)
    (h : ∀ vs : List V, vs.length = n → Wgs K gs vs σ (List.zipWith As.da vs ds ++ L) Q) : Wg K (gTup K n gs) x σ L Q := fun H hs Q0 u => by
  obtain ⟨T, ht⟩ := hs
  have hd := m T H ht
  cases hd with
  | tup ha hds =>
    rename_i a xs
    have hl := (dps_len hds).trans hn
    refine ⟨a, xs, rfl, SqT.of (ht.sub _ _ ha), hl, h xs hl H ⟨T, hst_zip hds ht⟩ Q0 u⟩
theorem ws_if (h : Wt K t σ L fun b L1 => if b = true then Ws K ts D σ L1 else Ws K us D σ L1) : Ws K (tIfS t ts us) D σ L := fun H hs D0 le =>
  h H hs _ fun b H1 L1 h1 q => by
    cases b with
    | true => exact q H1 h1 D0 le
    | false => exact q H1 h1 D0 le
theorem ws_drop (h : Wp K te σ L fun _ L1 => D.nx σ L1) : Ws K (tDrop te) D σ L := fun H hs D0 le => h H hs _ fun x H1 L1 h1 q => le.nx _ H1 L1 h1 q
theorem ws_ret (h : Wp K te σ L D.rt) : Ws K (tRet te) D σ L := fun H hs D0 le => h H hs _ le.rt
theorem ws_retN (h : D.rt .non L) : Ws K tRetN D σ L := fun H hs D0 le => le.rt _ H L hs h
theorem ws_par {i j : Nat} {ta : TA} (h : Wa K ta σ L fun vs L1 => ∃ v w, vs = [v, w] ∧ D.nx ((σ.set i (some v)).set j (some w)) L1) : Ws K (tPar i j ta) D σ L := fun H hs D0 le =>
  h H hs _ fun vs H1 L1 h1 ⟨v, w, e, q⟩ => ⟨v, w, e, le.nx _ H1 L1 h1 q⟩
theorem ws_aug {i : Nat} {ti : TIp} (hx : σ[i]? = some (some x)) (h : Wp K te σ L fun y L1 => W2 K ti x y L1 fun z L2 => D.nx (σ.set i (some z)) L2) : Ws K (tAug i te ti) D σ L := fun H hs D0 le =>
  ⟨x, hx, h H hs _ fun y H1 L1 h1 q => q H1 h1 _ fun z H2 L2 h2 q2 => le.nx _ H2 L2 h2 q2⟩

/-! ### calls of the text's own defs -/
/-- a promise over ledgers: from the arguments and the ledger, what is wanted of the value and the ledger -/
abbrev SpL := List V → List As → LK → Prop
def spL (K : PySem.W.Frag) (S : SpL) : Sp := fun vs H Q _ => ∃ L LQ, Hs K H L ∧ S vs L LQ ∧ Up K LQ Q
theorem wp_call {S : SpL} {dvs : List V} {E : XK} {ta : TA} (h : Wa K ta σ L fun vs L1 => S (vs ++ dvs) L1 Q) : Wp K (tCall (spL K S) dvs E ta) σ L Q := fun H hs Q0 u =>
  h H hs _ fun vs H1 L1 h1 q => ⟨L1, Q, h1, q, u⟩
theorem wp_callK {S : SpL} {g : List V → List V → List V} {E : XK} {ta tk : TA} (h : Wa K ta σ L fun vs L1 => Wa K tk σ L1 fun zs L2 => S (g vs zs) L2 Q) : Wp K (tCallK (spL K S) g E ta tk) σ L Q := fun H hs Q0 u =>
  h H hs _ fun vs H1 L1 h1 q => q H1 h1 _ fun zs H2 L2 h2 q2 => ⟨L2, Q, h2, q2, u⟩
/-- what is wanted, up to what follows from the ledger -/
def RetE (K : PySem.W.Frag) (Q : LK) : LK := fun v L => ∃ L', Ent K L L' ∧ Q v L'
/-- the body's reading from its walk over ledgers -/
theorem of_ws {S : SpL} {ts : TS} {N : List Str} {vs : List V} {H : Hp} {Q : VK} {E : XK} (h : spL K S vs H Q E) (w : ∀ L LQ, S vs L LQ → Ws K ts { nx := fun _ L => RetE K LQ .non L, rt := RetE K LQ } (start N vs) L) :
    ts { nx := fun _ H' => Q .non H', rt := Q } (start N vs) H := by
  obtain ⟨L, LQ, hs, hS, up⟩ := h
  exact w L LQ hS H hs _ ⟨fun _ H' L' h' ⟨L2, e, q⟩ => up _ H' L2 (e.hs h') q, fun v H' L' h' ⟨L2, e, q⟩ => up v H' L2 (e.hs h') q, fun _ _ _ _ q => q.elim, fun _ _ _ _ q => q.elim⟩
end
end Lg
/-! Weakest preconditions over ledgers: operators, subscripts, built-ins, lists, loops, comprehensions. -/
namespace Lg
open PySem PySem.Spec PyProof.Rows L2

/-! ### data is read -/
section
variable {X : Cx} {pins : List (Addr × Obj)} {σ : L2.St} {H T : Hp} {s : Shared}
/-- where lists and dicts of a datum stand -/
def Place (K : PySem.W.Frag) (H : Hp) (b : Addr) : Prop := (∃ o, H b = some o) ∨ ∃ o, K.lookup b = some o ∧ o.cls = .type "list"
theorem key_reads {K : PySem.W.Frag} {h : Heap} {k : Key} {v : Value} (p : keyIs k v = true) : ∃ as, Reads h v (keyD k) as ∧ ∀ b ∈ as, Place K H b := by
  rcases keyIs_shape p with ⟨i, t, e1, e2⟩ | ⟨x, t, e1, e2⟩
  · rw [e1, e2]
    exact ⟨[], Reads.int i t, fun b hb => (by cases hb)⟩
  · rw [e1, e2]
    exact ⟨[], Reads.str x t, fun b hb => (by cases hb)⟩
mutual
theorem Dq.reads (I : Inv X pins σ H s) : ∀ (d : PyData) (v : V) (u : Value), Dq X.K H v d → RelV v u → ∃ as, Reads s.heap u d as ∧ ∀ b ∈ as, Place X.K H b
  | .none, _, _, h, r => by cases h; cases r; exact ⟨_, Reads.none, fun b hb => by cases hb⟩
  | .bool b, _, _, h, r => by cases h; cases r; exact ⟨_, Reads.bool b, fun b hb => by cases hb⟩
  | .int i, _, _, h, r => by cases h; obtain ⟨t, rfl⟩ := r; exact ⟨_, Reads.int i t, fun b hb => by cases hb⟩
  | .str x, _, _, h, r => by cases h; obtain ⟨t, rfl⟩ := r; exact ⟨_, Reads.str x t, fun b hb => by cases hb⟩
  | .list ds, _, _, h, r => by
    cases h with
    | lst hs ha =>
      cases r
      obtain ⟨its, rv, ⟨o, n, ho, hc, _, hd⟩, _⟩ := I.list hs
      obtain ⟨as, hr, hp⟩ := Dq.readsAll I ds _ its ha rv
      refine ⟨_, Reads.list ho hc hd hr, fun b hb => ?_⟩
      rcases List.mem_cons.mp hb with rfl | hb
      · rcases hs with (h | ⟨o, h⟩) | ⟨o, _, _, h, hc, _⟩
        · exact .inl ⟨_, h⟩
        · exact .inl ⟨_, h⟩
        · exact .inr ⟨_, h, hc⟩
      · exact hp b hb
  | .tuple ds, _, _, h, r => by
    cases h with
    | tup hs ha =>
      cases r
      obtain ⟨its, rv, ⟨o, ho, hc, n, hd⟩, _⟩ := I.tuple (SqT.of hs)
      obtain ⟨as, hr, hp⟩ := Dq.readsAll I ds _ its ha rv
      exact ⟨_, Reads.tuple ho hc hd hr, hp⟩
  | .dict ds, _, _, h, r => by
    cases h with
    | dic hs ha =>
      cases r
      obtain ⟨_, _, vs, rv, o, es, ep, ho, hx, hd, _, hes, _⟩ := dk_rd I.hok hs
      obtain ⟨as, bs, h1, h2, hp, hq⟩ := Dq.readsKv I ds _ vs es.toList ha rv hes
      refine ⟨_, Reads.dict ho hx.1 hd h1 h2, fun b hb => ?_⟩
      rcases List.mem_append.mp hb with hb | hb
      · rcases List.mem_cons.mp hb with rfl | hb
        · rcases hs with h | ⟨o, h⟩
          · exact .inl ⟨_, h⟩
          · exact .inl ⟨_, h⟩
        · exact hp b hb
      · exact hq b hb
theorem Dq.readsAll (I : Inv X pins σ H s) : ∀ (ds : List PyData) (vs : List V) (us : List Value), DqAll X.K H vs ds → Vals vs us → ∃ as, ReadsAll s.heap us ds as ∧ ∀ b ∈ as, Place X.K H b
  | [], _, _, h, r => by cases h; cases r; exact ⟨_, ReadsAll.nil, fun b hb => by cases hb⟩
  | d :: ds, _, _, h, r => by
    cases h with
    | cons h1 h2 =>
      cases r with
      | cons r1 r2 =>
        obtain ⟨as, q1, p1⟩ := Dq.reads I d _ _ h1 r1
        obtain ⟨bs, q2, p2⟩ := Dq.readsAll I ds _ _ h2 r2
        exact ⟨_, ReadsAll.cons q1 q2, fun b hb => (List.mem_append.mp hb).elim (p1 b) (p2 b)⟩
theorem Dq.readsKv (I : Inv X pins σ H s) : ∀ (ds : List (PyData × PyData)) (xs : List (Key × V)) (vs : List (Key × Value)) (es : List DictEntry), DqKv X.K H xs ds → KV xs vs → Pairs (mixKind X.prog X.w) es vs →
    ∃ as bs, ReadsAll s.heap (es.map (·.key)) (ds.map (·.1)) as ∧ ReadsAll s.heap (es.map (·.val)) (ds.map (·.2)) bs ∧ (∀ b ∈ as, Place X.K H b) ∧ ∀ b ∈ bs, Place X.K H b
  | [], _, _, _, h, r, p => by cases h; cases r; cases p; exact ⟨[], [], .nil, .nil, fun b hb => (by cases hb), fun b hb => (by cases hb)⟩
  | (k, d) :: ds, _, _, _, h, r, p => by
    cases h with
    | cons h1 h2 =>
      cases r with
      | cons r1 r2 =>
        cases p with
        | cons p1 p2 p3 =>
          obtain ⟨bs, q2, z2⟩ := Dq.reads I d _ _ h1 r1.2
          obtain ⟨as', bs', k1, k2, w1, w2⟩ := Dq.readsKv I ds _ _ _ h2 r2 p3
          obtain ⟨as, q1, z1⟩ := key_reads (K := X.K) (H := H) (h := s.heap) (show keyIs _ _ = true from p1)
          have e := r1.1
          dsimp only at e
          rw [← e] at q1
          rw [← p2] at q2
          exact ⟨_, _, ReadsAll.cons q1 k1, ReadsAll.cons q2 k2, fun b hb => (List.mem_append.mp hb).elim (z1 b) (w1 b), fun b hb => (List.mem_append.mp hb).elim (z2 b) (w2 b)⟩
end
end

/-! ### sequences by a ledger -/
/-- x is a list of data to be read; a list or a tuple of data -/
def Ls (K : PySem.W.Frag) (L : List As) (x : V) (ds : List PyData) : Prop := ∀ T H, HsT K T H L → ∃ a xs, x = .ref a ∧ SqL K H a xs ∧ DqAll K T xs ds
def Sq (K : PySem.W.Frag) (L : List As) (x : V) (ds : List PyData) : Prop := ∀ T H, HsT K T H L → ∃ a xs, x = .ref a ∧ (SqL K H a xs ∨ SqT K H a xs) ∧ DqAll K T xs ds
section
variable {K : PySem.W.Frag} {L : List As} {x : V} {ds : List PyData} {a : Addr}
theorem Ls.own (m : As.ld a ds ∈ L) : Ls K L (.ref a) ds := fun T H h => let ⟨xs, h1, h2⟩ := h.ok _ m; ⟨a, xs, rfl, SqL.of h1, h2⟩
theorem Ls.dat (d : Dv K L x (.list ds)) : Ls K L x ds := fun T H h => by
  have q := d T H h
  cases q with
  | lst h1 h2 => exact ⟨_, _, rfl, h.sub.sqL h1, h2⟩
theorem Ls.sq (h : Ls K L x ds) : Sq K L x ds := fun T H q => let ⟨a, xs, e, h1, h2⟩ := h T H q; ⟨a, xs, e, .inl h1, h2⟩
theorem Sq.own (m : As.ld a ds ∈ L) : Sq K L (.ref a) ds := (Ls.own m).sq
theorem Sq.lis (d : Dv K L x (.list ds)) : Sq K L x ds := (Ls.dat d).sq
theorem Sq.tup (d : Dv K L x (.tuple ds)) : Sq K L x ds := fun T H h => by
  have q := d T H h
  cases q with
  | tup h1 h2 => exact ⟨_, _, rfl, .inr (SqT.of (h.sub _ _ h1)), h2⟩
end

/-! ### ways together -/
section
variable {X : Cx}
theorem CallR.or {f : Value} {r r' : List V → Hp → VK → Prop} (h : CallR X f r) (h' : CallR X f r') : CallR X f (fun xs H Q => r xs H Q ∨ r' xs H Q) := by
  intro pins s σ H xs us Q I r1 q
  rcases q with q | q
  · exact h pins s σ H xs us Q I r1 q
  · exact h' pins s σ H xs us Q I r1 q
theorem UnR.or {f : Value → Sem Value} {r r' : V → Hp → VK → Prop} (h : UnR X f r) (h' : UnR X f r') : UnR X f (fun x H Q => r x H Q ∨ r' x H Q) := by
  intro pins s σ H xs us Q I r1 q
  rcases q with q | q
  · exact h pins s σ H xs us Q I r1 q
  · exact h' pins s σ H xs us Q I r1 q
theorem PE.or {e : Expr} {t u : TE} (h : PE X e t) (h' : PE X e u) : PE X e (fun σ H Q => t σ H Q ∨ u σ H Q) := ⟨fun pins s σ H Q I q => q.elim (h.run pins s σ H Q I) (h'.run pins s σ H Q I)⟩
theorem PT.or {e : Expr} {t u : TT} (h : PT X e t) (h' : PT X e u) : PT X e (fun σ H Q => t σ H Q ∨ u σ H Q) := ⟨fun pins s σ H Q I q => q.elim (h.run pins s σ H Q I) (h'.run pins s σ H Q I)⟩
theorem PS.or {e : Stmt} {t u : TS} (h : PS X e t) (h' : PS X e u) : PS X e (fun D σ H => t D σ H ∨ u D σ H) := ⟨fun pins s σ H D I q => q.elim (h.run pins s σ H D I) (h'.run pins s σ H D I)⟩
theorem PI.or {tg e : Expr} {t u : TI} (h : PI X tg e t) (h' : PI X tg e u) : PI X tg e (fun σ H R => t σ H R ∨ u σ H R) := ⟨fun pins s σ H R I q => q.elim (h.run pins s σ H R I) (h'.run pins s σ H R I)⟩
end
section
variable {K : PySem.W.Frag} {σ : L2.St} {L L' : List As} {Q : LK} {ta tb tc te : TE} {t u : TT} {x y v : V} {r r' : R2} {a : Addr} {ds : List PyData} {d : PyData}
theorem W2.fst (h : W2 K r x y L Q) : W2 K (fun x y H Q => r x y H Q ∨ r' x y H Q) x y L Q := fun H hs Q0 u => .inl (h H hs Q0 u)
theorem W2.snd (h : W2 K r' x y L Q) : W2 K (fun x y H Q => r x y H Q ∨ r' x y H Q) x y L Q := fun H hs Q0 u => .inr (h H hs Q0 u)
theorem Wc.fst {r r' : List V → Hp → VK → Prop} {xs : List V} (h : Wc K r xs L Q) : Wc K (fun xs H Q => r xs H Q ∨ r' xs H Q) xs L Q := fun H hs Q0 u => .inl (h H hs Q0 u)
theorem Wc.snd {r r' : List V → Hp → VK → Prop} {xs : List V} (h : Wc K r' xs L Q) : Wc K (fun xs H Q => r xs H Q ∨ r' xs H Q) xs L Q := fun H hs Q0 u => .inr (h H hs Q0 u)
theorem Wp.fst {t u : TE} (h : Wp K t σ L Q) : Wp K (fun σ H Q => t σ H Q ∨ u σ H Q) σ L Q := fun H hs Q0 up => .inl (h H hs Q0 up)
theorem Wp.snd {t u : TE} (h : Wp K u σ L Q) : Wp K (fun σ H Q => t σ H Q ∨ u σ H Q) σ L Q := fun H hs Q0 up => .inr (h H hs Q0 up)
theorem Ws.fst {t u : TS} {D : LE} (h : Ws K t D σ L) : Ws K (fun D σ H => t D σ H ∨ u D σ H) D σ L := fun H hs Q0 up => .inl (h H hs Q0 up)
theorem Ws.snd {t u : TS} {D : LE} (h : Ws K u D σ L) : Ws K (fun D σ H => t D σ H ∨ u D σ H) D σ L := fun H hs Q0 up => .inr (h H hs Q0 up)
theorem Wm.fst {r r' : V → List V → Hp → VK → Prop} {xs : List V} (h : Wm K r x xs L Q) : Wm K (fun x xs H Q => r x xs H Q ∨ r' x xs H Q) x xs L Q := fun H hs Q0 u => .inl (h H hs Q0 u)
theorem Wm.snd {r r' : V → List V → Hp → VK → Prop} {xs : List V} (h : Wm K r' x xs L Q) : Wm K (fun x xs H Q => r x xs H Q ∨ r' x xs H Q) x xs L Q := fun H hs Q0 u => .inr (h H hs Q0 u)

/-! ### operators -/
theorem w2_I0 {g : Int → Int → V} {i j : Int} (q : Q (g i j) L) : W2 K (rI0 g) (.int i) (.int j) L Q := fun H hs Q0 u => ⟨i, j, rfl, rfl, u _ H L hs q⟩
theorem w2_I {C : Int → Int → Prop} {g : Int → Int → V} {i j : Int} (c : C i j) (q : Q (g i j) L) : W2 K (rI C g) (.int i) (.int j) L Q := fun H hs Q0 u => ⟨i, j, rfl, rfl, c, u _ H L hs q⟩
theorem w1_U {g : Int → V} {i : Int} (q : Q (g i) L) : W1 K (rU g) (.int i) L Q := fun H hs Q0 u => ⟨i, rfl, u _ H L hs q⟩
theorem w2_eq (h : scal x y = true) (q : Q (.bl (decide (x = y))) L) : W2 K rEq x y L Q := fun H hs Q0 u => ⟨h, u _ H L hs q⟩
theorem w2_ne (h : scal x y = true) (q : Q (.bl (!decide (x = y))) L) : W2 K rNe x y L Q := fun H hs Q0 u => ⟨h, u _ H L hs q⟩
theorem w2_eqI {i j : Int} (q : Q (.bl (decide (i = j))) L) : W2 K rEq (.int i) (.int j) L Q := w2_eq rfl (by
  rw [show decide (V.int i = V.int j) = decide (i = j) by rw [dec_int, Bool.beq_eq_decide_eq]]; exact q)
theorem w2_neI {i j : Int} (q : Q (.bl (!decide (i = j))) L) : W2 K rNe (.int i) (.int j) L Q := w2_ne rfl (by
  rw [show decide (V.int i = V.int j) = decide (i = j) by rw [dec_int, Bool.beq_eq_decide_eq]]; exact q)
theorem w2_isN (q : Q (.bl (decide (x = .non))) L) : W2 K rIsN x .non L Q := fun H hs Q0 u => ⟨rfl, u _ H L hs q⟩
theorem w2_notN (q : Q (.bl (!decide (x = .non))) L) : W2 K rNotN x .non L Q := fun H hs Q0 u => ⟨rfl, u _ H L hs q⟩
/-- == of data -/
def rEqQ (K : PySem.W.Frag) : R2 := fun x y H Q => ∃ d e, Dq K H x d ∧ Dq K H y e ∧ SeqAt.shaped d = true ∧ SeqAt.shaped e = true ∧ Q (.bl (PyData.eqv d e)) H
def rNeQ (K : PySem.W.Frag) : R2 := fun x y H Q => ∃ d e, Dq K H x d ∧ Dq K H y e ∧ SeqAt.shaped d = true ∧ SeqAt.shaped e = true ∧ Q (.bl (!PyData.eqv d e)) H
theorem op_eqQ {X : Cx} (hu : X.A.units + 64 < cLine) : OpR X (compareOp .Eq) (rEqQ X.K) := by
  intro pins s σ H x y v u Q I rx ry h
  obtain ⟨d, e, hd, he, sd, se, q⟩ := h
  obtain ⟨as, r1, _⟩ := Dq.reads I d x v hd rx
  obtain ⟨bs, r2, _⟩ := Dq.reads I e y u he ry
  exact SeqAt.compareEq_shaped r1 r2 sd se hu ⟨.bl _, H, I, rfl, q⟩
theorem op_neQ {X : Cx} (hu : X.A.units + 64 < cLine) : OpR X (compareOp .NotEq) (rNeQ X.K) := by
  intro pins s σ H x y v u Q I rx ry h
  obtain ⟨d, e, hd, he, sd, se, q⟩ := h
  obtain ⟨as, r1, _⟩ := Dq.reads I d x v hd rx
  obtain ⟨bs, r2, _⟩ := Dq.reads I e y u he ry
  exact SeqAt.compareNe_shaped r1 r2 sd se hu ⟨.bl _, H, I, rfl, q⟩
/-- a value that is a datum for the moment: also a list of one's own -/
def Dn (K : PySem.W.Frag) (L : List As) (v : V) (d : PyData) : Prop := ∀ T H, HsT K T H L → Dq K H v d
theorem Dn.dat (h : Dv K L v d) : Dn K L v d := fun T H q => q.sub.dp _ _ (h T H q)
theorem Dn.own (m : As.ld a ds ∈ L) : Dn K L (.ref a) (.list ds) := fun T H h => let ⟨xs, h1, h2⟩ := h.ok _ m; .lst (SqL.of h1) (h.sub.dps _ _ h2)
theorem w2_eqQ {e : PyData} (hd : Dn K L x d) (he : Dn K L y e) (sd : SeqAt.shaped d = true) (se : SeqAt.shaped e = true) (q : Q (.bl (PyData.eqv d e)) L) : W2 K (rEqQ K) x y L Q := fun H hs Q0 u => by
  obtain ⟨T, h⟩ := id hs
  exact ⟨d, e, hd T H h, he T H h, sd, se, u _ H L hs q⟩
theorem w2_neQ {e : PyData} (hd : Dn K L x d) (he : Dn K L y e) (sd : SeqAt.shaped d = true) (se : SeqAt.shaped e = true) (q : Q (.bl (!PyData.eqv d e)) L) : W2 K (rNeQ K) x y L Q := fun H hs Q0 u => by
  obtain ⟨T, h⟩ := id hs
  exact ⟨d, e, hd T H h, he T H h, sd, se, u _ H L hs q⟩
/-- in, not in a list of data -/
def rInQ (K : PySem.W.Frag) : R2 := fun x y H Q => ∃ d ds, Dq K H x d ∧ Dq K H y (.list ds) ∧ SeqAt.shaped d = true ∧ SeqAt.shaped (.list ds) = true ∧ Q (.bl (ds.any fun z => PyData.eqv z d)) H
def rNotInQ (K : PySem.W.Frag) : R2 := fun x y H Q => ∃ d ds, Dq K H x d ∧ Dq K H y (.list ds) ∧ SeqAt.shaped d = true ∧ SeqAt.shaped (.list ds) = true ∧ Q (.bl (!ds.any fun z => PyData.eqv z d)) H
theorem op_inQ {X : Cx} (hu : X.A.units + 65 < cLine) : OpR X (compareOp .In) (rInQ X.K) := by
  intro pins s σ H x y v u Q I rx ry h
  obtain ⟨d, ds, hd, he, sd, se, q⟩ := h
  obtain ⟨as, r1, _⟩ := Dq.reads I d x v hd rx
  obtain ⟨bs, r2, _⟩ := Dq.reads I (.list ds) y u he ry
  exact SeqAt.in_list_reads r2 r1 (SeqAt.canLay_of_shaped se) (SeqAt.canLay_of_shaped sd) (room_in_shaped sd hu) ⟨.bl _, H, I, rfl, q⟩
theorem op_notInQ {X : Cx} (hu : X.A.units + 65 < cLine) : OpR X (compareOp .NotIn) (rNotInQ X.K) := by
  intro pins s σ H x y v u Q I rx ry h
  obtain ⟨d, ds, hd, he, sd, se, q⟩ := h
  obtain ⟨as, r1, _⟩ := Dq.reads I d x v hd rx
  obtain ⟨bs, r2, _⟩ := Dq.reads I (.list ds) y u he ry
  exact SeqAt.notIn_list_reads r2 r1 (SeqAt.canLay_of_shaped se) (SeqAt.canLay_of_shaped sd) (room_in_shaped sd hu) ⟨.bl _, H, I, rfl, q⟩
theorem w2_inQ (hd : Dn K L x d) (he : Dn K L y (.list ds)) (sd : SeqAt.shaped d = true) (se : SeqAt.shaped (.list ds) = true) (q : Q (.bl (ds.any fun z => PyData.eqv z d)) L) : W2 K (rInQ K) x y L Q := fun H hs Q0 u => by
  obtain ⟨T, h⟩ := id hs
  exact ⟨d, ds, hd T H h, he T H h, sd, se, u _ H L hs q⟩
theorem w2_notInQ (hd : Dn K L x d) (he : Dn K L y (.list ds)) (sd : SeqAt.shaped d = true) (se : SeqAt.shaped (.list ds) = true) (q : Q (.bl (!ds.any fun z => PyData.eqv z d)) L) : W2 K (rNotInQ K) x y L Q := fun H hs Q0 u => by
  obtain ⟨T, h⟩ := id hs
  exact ⟨d, ds, hd T H h, he T H h, sd, se, u _ H L hs q⟩

/-! ### subscripts and slices -/
theorem dps_atI {T : Hp} {K : PySem.W.Frag} {xs : List V} {i : Int} (h : DqAll K T xs ds) (e : atI ds i = some d) : ∃ v, atI xs i = some v ∧ Dq K T v d := by
  unfold atI at e ⊢
  rw [dps_len h]
  cases q : ixN ds.length i with
  | none => rw [q] at e; cases e
  | some j =>
    rw [q] at e
    exact dps_get h e
theorem w2_ix {i : Int} (h : Sq K L x ds) (e : atI ds i = some d) (q : ∀ v, Q v (.da v d :: L)) : W2 K (rIx K) x (.int i) L Q := fun H hs Q0 u => by
  obtain ⟨T, ht⟩ := id hs
  obtain ⟨a, xs, rfl, hq, hd⟩ := h T H ht
  obtain ⟨v, e1, e2⟩ := dps_atI hd e
  have z := u v H _ ⟨T, ht.cons e2⟩ (q v)
  rcases hq with hq | hq
  · exact .inl ⟨a, xs, i, v, rfl, rfl, hq, e1, z⟩
  · exact .inr (.inl ⟨a, xs, i, v, rfl, rfl, hq, e1, z⟩)
theorem w2_ixI {i n : Int} (h : Sq K L x ds) (e : atI ds i = some (.int n)) (q : Q (.int n) L) : W2 K (rIx K) x (.int i) L Q := fun H hs Q0 u => by
  obtain ⟨T, ht⟩ := id hs
  obtain ⟨a, xs, rfl, hq, hd⟩ := h T H ht
  obtain ⟨v, e1, e2⟩ := dps_atI hd e
  cases dp_int e2
  have z := u _ H _ hs q
  rcases hq with hq | hq
  · exact .inl ⟨a, xs, i, _, rfl, rfl, hq, e1, z⟩
  · exact .inr (.inl ⟨a, xs, i, _, rfl, rfl, hq, e1, z⟩)
/-- of a raw list, a raw tuple of one's own -/
theorem w2_ixP {i : Int} {xs : List V} (m : As.pt a (.lst xs) ∈ L) (e : atI xs i = some v) (q : Q v L) : W2 K (rIx K) (.ref a) (.int i) L Q := fun H hs Q0 u => by
  obtain ⟨T, ht⟩ := id hs
  exact .inl ⟨a, xs, i, v, rfl, rfl, SqL.of (ht.ok _ m), e, u _ H L hs q⟩
theorem w2_ixPT {i : Int} {xs : List V} (m : As.pt a (.tup xs) ∈ L) (e : atI xs i = some v) (q : Q v L) : W2 K (rIx K) (.ref a) (.int i) L Q := fun H hs Q0 u => by
  obtain ⟨T, ht⟩ := id hs
  exact .inr (.inl ⟨a, xs, i, v, rfl, rfl, SqT.of (ht.ok _ m), e, u _ H L hs q⟩)
def cutD (ds : List PyData) (lo hi : Option Int) : List PyData := (ds.drop (HT.sIx ds.length 0 lo)).take (HT.sIx ds.length ds.length hi - HT.sIx ds.length 0 lo)
theorem dps_cut {T : Hp} {K : PySem.W.Frag} {xs : List V} (lo hi : Option Int) (h : DqAll K T xs ds) : DqAll K T (cutV xs lo hi) (cutD ds lo hi) := by
  unfold cutV cutD
  rw [dps_len h]
  exact dps_take _ (dps_drop _ h)
theorem wo_none {Q : Option Int → List As → Prop} (q : Q none L) : Wo K tNoPart σ L Q := fun H hs Q0 u => u _ H L hs q
theorem wo_some {Q : Option Int → List As → Prop} (h : Wp K te σ L fun x L1 => ∃ i, x = .int i ∧ Q (some i) L1) : Wo K (tPart te) σ L Q := fun H hs Q0 u =>
  h H hs _ fun x H1 L1 h1 ⟨i, e, q⟩ => ⟨i, e, u _ H1 L1 h1 q⟩
theorem wp_sl {r : V → Option Int → Option Int → Hp → VK → Prop} {tl th : TO} (h : Wp K te σ L fun x L1 => Wo K tl σ L1 fun l L2 => Wo K th σ L2 fun u L3 => Wsl K r x l u L3 Q) : Wp K (tSl r te tl th) σ L Q := fun H hs Q0 u =>
  h H hs _ fun x H1 L1 h1 q => q H1 h1 _ fun l H2 L2 h2 q2 => q2 H2 h2 _ fun w H3 L3 h3 q3 => q3 H3 h3 Q0 u
theorem wsl_list {lo hi : Option Int} (h : Ls K L x ds) (q : ∀ p, Q (.ref p) (.ld p (cutD ds lo hi) :: L)) : Wsl K (rSlL K) x lo hi L Q := fun H hs Q0 u => by
  obtain ⟨T, ht⟩ := id hs
  obtain ⟨a, xs, rfl, hq, hd⟩ := h T H ht
  exact ⟨a, xs, rfl, hq, fun p hp => u _ _ _ ⟨T, ht.lay (x := .ld p (cutD ds lo hi)) hp rfl ⟨_, upd_same, dps_cut lo hi hd⟩⟩ (q p)⟩
theorem cut_all {T : Hp} {K : PySem.W.Frag} {xs : List V} {lo hi : Option Int} (e : HT.sIx ds.length 0 lo = 0 ∧ HT.sIx ds.length ds.length hi = ds.length) : cutD ds lo hi = ds := by
  unfold cutD
  rw [e.1, e.2, List.drop_zero, Nat.sub_zero, List.take_length]
theorem wsl_tup {lo hi : Option Int} (h : Dv K L x (.tuple ds)) (q : ∀ v, Q v (.da v (.tuple (cutD ds lo hi)) :: L)) : Wsl K (rSlA K) x lo hi L Q := fun H hs Q0 u => by
  obtain ⟨T, ht⟩ := id hs
  have hq := h T H ht
  cases hq with
  | tup ha hd =>
    rename_i a xs
    refine ⟨a, xs, rfl, SqT.of (ht.sub _ _ ha), fun e => ?_, fun e p hp => ?_⟩
    · rw [dps_len hd] at e
      refine u _ H _ ⟨T, ht.cons ?_⟩ (q _)
      rw [cut_all (K := K) (T := T) (xs := xs) e]
      exact .tup ha hd
    · exact u _ _ _ ⟨_, ht.layD hp (.tup upd_same ((Sub.new (ht.sub.non hp)).dps _ _ (dps_cut lo hi hd)))⟩ (q _)
/-- tuples put together; lists; a list repeated -/
theorem w2_catA {es : List PyData} (h : Dv K L x (.tuple ds)) (h' : Dv K L y (.tuple es)) (hl : ds.length + es.length ≤ sizeLine) (q : ∀ v, Q v (.da v (.tuple (ds ++ es)) :: L)) : W2 K (rCatA K) x y L Q := fun H hs Q0 u => by
  obtain ⟨T, ht⟩ := id hs
  have h1 := h T H ht
  have h2 := h' T H ht
  cases h1 with
  | tup ha hd =>
    cases h2 with
    | tup hb he =>
      rename_i a xs b ys
      have l1 := dps_len hd
      have l2 := dps_len he
      refine ⟨a, b, xs, ys, rfl, rfl, SqT.of (ht.sub _ _ ha), SqT.of (ht.sub _ _ hb), by omega, fun e => ?_, fun e e' => ?_, fun e e' p hp => ?_⟩
      · subst e
        cases hd
        exact u _ H _ ⟨T, ht.cons (.tup hb he)⟩ (q _)
      · subst e'
        cases he
        refine u _ H _ ⟨T, ht.cons ?_⟩ (q _)
        rw [List.append_nil]
        exact .tup ha hd
      · exact u _ _ _ ⟨_, ht.layD hp (.tup upd_same ((Sub.new (ht.sub.non hp)).dps _ _ (dps_app hd he)))⟩ (q _)
theorem w2_cat {b : Addr} {es : List PyData} (m : As.ld a ds ∈ L) (m' : As.ld b es ∈ L) (hl : ds.length + es.length ≤ sizeLine) (q : ∀ p, Q (.ref p) (.ld p (ds ++ es) :: L)) : W2 K rCat (.ref a) (.ref b) L Q := fun H hs Q0 u => by
  obtain ⟨T, ht⟩ := id hs
  obtain ⟨xs, h1, h2⟩ := ht.ok _ m
  obtain ⟨ys, k1, k2⟩ := ht.ok _ m'
  have l1 := dps_len h2
  have l2 := dps_len k2
  exact ⟨a, b, xs, ys, rfl, rfl, h1, k1, by omega, fun p hp => u _ _ _ ⟨T, ht.lay (x := .ld p (ds ++ es)) hp rfl ⟨_, upd_same, dps_app h2 k2⟩⟩ (q p)⟩
theorem dps_rep {T : Hp} {K : PySem.W.Frag} {xs : List V} (h : DqAll K T xs ds) : ∀ n : Nat, DqAll K T (List.replicate n xs).flatten (List.replicate n ds).flatten
  | 0 => .nil
  | n + 1 => by rw [List.replicate_succ, List.replicate_succ, List.flatten_cons, List.flatten_cons]; exact dps_app h (dps_rep h n)
theorem w2_rep {k : Int} (m : As.ld a ds ∈ L) (h1 : -(2 ^ 63) ≤ k) (h2 : k < 2 ^ 63) (hl : ds.length * k.toNat ≤ sizeLine) (q : ∀ p, Q (.ref p) (.ld p (List.replicate k.toNat ds).flatten :: L)) : W2 K rRep (.ref a) (.int k) L Q := fun H hs Q0 u => by
  obtain ⟨T, ht⟩ := id hs
  obtain ⟨xs, e1, e2⟩ := ht.ok _ m
  have l1 := dps_len e2
  exact ⟨a, k, xs, rfl, rfl, e1, h1, h2, by rw [l1]; exact hl, fun p hp => u _ _ _ ⟨T, ht.lay (x := .ld p (List.replicate k.toNat ds).flatten) hp rfl ⟨_, upd_same, dps_rep e2 _⟩⟩ (q p)⟩
end
end Lg
/-! Weakest preconditions over ledgers: what is read, loops, comprehensions, built-ins. -/
namespace Lg
open PySem PySem.Spec PyProof.Rows L2

/-! ### a datum that is read -/
def imm : PyData → Option V
  | .none => some .non
  | .bool b => some (.bl b)
  | .int i => some (.int i)
  | .str x => some (.str x)
  | _ => none
/-- the value v of the datum d came to hand: the ledger behind it -/
def OutD (d : PyData) (v : V) (L L' : List As) : Prop :=
  match d with
  | .none => v = .non ∧ L' = L
  | .bool b => v = .bl b ∧ L' = L
  | .int i => v = .int i ∧ L' = L
  | .str x => v = .str x ∧ L' = L
  | .list _ => L' = .da v d :: L
  | .tuple _ => L' = .da v d :: L
  | .dict _ => L' = .da v d :: L
theorem out_hs {K : PySem.W.Frag} {T H : Hp} {L : List As} {v : V} {d : PyData} (h : HsT K T H L) (q : Dq K T v d) : ∃ L', OutD d v L L' ∧ HsT K T H L' := by
  cases d with
  | none => cases q; exact ⟨L, ⟨rfl, rfl⟩, h⟩
  | bool b => cases q; exact ⟨L, ⟨rfl, rfl⟩, h⟩
  | int b => cases q; exact ⟨L, ⟨rfl, rfl⟩, h⟩
  | str b => cases q; exact ⟨L, ⟨rfl, rfl⟩, h⟩
  | list b => exact ⟨_, rfl, h.cons q⟩
  | tuple b => exact ⟨_, rfl, h.cons q⟩
  | dict b => exact ⟨_, rfl, h.cons q⟩
/-- what is known of it -/
theorem OutD.dv {K : PySem.W.Frag} {d : PyData} {v : V} {L L' : List As} (h : OutD d v L L') : Dv K L' v d := by
  cases d with
  | none => obtain ⟨rfl, rfl⟩ := h; exact Dv.non
  | bool b => obtain ⟨rfl, rfl⟩ := h; exact Dv.bl
  | int b => obtain ⟨rfl, rfl⟩ := h; exact Dv.int
  | str b => obtain ⟨rfl, rfl⟩ := h; exact Dv.str
  | list b => cases h; exact Dv.mem (.head _)
  | tuple b => cases h; exact Dv.mem (.head _)
  | dict b => cases h; exact Dv.mem (.head _)
theorem OutD.ent {K : PySem.W.Frag} {d : PyData} {v : V} {L L' : List As} (h : OutD d v L L') : Ent K L' L := by
  cases d with
  | none => obtain ⟨rfl, rfl⟩ := h; exact Ent.refl
  | bool b => obtain ⟨rfl, rfl⟩ := h; exact Ent.refl
  | int b => obtain ⟨rfl, rfl⟩ := h; exact Ent.refl
  | str b => obtain ⟨rfl, rfl⟩ := h; exact Ent.refl
  | list b => cases h; exact Ent.drop Ent.refl
  | tuple b => cases h; exact Ent.drop Ent.refl
  | dict b => cases h; exact Ent.drop Ent.refl
theorem OutD.mem {d : PyData} {v : V} {L L' : List As} {x : As} (h : OutD d v L L') (m : x ∈ L) : x ∈ L' := by
  cases d with
  | none => obtain ⟨rfl, rfl⟩ := h; exact m
  | bool b => obtain ⟨rfl, rfl⟩ := h; exact m
  | int b => obtain ⟨rfl, rfl⟩ := h; exact m
  | str b => obtain ⟨rfl, rfl⟩ := h; exact m
  | list b => cases h; exact .tail _ m
  | tuple b => cases h; exact .tail _ m
  | dict b => cases h; exact .tail _ m
theorem Ent.dv {K : PySem.W.Frag} {L L' : List As} {v : V} {d : PyData} (e : Ent K L' L) (h : Dv K L v d) : Dv K L' v d := fun T H q => h T H (e T H q)

section
variable {K : PySem.W.Frag} {σ : L2.St} {L L' : List As} {Q : LK} {ta tb tc te : TE} {t u : TT} {x y v : V} {r r' : R2} {a : Addr} {ds : List PyData} {d : PyData}
theorem w2_at {i : Int} (h : Sq K L x ds) (e : atI ds i = some d) (q : ∀ v L', OutD d v L L' → Q v L') : W2 K (rIx K) x (.int i) L Q := fun H hs Q0 u => by
  obtain ⟨T, ht⟩ := id hs
  obtain ⟨a, xs, rfl, hq, hd⟩ := h T H ht
  obtain ⟨v, e1, e2⟩ := dps_atI hd e
  obtain ⟨L', o, h'⟩ := out_hs ht e2
  have z := u v H _ ⟨T, h'⟩ (q v L' o)
  rcases hq with hq | hq
  · exact .inl ⟨a, xs, i, v, rfl, rfl, hq, e1, z⟩
  · exact .inr (.inl ⟨a, xs, i, v, rfl, rfl, hq, e1, z⟩)

/-! ### walks -/
structure JOk (K : PySem.W.Frag) (J : It) (n : Nat) (Z : List As → Prop) (Y : Nat → V → List As → List As → Prop) : Prop where
  go : ∀ i H L, Hs K H L → Z L → i < n → J.go i H
  stop : ∀ i H L, Hs K H L → Z L → n ≤ i → J.stop i H
  yld : ∀ i H L v H', Hs K H L → Z L → i < n → J.yld i H v H' → ∃ L', Hs K H' L' ∧ Y i v L L'
abbrev QI := List As → Nat → (List As → Prop) → (Nat → V → List As → List As → Prop) → Prop
def Wi (K : PySem.W.Frag) (wi : TI) (σ : L2.St) (L : List As) (Q : QI) : Prop :=
  ∀ H, Hs K H L → ∀ R : It → Hp → Prop, (∀ J H1 L1 n Z Y, Hs K H1 L1 → JOk K J n Z Y → Q L1 n Z Y → R J H1) → wi σ H R
theorem ws_for {wi : TI} {g : TG} {tb : TS} {D : LE} (h : Wi K wi σ L fun L1 n Z Y => ∃ Pv : Nat → L2.St → List As → Prop, Pv 0 σ L1 ∧ (∀ i σ L, i ≤ n → Pv i σ L → Z L) ∧
    (∀ i σ L v L', i < n → Pv i σ L → Y i v L L' → Wg K g v σ L' fun σ2 L2 => Ws K tb { D with nx := fun σ L => ∃ L', Ent K L L' ∧ Pv (i + 1) σ L', ct := fun σ L => ∃ L', Ent K L L' ∧ Pv (i + 1) σ L', bk := D.nx } σ2 L2) ∧
    (∀ σ L, Pv n σ L → D.nx σ L)) : Ws K (tFor wi g tb) D σ L := fun H hs D0 le => by
  refine h H hs _ fun J H1 L1 n Z Y h1 jo ⟨Pv, p0, pz, ps, pe⟩ => ?_
  refine ⟨fun i m σ H => m = n - i ∧ i ≤ n ∧ ∃ L, Hs K H L ∧ Pv i σ L, ⟨n, by simp, Nat.zero_le _, L1, h1, p0⟩, ?_⟩
  rintro i m σ H ⟨rfl, hi, L, hl, p⟩
  by_cases hlt : i < n
  · refine .inr ⟨jo.go i H L hl (pz i σ L hi p) hlt, fun σ' H' => ∃ L, Hs K H' L ∧ Pv (i + 1) σ' L, fun σ' H' ⟨L', h', p'⟩ => ⟨n - (i + 1), by omega, rfl, hlt, L', h', p'⟩, fun x H' y => ?_⟩
    obtain ⟨L', h', y'⟩ := jo.yld i H L x H' hl (pz i σ L hi p) hlt y
    refine ps i σ L x L' hlt p y' H' h' _ fun σ2 H2 L2 h2 q => ?_
    exact q H2 h2 _ ⟨fun σ H L h ⟨L', e, q⟩ => ⟨L', e.hs h, q⟩, le.rt, le.nx, fun σ H L h ⟨L', e, q⟩ => ⟨L', e.hs h, q⟩⟩
  · have e : i = n := by omega
    subst e
    exact .inl ⟨jo.stop i H L hl (pz i σ L hi p) (Nat.le_refl _), le.nx _ _ _ hl (pe σ L p)⟩
/-- over a list of data; a tuple of data -/
def YD (ds : List PyData) : Nat → V → List As → List As → Prop := fun i v L L' => ∃ d, ds[i]? = some d ∧ OutD d v L L'
theorem wi_list {tl : TE} {Q : QI} (h : Wp K tl σ L fun x L1 => ∃ ds, Ls K L1 x ds ∧ Q L1 ds.length (fun L => Ls K L x ds) (YD ds)) : Wi K (iList K tl) σ L Q := fun H hs R up => by
  refine h H hs _ fun x H1 L1 h1 ⟨ds, hd, q⟩ => ?_
  obtain ⟨T, ht⟩ := id h1
  obtain ⟨a, xs, rfl, hq, _⟩ := hd T H1 ht
  refine ⟨a, rfl, ⟨xs, hq⟩, up _ H1 L1 _ _ _ h1 ⟨fun i H L hl z hi => ?_, fun i H L hl z hi => ?_, fun i H L v H' hl z hi y => ?_⟩ q⟩
  · obtain ⟨T, ht⟩ := hl
    obtain ⟨a', xs, e, hq, hds⟩ := z T H ht
    cases e
    have l := dps_len hds
    exact ⟨xs, xs[i]'(by omega), hq, by simp [show i < xs.length by omega]⟩
  · obtain ⟨T, ht⟩ := hl
    obtain ⟨a', xs, e, hq, hds⟩ := z T H ht
    cases e
    have l := dps_len hds
    exact ⟨xs, hq, by omega⟩
  · obtain ⟨T, ht⟩ := id hl
    obtain ⟨a', xs, e, hq, hds⟩ := z T H ht
    cases e
    obtain ⟨e, y⟩ := y
    subst e
    have g := y xs hq
    obtain ⟨d, e1, e2⟩ := dps_at hds g
    obtain ⟨L', o, h'⟩ := out_hs ht e2
    exact ⟨L', ⟨T, h'⟩, d, e1, o⟩
theorem wi_tup {tl : TE} {Q : QI} (h : Wp K tl σ L fun x L1 => ∃ ds, Dv K L1 x (.tuple ds) ∧ Q L1 ds.length (fun L => Dv K L x (.tuple ds)) (YD ds)) : Wi K (iTup K tl) σ L Q := fun H hs R up => by
  refine h H hs _ fun x H1 L1 h1 ⟨ds, hd, q⟩ => ?_
  obtain ⟨T, ht⟩ := id h1
  have hq := hd T H1 ht
  cases hq with
  | @tup a xs _ ha hds =>
    refine ⟨a, rfl, ⟨xs, SqT.of (ht.sub _ _ ha)⟩, up _ H1 L1 _ _ _ h1 ⟨fun i H L hl z hi => ?_, fun i H L hl z hi => ?_, fun i H L v H' hl z hi y => ?_⟩ q⟩
    · obtain ⟨T, ht⟩ := hl
      cases z T H ht with
      | @tup b ys _ hb he =>
        have l := dps_len he
        exact ⟨ys, ys[i]'(by omega), SqT.of (ht.sub _ _ hb), by simp [show i < ys.length by omega]⟩
    · obtain ⟨T, ht⟩ := hl
      cases z T H ht with
      | @tup b ys _ hb he =>
        have l := dps_len he
        exact ⟨ys, SqT.of (ht.sub _ _ hb), by omega⟩
    · obtain ⟨T, ht⟩ := id hl
      cases z T H ht with
      | @tup b ys _ hb he =>
        obtain ⟨e, y⟩ := y
        subst e
        have g := y ys (SqT.of (ht.sub _ _ hb))
        obtain ⟨d, e1, e2⟩ := dps_at he g
        obtain ⟨L', o, h'⟩ := out_hs ht e2
        exact ⟨L', ⟨T, h'⟩, d, e1, o⟩
def YR (lo : Int) : Nat → V → List As → List As → Prop := fun i v L L' => v = .int (lo + i) ∧ L' = L
theorem jok_range {lo : Int} {n : Nat} : JOk K (Itr lo n) n (fun _ => True) (YR lo) :=
  ⟨fun i H L _ _ h => h, fun i H L _ _ h => h, fun i H L v H' hl _ hi ⟨e1, e2⟩ => ⟨L, by rw [e1]; exact hl, e2, rfl⟩⟩
theorem wi_range1 {ta : TA} {Q : QI} (h : Wa K ta σ L fun vs L1 => ∃ j : Int, vs = [.int j] ∧ -(2 ^ 62) ≤ j ∧ j < 2 ^ 62 ∧ Q L1 j.toNat (fun _ => True) (YR 0)) : Wi K (iRng1 ta) σ L Q := fun H hs R up =>
  h H hs _ fun vs H1 L1 h1 ⟨j, e, b1, b2, q⟩ => ⟨j, e, b1, b2, up _ H1 L1 _ _ _ h1 jok_range q⟩
theorem wi_range2 {ta : TA} {Q : QI} (h : Wa K ta σ L fun vs L1 => ∃ i j : Int, vs = [.int i, .int j] ∧ (-(2 ^ 62) ≤ i ∧ i < 2 ^ 62 ∧ -(2 ^ 62) ≤ j ∧ j < 2 ^ 62) ∧ Q L1 (j - i).toNat (fun _ => True) (YR i)) : Wi K (iRng2 ta) σ L Q := fun H hs R up =>
  h H hs _ fun vs H1 L1 h1 ⟨i, j, e, b, q⟩ => ⟨i, j, e, b, up _ H1 L1 _ _ _ h1 jok_range q⟩
/-- zip of two lists, of two tuples: each item a new pair -/
def YZ (ds es : List PyData) : Nat → V → List As → List As → Prop := fun i v L L' => ∃ d e, ds[i]? = some d ∧ es[i]? = some e ∧ L' = .da v (.tuple [d, e]) :: L
theorem wi_zipT {ta : TA} {Q : QI} (h : Wa K ta σ L fun vs L1 => ∃ x y ds es, vs = [x, y] ∧ Dv K L1 x (.tuple ds) ∧ Dv K L1 y (.tuple es) ∧ Q L1 (min ds.length es.length) (fun L => Dv K L x (.tuple ds) ∧ Dv K L y (.tuple es)) (YZ ds es)) : Wi K (RZ.iZipA K ta) σ L Q := fun H hs R up => by
  refine h H hs _ fun vs H1 L1 h1 ⟨x, y, ds, es, e, hd, he, q⟩ => ?_
  subst e
  obtain ⟨T, ht⟩ := id h1
  cases hd T H1 ht with
  | @tup a xs _ ha hds =>
    cases he T H1 ht with
    | @tup b ys _ hb hes =>
      refine ⟨a, b, xs, ys, rfl, .inr ⟨SqT.of (ht.sub _ _ ha), SqT.of (ht.sub _ _ hb), up _ H1 L1 _ _ _ h1 ⟨fun i H L hl z hi => ?_, fun i H L hl z hi => ?_, fun i H L v H' hl z hi w => ?_⟩ q⟩⟩
      · obtain ⟨T, ht⟩ := hl
        cases z.1 T H ht with
        | @tup a xs _ ha hds =>
          cases z.2 T H ht with
          | @tup b ys _ hb hes =>
            have l1 := dps_len hds
            have l2 := dps_len hes
            exact ⟨xs, ys, xs[i]'(by omega), ys[i]'(by omega), SqT.of (ht.sub _ _ ha), SqT.of (ht.sub _ _ hb), by simp [show i < xs.length by omega], by simp [show i < ys.length by omega]⟩
      · obtain ⟨T, ht⟩ := hl
        cases z.1 T H ht with
        | @tup a xs _ ha hds =>
          cases z.2 T H ht with
          | @tup b ys _ hb hes =>
            have l1 := dps_len hds
            have l2 := dps_len hes
            exact ⟨xs, ys, SqT.of (ht.sub _ _ ha), SqT.of (ht.sub _ _ hb), by omega⟩
      · obtain ⟨T, ht⟩ := hl
        cases z.1 T H ht with
        | @tup a xs _ ha hds =>
          cases z.2 T H ht with
          | @tup b ys _ hb hes =>
            obtain ⟨P, x, y, rfl, nP, rfl, f1, f2⟩ := w
            have g1 := f1 xs (SqT.of (ht.sub _ _ ha))
            have g2 := f2 ys (SqT.of (ht.sub _ _ hb))
            obtain ⟨d, e1, e2⟩ := dps_at hds g1
            obtain ⟨e, e3, e4⟩ := dps_at hes g2
            have sn := Sub.new (o := .tup [x, y]) (ht.sub.non nP)
            exact ⟨_, ⟨_, ht.layD nP (d := .tuple [d, e]) (.tup upd_same (.cons (sn.dp _ _ e2) (.cons (sn.dp _ _ e4) .nil)))⟩, d, e, e1, e3, rfl⟩

/-! ### comprehensions -/
theorem wp_lc {wi : TI} {g : TG} {tt : TT} {vs : List Nat} (h : Wi K wi σ L fun L1 n Z Y => ∃ Pv : Nat → List PyData → List As → Prop, Pv 0 [] L1 ∧ (∀ i acc L D, i ≤ n → Pv i acc L → Z (.ld D acc :: L)) ∧
    (∀ i acc L v L' D, i < n → Pv i acc L → Y i v (.ld D acc :: L) L' → Wg K g v (wipe σ vs) L' fun σ2 L2 => wipe σ2 vs = wipe σ vs ∧ Wt K tt σ2 L2 fun b L3 =>
      if b = true then Wp K te σ2 L3 fun y L4 => ∃ d L5, Dv K L4 y d ∧ Ent K L4 (.ld D acc :: L5) ∧ acc.length < sizeLine ∧ Pv (i + 1) (acc ++ [d]) L5 else ∃ L5, Ent K L3 (.ld D acc :: L5) ∧ Pv (i + 1) acc L5) ∧
    (∀ acc L D, Pv n acc L → Q (.ref D) (.ld D acc :: L))) : Wp K (tLc wi g tt te vs) σ L Q := fun H hs Q0 up => by
  refine h H hs _ fun J H1 L1 n Z Y h1 jo ⟨Pv, p0, pz, ps, pe⟩ D hD => ?_
  obtain ⟨T1, ht1⟩ := h1
  refine ⟨fun i m H => m = n - i ∧ i ≤ n ∧ ∃ acc L, Hs K H (.ld D acc :: L) ∧ Pv i acc L, ⟨n, by simp, Nat.zero_le _, [], L1, ⟨T1, ht1.lay (x := .ld D []) hD rfl ⟨[], upd_same, .nil⟩⟩, p0⟩, ?_⟩
  rintro i m H ⟨rfl, hi, acc, L, hl, p⟩
  by_cases hlt : i < n
  · refine .inr ⟨jo.go i H _ hl (pz i acc L D hi p) hlt, fun H' => ∃ acc L, Hs K H' (.ld D acc :: L) ∧ Pv (i + 1) acc L, fun H' ⟨acc', L', h', p'⟩ => ⟨n - (i + 1), by omega, rfl, hlt, acc', L', h', p'⟩, fun x H' y => ?_⟩
    obtain ⟨L', h', y'⟩ := jo.yld i H _ x H' hl (pz i acc L D hi p) hlt y
    refine ps i acc L x L' D hlt p y' H' h' _ fun σ2 H2 L2 h2 ⟨ew, q⟩ => ⟨ew, ?_⟩
    refine q H2 h2 _ fun b H3 L3 h3 q3 => ?_
    cases b with
    | true =>
      refine q3 H3 h3 _ fun y H4 L4 h4 ⟨d, L5, hd, he, hz, hp⟩ => ?_
      obtain ⟨T, ht⟩ := h4
      have hv := hd T H4 ht
      have ht5 := he T H4 ht
      obtain ⟨xs, e1, e2⟩ := ht5.ok _ (.head _)
      have l := dps_len e2
      exact ⟨xs, e1, by omega, _, L5, ⟨T, ht5.write (y := .ld D (acc ++ [d])) rfl rfl ⟨_, upd_same, dps_app e2 (dps_one hv)⟩⟩, hp⟩
    | false =>
      obtain ⟨L5, he, hp⟩ := q3
      exact ⟨acc, L5, he.hs h3, hp⟩
  · have e : i = n := by omega
    subst e
    exact .inl ⟨jo.stop i H _ hl (pz i acc L D hi p) (Nat.le_refl _), up _ _ _ hl (pe acc L D p)⟩
end
end Lg
/-! Weakest preconditions over ledgers: dicts, methods of lists, operators of many kinds, calls. -/
namespace Lg
open PySem PySem.Spec PyProof.Rows L2

/-! ### dicts -/
section
variable {κ : Type} [DecidableEq κ] {β : Type}
def valD (kvs : List (κ × β)) (k : κ) : Option β := (kvs.find? fun kv => decide (kv.1 = k)).map (·.2)
def putD (kvs : List (κ × β)) (k : κ) (v : β) : List (κ × β) :=
  if (kvs.any fun kv => decide (kv.1 = k)) = true then kvs.map (fun kv => if kv.1 = k then (kv.1, v) else kv) else kvs ++ [(k, v)]
def dropD (kvs : List (κ × β)) (k : κ) : List (κ × β) := kvs.filter fun kv => decide (kv.1 ≠ k)
variable {K : PySem.W.Frag} {T : Hp}
theorem kd_len : ∀ {xs : List (κ × V)} {kvs : List (κ × PyData)}, KD K T xs kvs → xs.length = kvs.length := fun h => Paired.length h
theorem kd_val (k : κ) : ∀ {xs : List (κ × V)} {kvs : List (κ × PyData)}, KD K T xs kvs → (valV xs k = none ∧ valD kvs k = none) ∨ ∃ v d, valV xs k = some v ∧ valD kvs k = some d ∧ Dq K T v d
  | _, _, .nil => .inl ⟨rfl, rfl⟩
  | _, _, .cons (a := p) (b := q) ⟨e, h⟩ t => by
    by_cases hk : p.1 = k
    · refine .inr ⟨p.2, q.2, valV_pos hk, ?_, h⟩
      unfold valD
      rw [List.find?_cons_of_pos (by rw [← e]; exact decide_eq_true hk)]; rfl
    · have e2 : ∀ r : List (κ × PyData), valD (q :: r) k = valD r k := fun r => by
        unfold valD
        rw [List.find?_cons_of_neg (by rw [← e, decide_eq_false hk]; decide)]
      rw [valV_neg hk, e2]
      exact kd_val k t
theorem kd_any (k : κ) : ∀ {xs : List (κ × V)} {kvs : List (κ × PyData)}, KD K T xs kvs → (xs.any fun kv => decide (kv.1 = k)) = (kvs.any fun kv => decide (kv.1 = k))
  | _, _, .nil => rfl
  | _, _, .cons (a := p) (b := q) ⟨e, h⟩ t => by rw [List.any_cons, List.any_cons, kd_any k t, e]
theorem kd_map (k : κ) {v : V} {d : PyData} (hv : Dq K T v d) : ∀ {xs : List (κ × V)} {kvs : List (κ × PyData)}, KD K T xs kvs → KD K T (xs.map fun kv => if kv.1 = k then (kv.1, v) else kv) (kvs.map fun kv => if kv.1 = k then (kv.1, d) else kv)
  | _, _, .nil => .nil
  | _, _, .cons (a := p) (b := q) ⟨e, h⟩ t => by
    rw [List.map_cons, List.map_cons]
    refine .cons ?_ (kd_map k hv t)
    by_cases hk : p.1 = k
    · rw [if_pos hk, if_pos (e ▸ hk)]; exact ⟨e, hv⟩
    · rw [if_neg hk, if_neg (e ▸ hk)]; exact ⟨e, h⟩
theorem kd_snoc {v : V} {d : PyData} (k : κ) (hv : Dq K T v d) : ∀ {xs : List (κ × V)} {kvs : List (κ × PyData)}, KD K T xs kvs → KD K T (xs ++ [(k, v)]) (kvs ++ [(k, d)])
  | _, _, .nil => .cons ⟨rfl, hv⟩ .nil
  | _, _, .cons h t => .cons h (kd_snoc k hv t)
theorem kd_put {xs : List (κ × V)} {kvs : List (κ × PyData)} {k : κ} {v : V} {d : PyData} (h : KD K T xs kvs) (hv : Dq K T v d) : KD K T (putK xs k v) (putD kvs k d) := by
  unfold putK putD
  rw [kd_any k h]
  split
  · exact kd_map k hv h
  · exact kd_snoc k hv h
end
/-- a key as a value -/
def KeyD : List As → V → List Key → PySem.W.Frag → Prop := fun L v ks K => ∀ T H, HsT K T H L → ∃ b, v = .ref b ∧ H b = some (.tup (ks.map kV))
theorem dps_keys {K : PySem.W.Frag} {T : Hp} : ∀ {ks : List Key} {xs : List V}, DqAll K T xs (ks.map keyD) → xs = ks.map kV
  | [], _, h => by cases h; rfl
  | k :: ks, _, h => by
    cases h with
    | cons h1 h2 =>
      rw [dps_keys h2]
      cases k with
      | inl i => rw [dp_int h1]; rfl
      | inr x => rw [dp_str h1]; rfl
theorem KeyD.of {K : PySem.W.Frag} {L : List As} {v : V} {ks : List Key} (h : Dv K L v (.tuple (ks.map keyD))) : KeyD L v ks K := fun T H q => by
  have z := h T H q
  cases z with
  | @tup a xs _ ha hd => exact ⟨a, rfl, by rw [← dps_keys hd]; exact q.sub _ _ ha⟩

section
variable {K : PySem.W.Frag} {σ : L2.St} {L L' : List As} {Q : LK} {ta tb tc te td ty tv tx : TE} {t u : TT} {x y v : V} {r r' : R2} {a : Addr} {ds : List PyData} {d : PyData} {k : Key}
theorem wp_newK (q : ∀ p, Q (.ref p) (.dk p [] :: L)) : Wp K tDNewK σ L Q := fun H hs Q0 up p hp => by
  obtain ⟨T, ht⟩ := hs
  exact up _ _ _ ⟨T, ht.lay (x := .dk p []) hp rfl ⟨[], upd_same, .nil⟩⟩ (q p)
theorem wp_newKP (q : ∀ p, Q (.ref p) (.pt p (.dK []) :: L)) : Wp K tDNewK σ L Q := fun H hs Q0 up p hp => by
  obtain ⟨T, ht⟩ := hs
  exact up _ _ _ ⟨T, ht.lay (x := .pt p (.dK [])) hp rfl upd_same⟩ (q p)
theorem wp_newT (q : ∀ p, Q (.ref p) (.dt p [] :: L)) : Wp K tDNewT σ L Q := fun H hs Q0 up p hp => by
  obtain ⟨T, ht⟩ := hs
  exact up _ _ _ ⟨T, ht.lay (x := .dt p []) hp rfl ⟨[], upd_same, .nil⟩⟩ (q p)
/-- what the ledger tells of a dict at a key -/
inductive DAt (K : PySem.W.Frag) (L : List As) : Addr → V → Option PyData → Prop
  | k {a : Addr} {kvs : List (Key × PyData)} {k : Key} (m : As.dk a kvs ∈ L) : DAt K L a (kV k) (valD kvs k)
  | t {a : Addr} {kvs : List (List Key × PyData)} {k : List Key} {v : V} (m : As.dt a kvs ∈ L) (h : KeyD L v k K) : DAt K L a v (valD kvs k)
theorem DAt.get {T H : Hp} (h : DAt K L a y (some d)) (ht : HsT K T H L) : ∃ v, DGet H a y (some v) ∧ Dq K T v d := by
  generalize ho : some d = o at h
  cases h with
  | @k kvs k m =>
    obtain ⟨xs, h1, h2⟩ := ht.ok _ m
    rcases kd_val k h2 with ⟨_, e⟩ | ⟨v, d', e1, e2, e3⟩
    · rw [e] at ho; cases ho
    · rw [e2] at ho; cases ho
      exact ⟨v, by rw [← e1]; exact .k h1, e3⟩
  | @t kvs k _ m hk =>
    obtain ⟨xs, h1, h2⟩ := ht.ok _ m
    obtain ⟨b, rfl, hb⟩ := hk T H ht
    rcases kd_val k h2 with ⟨_, e⟩ | ⟨v, d', e1, e2, e3⟩
    · rw [e] at ho; cases ho
    · rw [e2] at ho; cases ho
      exact ⟨v, by rw [← e1]; exact .t h1 hb, e3⟩
theorem DAt.opt {T H : Hp} {o : Option PyData} (h : DAt K L a y o) (ht : HsT K T H L) : ∃ r, DGet H a y r ∧ ((r = none ∧ o = none) ∨ ∃ v d, r = some v ∧ o = some d ∧ Dq K T v d) := by
  cases h with
  | @k kvs k m =>
    obtain ⟨xs, h1, h2⟩ := ht.ok _ m
    refine ⟨_, .k h1, ?_⟩
    rcases kd_val k h2 with ⟨e1, e⟩ | ⟨v, d', e1, e2, e3⟩
    · exact .inl ⟨e1, e⟩
    · exact .inr ⟨v, d', e1, e2, e3⟩
  | @t kvs k _ m hk =>
    obtain ⟨xs, h1, h2⟩ := ht.ok _ m
    obtain ⟨b, rfl, hb⟩ := hk T H ht
    refine ⟨_, .t h1 hb, ?_⟩
    rcases kd_val k h2 with ⟨e1, e⟩ | ⟨v, d', e1, e2, e3⟩
    · exact .inl ⟨e1, e⟩
    · exact .inr ⟨v, d', e1, e2, e3⟩
def rIxD : R2 := fun x y H Q => ∃ a v, x = .ref a ∧ DGet H a y (some v) ∧ Q v H
theorem ix_dict {X : Cx} (hu : X.A.units + 1 < cLine) : IxR X rIxD := by
  intro value slice pins s σ H x y v u Q I rx ry h hs
  obtain ⟨a, z, rfl, g, q⟩ := h
  obtain rfl : v = Value.ref a := rx
  have hT := dict_typeIs I g
  unfold subscriptTail
  refine wpAny_bind ?_
  rw [getitemInPython_of_ne hT.not_modules]
  refine wpAny_bind (wpAny_specialOf hT PySem.F.slot_dict_getitem.lookup ?_)
  have fin : wpAny (model X.prog X.w) X.A (subscripted slice false (.ref a) u) (fun r s₃ => wpAny (model X.prog X.w) X.A (letTemporaryGo value (.ref a) r >>= fun _ => pure r) (EP X pins σ Q) X.xe s₃) X.xe s := by
    rw [hs]
    exact wpAny_operating (d_getItem hu I g ry fun w' s3 I3 rw' => wpAny_bind (wpAny_letTemporaryGo (wpAny_pure ⟨z, H, I3, rw', q⟩)))
  first
    | exact wpAny_pure (wpAny_bind fin)
    | exact wpAny_bind (wpAny_pure (wpAny_bind fin))
    | exact wpAny_bind fin
theorem w2_ixD (h : DAt K L a y (some d)) (q : ∀ v L', OutD d v L L' → Q v L') : W2 K rIxD (.ref a) y L Q := fun H hs Q0 u => by
  obtain ⟨T, ht⟩ := hs
  obtain ⟨v, g, e⟩ := h.get ht
  obtain ⟨L', o, h'⟩ := out_hs ht e
  exact ⟨a, v, rfl, g, u v H _ ⟨T, h'⟩ (q v L' o)⟩
/-- of a raw dict of one's own -/
theorem w2_ixDP {kvs : List (Key × V)} (m : As.pt a (.dK kvs) ∈ L) (e : valV kvs k = some v) (q : Q v L) : W2 K rIxD (.ref a) (kV k) L Q := fun H hs Q0 u => by
  obtain ⟨T, ht⟩ := id hs
  exact ⟨a, v, rfl, by rw [← e]; exact .k (ht.ok _ m), u v H _ hs q⟩
def rIxP (K : PySem.W.Frag) : R2 := fun x y H Q => rIx K x y H Q ∨ rIxD x y H Q
theorem ix_P {X : Cx} (hu : X.A.units + 1 < cLine) : IxR X (rIxP X.K) := ix_seq.or (ix_dict hu)
theorem ws_dput {D : LE} (h : Wp K tv σ L fun v L1 => Wp K td σ L1 fun x L2 => Wp K ty σ L2 fun y L3 =>
    (∃ a kvs k d L4, x = .ref a ∧ y = kV k ∧ kvs.length < sizeLine ∧ Dv K L3 v d ∧ Put (.dk a kvs) (.dk a (putD kvs k d)) L3 L4 ∧ D.nx σ L4) ∨
    (∃ a kvs k d L4, x = .ref a ∧ KeyD L3 y k K ∧ kvs.length < sizeLine ∧ Dv K L3 v d ∧ Put (.dt a kvs) (.dt a (putD kvs k d)) L3 L4 ∧ D.nx σ L4) ∨
    (∃ a kvs k L4, x = .ref a ∧ y = kV k ∧ kvs.length < sizeLine ∧ Put (.pt a (.dK kvs)) (.pt a (.dK (putK kvs k v))) L3 L4 ∧ D.nx σ L4)) : Ws K (sDPut td ty tv) D σ L := fun H hs D0 le =>
  h H hs _ fun v H1 L1 h1 q => q H1 h1 _ fun x H2 L2 h2 q2 => q2 H2 h2 _ fun y H3 L3 h3 q3 => by
    obtain ⟨T, ht⟩ := h3
    rcases q3 with ⟨a, kvs, k, d, L4, rfl, rfl, hl, hd, hp, q⟩ | ⟨a, kvs, k, d, L4, rfl, hk, hl, hd, hp, q⟩ | ⟨a, kvs, k, L4, rfl, rfl, hl, hp, q⟩
    · obtain ⟨xs, e1, e2⟩ := ht.ok _ hp.mem
      obtain ⟨R, p1, p2⟩ := hp.split
      refine ⟨a, _, rfl, .k e1 (by rw [kd_len e2]; exact hl), le.nx _ _ _ ⟨T, ((ht.perm p1).write (y := .dk a (putD kvs k d)) rfl rfl ⟨_, upd_same, kd_put e2 (hd T H3 ht)⟩).perm p2⟩ q⟩
    · obtain ⟨xs, e1, e2⟩ := ht.ok _ hp.mem
      obtain ⟨b, rfl, hb⟩ := hk T H3 ht
      obtain ⟨R, p1, p2⟩ := hp.split
      refine ⟨a, _, rfl, .t e1 hb (by rw [kd_len e2]; exact hl), le.nx _ _ _ ⟨T, ((ht.perm p1).write (y := .dt a (putD kvs k d)) rfl rfl ⟨_, upd_same, kd_put e2 (hd T H3 ht)⟩).perm p2⟩ q⟩
    · have e1 : H3 a = some (.dK kvs) := ht.ok _ hp.mem
      obtain ⟨R, p1, p2⟩ := hp.split
      exact ⟨a, _, rfl, .k e1 hl, le.nx _ _ _ ⟨T, ((ht.perm p1).write (y := .pt a (.dK (putK kvs k v))) rfl rfl upd_same).perm p2⟩ q⟩
/-- in, not in a dict -/
def rInDc : R2 := fun y x H Q => ∃ a o, x = .ref a ∧ DGet H a y o ∧ Q (.bl o.isSome) H
def rNotInDc : R2 := fun y x H Q => ∃ a o, x = .ref a ∧ DGet H a y o ∧ Q (.bl (!o.isSome)) H
theorem op_inDc {X : Cx} (hu : X.A.units + 1 < cLine) : OpR X (compareOp .In) rInDc := by
  intro pins s σ H y x u v Q I ry rx h
  obtain ⟨a, o, rfl, g, q⟩ := h
  obtain rfl : v = Value.ref a := rx
  exact d_in hu I g ry fun s3 I3 => ⟨.bl o.isSome, H, I3, rfl, q⟩
theorem op_notInDc {X : Cx} (hu : X.A.units + 1 < cLine) : OpR X (compareOp .NotIn) rNotInDc := by
  intro pins s σ H y x u v Q I ry rx h
  obtain ⟨a, o, rfl, g, q⟩ := h
  obtain rfl : v = Value.ref a := rx
  exact d_notIn hu I g ry fun s3 I3 => ⟨.bl (!o.isSome), H, I3, rfl, q⟩
theorem w2_inDc {o : Option PyData} (h : DAt K L a y o) (q : Q (.bl o.isSome) L) : W2 K rInDc y (.ref a) L Q := fun H hs Q0 u => by
  obtain ⟨T, ht⟩ := id hs
  obtain ⟨r, g, e⟩ := h.opt ht
  refine ⟨a, r, rfl, g, u _ H _ hs ?_⟩
  rcases e with ⟨rfl, rfl⟩ | ⟨v, d, rfl, rfl, _⟩
  · exact q
  · exact q
theorem w2_notInDc {o : Option PyData} (h : DAt K L a y o) (q : Q (.bl (!o.isSome)) L) : W2 K rNotInDc y (.ref a) L Q := fun H hs Q0 u => by
  obtain ⟨T, ht⟩ := id hs
  obtain ⟨r, g, e⟩ := h.opt ht
  refine ⟨a, r, rfl, g, u _ H _ hs ?_⟩
  rcases e with ⟨rfl, rfl⟩ | ⟨v, d, rfl, rfl, _⟩
  · exact q
  · exact q
theorem w2_inDcP {kvs : List (Key × V)} (m : As.pt a (.dK kvs) ∈ L) (q : Q (.bl (valV kvs k).isSome) L) : W2 K rInDc (kV k) (.ref a) L Q := fun H hs Q0 u => by
  obtain ⟨T, ht⟩ := id hs
  exact ⟨a, _, rfl, .k (ht.ok _ m), u _ H _ hs q⟩

/-! ### operators of many kinds -/
def rAddP (K : PySem.W.Frag) : R2 := fun x y H Q => rI0 (fun i j => .int (i + j)) x y H Q ∨ rCat x y H Q ∨ rCatA K x y H Q ∨ rAddS x y H Q
theorem op_addP {X : Cx} : OpR X (binaryOp .Add) (rAddP X.K) := op_add.or (op_cat.or (op_catA.or op_add_str))
theorem w2_addI {i j : Int} (q : Q (.int (i + j)) L) : W2 K (rAddP K) (.int i) (.int j) L Q := W2.fst (w2_I0 (g := fun i j => .int (i + j)) q)
theorem w2_addL {b : Addr} {es : List PyData} (m : As.ld a ds ∈ L) (m' : As.ld b es ∈ L) (hl : ds.length + es.length ≤ sizeLine) (q : ∀ p, Q (.ref p) (.ld p (ds ++ es) :: L)) : W2 K (rAddP K) (.ref a) (.ref b) L Q := W2.snd (W2.fst (w2_cat m m' hl q))
theorem w2_addT {es : List PyData} (h : Dv K L x (.tuple ds)) (h' : Dv K L y (.tuple es)) (hl : ds.length + es.length ≤ sizeLine) (q : ∀ v, Q v (.da v (.tuple (ds ++ es)) :: L)) : W2 K (rAddP K) x y L Q := W2.snd (W2.snd (W2.fst (w2_catA h h' hl q)))
def rMulP (K : PySem.W.Frag) : R2 := fun x y H Q => rI CMul (fun i j => .int (i * j)) x y H Q ∨ rRep x y H Q
theorem op_mulP {X : Cx} : OpR X (binaryOp .Mult) (rMulP X.K) := op_mul.or op_rep
theorem w2_mulI {i j : Int} (c : CMul i j) (q : Q (.int (i * j)) L) : W2 K (rMulP K) (.int i) (.int j) L Q := W2.fst (w2_I (g := fun i j => .int (i * j)) c q)
theorem w2_mulL {k : Int} (m : As.ld a ds ∈ L) (h1 : -(2 ^ 63) ≤ k) (h2 : k < 2 ^ 63) (hl : ds.length * k.toNat ≤ sizeLine) (q : ∀ p, Q (.ref p) (.ld p (List.replicate k.toNat ds).flatten :: L)) : W2 K (rMulP K) (.ref a) (.int k) L Q := W2.snd (w2_rep m h1 h2 hl q)
def rEqP (K : PySem.W.Frag) : R2 := fun x y H Q => rEq x y H Q ∨ rEqQ K x y H Q
def rNeP (K : PySem.W.Frag) : R2 := fun x y H Q => rNe x y H Q ∨ rNeQ K x y H Q
theorem op_eqP {X : Cx} (hu : X.A.units + 64 < cLine) : OpR X (compareOp .Eq) (rEqP X.K) := op_eq.or (op_eqQ hu)
theorem op_neP {X : Cx} (hu : X.A.units + 64 < cLine) : OpR X (compareOp .NotEq) (rNeP X.K) := op_ne.or (op_neQ hu)
def rInP (K : PySem.W.Frag) : R2 := fun x y H Q => rInDc x y H Q ∨ rInQ K x y H Q ∨ rIn K false x y H Q
def rNotInP (K : PySem.W.Frag) : R2 := fun x y H Q => rNotInDc x y H Q ∨ rNotInQ K x y H Q ∨ rIn K true x y H Q
theorem op_inP {X : Cx} (hu : X.A.units + 65 < cLine) : OpR X (compareOp .In) (rInP X.K) := (op_inDc (by omega)).or ((op_inQ hu).or op_in_seq)
theorem op_notInP {X : Cx} (hu : X.A.units + 65 < cLine) : OpR X (compareOp .NotIn) (rNotInP X.K) := (op_notInDc (by omega)).or ((op_notInQ hu).or op_notIn_seq)
def rLtP (K : PySem.W.Frag) : R2 := fun x y H Q => rI0 (fun i j => .bl (decide (i < j))) x y H Q ∨ rLtT K x y H Q
theorem op_ltP {X : Cx} (hu : X.A.units < cLine) : OpR X (compareOp .Lt) (rLtP X.K) := op_lt.or (op_ltT hu)
theorem w2_ltI {i j : Int} (q : Q (.bl (decide (i < j))) L) : W2 K (rLtP K) (.int i) (.int j) L Q := W2.fst (w2_I0 (g := fun i j => .bl (decide (i < j))) q)
theorem w2_ltT {ns ms : List Int} (h : Dv K L x (.tuple (ns.map .int))) (h' : Dv K L y (.tuple (ms.map .int))) (q : Q (.bl (HT.lexLt ns ms)) L) : W2 K (rLtP K) x y L Q := fun H hs Q0 u => by
  obtain ⟨T, ht⟩ := id hs
  have h1 := h T H ht
  have h2 := h' T H ht
  cases h1 with
  | @tup a xs _ ha hd =>
    cases h2 with
    | @tup b ys _ hb he =>
      cases dps_ints hd
      cases dps_ints he
      exact .inr ⟨a, b, ns, ms, rfl, rfl, SqT.of (ht.sub _ _ ha), SqT.of (ht.sub _ _ hb), u _ H L hs q⟩
def rSlP (K : PySem.W.Frag) : V → Option Int → Option Int → Hp → VK → Prop := fun x lo hi H Q => rSlL K x lo hi H Q ∨ rSlA K x lo hi H Q
theorem sl_P {X : Cx} : SlR X (rSlP X.K) := sl_list.or sl_tupA
theorem wsl_L {lo hi : Option Int} (h : Ls K L x ds) (q : ∀ p, Q (.ref p) (.ld p (cutD ds lo hi) :: L)) : Wsl K (rSlP K) x lo hi L Q := fun H hs Q0 u => .inl (wsl_list h q H hs Q0 u)
theorem wsl_T {lo hi : Option Int} (h : Dv K L x (.tuple ds)) (q : ∀ v, Q v (.da v (.tuple (cutD ds lo hi)) :: L)) : Wsl K (rSlP K) x lo hi L Q := fun H hs Q0 u => .inr (wsl_tup h q H hs Q0 u)

/-! ### methods of lists -/
def TyL (K : PySem.W.Frag) (T : String) (x : V) (L : List As) : Prop := ∀ H, Hs K H L → tyV K T x H
theorem tyL_ld (m : As.ld a ds ∈ L) : TyL K "list" (.ref a) L := fun H ⟨T, ht⟩ => let ⟨xs, h1, _⟩ := ht.ok _ m; .inl ⟨rfl, xs, SqL.of h1⟩
theorem tyL_pt {xs : List V} (m : As.pt a (.lst xs) ∈ L) : TyL K "list" (.ref a) L := fun H ⟨T, ht⟩ => .inl ⟨rfl, xs, SqL.of (ht.ok _ m)⟩
theorem wp_bm {T : String} {r : V → List V → Hp → VK → Prop} {to : TE} {ta : TA} (h : Wp K to σ L fun x L1 => TyL K T x L1 ∧ Wa K ta σ L1 fun xs L2 => Wm K r x xs L2 Q) : Wp K (tBM K T r to ta) σ L Q := fun H hs Q0 up =>
  h H hs _ fun x H1 L1 h1 ⟨ty, q⟩ => ⟨ty H1 h1, q H1 h1 _ fun xs H2 L2 h2 q2 => q2 H2 h2 Q0 up⟩
theorem wp_bm0 {T : String} {r : V → List V → Hp → VK → Prop} {to : TE} (h : Wp K to σ L fun x L1 => TyL K T x L1 ∧ Wm K r x [] L1 Q) : Wp K (tBM0 K T r to) σ L Q := fun H hs Q0 up =>
  h H hs _ fun x H1 L1 h1 ⟨ty, q⟩ => ⟨ty H1 h1, q H1 h1 Q0 up⟩
theorem wm_append {d : PyData} (p : Put (.ld a ds) (.ld a (ds ++ [d])) L L') (hd : Dv K L y d) (hl : ds.length < sizeLine) (q : Q .non L') : Wm K rAppend (.ref a) [y] L Q := fun H hs Q0 up => by
  obtain ⟨T, ht⟩ := hs
  obtain ⟨xs, e1, e2⟩ := ht.ok _ p.mem
  obtain ⟨R, p1, p2⟩ := p.split
  exact ⟨a, xs, y, rfl, rfl, e1, by rw [dps_len e2]; exact hl, up _ _ _ ⟨T, ((ht.perm p1).write (y := .ld a (ds ++ [d])) rfl rfl ⟨_, upd_same, dps_app e2 (dps_one (hd T H ht))⟩).perm p2⟩ q⟩
theorem wm_appendP {xs : List V} (p : Put (.pt a (.lst xs)) (.pt a (.lst (xs ++ [y]))) L L') (hl : xs.length < sizeLine) (q : Q .non L') : Wm K rAppend (.ref a) [y] L Q := fun H hs Q0 up => by
  obtain ⟨T, ht⟩ := hs
  have e1 : H a = some (.lst xs) := ht.ok _ p.mem
  obtain ⟨R, p1, p2⟩ := p.split
  exact ⟨a, xs, y, rfl, rfl, e1, hl, up _ _ _ ⟨T, ((ht.perm p1).write (y := .pt a (.lst (xs ++ [y]))) rfl rfl upd_same).perm p2⟩ q⟩
theorem wm_extend {b : Addr} {es : List PyData} (p : Put (.ld a ds) (.ld a (ds ++ es)) L L') (m : As.ld b es ∈ L) (hl : ds.length + es.length ≤ sizeLine) (q : Q .non L') : Wm K rExtend (.ref a) [.ref b] L Q := fun H hs Q0 up => by
  obtain ⟨T, ht⟩ := hs
  obtain ⟨xs, e1, e2⟩ := ht.ok _ p.mem
  obtain ⟨ys, k1, k2⟩ := ht.ok _ m
  obtain ⟨R, p1, p2⟩ := p.split
  have l1 := dps_len e2
  have l2 := dps_len k2
  exact ⟨a, b, xs, ys, rfl, rfl, e1, k1, by omega, up _ _ _ ⟨T, ((ht.perm p1).write (y := .ld a (ds ++ es)) rfl rfl ⟨_, upd_same, dps_app e2 k2⟩).perm p2⟩ q⟩
theorem dps_last {T : Hp} {xs : List V} (h : DqAll K T xs (ds ++ [d])) : ∃ ys v, xs = ys ++ [v] ∧ DqAll K T ys ds ∧ Dq K T v d := by
  have l := dps_len h
  rw [List.length_append, List.length_singleton] at l
  have h1 := dps_take ds.length h
  rw [List.take_left] at h1
  have h2 := dps_drop ds.length h
  rw [List.drop_left] at h2
  generalize hd : xs.drop ds.length = us at h2
  cases h2 with
  | @cons v vs _ _ h3 h4 =>
    cases h4
    exact ⟨xs.take ds.length, v, by rw [← hd, List.take_append_drop], h1, h3⟩
theorem wm_pop {d : PyData} (p : Put (.ld a (ds ++ [d])) (.ld a ds) L L') (q : ∀ v L'', OutD d v L' L'' → Q v L'') : Wm K rPop (.ref a) [] L Q := fun H hs Q0 up => by
  obtain ⟨T, ht⟩ := hs
  obtain ⟨xs, e1, e2⟩ := ht.ok _ p.mem
  obtain ⟨ys, v, rfl, h1, h2⟩ := dps_last e2
  obtain ⟨R, p1, p2⟩ := p.split
  have hw := ((ht.perm p1).write (y := .ld a ds) (o := .lst ys) rfl rfl ⟨_, upd_same, h1⟩).perm p2
  obtain ⟨L'', o, h'⟩ := out_hs hw h2
  refine ⟨a, ys ++ [v], v, rfl, rfl, e1, by simp, ?_⟩
  rw [List.dropLast_concat]
  exact up _ _ _ ⟨T, h'⟩ (q v L'' o)
theorem dps_erase {T : Hp} : ∀ {xs : List V} {ds : List PyData} (i : Nat), DqAll K T xs ds → DqAll K T (xs.eraseIdx i) (ds.eraseIdx i)
  | _, _, _, .nil => .nil
  | _, _, 0, .cons _ t => t
  | _, _, i + 1, .cons h t => .cons h (dps_erase i t)
theorem wm_popAt {d : PyData} {i : Int} {j : Nat} (p : Put (.ld a ds) (.ld a (ds.eraseIdx j)) L L') (b1 : -(2 ^ 63) ≤ i) (b2 : i < 2 ^ 63) (hj : seqIndex? i ds.length = some j) (e : ds[j]? = some d) (q : ∀ v L'', OutD d v L' L'' → Q v L'') : Wm K rPopAt (.ref a) [.int i] L Q := fun H hs Q0 up => by
  obtain ⟨T, ht⟩ := hs
  obtain ⟨xs, e1, e2⟩ := ht.ok _ p.mem
  obtain ⟨v, h1, h2⟩ := dps_get e2 e
  obtain ⟨R, p1, p2⟩ := p.split
  have hw := ((ht.perm p1).write (y := .ld a (ds.eraseIdx j)) (o := .lst (xs.eraseIdx j)) rfl rfl ⟨_, upd_same, dps_erase j e2⟩).perm p2
  obtain ⟨L'', o, h'⟩ := out_hs hw h2
  exact ⟨a, xs, i, j, v, rfl, rfl, e1, b1, b2, by rw [dps_len e2]; exact hj, h1, up _ _ _ ⟨T, h'⟩ (q v L'' o)⟩
end
end Lg
/-! Weakest preconditions over ledgers: calls of built-ins, of the text's own defs. -/
namespace Lg
open PySem PySem.Spec PyProof.Rows L2

/-! ### sorted of data -/
theorem each_of {K : PySem.W.Frag} {T : Hp} : ∀ {xs : List V} {us : List Value} {ds : List PyData}, Vals xs us → DqAll K T xs ds → PySem.W.EachIs (fun u d => ∃ x, RelV x u ∧ Dq K T x d) us ds
  | _, _, _, .nil, h => by cases h; exact .nil
  | _, _, _, .cons r t, h => by cases h with | cons h1 h2 => exact .cons ⟨_, r, h1⟩ (each_of t h2)
theorem of_each {K : PySem.W.Frag} {T : Hp} : ∀ {us : List Value} {ds : List PyData}, PySem.W.EachIs (fun u d => ∃ x, RelV x u ∧ Dq K T x d) us ds → ∃ xs, Vals xs us ∧ DqAll K T xs ds
  | _, _, .nil => ⟨[], .nil, .nil⟩
  | _, _, .cons ⟨x, r, h⟩ t => by
    obtain ⟨xs, h1, h2⟩ := of_each t
    exact ⟨x :: xs, .cons r h1, .cons h h2⟩
theorem each_reads {X : Cx} {pins : List (Addr × Obj)} {σ : L2.St} {H T : Hp} {s : Shared} (I : Inv X pins σ H s) (sub : Sub T H) : ∀ {us : List Value} {ds : List PyData}, PySem.W.EachIs (fun u d => ∃ x, RelV x u ∧ Dq X.K T x d) us ds →
    PySem.W.EachIs (fun v b => ∃ as, Reads s.heap v (id b) as) us ds
  | _, _, .nil => .nil
  | _, _, .cons ⟨x, r, h⟩ t => .cons (let ⟨as, q, _⟩ := Dq.reads I _ x _ (sub.dp _ _ h) r; ⟨as, q⟩) (each_reads I sub t)
abbrev sortD (ds : List PyData) : List PyData := ds.mergeSort (PySem.W.dataLe false (id : PyData → PyData))
structure SortOk (ds : List PyData) : Prop where
  alike : PySem.W.AllAlike ds
  able : PySem.W.Sortable ds
  deep : ∀ d ∈ ds, d.depth ≤ 64
  few : ds.length ≤ sizeLine
def rSrt (K : PySem.W.Frag) : List V → Hp → VK → Prop := fun vs H Q => ∃ (T : Hp) (a : Addr) (xs : List V) (ds : List PyData), vs = [.ref a] ∧ SqL K H a xs ∧ Sub T H ∧ DqAll K T xs ds ∧ SortOk ds ∧
  ∀ p ys, H p = none → DqAll K T ys (sortD ds) → Q (.ref p) (upd H p (.lst ys))
theorem cr_sorted {X : Cx} (hu : X.A.units + 100 < cLine) : CallR X (.builtin "sorted") (rSrt X.K) := by
  intro pins s σ H vs us Q I r h
  obtain ⟨T, a, xs, ds, rfl, hs, sub, hd, ok, q⟩ := h
  obtain ⟨its, rv, hl, hz⟩ := I.list hs
  obtain ⟨u, rfl, ru⟩ := vals1 r
  obtain rfl : u = Value.ref a := ru
  have e := each_of rv hd
  refine PySem.W.sorted_data (enc := id) hl.isList e (each_reads I sub e) (by rw [List.map_id]; exact ok.alike) (by rw [List.map_id]; exact ok.able) ok.few (fun b hb => ?_) fun out ho eo => ?_
  · have := ok.deep b hb
    show X.A.units + 2 + b.depth < cLine
    omega
  · obtain ⟨ys, r2, h2⟩ := of_each eo
    obtain ⟨c, hc⟩ := sortedAll_at s.heap its out.toArray
    have hn := I.hok.fresh (a := s.heap.objs.size + 1) (Nat.le_succ _)
    refine ⟨.ref (s.heap.objs.size + 1), upd H (s.heap.objs.size + 1) (.lst ys), I.laid (t' := s.toks) (fun _ _ => sortedAll_old) (Nat.le_succ _) ⟨?_, out, c, r2, hc⟩, rfl, q _ ys hn h2⟩
    rw [dps_len h2, List.length_mergeSort]
    exact ok.few
section
variable {K : PySem.W.Frag} {σ : L2.St} {L L' : List As} {Q : LK} {ta tb tc te td ty tv tx : TE} {t u : TT} {x y v : V} {r r' : R2} {a : Addr} {ds : List PyData} {d : PyData} {k : Key}
theorem wc_sorted (h : Ls K L x ds) (ok : SortOk ds) (q : ∀ p, Q (.ref p) (.ld p (sortD ds) :: L)) : Wc K (rSrt K) [x] L Q := fun H hs Q0 u => by
  obtain ⟨T, ht⟩ := hs
  obtain ⟨a, xs, rfl, hq, hd⟩ := h T H ht
  exact ⟨T, a, xs, ds, rfl, hq, ht.sub, hd, ok, fun p ys hp hy => u _ _ _ ⟨T, ht.lay (x := .ld p (sortD ds)) hp rfl ⟨ys, upd_same, hy⟩⟩ (q p)⟩

/-! ### any, all, len, tuple, list, max, min -/
theorem dps_bools {T : Hp} : ∀ {vs : List V} {bs : List Bool}, DqAll K T vs (bs.map PyData.bool) → vs = bs.map V.bl
  | _, [], h => by cases h; rfl
  | _, n :: ns, h => by cases h with | cons h t => cases h; rw [dps_bools t]; rfl
theorem wc_any {bs : List Bool} (m : Ls K L x (bs.map .bool)) (q : Q (.bl (bs.any id)) L) : Wc K (rAny K) [x] L Q := fun H hs Q0 u => by
  obtain ⟨T, ht⟩ := id hs
  obtain ⟨a, xs, rfl, h1, h2⟩ := m T H ht
  rw [dps_bools h2] at h1
  exact ⟨a, bs, rfl, h1, u _ H L hs q⟩
theorem wc_all {bs : List Bool} (m : Ls K L x (bs.map .bool)) (q : Q (.bl (bs.all id)) L) : Wc K (rAll K) [x] L Q := fun H hs Q0 u => by
  obtain ⟨T, ht⟩ := id hs
  obtain ⟨a, xs, rfl, h1, h2⟩ := m T H ht
  rw [dps_bools h2] at h1
  exact ⟨a, bs, rfl, h1, u _ H L hs q⟩
theorem wc_sum {ns : List Int} (m : Ls K L x (ns.map .int)) (q : Q (.int ns.sum) L) : Wc K (rSum K) [x] L Q := fun H hs Q0 u => by
  obtain ⟨T, ht⟩ := id hs
  obtain ⟨a, xs, rfl, h1, h2⟩ := m T H ht
  rw [dps_ints h2] at h1
  exact ⟨a, ns, rfl, h1, u _ H L hs q⟩
theorem wc_max {ns : List Int} (m : Ls K L x (ns.map .int)) (hn : 0 < ns.length) (q : ∀ m, m ∈ ns → (∀ y, y ∈ ns → y ≤ m) → Q (.int m) L) : Wc K (rMax K) [x] L Q := fun H hs Q0 u => by
  obtain ⟨T, ht⟩ := id hs
  obtain ⟨a, xs, rfl, h1, h2⟩ := m T H ht
  rw [dps_ints h2] at h1
  exact ⟨a, ns, rfl, h1, hn, fun m m1 m2 => u _ H L hs (q m m1 m2)⟩
def rLenP (K : PySem.W.Frag) : List V → Hp → VK → Prop := fun xs H Q => (∃ p ys, xs = [.ref p] ∧ (SqL K H p ys ∨ SqT K H p ys) ∧ Q (.int ys.length) H) ∨ (∃ x n, xs = [x] ∧ LenV K x H n ∧ Q (.int n) H) ∨ ∃ d kvs, xs = [.ref d] ∧ H d = some (.dK kvs) ∧ Q (.int kvs.length) H
theorem wc_len (h : Sq K L x ds) (q : Q (.int (ds.length : Nat)) L) : Wc K (rLenP K) [x] L Q := fun H hs Q0 u => by
  obtain ⟨T, ht⟩ := id hs
  obtain ⟨a, xs, rfl, hq, hd⟩ := h T H ht
  exact .inl ⟨a, xs, rfl, hq, by rw [dps_len hd]; exact u _ H L hs q⟩
theorem wc_lenP {xs : List V} (m : As.pt a (.lst xs) ∈ L) (q : Q (.int (xs.length : Nat)) L) : Wc K (rLenP K) [.ref a] L Q := fun H hs Q0 u => by
  obtain ⟨T, ht⟩ := id hs
  exact .inl ⟨a, xs, rfl, .inl (SqL.of (ht.ok _ m)), u _ H L hs q⟩
theorem wc_lenK {kvs : List (Key × PyData)} (m : As.dk a kvs ∈ L) (q : Q (.int (kvs.length : Nat)) L) : Wc K (rLenP K) [.ref a] L Q := fun H hs Q0 u => by
  obtain ⟨T, ht⟩ := id hs
  obtain ⟨xs, h1, h2⟩ := ht.ok _ m
  exact .inr (.inr ⟨a, xs, rfl, h1, by rw [kd_len h2]; exact u _ H L hs q⟩)
def rTupleP (K : PySem.W.Frag) : List V → Hp → VK → Prop := fun xs H Q => ∃ p ys, xs = [.ref p] ∧ ((SqL K H p ys ∧ ∀ l, H l = none → Q (.ref l) (upd H l (.tup ys))) ∨ (SqT K H p ys ∧ Q (.ref p) H))
theorem wc_tuple (h : Ls K L x ds) (q : ∀ v, Q v (.da v (.tuple ds) :: L)) : Wc K (rTupleP K) [x] L Q := fun H hs Q0 u => by
  obtain ⟨T, ht⟩ := hs
  obtain ⟨a, xs, rfl, hq, hd⟩ := h T H ht
  exact ⟨a, xs, rfl, .inl ⟨hq, fun p hp => u _ _ _ ⟨_, ht.layD hp (.tup upd_same ((Sub.new (ht.sub.non hp)).dps _ _ hd))⟩ (q _)⟩⟩
def rListP (K : PySem.W.Frag) : List V → Hp → VK → Prop := fun xs H Q => ∃ p ys, xs = [.ref p] ∧ (SqL K H p ys ∨ SqT K H p ys) ∧ ∀ l, H l = none → Q (.ref l) (upd H l (.lst ys))
theorem wc_list (h : Sq K L x ds) (q : ∀ p, Q (.ref p) (.ld p ds :: L)) : Wc K (rListP K) [x] L Q := fun H hs Q0 u => by
  obtain ⟨T, ht⟩ := hs
  obtain ⟨a, xs, rfl, hq, hd⟩ := h T H ht
  exact ⟨a, xs, rfl, hq, fun p hp => u _ _ _ ⟨T, ht.lay (x := .ld p ds) hp rfl ⟨_, upd_same, hd⟩⟩ (q _)⟩
def rMax2 : List V → Hp → VK → Prop := fun xs H Q => ∃ i j, xs = [.int i, .int j] ∧ Q (.int (if j > i then j else i)) H
def rMin2 : List V → Hp → VK → Prop := fun xs H Q => ∃ i j, xs = [.int i, .int j] ∧ Q (.int (if j < i then j else i)) H
theorem wc_max2 {i j : Int} (q : Q (.int (max i j)) L) : Wc K rMax2 [.int i, .int j] L Q := fun H hs Q0 u =>
  ⟨i, j, rfl, by rw [show (if j > i then j else i) = max i j by rw [Int.max_def]; split <;> split <;> omega]; exact u _ H L hs q⟩
theorem wc_min2 {i j : Int} (q : Q (.int (min i j)) L) : Wc K rMin2 [.int i, .int j] L Q := fun H hs Q0 u =>
  ⟨i, j, rfl, by rw [show (if j < i then j else i) = min i j by rw [Int.min_def]; split <;> split <;> omega]; exact u _ H L hs q⟩
def rInt1 : List V → Hp → VK → Prop := fun xs H Q => (∃ i, xs = [.int i] ∧ Q (.int i) H) ∨ ∃ k, xs = [.bl k] ∧ Q (.int (if k then 1 else 0)) H
theorem wc_intI {i : Int} (q : Q (.int i) L) : Wc K rInt1 [.int i] L Q := fun H hs Q0 u => .inl ⟨i, rfl, u _ H L hs q⟩
theorem wc_intB {k : Bool} (q : Q (.int (if k then 1 else 0)) L) : Wc K rInt1 [.bl k] L Q := fun H hs Q0 u => .inr ⟨k, rfl, u _ H L hs q⟩

/-! ### isinstance of data -/
def tyN : PyData → String
  | .none => "NoneType"
  | .bool _ => "bool"
  | .int _ => "int"
  | .str _ => "str"
  | .list _ => "list"
  | .tuple _ => "tuple"
  | .dict _ => "dict"
theorem dq_ty {H : Hp} (h : Dq K H x d) : TyX K H x (.type (tyN d)) := by
  cases d with
  | none => cases h; exact .base .non
  | bool b => cases h; exact .base (.bl b)
  | int b => cases h; exact .base (.int b)
  | str b => cases h; exact .base (.str b)
  | list b =>
    cases h with
    | lst hs _ =>
      rcases hs with (h | ⟨o, h⟩) | ⟨o, _, _, h, hc, _⟩
      · exact .base (.lst h)
      · exact .base (.frz h)
      · exact .kList h hc
  | tuple b => cases h with | tup h _ => exact .base (.tup h)
  | dict b =>
    cases h with
    | dic h _ =>
      rcases h with h | ⟨o, h⟩
      · exact .base (.dK h)
      · exact .fDict h
theorem wc_isi {c : String} {b : Bool} (h : Dn K L x d) (e : kitB (tyN d) c = some b) (q : Q (.bl b) L) : Wc K (rIsi K) [x, .ty c] L Q := fun H hs Q0 u => by
  obtain ⟨T, ht⟩ := id hs
  exact ⟨x, .ty c, _, _, b, rfl, .ty c, dq_ty (h T H ht), kit_ty e, u _ H L hs q⟩
def isIntD : PyData → Bool
  | .int _ => true
  | _ => false
def isTupD : PyData → Bool
  | .tuple _ => true
  | _ => false
def isStrD : PyData → Bool
  | .str _ => true
  | _ => false
def isBoolD : PyData → Bool
  | .bool _ => true
  | _ => false
theorem kit_int (d : PyData) : kitB (tyN d) "int" = some (isIntD d || isBoolD d) := by
  cases d with
  | none => exact (by decide +kernel : kitB "NoneType" "int" = some false)
  | bool b => exact (by decide +kernel : kitB "bool" "int" = some true)
  | int b => exact (by decide +kernel : kitB "int" "int" = some true)
  | str b => exact (by decide +kernel : kitB "str" "int" = some false)
  | list b => exact (by decide +kernel : kitB "list" "int" = some false)
  | tuple b => exact (by decide +kernel : kitB "tuple" "int" = some false)
  | dict b => exact (by decide +kernel : kitB "dict" "int" = some false)
theorem kit_bool (d : PyData) : kitB (tyN d) "bool" = some (isBoolD d) := by
  cases d with
  | none => exact (by decide +kernel : kitB "NoneType" "bool" = some false)
  | bool b => exact (by decide +kernel : kitB "bool" "bool" = some true)
  | int b => exact (by decide +kernel : kitB "int" "bool" = some false)
  | str b => exact (by decide +kernel : kitB "str" "bool" = some false)
  | list b => exact (by decide +kernel : kitB "list" "bool" = some false)
  | tuple b => exact (by decide +kernel : kitB "tuple" "bool" = some false)
  | dict b => exact (by decide +kernel : kitB "dict" "bool" = some false)
theorem kit_tuple (d : PyData) : kitB (tyN d) "tuple" = some (isTupD d) := by
  cases d with
  | none => exact (by decide +kernel : kitB "NoneType" "tuple" = some false)
  | bool b => exact (by decide +kernel : kitB "bool" "tuple" = some false)
  | int b => exact (by decide +kernel : kitB "int" "tuple" = some false)
  | str b => exact (by decide +kernel : kitB "str" "tuple" = some false)
  | list b => exact (by decide +kernel : kitB "list" "tuple" = some false)
  | tuple b => exact (by decide +kernel : kitB "tuple" "tuple" = some true)
  | dict b => exact (by decide +kernel : kitB "dict" "tuple" = some false)
theorem kit_str (d : PyData) : kitB (tyN d) "str" = some (isStrD d) := by
  cases d with
  | none => exact (by decide +kernel : kitB "NoneType" "str" = some false)
  | bool b => exact (by decide +kernel : kitB "bool" "str" = some false)
  | int b => exact (by decide +kernel : kitB "int" "str" = some false)
  | str b => exact (by decide +kernel : kitB "str" "str" = some true)
  | list b => exact (by decide +kernel : kitB "list" "str" = some false)
  | tuple b => exact (by decide +kernel : kitB "tuple" "str" = some false)
  | dict b => exact (by decide +kernel : kitB "dict" "str" = some false)

/-! ### d.get(k, x), d.setdefault(k, x) -/
theorem isD_k {H T : Hp} {kvs : List (Key × PyData)} (m : As.dk a kvs ∈ L) (ht : HsT K T H L) : IsD H a := let ⟨xs, h, _⟩ := ht.ok _ m; .inl ⟨xs, .inl h⟩
theorem isD_t {H T : Hp} {kvs : List (List Key × PyData)} (m : As.dt a kvs ∈ L) (ht : HsT K T H L) : IsD H a := let ⟨xs, h, _⟩ := ht.ok _ m; .inr ⟨xs, .inl h⟩
theorem isD_p {H T : Hp} {kvs : List (Key × V)} (m : As.pt a (.dK kvs) ∈ L) (ht : HsT K T H L) : IsD H a := .inl ⟨kvs, .inl (ht.ok _ m)⟩
theorem wp_get2P (h : Wp K td σ L fun x L1 => ∃ a, x = .ref a ∧ (∃ kvs, As.pt a (.dK kvs) ∈ L1) ∧ Wp K ty σ L1 fun y L2 => Wp K tx σ L2 fun z L3 => ∃ kvs k, As.pt a (.dK kvs) ∈ L3 ∧ y = kV k ∧ Q ((valV kvs k).getD z) L3) :
    Wp K (tDGet2 td ty tx) σ L Q := fun H hs Q0 up => h H hs _ fun x H1 L1 h1 ⟨a, e, ⟨kvs, m⟩, q⟩ => by
  obtain ⟨T, ht⟩ := id h1
  exact ⟨a, e, isD_p m ht, q H1 h1 _ fun y H2 L2 h2 q2 => q2 H2 h2 _ fun z H3 L3 h3 ⟨kvs, k, m, ey, q3⟩ => by
    obtain ⟨T, ht⟩ := id h3
    exact ⟨_, by rw [ey]; exact .k (ht.ok _ m), up _ _ _ h3 q3⟩⟩
theorem wp_get1 (h : Wp K td σ L fun x L1 => ∃ a, x = .ref a ∧ (∃ kvs, As.dk a kvs ∈ L1) ∧ Wp K ty σ L1 fun y L2 => ∃ o, DAt K L2 a y o ∧ match o with
      | none => Q .non L2
      | some d => ∀ v L', OutD d v L2 L' → Q v L') : Wp K (tDGet1 td ty) σ L Q := fun H hs Q0 up => h H hs _ fun x H1 L1 h1 ⟨a, e, ⟨kvs, m⟩, q⟩ => by
  obtain ⟨T, ht⟩ := id h1
  exact ⟨a, e, isD_k m ht, q H1 h1 _ fun y H2 L2 h2 ⟨o, hd, q2⟩ => by
    obtain ⟨T, ht⟩ := id h2
    obtain ⟨r, g, z⟩ := hd.opt ht
    rcases z with ⟨rfl, rfl⟩ | ⟨v, d, rfl, rfl, hv⟩
    · exact ⟨none, g, up _ _ _ h2 q2⟩
    · obtain ⟨L', ho, h'⟩ := out_hs ht hv
      exact ⟨some v, g, up _ _ _ ⟨T, h'⟩ (q2 v L' ho)⟩⟩
theorem wp_setdP (h : Wp K td σ L fun x L1 => ∃ a, x = .ref a ∧ (∃ kvs, As.pt a (.dK kvs) ∈ L1) ∧ Wp K ty σ L1 fun y L2 => Wp K tx σ L2 fun z L3 => ∃ kvs k, As.pt a (.dK kvs) ∈ L3 ∧ y = kV k ∧ kvs.length < sizeLine ∧
      (∀ v, valV kvs k = some v → Q v L3) ∧ (valV kvs k = none → ∃ L4, Put (.pt a (.dK kvs)) (.pt a (.dK (putK kvs k z))) L3 L4 ∧ Q z L4)) :
    Wp K (tDSetd td ty tx) σ L Q := fun H hs Q0 up => h H hs _ fun x H1 L1 h1 ⟨a, e, ⟨kvs, m⟩, q⟩ => by
  obtain ⟨T, ht⟩ := id h1
  exact ⟨a, e, isD_p m ht, q H1 h1 _ fun y H2 L2 h2 q2 => q2 H2 h2 _ fun z H3 L3 h3 ⟨kvs, k, m, ey, hl, q3, q4⟩ => by
    obtain ⟨T, ht⟩ := id h3
    refine ⟨kvs, k, ht.ok _ m, ey, hl, fun v e => up _ _ _ h3 (q3 v e), fun e => ?_⟩
    obtain ⟨L4, p, q5⟩ := q4 e
    obtain ⟨R, p1, p2⟩ := p.split
    exact up _ _ _ ⟨T, ((ht.perm p1).write (y := .pt a (.dK (putK kvs k z))) rfl rfl upd_same).perm p2⟩ q5⟩
end

/-! ### the text's own defs, as they are called -/
structure Cal (P : Program) (w : World) (K : PySem.W.Frag) (mg : Str → Option Value) (base : Heap) (x : Str) (k : Nat) (ps : List Str) (S : SpL) : Prop where
  ex : ∃ f fd, FnOk P w K mg base CX0 k f fd ps (spL K S) ∧ mg x = some (.ref f) ∧ PySem.W.keepIn K (.ref f) = true ∧ Binds K fd ps []
theorem pe_cal {X : Cx} {P : Program} {w : World} {K : PySem.W.Frag} {mg : Str → Option Value} {base : Heap} {x : Str} {k : Nat} {ps : List Str} {S : SpL} {p pos : Pos} {e : Expr} {es : List Expr} {t : TA} (c : Cal P w K mg base x k ps S) (hr : Room k X.A) (hg : Gl X x) (ha : PA X (e :: es) t)
    (h1 : X.prog = P := by rfl) (h2 : X.w = w := by rfl) (h3 : X.K = K := by rfl) (h4 : X.mg = mg := by rfl) (h5 : X.base = base := by rfl)
    (hdb : (x == ("__debug__" : Str)) = false := by decide) (he : starEach (e :: es) X.env = (false, eval e X.env) :: starEach es X.env := by rfl) (hpl : (backTo pos (starEach es X.env)).any (·.1) = false := by rfl) :
    PE X (.Call (.Name x p) (e :: es) [] pos) (tCall (spL K S) [] E0 t) := by
  subst h1 h2 h3 h4 h5
  obtain ⟨f, fd, F, hm, hk, hb⟩ := c.ex
  exact pe_call F hr hg hm hk hb .nil pass0 ha hdb he hpl
theorem wp_cal {K : PySem.W.Frag} {σ : L2.St} {L : List As} {Q : LK} {S : SpL} {E : XK} {ta : TA} (h : Wa K ta σ L fun vs L1 => S vs L1 Q) : Wp K (tCall (spL K S) [] E ta) σ L Q :=
  wp_call fun H hs Q0 u => h H hs Q0 fun v H' L' h' q => u v H' L' h' (show S (v ++ []) L' Q by rw [List.append_nil]; exact q)
end Lg
/-! Further rules for the printed terms: walks of a list or a tuple, room, enumerate. -/
namespace Lg
open PySem PySem.Spec PyProof.Rows L2

theorem hu0 {k : Nat} {A : Around} (r : Room k A) : A.units < cLine := by have := r.un; omega
theorem hu1 {k : Nat} {A : Around} (r : Room k A) : A.units + 1 < cLine := by have := r.un; omega
theorem hu64 {k : Nat} {A : Around} (r : Room k A) : A.units + 64 < cLine := by have := r.un; omega
theorem hu65 {k : Nat} {A : Around} (r : Room k A) : A.units + 65 < cLine := by have := r.un; omega
theorem hu100 {k : Nat} {A : Around} (r : Room k A) : A.units + 100 < cLine := by have := r.un; omega
/-- the names of built-ins, not written over by the text -/
structure Bs (mg : Str → Option Value) : Prop where
  len : mg "len" = none
  sorted : mg "sorted" = none
  any : mg "any" = none
  all : mg "all" = none
  tuple : mg "tuple" = none
  list : mg "list" = none
  set : mg "set" = none
  max : mg "max" = none
  min : mg "min" = none
  range : mg "range" = none
  isinstance : mg "isinstance" = none
  enumerate : mg "enumerate" = none
  zip : mg "zip" = none
  int : mg "int" = none
  str : mg "str" = none
  dict : mg "dict" = none
  repr : mg "repr" = none
  bool : mg "bool" = none
section
variable {X : Cx}
theorem call_lenP : CallR X (.builtin "len") (rLenP X.K) := (call_len_seq (X := X)).or ((call_len (X := X)).or (call_lenD (X := X)))
theorem call_tupleP : CallR X (.type "tuple") (rTupleP X.K) := call_tuple_of
theorem call_listP : CallR X (.type "list") (rListP X.K) := call_list_of
theorem call_max2P (hc : X.calm = true) : CallR X (.builtin "max") rMax2 := call_max2 hc
theorem call_min2P (hc : X.calm = true) : CallR X (.builtin "min") rMin2 := call_min2 hc
theorem call_max1P (hc : X.calm = true) : CallR X (.builtin "max") (rMax X.K) := cr_max hc
theorem call_min1P (hc : X.calm = true) : CallR X (.builtin "min") (rMin X.K) := cr_min hc
theorem call_int1P : CallR X (.type "int") rInt1 := call_int1
/-- what a for walks: a list or a tuple -/
def iSeq (K : PySem.W.Frag) (tl : TE) : TI := fun σ H R => tl σ H fun x H1 => ∃ a, x = .ref a ∧ (((∃ xs, SqL K H1 a xs) ∧ R (Itl K a) H1) ∨ ((∃ xs, SqT K H1 a xs) ∧ R (Itt K a) H1))
theorem pi_seq {tg l : Expr} {tl : TE} (hl : PE X l tl) : PI X tg l (iSeq X.K tl) := by
  refine ⟨fun pins s σ H R I h => ?_⟩
  refine thn (hl.run pins s σ H _ I h) fun v s1 ⟨x, H1, I1, r1, q1⟩ => ?_
  obtain ⟨a, e, q⟩ := q1
  subst e
  cases r1
  rcases q with ⟨⟨xs, hq⟩, q⟩ | ⟨⟨xs, hq⟩, q⟩
  · obtain ⟨its, rv, p, hz⟩ := I1.list hq
    refine wpAny_pyIter_list p.isList ?_
    refine ⟨s1.heap.objs.size, [s1.heap.objs.size], _, _, H1, rfl, I1.kept (t' := s1.toks) fun b o e => Heap.get?_push_of_some _ e, turn_list a _, ⟨_, Heap.get?_push_size _ rfl, rfl, rfl⟩, fun b hb => ?_, q⟩
    have e : b = s1.heap.objs.size := by simpa using hb
    subst e
    exact I1.fpOk (Nat.le_refl _) (I1.hok.fresh (Nat.le_refl _))
  · obtain ⟨its, rv, p, hz⟩ := I1.tuple hq
    refine wpAny_pyIter_tuple (show s1.heap.IsTuple a its.toArray from p) ?_
    refine ⟨s1.heap.objs.size, [s1.heap.objs.size], _, _, H1, rfl, I1.kept (t' := s1.toks) fun b o e => Heap.get?_push_of_some _ e, turn_tuple a _, ⟨_, Heap.get?_push_size _ rfl, rfl, rfl⟩, fun b hb => ?_, q⟩
    have e : b = s1.heap.objs.size := by simpa using hb
    subst e
    exact I1.fpOk (Nat.le_refl _) (I1.hok.fresh (Nat.le_refl _))
end
section
variable {K : PySem.W.Frag} {σ : L2.St} {L : List As}
theorem wi_seqL {tl : TE} {Q : QI} (h : Wp K tl σ L fun x L1 => ∃ ds, Ls K L1 x ds ∧ Q L1 ds.length (fun L => Ls K L x ds) (YD ds)) : Wi K (iSeq K tl) σ L Q := fun H hs R up => by
  have h2 := wi_list h H hs R up
  refine h H hs _ fun x H1 L1 h1 ⟨ds, hd, q⟩ => ?_
  obtain ⟨T, ht⟩ := id h1
  obtain ⟨a, xs, rfl, hq, _⟩ := hd T H1 ht
  have hr : R (Itl K a) H1 := by
    have w : Wp K (tC (.ref a)) σ L1 fun x L1 => ∃ ds, Ls K L1 x ds ∧ Q L1 ds.length (fun L => Ls K L x ds) (YD ds) := wp_c ⟨ds, hd, q⟩
    obtain ⟨a', e, _, r⟩ := wi_list w H1 h1 R up
    cases e
    exact r
  exact ⟨a, rfl, .inl ⟨⟨xs, hq⟩, hr⟩⟩
theorem wi_seqT {tl : TE} {Q : QI} (h : Wp K tl σ L fun x L1 => ∃ ds, Dv K L1 x (.tuple ds) ∧ Q L1 ds.length (fun L => Dv K L x (.tuple ds)) (YD ds)) : Wi K (iSeq K tl) σ L Q := fun H hs R up => by
  refine h H hs _ fun x H1 L1 h1 ⟨ds, hd, q⟩ => ?_
  obtain ⟨T, ht⟩ := id h1
  have hq := hd T H1 ht
  cases hq with
  | @tup a xs _ ha hds =>
    have hr : R (Itt K a) H1 := by
      have w : Wp K (tC (.ref a)) σ L1 fun x L1 => ∃ ds, Dv K L1 x (.tuple ds) ∧ Q L1 ds.length (fun L => Dv K L x (.tuple ds)) (YD ds) := wp_c ⟨ds, hd, q⟩
      obtain ⟨a', e, _, r⟩ := wi_tup w H1 h1 R up
      cases e
      exact r
    exact ⟨a, rfl, .inr ⟨⟨xs, SqT.of (ht.sub _ _ ha)⟩, hr⟩⟩
end
end Lg
namespace Lg
open PySem PySem.Spec PyProof.Rows L2
section
variable {X : Cx} {K : PySem.W.Frag}
/-- the rules with K named: within a comprehension the context's K is not to be seen from outside -/
theorem opRK {f : Value → Value → Sem Value} {r : PySem.W.Frag → R2} (h : OpR X f (r X.K)) (h3 : X.K = K := by rfl) : OpR X f (r K) := by subst h3; exact h
theorem ixRK {r : PySem.W.Frag → R2} (h : IxR X (r X.K)) (h3 : X.K = K := by rfl) : IxR X (r K) := by subst h3; exact h
theorem slRK {r : PySem.W.Frag → V → Option Int → Option Int → Hp → VK → Prop} (h : SlR X (r X.K)) (h3 : X.K = K := by rfl) : SlR X (r K) := by subst h3; exact h
theorem callRK {f : Value} {r : PySem.W.Frag → List V → Hp → VK → Prop} (h : CallR X f (r X.K)) (h3 : X.K = K := by rfl) : CallR X f (r K) := by subst h3; exact h
theorem pg_tupK {pos : Pos} {es : List Expr} {k : Nat} {t : TGs} {n : Nat} (hc : X.calm = true) (h : PGs X es t) (h3 : X.K = K := by rfl)
    (hn : (assignEach es X.env).length = n := by rfl) (hst : (assignEach es X.env).findIdx? (·.1) = none := by rfl) : PG X (.Tuple es k pos) (gTup K n t) := by subst h3; exact pg_tup hc h hn hst
theorem pi_seqK {tg l : Expr} {tl : TE} (hl : PE X l tl) (h3 : X.K = K := by rfl) : PI X tg l (iSeq K tl) := by subst h3; exact pi_seq hl
end
/-- THE RULE for a def of the text: its derivation, and its walk over ledgers -/
theorem okL {P : Program} {w : World} {K : PySem.W.Frag} {mg : Str → Option Value} {base : Heap} {x qual : Str} {st : Stmt} {f : Addr} {fd : FuncData} {N ps : List Str} {k : Nat} {S : SpL} (F : Fun K x qual st f fd) (sc : FnScope N ps (defScope st))
    (len : ∀ vs L Q, S vs L Q → vs.length = ps.length)
    (hbody : ∀ (cdv : Value) (A : Around) (outer : List Env) (s : Shared) (H : Hp) (E : XK), Room k (A.deeper (envOfC qual (defScope st) s.heap.objs.size f cdv)) →
      ∃ t, PSs (cxOf CX0 P w K mg base N qual (defScope st) f cdv A outer s H E).nox (defBody st) t ∧ ∀ vs L LQ, S vs L LQ → Ws K t { nx := fun _ L => RetE K LQ .non L, rt := RetE K LQ } (start N vs) L) : FnOk P w K mg base CX0 (k + 1) f fd ps (spL K S) :=
  F.ok sc (fun vs H Q E h => let ⟨L, LQ, _, h, _⟩ := h; len vs L LQ h) fun cdv A outer s H vs Q E hr h => by
    obtain ⟨t, ht, hw⟩ := hbody cdv A outer s H E hr
    exact ⟨t, ht, of_ws h fun L LQ hS => hw vs L LQ hS⟩
end Lg
namespace Lg
open PySem PySem.Spec PyProof.Rows L2
theorem cxK {CX : CXT} {P : Program} {w : World} {K : PySem.W.Frag} {mg : Str → Option Value} {base : Heap} {N : List Str} {qual : Str} {scope : Scope} {f : Addr} {cd : Value} {A : Around} {outer : List Env} {s : Shared} {H : Hp} {E : XK} :
    (cxOf CX P w K mg base N qual scope f cd A outer s H E).K = K := rfl
theorem wishK {X : Cx} {E : Value → Shared → Prop} : (X.wish E).K = X.K := rfl
theorem noxK {X : Cx} : X.nox.K = X.K := rfl
theorem blkK {X : Cx} {s : Shared} {H : Hp} {scope : Scope} {cenv : Env} {fp : List Addr} : (X.blk s H scope cenv fp).K = X.K := rfl
end Lg
/-! repr of data; promises of defs that run where nothing is being shown (A.guards = some []). -/
namespace Lg
open PySem PySem.Spec PyProof.Rows L2

/-- sys.modules stands in the base, as a dict -/
def SysOk (base : Heap) : Prop := ∃ o, base.get? sysModules = some o ∧ o.cls ≠ .type "list"
structure Shows (base : Heap) (d : PyData) : Prop where
  able : d.showable = true
  deep : d.depth ≤ 64
  few : d.shown.length ≤ sizeLine
  sys : d.hasDict = true → SysOk base
def rRepr (K : PySem.W.Frag) (base : Heap) : List V → Hp → VK → Prop := fun vs H Q => ∃ x d, vs = [x] ∧ Dq K H x d ∧ Shows base d ∧ Q (.str d.shown) H
theorem cr_repr {X : Cx} (hg : X.A.guards = some []) (hu : X.A.units + 100 < cLine) : CallR X (.builtin "repr") (rRepr X.K X.base) := by
  intro pins s σ H vs us Q I r h
  obtain ⟨x, d, rfl, hd, ok, q⟩ := h
  obtain ⟨u, rfl, ru⟩ := vals1 r
  have hx := hd
  cases d with
  | none =>
    cases hd
    obtain rfl : u = Value.none := ru
    exact PySem.P.repr_of_none ⟨.str _, H, I.tok _, ⟨_, rfl⟩, by simpa only [PyData.shown] using q⟩
  | bool b =>
    cases hd
    obtain rfl : u = Value.bool b := ru
    exact PySem.P.repr_of_bool ⟨.str _, H, I.tok _, ⟨_, rfl⟩, by simpa only [PyData.shown] using q⟩
  | int i =>
    cases hd
    obtain ⟨t, rfl⟩ := ru
    have ha : i.natAbs.log2 < 1920 := by have := ok.able; simpa [PyData.showable] using this
    exact PySem.P.repr_of_int ha ⟨.str _, H, I.tok _, ⟨_, rfl⟩, by simpa only [PyData.shown] using q⟩
  | str z =>
    cases hd
    obtain ⟨t, rfl⟩ := ru
    exact PySem.P.repr_of_str ⟨.str _, H, I.tok _, ⟨_, rfl⟩, by simpa only [PyData.shown] using q⟩ (by have := ok.few; simpa only [PyData.shown] using this)
  | list ds =>
    obtain ⟨as, rd, pl⟩ := Dq.reads I _ x u hx ru
    exact big I ru rd pl ok (by cases hd; exact ⟨_, rfl⟩) q
  | tuple ds =>
    obtain ⟨as, rd, pl⟩ := Dq.reads I _ x u hx ru
    exact big I ru rd pl ok (by cases hd; exact ⟨_, rfl⟩) q
  | dict ds =>
    obtain ⟨as, rd, pl⟩ := Dq.reads I _ x u hx ru
    exact big I ru rd pl ok (by cases hd; exact ⟨_, rfl⟩) q
where
  big {pins : List (Addr × Obj)} {s : Shared} {σ : L2.St} {H : Hp} {Q : VK} {x : V} {u : Value} {d : PyData} {as : List Addr} (I : Inv X pins σ H s) (ru : RelV x u) (rd : Reads s.heap u d as) (pl : ∀ b ∈ as, Place X.K H b) (ok : Shows X.base d)
      (hx : ∃ a, x = .ref a) (q : Q (.str d.shown) H) : wpAny (model X.prog X.w) X.A (call (.builtin "repr") [u]) (EP X pins σ Q) X.xe s := by
    obtain ⟨a, rfl⟩ := hx
    obtain rfl : u = Value.ref a := ru
    have hno : d.hasDict = true → sysModules ∉ as := fun hd hm => by
      obtain ⟨o, ho, hc⟩ := ok.sys hd
      rcases pl _ hm with ⟨o', z⟩ | ⟨o', z, zc⟩
      · rw [(I.bs _ _ ho).2] at z; cases z
      · have e := I.ok.mod.kin _ _ z
        rw [ho] at e; cases e
        exact hc zc
    obtain ⟨T, idr, sb⟩ := showsBy_of_reads (prog := X.prog) (w := X.w) rd ok.able hno ok.few
    have deep := ok.deep
    refine call_repr_slot (by omega) (sb.typeIs s fun _ _ e => e) sb.slotRepr (sb.call _ _ s _ hg (by show X.A.units + 1 + d.depth < cLine; omega) (fun _ _ e => e) fun h' u tk hk => ?_)
    exact ⟨_, u, rfl, .str _, H, I.kept (t' := tk) hk, ⟨_, rfl⟩, q⟩
end Lg
namespace Lg
open PySem PySem.Spec PyProof.Rows L2
/-- as FnOk, of a def that is called where nothing is being shown -/
structure FnG (P : Program) (w : World) (K : PySem.W.Frag) (mg : Str → Option Value) (base : Heap) (k : Nat) (f : Addr) (fd : FuncData) (ps : List Str) (sp : Sp) : Prop where
  len : ∀ vs H Q E, sp vs H Q E → vs.length = ps.length
  run : ∀ (A : Around) (outer : List Env) (s : Shared) (H : Hp) (args : Args) (us : List Value) (vs : List V) (Q : VK) (E : XK), Room k A → A.guards = some [] → Env0 P w K mg base A outer s H → BindsTo s fd args (ps.zip us) → Vals vs us → sp vs H Q E →
    codeAny (model P w) A (.call (.ref f) args) (CR CX0 outer P w H s Q E) s
theorem FnG.of {P : Program} {w : World} {K : PySem.W.Frag} {mg : Str → Option Value} {base : Heap} {k : Nat} {f : Addr} {fd : FuncData} {ps : List Str} {sp : Sp} (F : FnOk P w K mg base CX0 k f fd ps sp) : FnG P w K mg base k f fd ps sp :=
  ⟨F.len, fun A outer s H args us vs Q E hr _ => F.run A outer s H args us vs Q E hr⟩
theorem FnG.mono {P : Program} {w : World} {K : PySem.W.Frag} {mg : Str → Option Value} {base : Heap} {j k : Nat} {f : Addr} {fd : FuncData} {ps : List Str} {sp : Sp} (F : FnG P w K mg base j f fd ps sp) (h : j ≤ k) : FnG P w K mg base k f fd ps sp :=
  ⟨F.len, fun A outer s H args us vs Q E hr => F.run A outer s H args us vs Q E (hr.mono h)⟩
theorem fn_ofG {P : Program} {w : World} {K : PySem.W.Frag} {mg : Str → Option Value} {base : Heap} {k : Nat} {f : Addr} {name qual : Str} {params : Arguments} {body : List Stmt} {scope : Scope} {dV kV doc pm cdv ct oc : Value} {an od : Option Addr}
    {osl : Array (Option Value)} {N ps : List Str} {sp : Sp} (lk : K.lookup f = some ⟨oc, od, .func (PySem.W.fnOf name qual params body scope dV kV doc pm an cdv ct), osl⟩) (hcd : PySem.W.codeIn K cdv qual = true) (S : FnScope N ps scope)
    (len : ∀ vs H Q E, sp vs H Q E → vs.length = ps.length)
    (hbody : ∀ (A : Around) (outer : List Env) (s : Shared) (H : Hp) (vs : List V) (Q : VK) (E : XK), Room k (A.deeper (envOfC qual scope s.heap.objs.size f cdv)) → A.guards = some [] → sp vs H Q E →
      ∃ t, PSs (cxOf CX0 P w K mg base N qual scope f cdv A outer s H E) body t ∧ t { nx := fun _ H' => Q .non H', rt := Q } (start N vs) H) :
    FnG P w K mg base (k + 1) f (PySem.W.fnOf name qual params body scope dV kV doc pm an cdv ct) ps sp := by
  refine ⟨len, fun A outer s H args us vs Q E hr hg e0 hb r hsp => ?_⟩
  have hl := len _ _ _ _ hsp
  have KX : K.In s.heap := e0.mod.kin.keeps fun b o e => (e0.bs b o e).1
  have lim : s.heap.NoLimit := e0.mod.nolimit.keeps fun b o e => (e0.bs b o e).1
  have hkind : ∀ y ∈ ps.zip us, scope.names.lookup y.1 = some .local ∨ (scope.names.lookup y.1 = some .cell ∧ ((cellsFrom (s.heap.objs.size + 1) scope.names []).lookup y.1).isSome = true) := fun ⟨n, v⟩ hy => by
    rcases S.par n (List.of_mem_zip hy).1 with q | q
    · exact .inl q
    · exact .inr ⟨q, PySem.W.cellsFrom_some _ _ _ (.inl q)⟩
  refine codeAny_call_function hr.depth (KX _ _ lk) rfl S.co S.gen rfl (PySem.W.codeRec_of KX hcd) (hb _ _ _ _ ?_)
  refine wpAny_newFunctionEnv_cells S.kind hkind fun env he s1 x => ?_
  subst he
  refine ⟨lim.keeps x.toInCall.keep, codeAny_func ?_⟩
  obtain ⟨t, ht, hq⟩ := hbody A outer s H vs Q E (hr.deeper _) hg hsp
  have I : Inv (cxOf CX0 P w K mg base N qual scope f cdv A outer s H E) [] (start N vs) H s1 := inv_start S hr.hd e0 hl r x
  refine wpAny_mono (ht.run [] s1 (start N vs) H _ I hq) (fun fl s' hs => ?_) fun e s' hs => hs
  have fin : ∀ {σ' : L2.St} {H' : Hp} {v : V} {u : Value}, Inv (cxOf CX0 P w K mg base N qual scope f cdv A outer s H E) [] σ' H' s' → RelV v u → Q v H' → CE outer P w H s Q u s' :=
    fun {σ' H' v u} J rv q => ⟨v, H', J.os, J.bare, J.base, J.hok, rv, q⟩
  cases fl with
  | ret u =>
    obtain ⟨v, σ', H', J, rv, q⟩ := hs
    exact fin J rv q
  | next =>
    obtain ⟨σ', H', J, q⟩ := hs
    exact fin (v := V.non) (u := Value.none) J rfl q
  | brk =>
    obtain ⟨_, _, _, q⟩ := hs
    exact False.elim q
  | cont =>
    obtain ⟨_, _, _, q⟩ := hs
    exact False.elim q
/-- the rule for such a def, by its derivation and its walk over ledgers -/
theorem okG {P : Program} {w : World} {K : PySem.W.Frag} {mg : Str → Option Value} {base : Heap} {x qual : Str} {st : Stmt} {f : Addr} {fd : FuncData} {N ps : List Str} {k : Nat} {S : SpL} (F : Fun K x qual st f fd) (sc : FnScope N ps (defScope st))
    (len : ∀ vs L Q, S vs L Q → vs.length = ps.length)
    (hbody : ∀ (cdv : Value) (A : Around) (outer : List Env) (s : Shared) (H : Hp) (E : XK), Room k (A.deeper (envOfC qual (defScope st) s.heap.objs.size f cdv)) → (A.deeper (envOfC qual (defScope st) s.heap.objs.size f cdv)).guards = some [] →
      ∃ t, PSs (cxOf CX0 P w K mg base N qual (defScope st) f cdv A outer s H E).nox (defBody st) t ∧ ∀ vs L LQ, S vs L LQ → Ws K t { nx := fun _ L => RetE K LQ .non L, rt := RetE K LQ } (start N vs) L) : FnG P w K mg base (k + 1) f fd ps (spL K S) := by
  obtain ⟨oc, od, kV, doc, pm, an, cdv, ct, osl, rfl, lk, hcd⟩ := F.ex
  refine fn_ofG lk hcd sc (fun vs H Q E h => let ⟨L, LQ, _, h, _⟩ := h; len vs L LQ h) fun A outer s H vs Q E hr hg hsp => ?_
  obtain ⟨t, ht, hw⟩ := hbody cdv A outer s H E hr hg
  exact ⟨t, ht.nox, of_ws hsp fun L LQ hS => hw vs L LQ hS⟩
structure CalG (P : Program) (w : World) (K : PySem.W.Frag) (mg : Str → Option Value) (base : Heap) (x : Str) (k : Nat) (ps : List Str) (S : SpL) : Prop where
  ex : ∃ f fd, FnG P w K mg base k f fd ps (spL K S) ∧ mg x = some (.ref f) ∧ PySem.W.keepIn K (.ref f) = true ∧ Binds K fd ps []
theorem pe_calG {X : Cx} {P : Program} {w : World} {K : PySem.W.Frag} {mg : Str → Option Value} {base : Heap} {x : Str} {k : Nat} {ps : List Str} {S : SpL} {p pos : Pos} {e : Expr} {es : List Expr} {t : TA} (c : CalG P w K mg base x k ps S) (hgd : X.A.guards = some []) (hr : Room k X.A) (hg : Gl X x) (ha : PA X (e :: es) t)
    (h1 : X.prog = P := by rfl) (h2 : X.w = w := by rfl) (h3 : X.K = K := by rfl) (h4 : X.mg = mg := by rfl) (h5 : X.base = base := by rfl)
    (hdb : (x == ("__debug__" : Str)) = false := by decide) (he : starEach (e :: es) X.env = (false, eval e X.env) :: starEach es X.env := by rfl) (hpl : (backTo pos (starEach es X.env)).any (·.1) = false := by rfl) :
    PE X (.Call (.Name x p) (e :: es) [] pos) (tCall (spL K S) [] E0 t) := by
  subst h1 h2 h3 h4 h5
  obtain ⟨f, fd, F, hm, hk, hb⟩ := c.ex
  refine ⟨fun pins s σ H Q I h => ?_⟩
  refine wpAny_Call_Name_kw (ld_glob I hg hm ?_ hdb)
  refine PySem.W.callWith_K (h₀ := X.base) I.ok.mod.kin hk (thn (ha.run pos pins s σ H _ I h) fun us s1 ⟨vs, H1, I1, r, q⟩ => ⟨I1.kIn, ?_⟩) he hpl
  have q' : spL X.K S vs H1 Q E0 := by simpa only [List.append_nil] using q
  replace q := q'
  have hl : (us ++ []).length = ps.length := by rw [List.append_nil, ← r.length]; exact F.len _ _ _ _ q
  have hb' := hb s1 us I1.kIn hl
  rw [List.append_nil] at hb'
  refine wpAny_call (codeAny_mono (F.run X.A X.stack s1 H1 ⟨us, []⟩ us vs Q E0 hr hgd I1.env0 hb' r q) fun r s' hq => ?_)
  cases r with
  | error e => exact (show False from hq).elim
  | ok fl =>
    cases fl with
    | ret u => exact I1.after hq
    | next => exact False.elim hq
    | brk => exact False.elim hq
    | cont => exact False.elim hq
end Lg
/-! sorted(xs, key=f), xs pairs of ints, f a def that hands back the pair turned about: its call keeps all. -/
namespace Lg
open PySem PySem.Spec PyProof.Rows L2

section
variable {prog : Program} {w : World} {A : Around} {s : Shared} {K : PySem.W.Frag} {f : Addr} {name qual : Str} {params : Arguments} {scope : Scope} {dV kV doc pm cdv ct oc : Value} {an od : Option Addr} {osl : Array (Option Value)}
/-- return (x[1], x[0]) -/
def turnedBody (x : Str) (p1 p2 p3 p4 q1 q2 r1 r2 : Pos) (j1 j2 k : Nat) : List Stmt :=
  [.Return (some (.Tuple [.Subscript (.Name x p1) (.Constant (.int 1) j1 q1) r1, .Subscript (.Name x p2) (.Constant (.int 0) j2 q2) r2] k p3)) p4]
theorem last_turn {x : Str} {p1 p2 p3 p4 q1 q2 r1 r2 : Pos} {j1 j2 k : Nat} {h : Heap} {tk : Nat} {t : Addr} {i j : Int} {a b : Tok}
    (lk : K.lookup f = some ⟨oc, od, .func (PySem.W.fnOf name qual params (turnedBody x p1 p2 p3 p4 q1 q2 r1 r2 j1 j2 k) scope dV kV doc pm an cdv ct), osl⟩) (hcd : PySem.W.codeIn K cdv qual = true)
    (hk : scope.kind = .function) (co : scope.isCoroutine = false) (gen : scope.isGenerator = false) (loc : scope.names.lookup x = some .local) (hdb : (x == ("__debug__" : Str)) = false)
    (hb : Binds K (PySem.W.fnOf name qual params (turnedBody x p1 p2 p3 p4 q1 q2 r1 r2 j1 j2 k) scope dV kV doc pm an cdv ct) [x] [])
    (hroom : A.depth < recursionLimit) (KX : K.In h) (lim : h.NoLimit) (ht : IsTup h t #[.int i a, .int j b]) :
    wpAny (model prog w) A (call (.ref f) [.ref t]) (PySem.W.KeyPure (.tuple [.int j, .int i]) { s with heap := h, toks := tk }) (fun _ _ => False) { s with heap := h, toks := tk } := by
  refine wpAny_call (codeAny_call_function hroom (KX _ _ lk) rfl co gen rfl (PySem.W.codeRec_of KX hcd) (hb { s with heap := h, toks := tk } [.ref t] KX rfl _ _ _ _ ?_))
  refine wpAny_newFunctionEnv_cells hk (fun y hy => ?_) fun env he s1 xx => ?_
  · have e : y = (x, Value.ref t) := by simpa using hy
    subst e
    exact .inl loc
  · subst he
    refine ⟨lim.keeps xx.toInCall.keep, codeAny_func ?_⟩
    obtain ⟨h1, tk1, e1, kp1⟩ := xx.done
    have hns := xx.toInCall.ns
    subst e1
    have ht1 : IsTup h1 t #[.int i a, .int j b] := by
      obtain ⟨o, e, c, n, d⟩ := ht
      exact ⟨o, kp1 _ _ e, c, n, d⟩
    refine wpAny_execs_cons (wpAny_Return_some ?_)
    have hv : bindL (newEnv scope h.objs.size mainGlobals (cellsFrom (h.objs.size + 1) scope.names []) (qual ++ ".<locals>.") (some f) cdv none builtinsNs).kindOf [(x, Value.ref t)] (fun _ => none) x = some (.ref t) := by
      unfold bindL bindL
      simp [newEnv, Env.kindOf, loc]
    have rdn : ∀ {Q : Value → Shared → Prop} {E : Value → Shared → Prop} {A' : Around} {tk' : Nat} {p : Pos}, Q (.ref t) { s with heap := h1, toks := tk' } →
        wpAny (model prog w) A' (eval (.Name x p) (newEnv scope h.objs.size mainGlobals (cellsFrom (h.objs.size + 1) scope.names []) (qual ++ ".<locals>.") (some f) cdv none builtinsNs)) Q E { s with heap := h1, toks := tk' } := fun {Q E A' tk' p} q =>
      wpAny_Name (wpAny_loadName_local hk loc hns hv q) hdb
    refine wpAny_Tuple_spliced ?_
    refine Calls.spliced_cons (Subscript_ (rdn (wpAny_Constant_int ?_)))
    refine item_tuple (j := 1) ht1 (by decide) (by decide) rfl rfl ?_ (by with_unfolding_all rfl) (by intro _; with_unfolding_all rfl)
    refine Calls.spliced_cons (Subscript_ (rdn (wpAny_Constant_int ?_)))
    refine item_tuple (j := 0) ht1 (by decide) (by decide) rfl rfl ?_ (by with_unfolding_all rfl) (by intro _; with_unfolding_all rfl)
    refine Calls.spliced_nil ⟨by show 2 ≤ sizeLine; decide, ?_⟩
    refine ⟨_, _, rfl, fun b o e => Heap.get?_push_of_some _ (kp1 b o e), ?_⟩
    exact Reads.tuple (Heap.get?_push_size _ rfl) rfl rfl (.cons (.int j b) (.cons (.int i a) .nil))
end

/-- the def at f hands back its pair turned about -/
structure Turns (K : PySem.W.Frag) (f : Addr) : Prop where
  go : ∀ (prog : Program) (w : World) (A : Around) (s : Shared) (h : Heap) (tk : Nat) (t : Addr) (i j : Int) (a b : Tok), A.depth < recursionLimit → K.In h → h.NoLimit → IsTup h t #[.int i a, .int j b] →
    wpAny (model prog w) A (call (.ref f) [.ref t]) (PySem.W.KeyPure (.tuple [.int j, .int i]) { s with heap := h, toks := tk }) (fun _ _ => False) { s with heap := h, toks := tk }
def pD2 (p : Nat × Nat) : PyData := .tuple [.int p.1, .int p.2]
/-- ascending by end, then beginning -/
def leEnd (p q : Nat × Nat) : Bool := decide (p.2 < q.2 ∨ (p.2 = q.2 ∧ p.1 ≤ q.1))
/-- sorted(xs, key=f) -/
def rSortEnd (K : PySem.W.Frag) : List V → List V → Hp → VK → Prop := fun vs zs H Q => ∃ (T : Hp) (a f : Addr) (xs : List V) (ps : List (Nat × Nat)), vs = [.ref a] ∧ zs = [.ref f] ∧ Turns K f ∧ SqL K H a xs ∧ Sub T H ∧ DqAll K T xs (ps.map pD2) ∧ ps.length ≤ sizeLine ∧
  ∀ p ys, H p = none → DqAll K T ys ((ps.mergeSort leEnd).map pD2) → Q (.ref p) (upd H p (.lst ys))
theorem each_pairs {K : PySem.W.Frag} {T : Hp} : ∀ {xs : List V} {us : List Value} {ps : List (Nat × Nat)}, Vals xs us → DqAll K T xs (ps.map pD2) → PySem.W.EachIs (fun u p => ∃ x, RelV x u ∧ Dq K T x (pD2 p)) us ps
  | _, _, [], .nil, h => .nil
  | _, _, _ :: _, .nil, h => nomatch h
  | _, _, [], .cons _ _, h => nomatch h
  | _, _, p :: ps, .cons r t, h => by
    cases h with | cons h1 h2 => exact .cons ⟨_, r, h1⟩ (each_pairs t h2)
theorem pairs_each {K : PySem.W.Frag} {T : Hp} : ∀ {us : List Value} {ps : List (Nat × Nat)}, PySem.W.EachIs (fun u p => ∃ x, RelV x u ∧ Dq K T x (pD2 p)) us ps → ∃ xs, Vals xs us ∧ DqAll K T xs (ps.map pD2)
  | _, _, .nil => ⟨[], .nil, .nil⟩
  | _, _, .cons ⟨x, r, h⟩ t => by
    obtain ⟨xs, h1, h2⟩ := pairs_each t
    exact ⟨x :: xs, .cons r h1, .cons h h2⟩
theorem alike_pairs {α : Type} (f g : α → Int) (l : List α) : PySem.W.AllAlike (l.map fun x => .tuple [.int (f x), .int (g x)]) := by
  intro d hd e he
  obtain ⟨x, _, rfl⟩ := List.mem_map.mp hd
  obtain ⟨y, _, rfl⟩ := List.mem_map.mp he
  rfl
theorem sortable_pairs {α : Type} (f g : α → Int) (l : List α) : PySem.W.Sortable (l.map fun x => .tuple [.int (f x), .int (g x)]) := by
  refine .inl fun d hd => ?_
  obtain ⟨x, _, rfl⟩ := List.mem_map.mp hd
  exact ⟨_, _, rfl⟩
theorem cr_sortEnd {X : Cx} {k : Nat} (hr : Room k X.A) : CallRK X (.builtin "sorted") [Str.ofString "key"] (rSortEnd X.K) := by
  intro pins s σ H vs zs us ws Q I r rz h
  obtain ⟨T, a, f, xs, ps, rfl, rfl, tr, hs, sub, hd, hl, q⟩ := h
  obtain ⟨its, rv, hls, hz⟩ := I.list hs
  obtain ⟨u, rfl, ru⟩ := vals1 r
  obtain rfl : u = Value.ref a := ru
  obtain ⟨z, rfl, rz'⟩ := vals1 rz
  obtain rfl : z = Value.ref f := rz'
  have e := each_pairs rv hd
  refine PySem.W.sorted_key_data (f := .ref f) (b := false) (fun p : Nat × Nat => .tuple [.int p.2, .int p.1]) hls.isList e (alike_pairs (fun p : Nat × Nat => (p.2 : Int)) (fun p => (p.1 : Int)) ps) (sortable_pairs (fun p : Nat × Nat => (p.2 : Int)) (fun p => (p.1 : Int)) ps) hl
    (fun p _ => ?_) (ksk_s1 _ _) (fun x => ksk_l1 _ _) (fun x => ksk_t1 f x) (fun v p hp _ hh tk kp => ?_) fun out c h' tk kp n1 hD ho eo => ?_
  · have := hr.un
    show X.A.units + 2 + 1 < cLine
    omega
  · obtain ⟨x, rx, dx⟩ := hp
    cases dx with
    | @tup t ys _ ht hds =>
      cases dps_ints (ns := [(p.1 : Int), (p.2 : Int)]) hds
      obtain rfl : v = Value.ref t := rx
      obtain ⟨_, its2, r2, o, ho, hc, n, hd⟩ := I.hok _ _ (sub _ _ ht)
      obtain ⟨u1, u2, rfl, ri, rj⟩ := vals2 r2
      obtain ⟨t1, rfl⟩ := ri
      obtain ⟨t2, rfl⟩ := rj
      exact tr.go _ _ _ s hh tk t p.1 p.2 t1 t2 (by have := hr.dp; show X.A.depth < _; omega) (I.kIn.keeps kp) (I.nolimit.keeps kp) ⟨o, kp _ _ ho, hc, n, hd⟩
  · obtain ⟨ys, r2, h2⟩ := pairs_each eo
    have hn := I.hok.fresh (a := s.heap.objs.size + 1) (Nat.le_succ _)
    have hle : PySem.W.dataLe false (fun p : Nat × Nat => PyData.tuple [.int p.2, .int p.1]) = leEnd := by
      rw [PySem.W.dataLe_ii (fun p : Nat × Nat => (p.2 : Int)) (fun p => (p.1 : Int))]
      funext p q
      unfold leEnd
      simp only [Int.ofNat_lt, Int.ofNat_le, Int.ofNat_inj]
    rw [hle] at h2
    refine ⟨.ref (s.heap.objs.size + 1), upd H (s.heap.objs.size + 1) (.lst ys), I.laid (t' := tk) kp (Nat.le_succ _) ⟨?_, out, c, r2, hD⟩, rfl, q _ ys hn h2⟩
    rw [dps_len h2, List.length_map, List.length_mergeSort]
    exact hl
theorem pe_sortEnd {X : Cx} {k : Nat} {p pos : Pos} {e : Expr} {kws : List Keyword} {t tk : TA} (hr : Room k X.A) (hg : Gl X "sorted") (hm : X.mg "sorted" = none) (ha : PA X [e] t) (hk : PK X kws tk)
    (he : backTo pos (starEach (e :: []) X.env) = (false, eval e X.env) :: backTo pos (starEach [] X.env) := by rfl) (hpl : (backTo pos (starEach (e :: []) X.env)).any (·.1) = false := by rfl)
    (hall : (backToKw pos (keywordEach kws X.env)).all (·.1.isSome) = true := by rfl) (hnone : (backToKw pos (keywordEach kws X.env)).any (·.1.isNone) = false := by rfl) (hks : (backToKw pos (keywordEach kws X.env)).filterMap (·.1) = [Str.ofString "key"] := by rfl) :
    PE X (.Call (.Name "sorted" p) [e] kws pos) (tCKw (rSortEnd X.K) t tk) :=
  pe_callBK (cr_sortEnd hr) hg hm (by decide +kernel) ha hk (by decide) (by decide) he hpl hall hnone hks
theorem wp_sortEnd {K : PySem.W.Frag} {σ : L2.St} {L : List As} {Q : LK} {ta tk : TA} (h : Wa K ta σ L fun vs L1 => Wa K tk σ L1 fun zs L2 => ∃ (x : V) (f : Addr) (ps : List (Nat × Nat)), vs = [x] ∧ zs = [.ref f] ∧ Turns K f ∧ Ls K L2 x (ps.map pD2) ∧ ps.length ≤ sizeLine ∧ ∀ p, Q (.ref p) (.ld p ((ps.mergeSort leEnd).map pD2) :: L2)) :
    Wp K (tCKw (rSortEnd K) ta tk) σ L Q := fun H hs Q0 u => h H hs _ fun vs H1 L1 h1 q => q H1 h1 _ fun zs H2 L2 h2 ⟨x, f, ps, e1, e2, tr, hl, hz, q2⟩ => by
  subst e1 e2
  obtain ⟨T, ht⟩ := h2
  obtain ⟨a, xs, rfl, hq, hd⟩ := hl T H2 ht
  exact ⟨T, a, f, xs, ps, rfl, rfl, tr, hq, ht.sub, hd, hz, fun p ys hp hy => u _ _ _ ⟨T, ht.lay (x := .ld p ((ps.mergeSort leEnd).map pD2)) hp rfl ⟨ys, upd_same, hy⟩⟩ (q2 p)⟩
end Lg
/-! enumerate of a tuple or a list of data. -/
namespace Lg
open PySem PySem.Spec PyProof.Rows L2
open Sem (wp)
open AutoSeq1 (wpAny_loadPart')

theorem enum_new1 {v : Value} {o : Obj} {Hh : Heap → Prop} (B : Begins v o Hh) :
    Meets (Builtin.«enumerate.__new__» ⟨[.type "enumerate", v], []⟩) (fun _ R s => Hh s.heap ∧
      R (.ok (.ret (.ref (s.heap.push o).objs.size))) { s with heap := (s.heap.push o).push { cls := .type "enumerate", data := .fields #[.none, .bool false, .ref s.heap.objs.size, rawInt 0, .none, .none] } }) :=
  .of_wp fun prog w A R s h => by
    obtain ⟨hp, g, d, tk, os⟩ := s; obtain ⟨hl, h⟩ := h
    have hsub := sub_enumerate
    have hi : ∀ {A : Around} {E : Value → Shared → Prop} {Q : Value → Shared → Prop}, Q (.ref hp.objs.size) ⟨hp.push o, g, d, tk, os⟩ → wpAny (model prog w) A (pyIter v) Q E ⟨hp, g, d, tk, os⟩ := fun {A E Q} q => B.iter prog w A E ⟨hp, g, d, tk, os⟩ Q hl q
    wp_walk using hi
    refine wpAny_stack_any fun st => wpAny_pure ?_
    split
    · rename_i c _ _ _ _ _
      cases (c == Value.type "enumerate")
      · wp_walk using hi
        exact ⟨_, rfl, h⟩
      · wp_walk using hi
        exact ⟨_, rfl, h⟩
    · wp_walk using hi
      exact ⟨_, rfl, h⟩
theorem enum_call1 {prog : Program} {w : World} {A : Around} {E : Value → Shared → Prop} {s : Shared} {v : Value} {o : Obj} {Hh : Heap → Prop} {Q : Value → Shared → Prop} (B : Begins v o Hh) (h1 : Hh s.heap)
    (h : ∀ h', IsEnum h' (s.heap.objs.size + 1) s.heap.objs.size 0 .none → h'.get? s.heap.objs.size = some o → (∀ b o, s.heap.get? b = some o → h'.get? b = some o) → Q (.ref (s.heap.objs.size + 1)) { s with heap := h' }) :
    wpAny (model prog w) A (call (.type "enumerate") [v]) Q E s := by
  refine callType_new F.called_enumerate (by decide) (F.typeCall_enumerate_1 _) (F.newCall_enumerate_1 _) (fun obj => F.args_object_init_2 obj _) F.entry_enumerate_new (enum_new1 B) ⟨h1, ?_⟩
  have hz : (s.heap.push o).objs.size = s.heap.objs.size + 1 := Heap.size_push ..
  show _ ∧ _
  rw [hz]
  have he : IsEnum ((s.heap.push o).push { cls := .type "enumerate", data := .fields #[.none, .bool false, .ref s.heap.objs.size, rawInt 0, .none, .none] }) (s.heap.objs.size + 1) s.heap.objs.size 0 .none := by
    have q := Heap.get?_push_size (s.heap.push o) (o := { cls := .type "enumerate", data := .fields #[.none, .bool false, .ref s.heap.objs.size, rawInt 0, .none, .none] }) rfl
    rw [hz] at q; exact q
  exact ⟨⟨_, he, rfl⟩, h _ he (Heap.get?_push_of_some _ (Heap.get?_push_size _ B.free)) fun b o x => Heap.get?_push_of_some _ (Heap.get?_push_of_some _ x)⟩

/-- the tuple at a, each item in a new pair -/
def ItT (K : PySem.W.Frag) (a : Addr) : It :=
  ⟨fun i H => ∃ (xs : List V) (x : V), SqT K H a xs ∧ xs[i]? = some x, fun i H v H' => ∃ T x, v = .ref T ∧ H T = none ∧ H' = upd H T (.tup [.int (i : Nat), x]) ∧ ∀ xs, SqT K H a xs → xs[i]? = some x, fun i H => ∃ xs : List V, SqT K H a xs ∧ xs.length ≤ i⟩
theorem turn_enumT {P : Program} {w : World} {K : PySem.W.Frag} {elts : List Expr} {kk : Nat} {tpos : Pos} (a e it : Addr) :
    Turn P w K (.Tuple elts kk tpos) (ItT K a) [e, it] e (fun i h => (∃ old, IsEnum h e it ((i : Nat) : Int) old) ∧ h.IsTupleIter it a i ∧ e ≠ it ∧ a ≠ it ∧ a ≠ e) where
  mem := by simp
  obj := fun i h st b hb => by
    obtain ⟨⟨old, he⟩, ⟨o, ho, hc, hd⟩, _⟩ := st
    have e' : b = e ∨ b = it := by simpa using hb
    rcases e' with z | z
    · rw [z]; exact ⟨_, he, fun v q => nomatch q⟩
    · rw [z]; exact ⟨o, ho, fun v q => by rw [hd] at q; cases q⟩
  keep := fun i h h' st k => let ⟨⟨old, he⟩, hi, hne⟩ := st; ⟨⟨old, k e (by simp) _ he⟩, hi.at fun o q => k it (by simp) o q, hne⟩
  item := by
    intro X hP hw hK hc i pins s σ H E I hf st hg
    subst hP hw hK
    obtain ⟨⟨old, he⟩, hit, hne, hn2, hn3⟩ := st
    obtain ⟨xs, x, hq, hx⟩ := hg
    obtain ⟨its, rv, p, hz⟩ := I.tuple hq
    obtain ⟨u, hu, ru⟩ := rv.get hx
    have hel : e < s.heap.objs.size := Heap.lt_size he
    have hil : it < s.heap.objs.size := by obtain ⟨_, q, _⟩ := hit; exact Heap.lt_size q
    have hlt : i < its.toArray.size := by
      rw [List.size_toArray]
      exact (List.getElem?_eq_some_iff.mp hu).1
    refine wpAny_pyNext_enum_itemD (Draws.tuple (A := X.A.in1) (I.ok.hd hc) it a hn2 its.toArray) he ⟨hit, p⟩ hlt hne (by simp [hne, Ne.symm hn3]) fun y h' tk hy ho st' hT hsz hk => ?_
    have ey : y = u := by
      rw [List.getElem?_toArray, hu] at hy
      exact (Option.some.inj hy).symm
    subst ey
    refine ⟨_, rfl, wpAny_letOwnedTupleGo_enum (s := { s with heap := h', toks := tk + 1 }) ho fun h'' he' sb => ?_⟩
    have hT2 : h''.get? s.heap.objs.size = some { cls := .type "tuple", data := .seq #[.int i tk, y] } := (sb.2 _ (Nat.ne_of_gt hel)).trans hT
    have new : ObjOk X.prog X.w (upd H s.heap.objs.size (.tup [.int (i : Nat), x])) h'' s.heap.objs.size (.tup [.int (i : Nat), x]) :=
      ⟨by show 2 ≤ sizeLine; decide, [.int i tk, y], .cons ⟨_, rfl⟩ (.cons ru .nil), ⟨_, hT2, rfl, _, rfl⟩⟩
    have I1 : Inv X pins σ (upd H s.heap.objs.size (.tup [.int (i : Nat), x])) { s with heap := h'', toks := tk + 1 } :=
      I.turnedNew (ch := [e, it]) (fun b ob hb q => (sb.2 b (fun z => hb (by simp [z]))).trans (hk b ob (fun z => hb (by simp [z])) (fun z => hb (by simp [z])) q)) hf (Nat.le_refl _) new
    refine ⟨.ref s.heap.objs.size, _, I1, rfl, ⟨_, x, rfl, I.hok.fresh (Nat.le_refl _), rfl, fun ys hy => by rw [I.tuple_inj hy hq]; exact hx⟩, ⟨⟨y, ?_⟩, st'.1.at fun o q => (sb.2 it (Ne.symm hne)).trans q, hne, hn2, hn3⟩, fun b hb => ?_⟩
    · have e1 : ((i + 1 : Nat) : Int) = (i : Int) + 1 := by omega
      rw [e1]; exact he'
    · have hb' : b < s.heap.objs.size := by
        have e' : b = e ∨ b = it := by simpa using hb
        rcases e' with z | z
        · rw [z]; exact hel
        · rw [z]; exact hil
      rw [upd_ne (Nat.ne_of_lt hb')]
      exact (hf b hb).1
  done := by
    intro X hP hw hK hc i pins s σ H E I hf st hg
    subst hP hw hK
    obtain ⟨⟨old, he⟩, hit, hne, hn2, hn3⟩ := st
    obtain ⟨xs, hq, hx⟩ := hg
    obtain ⟨its, rv, p, hz⟩ := I.tuple hq
    obtain ⟨f0, f1, f2, f3, f4, f5⟩ := hf it (by simp)
    have hl := rv.length
    exact enum_endT (I.ok.hd hc) he hit p hn2 (by rw [List.size_toArray]; omega) fun h' eb => ⟨rfl, I.turned (t' := s.toks) (fun b o hb q => eb b o hb q) f0 f1 f3 f4 f5⟩
  self := fun A i s Q E st h => let ⟨⟨_, he⟩, _⟩ := st; wpAny_pyIter_enum he h
where
  enum_endT {prog : Program} {w : World} {A : Around} {E : Value → Shared → Prop} {s : Shared} {e it a : Addr} {i : Nat} {items : Array Value} {old : Value} {Q : Option Value → Shared → Prop} (hh : A.handled = none) (he : IsEnum s.heap e it i old) (hit : s.heap.IsTupleIter it a i) (p : s.heap.IsTuple a items)
      (hne : a ≠ it) (hi : items.size ≤ i) (hQ : ∀ h', Heap.ExtBut it s.heap h' → Q none { s with heap := h' }) : wpAny (model prog w) A (pyNext (.ref e)) Q E s := by
    have hT : s.TypeIs (.ref e) "enumerate" := ⟨_, he, rfl⟩
    unfold pyNext
    refine wpAny_bind (wpAny_attempt (wpAny_callSpecial?_slot (name := Str.ofString "__next__") hT F.slot_enumerate_next
      (wpAny_call_entry F.slot_enumerate_next hT F.entry_enumerate_next ?_ (F.args_enumerate_next_1 _))))
    show wpAny _ _ (field (.ref e) 2 >>= _) _ _ _
    refine wpAny_bind (wpAny_field he rfl (x := .ref it) rfl ?_)
    refine wpAny_bind (wpAny_nextOf_tuple_end (A := A.in1) hh hit p (by simp; omega) fun h' x he' hx' => ?_)
    obtain ⟨o, ho, hc⟩ := hx'
    refine wpAny_bind (wpAny_isInstance (T := "StopIteration") (b := true) ⟨o, ho, hc⟩ isSubtype_stop ?_)
    exact wpAny_pure (hQ _ he')
def iEnumP (K : PySem.W.Frag) (ta : TA) : TI := fun σ H R => ta σ H fun vs H1 => ∃ a xs, vs = [.ref a] ∧ ((SqL K H1 a xs ∧ R (Ite K a) H1) ∨ (SqT K H1 a xs ∧ R (ItT K a) H1))
theorem pi_enumP {X : Cx} {e : Expr} {ta : TA} {p pos tpos : Pos} {elts : List Expr} {kk : Nat} (hg : Gl X "enumerate") (hm : X.mg "enumerate" = none) (ha : PA X [e] ta) (hs : starEach [e] X.env = [(false, eval e X.env)] := by rfl) :
    PI X (.Tuple elts kk tpos) (.Call (.Name "enumerate" p) [e] [] pos) (iEnumP X.K ta) := by
  refine ⟨fun pins s σ H R I h => ?_⟩
  refine Call_ (ld_blt I hg hm boot_enumerate (PyProof.Rows.callWith_type1 (thn (ha.run pos pins s σ H _ I h) fun us s1 ⟨vs, H1, I1, r1, q1⟩ => ?_) hs rfl))
  obtain ⟨a, xs, ex, q⟩ := q1
  subst ex
  obtain ⟨u, rfl, ru⟩ := vals1 r1
  obtain rfl : u = Value.ref a := ru
  have fresh : ∀ b ∈ [s1.heap.objs.size + 1, s1.heap.objs.size], FpOk X pins H1 b := fun b hb => by
    have hle : s1.heap.objs.size ≤ b := by
      have e' : b = s1.heap.objs.size + 1 ∨ b = s1.heap.objs.size := by simpa using hb
      rcases e' with z | z
      · rw [z]; exact Nat.le_add_right _ _
      · rw [z]; exact Nat.le_refl _
    exact I1.fpOk hle (I1.hok.fresh hle)
  rcases q with ⟨hq, q⟩ | ⟨hq, q⟩
  · obtain ⟨its, rv, p', hz⟩ := I1.list hq
    refine call_enumerate_list p'.isList fun h' he hit hsz hk => wpAny_pyIter_enum he ?_
    have I2 : Inv X pins σ H1 { s1 with heap := h' } := I1.kept (t' := s1.toks) hk
    exact ⟨s1.heap.objs.size + 1, [s1.heap.objs.size + 1, s1.heap.objs.size], _, _, H1, rfl, I2, turn_enum a (s1.heap.objs.size + 1) s1.heap.objs.size, ⟨⟨.none, he⟩, hit, Nat.succ_ne_self _⟩, fresh, q⟩
  · obtain ⟨its, rv, p', hz⟩ := I1.tuple hq
    have hal := p'.lt
    refine enum_call1 (begins_tuple a its.toArray) p' fun h' he hit hk => wpAny_pyIter_enum he ?_
    have I2 : Inv X pins σ H1 { s1 with heap := h' } := I1.kept (t' := s1.toks) hk
    exact ⟨s1.heap.objs.size + 1, [s1.heap.objs.size + 1, s1.heap.objs.size], _, _, H1, rfl, I2, turn_enumT a (s1.heap.objs.size + 1) s1.heap.objs.size, ⟨⟨.none, he⟩, ⟨_, hit, rfl, rfl⟩, Nat.succ_ne_self _, Nat.ne_of_lt hal, Nat.ne_of_lt (Nat.lt_succ_of_lt hal)⟩, fresh, q⟩
section
variable {K : PySem.W.Frag} {σ : L2.St} {L : List As}
def YE (ds : List PyData) : Nat → V → List As → List As → Prop := fun i v L L' => ∃ d, ds[i]? = some d ∧ L' = .da v (.tuple [.int i, d]) :: L
theorem wi_enumT {ta : TA} {Q : QI} (h : Wa K ta σ L fun vs L1 => ∃ x ds, vs = [x] ∧ Dv K L1 x (.tuple ds) ∧ Q L1 ds.length (fun L => Dv K L x (.tuple ds)) (YE ds)) : Wi K (iEnumP K ta) σ L Q := fun H hs R up => by
  refine h H hs _ fun vs H1 L1 h1 ⟨x, ds, e, hd, q⟩ => ?_
  subst e
  obtain ⟨T, ht⟩ := id h1
  cases hd T H1 ht with
  | @tup a xs _ ha hds =>
    refine ⟨a, xs, rfl, .inr ⟨SqT.of (ht.sub _ _ ha), up _ H1 L1 _ _ _ h1 ⟨fun i H L hl z hi => ?_, fun i H L hl z hi => ?_, fun i H L v H' hl z hi w => ?_⟩ q⟩⟩
    · obtain ⟨T, ht⟩ := hl
      cases z T H ht with
      | @tup b ys _ hb he =>
        have l := dps_len he
        exact ⟨ys, ys[i]'(by omega), SqT.of (ht.sub _ _ hb), by simp [show i < ys.length by omega]⟩
    · obtain ⟨T, ht⟩ := hl
      cases z T H ht with
      | @tup b ys _ hb he =>
        have l := dps_len he
        exact ⟨ys, SqT.of (ht.sub _ _ hb), by omega⟩
    · obtain ⟨T, ht⟩ := hl
      cases z T H ht with
      | @tup b ys _ hb he =>
        obtain ⟨P, x, rfl, nP, rfl, f1⟩ := w
        obtain ⟨d, e1, e2⟩ := dps_at he (f1 ys (SqT.of (ht.sub _ _ hb)))
        have sn := Sub.new (o := .tup [.int (i : Nat), x]) (ht.sub.non nP)
        exact ⟨_, ⟨_, ht.layD nP (d := .tuple [.int i, d]) (.tup upd_same (.cons (.int _) (.cons (sn.dp _ _ e2) .nil)))⟩, d, e1, rfl⟩
theorem wi_enumL {ta : TA} {Q : QI} (h : Wa K ta σ L fun vs L1 => ∃ x ds, vs = [x] ∧ Ls K L1 x ds ∧ Q L1 ds.length (fun L => Ls K L x ds) (YE ds)) : Wi K (iEnumP K ta) σ L Q := fun H hs R up => by
  refine h H hs _ fun vs H1 L1 h1 ⟨x, ds, e, hd, q⟩ => ?_
  subst e
  obtain ⟨T, ht⟩ := id h1
  obtain ⟨a, xs, rfl, hq, hds⟩ := hd T H1 ht
  refine ⟨a, xs, rfl, .inl ⟨hq, up _ H1 L1 _ _ _ h1 ⟨fun i H L hl z hi => ?_, fun i H L hl z hi => ?_, fun i H L v H' hl z hi w => ?_⟩ q⟩⟩
  · obtain ⟨T, ht⟩ := hl
    obtain ⟨a', ys, e, hq, he⟩ := z T H ht
    cases e
    have l := dps_len he
    exact ⟨ys, ys[i]'(by omega), hq, by simp [show i < ys.length by omega]⟩
  · obtain ⟨T, ht⟩ := hl
    obtain ⟨a', ys, e, hq, he⟩ := z T H ht
    cases e
    have l := dps_len he
    exact ⟨ys, hq, by omega⟩
  · obtain ⟨T, ht⟩ := hl
    obtain ⟨a', ys, e, hq, he⟩ := z T H ht
    cases e
    obtain ⟨P, x, rfl, nP, rfl, f1⟩ := w
    obtain ⟨d, e1, e2⟩ := dps_at he (f1 ys hq)
    have sn := Sub.new (o := .tup [.int (i : Nat), x]) (ht.sub.non nP)
    exact ⟨_, ⟨_, ht.layD nP (d := .tuple [.int i, d]) (.tup upd_same (.cons (.int _) (.cons (sn.dp _ _ e2) .nil)))⟩, d, e1, rfl⟩
end
end Lg
/-! A dict of lists of data that is one's own: keys are ints, each list an item of the ledger. -/
namespace Lg
open PySem PySem.Spec PyProof.Rows L2

abbrev Es := List (Int × Addr)
def dlK (es : Es) : List (Key × V) := es.map fun e => (.inl e.1, .ref e.2)
def dlS (es : Es) (g : Int → List PyData) : List As := es.map fun e => .ld e.2 (g e.1)
def gUp (g : Int → List PyData) (c : Int) (ys : List PyData) : Int → List PyData := fun x => if x = c then ys else g x
theorem gUp_self {g : Int → List PyData} {c : Int} {ys : List PyData} : gUp g c ys c = ys := if_pos rfl
theorem gUp_ne {g : Int → List PyData} {c x : Int} {ys : List PyData} (h : x ≠ c) : gUp g c ys x = g x := if_neg h
theorem dl_val : ∀ {es : Es} {c : Int}, c ∈ es.map (·.1) → ∃ l, valV (dlK es) (.inl c) = some (.ref l) ∧ (c, l) ∈ es
  | [], c, h => by cases h
  | e :: es, c, h => by
    by_cases q : e.1 = c
    · refine ⟨e.2, ?_, by rw [← q]; exact .head _⟩
      exact valV_pos (p := (Sum.inl e.1, V.ref e.2)) (by rw [q])
    · have h' : c ∈ es.map (·.1) := by
        rcases List.mem_cons.mp h with z | z
        · exact absurd z.symm q
        · exact z
      obtain ⟨l, h1, h2⟩ := dl_val h'
      exact ⟨l, (valV_neg (p := (Sum.inl e.1, V.ref e.2)) (fun z => q (Sum.inl.inj z))).trans h1, .tail _ h2⟩
theorem dl_none : ∀ {es : Es} {c : Int}, c ∉ es.map (·.1) → valV (dlK es) (.inl c) = none
  | [], c, h => rfl
  | e :: es, c, h => by
    have h1 : e.1 ≠ c := fun z => h (by rw [← z]; exact .head _)
    exact (valV_neg (p := (Sum.inl e.1, V.ref e.2)) (fun z => h1 (Sum.inl.inj z))).trans (dl_none fun z => h (.tail _ z))
theorem dl_put {es : Es} {c : Int} {z : Addr} (h : c ∉ es.map (·.1)) : putK (dlK es) (.inl c) (.ref z) = dlK (es ++ [(c, z)]) := by
  unfold putK
  rw [valV_any, dl_none h, if_neg (by decide)]
  unfold dlK
  rw [List.map_append]
  rfl
theorem dl_len (es : Es) : (dlK es).length = es.length := List.length_map _
theorem dls_mem {es : Es} {g : Int → List PyData} {c : Int} {l : Addr} (h : (c, l) ∈ es) {R : List As} : As.ld l (g c) ∈ dlS es g ++ R :=
  List.mem_append_left _ (List.mem_map.mpr ⟨(c, l), h, rfl⟩)
theorem dls_up_no : ∀ {es : Es} {g : Int → List PyData} {c : Int} {ys : List PyData}, c ∉ es.map (·.1) → dlS es (gUp g c ys) = dlS es g
  | [], _, _, _, _ => rfl
  | e :: es, g, c, ys, h => by
    have h1 : e.1 ≠ c := fun z => h (by rw [← z]; exact .head _)
    show As.ld e.2 (gUp g c ys e.1) :: dlS es (gUp g c ys) = As.ld e.2 (g e.1) :: dlS es g
    rw [gUp_ne h1, dls_up_no fun z => h (.tail _ z)]
theorem dls_put : ∀ {es : Es} {g : Int → List PyData} {c : Int} {l : Addr} {ys : List PyData} {R : List As}, (c, l) ∈ es → (es.map (·.1)).Nodup → Put (.ld l (g c)) (.ld l ys) (dlS es g ++ R) (dlS es (gUp g c ys) ++ R)
  | [], _, _, _, _, _, h, _ => by cases h
  | e :: es, g, c, l, ys, R, h, nd => by
    obtain ⟨n1, n2⟩ := List.nodup_cons.mp nd
    show Put _ _ (As.ld e.2 (g e.1) :: (dlS es g ++ R)) (As.ld e.2 (gUp g c ys e.1) :: (dlS es (gUp g c ys) ++ R))
    rcases List.mem_cons.mp h with z | z
    · subst z
      rw [dls_up_no n1, gUp_self]
      exact .here
    · have hc : e.1 ≠ c := fun q => n1 (by show e.1 ∈ _; rw [q]; exact List.mem_map.mpr ⟨(c, l), z, rfl⟩)
      rw [gUp_ne hc]
      exact .there (dls_put z n2)
theorem dls_new {K : PySem.W.Frag} {es : Es} {g : Int → List PyData} {c : Int} {z : Addr} {ys : List PyData} {R : List As} (h : c ∉ es.map (·.1)) : Ent K (.ld z ys :: (dlS es g ++ R)) (dlS (es ++ [(c, z)]) (gUp g c ys) ++ R) := fun T H q => by
  refine q.perm ?_
  have e : dlS (es ++ [(c, z)]) (gUp g c ys) = dlS es g ++ [.ld z ys] := by
    unfold dlS
    rw [List.map_append]
    have e1 := dls_up_no (g := g) (ys := ys) h
    unfold dlS at e1
    rw [e1]
    show _ ++ [As.ld z (gUp g c ys c)] = _
    rw [gUp_self]
  rw [e, List.append_assoc]
  exact (List.perm_middle (l₁ := dlS es g) (a := As.ld z ys) (l₂ := R)).symm
theorem Ent.tailE {K : PySem.W.Frag} {x : As} {L R : List As} (e : Ent K L R) : Ent K (x :: L) (x :: R) := Ent.cons .here e
/-- the values of some data came to hand, the first one last -/
inductive OutDs : List PyData → List V → List As → List As → Prop
  | nil {L : List As} : OutDs [] [] L L
  | cons {d : PyData} {ds : List PyData} {v : V} {vs : List V} {L L1 L2 : List As} : OutDs ds vs L L1 → OutD d v L1 L2 → OutDs (d :: ds) (v :: vs) L L2
theorem outs_hs {K : PySem.W.Frag} {T H : Hp} {L : List As} (h : HsT K T H L) : ∀ {vs : List V} {ds : List PyData}, DqAll K T vs ds → ∃ L', OutDs ds vs L L' ∧ HsT K T H L'
  | _, _, .nil => ⟨L, .nil, h⟩
  | _, _, .cons q t => by
    obtain ⟨L1, o1, h1⟩ := outs_hs h t
    obtain ⟨L2, o2, h2⟩ := out_hs h1 q
    exact ⟨L2, .cons o1 o2, h2⟩
/-- a, b = a datum that is a tuple -/
theorem wg_tupO {K : PySem.W.Frag} {σ : L2.St} {L : List As} {x : V} {n : Nat} {gs : TGs} {ds : List PyData} {Q : L2.St → List As → Prop} (m : Dv K L x (.tuple ds)) (hn : ds.length = n)
    (h : ∀ vs L', OutDs ds vs L L' → Wgs K gs vs σ L' Q) : Wg K (gTup K n gs) x σ L Q := fun H hs Q0 u => by
  obtain ⟨T, ht⟩ := hs
  have hd := m T H ht
  cases hd with
  | tup ha hds =>
    rename_i a xs
    obtain ⟨L', o, h'⟩ := outs_hs ht hds
    exact ⟨a, xs, rfl, SqT.of (ht.sub _ _ ha), (dps_len hds).trans hn, h xs L' o H ⟨T, h'⟩ Q0 u⟩
theorem Ent.put {K : PySem.W.Frag} {v : V} {d : PyData} {L L' : List As} (h : Dv K L v d) (e : Ent K L L') : Ent K L (.da v d :: L') := fun T H q => (e T H q).cons (h T H q)
theorem Ws.imp {K : PySem.W.Frag} {σ : L2.St} {L : List As} {ts : TS} {D D' : LE} (h : Ws K ts D σ L) (i1 : ∀ σ L, D.nx σ L → D'.nx σ L) (i2 : ∀ v L, D.rt v L → D'.rt v L) (i3 : ∀ σ L, D.bk σ L → D'.bk σ L) (i4 : ∀ σ L, D.ct σ L → D'.ct σ L) : Ws K ts D' σ L := fun H hs D0 le =>
  h H hs D0 ⟨fun σ H L h q => le.nx σ H L h (i1 _ _ q), fun σ H L h q => le.rt σ H L h (i2 _ _ q), fun σ H L h q => le.bk σ H L h (i3 _ _ q), fun σ H L h q => le.ct σ H L h (i4 _ _ q)⟩
/-- what is to follow, up to what follows from the ledger -/
abbrev NxE (K : PySem.W.Frag) (nx : L2.St → List As → Prop) : L2.St → List As → Prop := fun σ L => ∃ L', Ent K L L' ∧ nx σ L'
section
variable {K : PySem.W.Frag} {σ : L2.St} {L L' : List As} {Q : LK} {ta tb tc te td ty tv tx : TE} {x y v : V} {a : Addr} {ds : List PyData} {d : PyData}
theorem w2_eqPI {i j : Int} (q : Q (.bl (decide (i = j))) L) : W2 K (rEqP K) (.int i) (.int j) L Q := W2.fst (w2_eqI q)
theorem w2_nePI {i j : Int} (q : Q (.bl (!decide (i = j))) L) : W2 K (rNeP K) (.int i) (.int j) L Q := W2.fst (w2_neI q)
/-- a.setdefault(c, []) of a dict of lists -/
theorem wp_setdL (h : Wp K td σ L fun x L1 => ∃ a, x = .ref a ∧ (∃ kvs, As.pt a (.dK kvs) ∈ L1) ∧ Wp K ty σ L1 fun y L2 => ∃ es g c R, y = .int c ∧ Ent K L2 (.pt a (.dK (dlK es)) :: (dlS es g ++ R)) ∧ (es.map (·.1)).Nodup ∧ es.length < sizeLine ∧ (∀ x, x ∉ es.map (·.1) → g x = []) ∧
      ∀ es' l L3, Ent K L3 (.pt a (.dK (dlK es')) :: (dlS es' g ++ R)) → (es'.map (·.1)).Nodup → (c, l) ∈ es' → es'.length ≤ es.length + 1 → (∀ x, x ∈ es'.map (·.1) ↔ x ∈ es.map (·.1) ∨ x = c) → Q (.ref l) L3) :
    Wp K (tDSetd td ty (tLst tNil)) σ L Q := by
  refine wp_setdP (Wp.imp h fun x L1 ⟨a, e, m, q⟩ => ⟨a, e, m, Wp.imp q fun y L2 ⟨es, g, c, R, ey, en, nd, hl, g0, q2⟩ => Wp.ent en (wp_lst (wa_nil ⟨[], Dvs.nil, by decide, fun p => ⟨dlK es, .inl c, .tail _ (.head _), ey, by rw [dl_len]; exact hl, fun v hv => ?_, fun hv => ?_⟩⟩))⟩)
  · by_cases hc : c ∈ es.map (·.1)
    · obtain ⟨l, h1, h2⟩ := dl_val hc
      rw [h1] at hv
      cases hv
      exact q2 es l _ (Ent.drop Ent.refl) nd h2 (Nat.le_succ _) fun x => ⟨.inl, fun z => z.elim id fun z => by rw [z]; exact hc⟩
    · rw [dl_none hc] at hv; cases hv
  · by_cases hc : c ∈ es.map (·.1)
    · obtain ⟨l, h1, h2⟩ := dl_val hc
      rw [h1] at hv; cases hv
    · refine ⟨.ld p [] :: .pt a (.dK (dlK (es ++ [(c, p)]))) :: (dlS es g ++ R), .there (by rw [dl_put hc]; exact .here), q2 (es ++ [(c, p)]) p _ ?_ ?_ (by simp) (by simp) fun x => ?_⟩
      · refine Ent.cons (.there .here) ?_
        have z := dls_new (K := K) (g := g) (z := p) (ys := []) (R := R) hc
        have e : gUp g c [] = g := by
          funext x
          unfold gUp
          by_cases hx : x = c
          · rw [if_pos hx, hx, g0 c hc]
          · rw [if_neg hx]
        rw [e] at z
        exact z
      · rw [List.map_append]
        exact List.nodup_append.mpr ⟨nd, by simp, fun x hx y hy e => by
          have : y = c := by simpa using hy
          rw [e, this] at hx
          exact hc hx⟩
      · rw [List.map_append, List.mem_append]
        simp
/-- a.setdefault(c, []).append(v) -/
theorem ws_dapp {D : LE} (h : Wp K td σ L fun x L1 => ∃ a, x = .ref a ∧ (∃ kvs, As.pt a (.dK kvs) ∈ L1) ∧ Wp K ty σ L1 fun y L2 => ∃ es g c R, y = .int c ∧ Ent K L2 (.pt a (.dK (dlK es)) :: (dlS es g ++ R)) ∧ (es.map (·.1)).Nodup ∧ es.length < sizeLine ∧ (∀ x, x ∉ es.map (·.1) → g x = []) ∧
      ∀ es', (es'.map (·.1)).Nodup → es'.length ≤ es.length + 1 → (∀ x, x ∈ es'.map (·.1) ↔ x ∈ es.map (·.1) ∨ x = c) → Wp K tv σ (.pt a (.dK (dlK es')) :: (dlS es' g ++ R)) fun v L3 => ∃ d R', Dv K L3 v d ∧ Ent K L3 (.pt a (.dK (dlK es')) :: (dlS es' g ++ R')) ∧ (g c).length < sizeLine ∧
        D.nx σ (.da v d :: .pt a (.dK (dlK es')) :: (dlS es' (gUp g c (g c ++ [d])) ++ R'))) :
    Ws K (tDrop (tBM K "list" rAppend (tDSetd td ty (tLst tNil)) (tCons tv tNil))) D σ L := by
  refine ws_drop (wp_bm (wp_setdL (Wp.imp h fun x L1 ⟨a, e, m, q⟩ => ⟨a, e, m, Wp.imp q fun y L2 ⟨es, g, c, R, ey, en, nd, hl, g0, q2⟩ => ⟨es, g, c, R, ey, en, nd, hl, g0, fun es' l L3 e3 nd' m' l' k' => ⟨?_, ?_⟩⟩⟩)))
  · exact fun H hs => tyL_ld (List.Mem.tail _ (dls_mem m')) H (e3.hs hs)
  · refine wa_cons ?_
    refine Wp.ent e3 (Wp.imp (q2 es' nd' l' k') fun v L4 ⟨d, R', hd, e4, hg, q3⟩ => wa_nil ?_)
    have e5 := Ent.put hd e4
    have w : Wm K rAppend (.ref l) [v] (.da v d :: .pt a (.dK (dlK es')) :: (dlS es' g ++ R')) (fun _ L => D.nx σ L) := wm_append (d := d) (.there (.there (dls_put m' nd'))) (Dv.mem (.head _)) hg q3
    exact fun H hs => w H (e5.hs hs)
end
end Lg
/-! Touches and their holds: what the defs compute, in plain terms; pairs and ints as data. -/
namespace Lg
open PySem PySem.Spec PyProof.Rows L2

/-! ### data -/
theorem natB (a c : Nat) : ((a : Int) == (c : Int)) = decide (a = c) := by
  by_cases h : a = c
  · subst h; simp
  · rw [decide_eq_false h]
    exact beq_false_of_ne (fun z => h (by omega))
theorem eqv_pair (p q : Nat × Nat) : PyData.eqv (pD2 p) (pD2 q) = decide (p = q) := by
  obtain ⟨a, b⟩ := p
  obtain ⟨c, d⟩ := q
  simp only [pD2, PyData.eqv, PyData.eqvAll, Bool.and_true]
  rw [natB, natB]
  by_cases h1 : a = c <;> by_cases h2 : b = d <;> simp [h1, h2]
theorem can_pairs : ∀ ps : List (Nat × Nat), PyData.canLayAll0 (ps.map pD2) = true
  | [] => rfl
  | p :: ps => by
    simp only [List.map_cons, PyData.canLayAll0, can_pairs ps, Bool.and_true]
    rfl
theorem depth_pair (p : Nat × Nat) : (pD2 p).depth = 1 := by simp [pD2, PyData.depth, PyData.depthAll]
theorem depth_pairs : ∀ ps : List (Nat × Nat), PyData.depthAll (ps.map pD2) ≤ 1
  | [] => by simp [PyData.depthAll]
  | p :: ps => by
    have h := depth_pairs ps
    simp only [List.map_cons, PyData.depthAll, depth_pair]
    omega
theorem shaped_pair (p : Nat × Nat) : SeqAt.shaped (pD2 p) = true := by
  unfold SeqAt.shaped
  rw [depth_pair]
  rfl
theorem shaped_pairs (ps : List (Nat × Nat)) : SeqAt.shaped (.list (ps.map pD2)) = true := by
  unfold SeqAt.shaped
  have h := depth_pairs ps
  simp only [PyData.canLay0, can_pairs, PyData.depth, Bool.true_and]
  exact decide_eq_true (by omega)
theorem shaped_pairsT (ps : List (Nat × Nat)) : SeqAt.shaped (.tuple (ps.map pD2)) = true := by
  unfold SeqAt.shaped
  have h := depth_pairs ps
  simp only [PyData.canLay0, can_pairs, PyData.depth, Bool.true_and]
  exact decide_eq_true (by omega)
theorem can_ints : ∀ ns : List Int, PyData.canLayAll0 (ns.map .int) = true
  | [] => rfl
  | p :: ps => by
    simp only [List.map_cons, PyData.canLayAll0, can_ints ps, Bool.and_true]
    rfl
theorem depth_ints : ∀ ps : List Int, PyData.depthAll (ps.map .int) ≤ 1
  | [] => by simp [PyData.depthAll]
  | p :: ps => by
    have h := depth_ints ps
    simp only [List.map_cons, PyData.depthAll, PyData.depth]
    omega
theorem shaped_ints (ps : List Int) : SeqAt.shaped (.list (ps.map .int)) = true := by
  unfold SeqAt.shaped
  have h := depth_ints ps
  simp only [PyData.canLay0, can_ints, PyData.depth, Bool.true_and]
  exact decide_eq_true (by omega)
theorem eqv_ints : ∀ xs ys : List Int, PyData.eqvAll (xs.map .int) (ys.map .int) = decide (xs = ys)
  | [], [] => rfl
  | [], _ :: _ => rfl
  | _ :: _, [] => rfl
  | x :: xs, y :: ys => by
    simp only [List.map_cons, PyData.eqvAll, PyData.eqv, eqv_ints xs ys]
    by_cases h1 : x = y <;> by_cases h2 : xs = ys <;> simp [h1, h2]
/-- ascending by begin, then end -/
def leLex (p q : Nat × Nat) : Bool := decide (p.1 < q.1 ∨ (p.1 = q.1 ∧ p.2 ≤ q.2))
theorem sortOk_pairs {ps : List (Nat × Nat)} (h : ps.length ≤ sizeLine) : SortOk (ps.map pD2) := by
  refine ⟨PySem.W.AllAlike.of fun b b' => ?_, PySem.W.Sortable.tuples fun b => ⟨_, _, rfl⟩, fun d hd => ?_, by rw [List.length_map]; exact h⟩
  · simp [pD2, PySem.W.alike, PySem.W.alikeAll]
  · obtain ⟨p, _, rfl⟩ := List.mem_map.mp hd
    rw [depth_pair]
    decide
theorem sort_pairs (ps : List (Nat × Nat)) : sortD (ps.map pD2) = (ps.mergeSort leLex).map pD2 := by
  unfold sortD
  refine (List.map_mergeSort fun a _ b _ => ?_).symm
  have e := congrFun (congrFun (PySem.W.dataLe_ii (fun p : Nat × Nat => (p.1 : Int)) (fun p => (p.2 : Int))) a) b
  have e2 : PySem.W.dataLe false (id : PyData → PyData) (pD2 a) (pD2 b) = PySem.W.dataLe false (fun p : Nat × Nat => PyData.tuple [.int p.1, .int p.2]) a b := rfl
  rw [e2, e]
  unfold leLex
  simp only [Int.ofNat_lt, Int.ofNat_le, Int.ofNat_inj]
theorem sortOk_ints {ps : List Int} (h : ps.length ≤ sizeLine) : SortOk (ps.map .int) := by
  refine ⟨PySem.W.AllAlike.of fun b b' => ?_, PySem.W.Sortable.others fun b => ⟨fun e => (nomatch e), fun xs e => (nomatch e)⟩, fun d hd => ?_, by rw [List.length_map]; exact h⟩
  · simp [PySem.W.alike]
  · obtain ⟨p, _, rfl⟩ := List.mem_map.mp hd
    simp [PyData.depth]
theorem sort_ints (ps : List Int) : sortD (ps.map .int) = (ps.mergeSort fun a b => decide (a ≤ b)).map .int := by
  unfold sortD
  refine (List.map_mergeSort fun a _ b _ => ?_).symm
  have e := congrFun (congrFun (PySem.W.dataLe_int (fun p : Int => p)) a) b
  exact e.symm

/-! ### touches -/
/-- the last place ahead of i where c stands -/
def lastIx (ts : List Int) : Nat → Int → Option Nat
  | 0, _ => none
  | i + 1, c => if ts[i]? = some c then some i else lastIx ts i c
/-- the hold that ends at i -/
def holdAt (ts : List Int) (i : Nat) : List (Nat × Nat) :=
  match ts[i]? with
  | none => []
  | some c =>
    match lastIx ts i c with
    | none => []
    | some b => [(b, i)]
def holdsTo (ts : List Int) : Nat → List (Nat × Nat)
  | 0 => []
  | i + 1 => holdsTo ts i ++ holdAt ts i
def holds (ts : List Int) : List (Nat × Nat) := (holdsTo ts ts.length).mergeSort leLex
theorem holdAt_len (ts : List Int) (i : Nat) : (holdAt ts i).length ≤ 1 := by
  unfold holdAt
  split
  · simp
  · split <;> simp
theorem holdsTo_len (ts : List Int) : ∀ i, (holdsTo ts i).length ≤ i
  | 0 => Nat.le_refl _
  | i + 1 => by
    have := holdsTo_len ts i
    have := holdAt_len ts i
    unfold holdsTo
    rw [List.length_append]
    omega
theorem holds_len (ts : List Int) : (holds ts).length ≤ ts.length := by
  unfold holds
  rw [List.length_mergeSort]
  exact holdsTo_len ts _
/-- the hold reaches over the place -/
def covB (h : Nat × Nat) (p : Nat) : Bool := decide (h.1 < p) && decide (p < h.2)
/-- one place of the keeping: k is the room less one -/
def keepK (k : Nat) (kept : List (Nat × Nat)) (p : Nat) : List (Nat × Nat) :=
  let gu := ((kept.filter fun h => covB h p).mergeSort leEnd).drop k
  kept.filter fun h => !decide (h ∈ gu)
def begunAt (hs : List (Nat × Nat)) (p : Nat) : List (Nat × Nat) := hs.filter fun h => decide (h.1 + 1 = p)
def keepTo (k : Nat) (hs : List (Nat × Nat)) : Nat → List (Nat × Nat)
  | 0 => []
  | p + 1 => keepK k (keepTo k hs p ++ begunAt hs p) p
def kept (ts : List Int) (k : Nat) : List (Nat × Nat) := (keepTo k (holds ts) ts.length).mergeSort leLex
def fewest (ts : List Int) (room : Nat) : Int := (ts.length : Int) - ((kept ts (room - 1)).length : Int)
theorem valD_put {kvs : List (Key × PyData)} {k k' : Key} {v : PyData} : valD (putD kvs k v) k' = if k' = k then some v else valD kvs k' := by
  unfold putD
  split
  · rename_i h
    induction kvs with
    | nil => cases h
    | cons q r ih =>
      rw [List.map_cons]
      unfold valD at ih ⊢
      by_cases hq : q.1 = k'
      · by_cases hk : k' = k
        · rw [if_pos hk, if_pos (hq.trans hk), List.find?_cons_of_pos (by exact decide_eq_true hq)]
          rfl
        · rw [if_neg hk, if_neg (fun z => hk (hq.symm.trans z)), List.find?_cons_of_pos (by exact decide_eq_true hq), List.find?_cons_of_pos (by exact decide_eq_true hq)]
      · have hm : (if q.1 = k then (q.1, v) else q).1 ≠ k' := by
          split
          · exact hq
          · exact hq
        rw [List.find?_cons_of_neg (by simpa using hm), List.find?_cons_of_neg (by simpa using hq)]
        by_cases hr : (r.any fun kv => decide (kv.1 = k)) = true
        · exact ih hr
        · have hn : ∀ kv ∈ r, kv.1 ≠ k := fun kv hm e => hr (List.any_eq_true.mpr ⟨kv, hm, decide_eq_true e⟩)
          have e1 : r.map (fun kv => if kv.1 = k then (kv.1, v) else kv) = r := by
            conv => rhs; rw [← List.map_id r]
            refine List.map_congr_left fun kv hm => ?_
            rw [if_neg (hn kv hm)]; rfl
          rw [e1]
          have hqk : q.1 = k := by
            rw [List.any_cons, Bool.or_eq_true] at h
            rcases h with h | h
            · exact of_decide_eq_true h
            · exact absurd h hr
          by_cases hk : k' = k
          · exact absurd (hqk.trans hk.symm) hq
          · rw [if_neg hk]
  · rename_i h
    have hn : ∀ kv ∈ kvs, kv.1 ≠ k := fun kv hm e => h (List.any_eq_true.mpr ⟨kv, hm, decide_eq_true e⟩)
    unfold valD
    rw [List.find?_append]
    by_cases hk : k' = k
    · subst hk
      rw [if_pos rfl, List.find?_eq_none.mpr (fun kv hm => by simpa using hn kv hm)]
      simp
    · rw [if_neg hk, List.find?_cons_of_neg (by simpa using fun e => hk e.symm)]
      simp
theorem putD_len {kvs : List (Key × PyData)} {k : Key} {v : PyData} : (putD kvs k v).length ≤ kvs.length + 1 := by
  unfold putD
  split
  · rw [List.length_map]; exact Nat.le_succ _
  · rw [List.length_append]; exact Nat.le_refl _
theorem begun_count (hs : List (Nat × Nat)) (p : Nat) : hs.countP (fun h => decide (h.1 + 1 < p)) + (begunAt hs p).length = hs.countP fun h => decide (h.1 + 1 < p + 1) := by
  unfold begunAt
  rw [← List.countP_eq_length_filter]
  induction hs with
  | nil => rfl
  | cons h t ih =>
    rw [List.countP_cons, List.countP_cons, List.countP_cons]
    by_cases h1 : h.1 + 1 < p
    · rw [if_pos (decide_eq_true h1), if_neg (by simpa using (by omega : ¬ h.1 + 1 = p)), if_pos (decide_eq_true (by omega))]
      omega
    · by_cases h2 : h.1 + 1 = p
      · rw [if_neg (by simpa using h1), if_pos (decide_eq_true h2), if_pos (decide_eq_true (by omega))]
        omega
      · rw [if_neg (by simpa using h1), if_neg (by simpa using h2), if_neg (by simpa using (by omega : ¬ h.1 + 1 < p + 1))]
        omega
theorem keepTo_count (k : Nat) (hs : List (Nat × Nat)) : ∀ p, (keepTo k hs p).length ≤ hs.countP fun h => decide (h.1 + 1 < p)
  | 0 => Nat.zero_le _
  | p + 1 => by
    have h1 := keepTo_count k hs p
    have h2 := begun_count hs p
    have h3 : (keepK k (keepTo k hs p ++ begunAt hs p) p).length ≤ (keepTo k hs p ++ begunAt hs p).length := List.length_filter_le _ _
    rw [List.length_append] at h3
    show (keepK k (keepTo k hs p ++ begunAt hs p) p).length ≤ _
    omega
theorem keepTo_len (k : Nat) (hs : List (Nat × Nat)) (p : Nat) : (keepTo k hs p).length + (begunAt hs p).length ≤ hs.length := by
  have h1 := keepTo_count k hs p
  have h2 := begun_count hs p
  have h3 : hs.countP (fun h => decide (h.1 + 1 < p + 1)) ≤ hs.length := List.countP_le_length
  omega
/-- a slice from a place on -/
theorem cut_from {ds : List PyData} {k : Nat} : cutD ds (some (k : Int)) none = ds.drop k := by
  unfold cutD
  rw [HT.sIx_nat, HT.sIx_none]
  by_cases h : k ≤ ds.length
  · rw [Nat.min_eq_left h]
    exact List.take_of_length_le (by rw [List.length_drop]; exact Nat.le_refl _)
  · rw [Nat.min_eq_right (by omega), List.drop_of_length_le (Nat.le_refl _), List.drop_of_length_le (by omega : ds.length ≤ k)]
    simp
/-- the holds that begin at c -/
def begOf (hs : List (Nat × Nat)) (c : Int) : List (Nat × Nat) := hs.filter fun h => decide ((h.1 : Int) = c)
theorem begOf_pred (hs : List (Nat × Nat)) (i : Nat) : begOf hs ((i : Int) - 1) = begunAt hs i := by
  unfold begOf begunAt
  refine List.filter_congr fun h _ => ?_
  exact decide_eq_decide.mpr (by omega)
theorem begOf_step {hs : List (Nat × Nat)} {i : Nat} {p : Nat × Nat} (h : hs[i]? = some p) : gUp (fun c => (begOf (hs.take i) c).map pD2) p.1 ((begOf (hs.take i) p.1).map pD2 ++ [pD2 p]) = fun c => (begOf (hs.take (i + 1)) c).map pD2 := by
  funext c
  have e : hs.take (i + 1) = hs.take i ++ [p] := by rw [List.take_add_one, h]; rfl
  rw [e]
  unfold gUp begOf
  rw [List.filter_append, List.map_append]
  by_cases hc : c = p.1
  · rw [if_pos hc, hc, List.filter_cons_of_pos (by simp)]
    rfl
  · rw [if_neg hc, List.filter_cons_of_neg (by simpa using fun z => hc z.symm)]
    simp
theorem pD2_at {ps : List (Nat × Nat)} {i : Nat} {d : PyData} (h : (ps.map pD2)[i]? = some d) : ∃ p, ps[i]? = some p ∧ d = pD2 p := by
  rw [List.getElem?_map] at h
  cases e : ps[i]? with
  | none => rw [e] at h; cases h
  | some c => rw [e] at h; exact ⟨c, rfl, (Option.some.inj h).symm⟩
theorem any_pairs (ps : List (Nat × Nat)) (p : Nat × Nat) : ((ps.map pD2).any fun z => PyData.eqv z (pD2 p)) = decide (p ∈ ps) := by
  induction ps with
  | nil => simp
  | cons q t ih =>
    rw [List.map_cons, List.any_cons, ih, eqv_pair]
    by_cases h1 : q = p <;> by_cases h2 : p ∈ t <;> simp [h1, h2, eq_comm]
    exact fun z => h1 z.symm
theorem filt_step {α : Type} {xs : List α} {i : Nat} {x : α} {f : α → Bool} (h : xs[i]? = some x) : (xs.take (i + 1)).filter f = (xs.take i).filter f ++ if f x = true then [x] else [] := by
  rw [List.take_add_one, h, List.filter_append]
  show _ ++ List.filter f [x] = _
  by_cases hf : f x = true
  · rw [List.filter_cons_of_pos hf, if_pos hf]; rfl
  · rw [List.filter_cons_of_neg hf, if_neg hf]; rfl
theorem Ent.perm {K : PySem.W.Frag} {L L' : List As} (p : List.Perm L L') : Ent K L L' := fun _ _ h => h.perm p
theorem Ls.ent {K : PySem.W.Frag} {L L' : List As} {x : V} {ds : List PyData} (e : Ent K L' L) (h : Ls K L x ds) : Ls K L' x ds := fun T H q => h T H (e T H q)
theorem TyL.ent {K : PySem.W.Frag} {L L' : List As} {x : V} {s : String} (e : Ent K L' L) (h : TyL K s x L) : TyL K s x L' := fun H q => h H (e.hs q)
theorem Wm.ent {K : PySem.W.Frag} {L L' : List As} {r : V → List V → Hp → VK → Prop} {x : V} {xs : List V} {Q : LK} (e : Ent K L L') (h : Wm K r x xs L' Q) : Wm K r x xs L Q := fun H hs => h H (e.hs hs)
theorem Wc.ent {K : PySem.W.Frag} {L L' : List As} {r : List V → Hp → VK → Prop} {xs : List V} {Q : LK} (e : Ent K L L') (h : Wc K r xs L' Q) : Wc K r xs L Q := fun H hs => h H (e.hs hs)
theorem W2.ent {K : PySem.W.Frag} {L L' : List As} {r : R2} {x y : V} {Q : LK} (e : Ent K L L') (h : W2 K r x y L' Q) : W2 K r x y L Q := fun H hs => h H (e.hs hs)
theorem Wa.ent {K : PySem.W.Frag} {L L' : List As} {t : TA} {σ : L2.St} {Q : List V → List As → Prop} (e : Ent K L L') (h : Wa K t σ L' Q) : Wa K t σ L Q := fun H hs => h H (e.hs hs)
theorem Wt.ent {K : PySem.W.Frag} {L L' : List As} {t : TT} {σ : L2.St} {Q : Bool → List As → Prop} (e : Ent K L L') (h : Wt K t σ L' Q) : Wt K t σ L Q := fun H hs => h H (e.hs hs)
theorem Ent.behind {K : PySem.W.Frag} {L : List As} : ∀ {A : List As}, Ent K (A ++ L) L
  | [] => Ent.refl
  | _ :: A => Ent.drop (Ent.behind (A := A))
/-! ### the cells of touches -/
def uniqS (acc : List Int) (c : Int) : List Int := if c ∈ acc then acc else acc ++ [c]
def uniq (ts : List Int) : List Int := ts.foldl uniqS []
theorem uniqS_mem {acc : List Int} {c k : Int} : k ∈ uniqS acc c ↔ k ∈ acc ∨ k = c := by
  unfold uniqS
  split
  · rename_i h
    exact ⟨.inl, fun z => z.elim id fun z => by rw [z]; exact h⟩
  · simp
theorem uniqS_nodup {acc : List Int} {c : Int} (h : acc.Nodup) : (uniqS acc c).Nodup := by
  unfold uniqS
  split
  · exact h
  · rename_i hc
    exact List.nodup_append.mpr ⟨h, by simp, fun x hx y hy e => by
      have : y = c := by simpa using hy
      rw [e, this] at hx
      exact hc hx⟩
theorem uniqF : ∀ (ts acc : List Int), acc.Nodup → (ts.foldl uniqS acc).Nodup ∧ ∀ k, k ∈ ts.foldl uniqS acc ↔ k ∈ acc ∨ k ∈ ts
  | [], acc, h => ⟨h, fun k => by simp⟩
  | c :: ts, acc, h => by
    obtain ⟨h1, h2⟩ := uniqF ts (uniqS acc c) (uniqS_nodup h)
    refine ⟨h1, fun k => (h2 k).trans ?_⟩
    rw [uniqS_mem, List.mem_cons, or_assoc]
theorem uniq_nodup (ts : List Int) : (uniq ts).Nodup := (uniqF ts [] List.nodup_nil).1
theorem uniq_mem {ts : List Int} {k : Int} : k ∈ uniq ts ↔ k ∈ ts := ((uniqF ts [] List.nodup_nil).2 k).trans (by simp)
theorem len_same {xs ys : List Int} (h1 : xs.Nodup) (h2 : ys.Nodup) (h : ∀ k, k ∈ xs ↔ k ∈ ys) : xs.length = ys.length :=
  List.Perm.length_eq ((List.perm_ext_iff_of_nodup h1 h2).mpr h)
def cells (ts : List Int) : Nat := (uniq ts).length
theorem uniqS_len {acc : List Int} {c : Int} : (uniqS acc c).length ≤ acc.length + 1 := by
  unfold uniqS
  split
  · exact Nat.le_succ _
  · rw [List.length_append]; exact Nat.le_refl _
theorem uniqF_len : ∀ (ts acc : List Int), (ts.foldl uniqS acc).length ≤ acc.length + ts.length
  | [], acc => Nat.le_refl _
  | c :: ts, acc => by
    have h1 := uniqF_len ts (uniqS acc c)
    have h2 := uniqS_len (acc := acc) (c := c)
    show (ts.foldl uniqS (uniqS acc c)).length ≤ _
    rw [List.length_cons]
    omega
theorem cells_le (ts : List Int) : cells ts ≤ ts.length := by
  have := uniqF_len ts []
  unfold cells uniq
  simpa using this
theorem uniq_step {ts : List Int} {i : Nat} {c : Int} (h : ts[i]? = some c) : uniq (ts.take (i + 1)) = uniqS (uniq (ts.take i)) c := by
  unfold uniq
  rw [List.take_add_one, h, List.foldl_append]
  rfl
/-- the least room with at most so many fetches -/
def leastRoom (ts : List Int) (many : Int) : Option Nat := ((List.range (max 1 (cells ts))).find? fun k => decide (fewest ts (k + 1) ≤ many)).map (· + 1)
def optV : Option Nat → V
  | none => .non
  | some k => .int (k : Nat)
def optD : Option Nat → PyData
  | none => .none
  | some k => .int (k : Nat)
theorem cut_to {ds : List PyData} {k : Nat} : cutD ds none (some (k : Int)) = ds.take k := by
  unfold cutD
  rw [HT.sIx_nat, HT.sIx_none, List.drop_zero, Nat.sub_zero]
  by_cases h : k ≤ ds.length
  · rw [Nat.min_eq_left h]
  · rw [Nat.min_eq_right (by omega), List.take_of_length_le (Nat.le_refl _), List.take_of_length_le (by omega : ds.length ≤ k)]
theorem eqvL_nil (gs : List Int) : PyData.eqv (.list (gs.map .int)) (.list []) = decide (gs = []) := eqv_ints gs []
theorem eqvL_ints (gs hs : List Int) : PyData.eqv (.list (gs.map .int)) (.list (hs.map .int)) = decide (gs = hs) := eqv_ints gs hs
end Lg
namespace K84
open PySem PySem.Spec PyProof.Rows L2 Lg
/-! short tactics of my own, under the word walk_at -/
local macro_rules | `(tactic| walk_at "mem") => `(tactic| first | exact List.Mem.head _ | assumption | (refine List.Mem.tail _ ?_; walk_at "mem"))
local macro_rules | `(tactic| walk_at "put") => `(tactic| first | exact Put.here | (apply Put.there; walk_at "put"))
local macro_rules | `(tactic| walk_at "pick") => `(tactic| first | exact Pick.here | (apply Pick.there; walk_at "pick"))
local macro_rules | `(tactic| walk_at "ent") => `(tactic| first | exact Ent.refl | exact Ent.nil | (refine Ent.cons (by walk_at "pick") ?_; walk_at "ent") | (refine Ent.dup (by walk_at "mem") ?_; walk_at "ent") | (refine Ent.drop ?_; walk_at "ent"))
local macro_rules | `(tactic| walk_at "dv") => `(tactic| first | exact Dv.int | exact Dv.bl | exact Dv.str | exact Dv.non | assumption | exact Dv.mem (by walk_at "mem"))
local macro_rules | `(tactic| walk_at "dvs") => `(tactic| first | exact Dvs.nil | (apply Dvs.cons; (focus walk_at "dv"); (focus walk_at "dvs")))
local macro_rules | `(tactic| walk_at "norm") => `(tactic| try dsimp only [cxK, noxK, wishK, blkK, baseK, noxB])
local macro_rules | `(tactic| walk_at "num") => `(tactic| first | decide | omega | (simp only [CMul, CPow, CDivN]; omega) | assumption)
local macro_rules | `(tactic| walk_at "one") => `(tactic| with_reducible first
  | refine wp_var rfl ?_ | refine wp_c ?_ | refine wp_op ?_ | refine wp_cb ?_ | refine wa_cons ?_ | refine wa_nil ?_
  | refine ws_seq ?_ | refine ws_asg ?_ | refine ws_drop ?_ | refine ws_ret ?_ | refine ws_if ?_ | refine ws_par ?_ | refine ws_par3 ?_
  | refine wp_un ?_ | refine wp_chain ?_ | refine wp_if ?_ | refine wp_andV ?_ | refine wp_orV ?_ | refine wp_notV ?_ | refine wp_cal ?_ | refine wp_sl ?_
  | refine wo_none ?_ | refine wo_some ?_
  | refine wt_test ?_ | refine wt_B ?_ | refine wt_yes ?_ | refine wt_and ?_ | refine wt_or ?_ | refine wt_not ?_
  | refine w2_mulI (by walk_at "num") ?_ | refine w2_I (by walk_at "num") ?_
  | refine w2_addI ?_ | refine w2_eqPI ?_ | refine w2_eqPS ?_ | refine w2_nePS ?_ | refine w2_nePI ?_ | refine w2_ltI ?_ | refine w2_I0 ?_ | refine w1_U ?_
  | refine wg_name ?_ | refine wgs_nil ?_ | refine wgs_cons ?_ | refine iteT ?_ | refine iteF ?_ | refine ⟨_, rfl, ?_⟩)
local macro_rules | `(tactic| walk_at "go") => `(tactic| repeat walk_at "one")
local macro_rules | `(tactic| walk_at "len") => `(tactic| (simp only [List.length_cons, List.length_nil]; decide))

def topS (i : Nat) : Stmt := PySem.Challenge.pw_reinways_k84_whole_long_touches.main.body.getD i (.Pass ⟨0, 0, 0, 0⟩)
abbrev s_is_integer : Stmt := topS 1
abbrev n_is_integer : List Str := ["thing"]
theorem sc_is_integer : FnScope n_is_integer ["thing"] (defScope s_is_integer) := ⟨rfl, rfl, rfl, by decide +kernel, rfl, by decide +kernel, by decide +kernel⟩
section
variable {P : Program} {w : World} {K : PySem.W.Frag} {mg : Str → Option Value} {base : Heap}
def S_is_integer (K : PySem.W.Frag) : SpL := fun vs L Q => ∃ x d, vs = [x] ∧ Dn K L x d ∧ Q (.bl (isIntD d)) L
theorem ok_is_integer {f : Addr} {fd : FuncData} (F : Fun K "is_integer" "is_integer" s_is_integer f fd) (B : Bs mg) : FnOk P w K mg base CX0 1 f fd ["thing"] (spL K (S_is_integer K)) := by
  refine okL F sc_is_integer (fun vs L Q h => ?_) (fun cdv A outer s H E hr => ⟨_, (pss_one (ps_ret (pe_and (pe_callB (callRK (K := K) (r := rIsi) call_isi) (by rfl) B.isinstance (by decide +kernel) (pa_cons (pv 0) (pa_cons (pe_bltn (v := .ty "int") (by rfl) B.int (by decide +kernel) rfl) pa_nil))) (pe_one (pe_not (pe_callB (callRK (K := K) (r := rIsi) call_isi) (by rfl) B.isinstance (by decide +kernel) (pa_cons (pv 0) (pa_cons (pe_bltn (v := .ty "bool") (by rfl) B.bool (by decide +kernel) rfl) pa_nil)))))))), fun vs L LQ h => ?_⟩)
  · obtain ⟨x, d, rfl, _⟩ := h
    rfl
  · obtain ⟨x, d, rfl, hd, q⟩ := h
    walk_at "norm"
    walk_at "go"
    refine wc_isi hd (kit_int d) ?_
    walk_at "go"
    cases d <;> first | exact iteF ⟨_, Ent.refl, q⟩ | refine iteT ?_
    all_goals
      walk_at "go"
      refine wc_isi hd (kit_bool _) ?_
      walk_at "go"
      exact ⟨_, Ent.refl, q⟩
end
abbrev s_are_touches : Stmt := topS 8
abbrev n_are_touches : List Str := ["thing", "one"]
theorem sc_are_touches : FnScope n_are_touches ["thing"] (defScope s_are_touches) := ⟨rfl, rfl, rfl, by decide +kernel, rfl, by decide +kernel, by decide +kernel⟩
section
variable {P : Program} {w : World} {K : PySem.W.Frag} {mg : Str → Option Value} {base : Heap}
def isNat : PyData → Bool
  | .int i => decide (0 ≤ i)
  | _ => false
def areT : PyData → Bool
  | .tuple ds => ds.all isNat
  | _ => false
theorem iteR {c : Bool} {A B : Prop} (h1 : c = true → A) (h2 : c = false → B) : if c = true then A else B := by
  cases c
  · exact iteF (h2 rfl)
  · exact iteT (h1 rfl)
def fits (d : PyData) : Prop := ∀ ds, d = .tuple ds → ds.length < sizeLine
def S_are_touches (K : PySem.W.Frag) : SpL := fun vs L Q => ∃ x d, vs = [x] ∧ Dv K L x d ∧ fits d ∧ Q (.bl (areT d)) L
theorem ok_are_touches {f : Addr} {fd : FuncData} (F : Fun K "are_touches" "are_touches" s_are_touches f fd) (B : Bs mg) (c_is_integer : Cal P w K mg base "is_integer" 1 ["thing"] (S_is_integer K)) : FnOk P w K mg base CX0 2 f fd ["thing"] (spL K (S_are_touches K)) := by
  refine okL F sc_are_touches (fun vs L Q h => ?_) (fun cdv A outer s H E hr => ⟨_, (pss_one (ps_ret (pe_and (pe_callB (callRK (K := K) (r := rIsi) call_isi) (by rfl) B.isinstance (by decide +kernel) (pa_cons (pv 0) (pa_cons (pe_bltn (v := .ty "tuple") (by rfl) B.tuple (by decide +kernel) rfl) pa_nil))) (pe_one (pe_callB (callRK (K := K) (r := rAll) (cr_all rfl)) (by rfl) B.all (by decide +kernel) (pa_cons (pe_lc (own := [("one", 1)]) (g := gName 1) (tt := tYes) rfl sc_are_touches.nd (pi_seqK (K := K) (pv 0)) (blkOk_by (N := n_are_touches) (sc := defScope s_are_touches) (by decide +kernel)) (fun _ _ _ _ _ => (pg_name (i := 1) sc_are_touches.nd rfl (Or.inl rfl))) (fun _ _ _ _ _ => pts_nil) (fun _ _ _ _ _ => (pe_and (pe_cal c_is_integer (hr.mono (by decide)) (by rfl) (pa_cons (pv 1) pa_nil)) (pe_one (pe_cmpR op_ge (pv 1) pe_int (nomark _)))))) pa_nil)))))), fun vs L LQ h => ?_⟩)
  · obtain ⟨x, d, rfl, _⟩ := h
    rfl
  · obtain ⟨x, d, rfl, hd, hf, q⟩ := h
    walk_at "norm"
    walk_at "go"
    refine wc_isi (Dn.dat hd) (kit_tuple d) ?_
    walk_at "go"
    cases d <;> try exact iteF ⟨_, Ent.refl, q⟩
    rename_i ds
    refine iteT ?_
    have hl := hf ds rfl
    walk_at "go"
    refine wp_lc (wi_seqT (wp_var rfl ⟨ds, hd, fun i acc L' => L' = L ∧ acc = (ds.take i).map fun d => .bool (isNat d), ⟨rfl, rfl⟩, ?_, ?_, ?_⟩))
    · rintro i acc L' D hi ⟨rfl, rfl⟩
      exact Ent.dv (Ent.drop Ent.refl) hd
    · rintro i acc L' v L2 D hi ⟨rfl, rfl⟩ ⟨d, e, o⟩
      refine wg_name ⟨rfl, wt_yes (iteT ?_)⟩
      walk_at "go"
      have fin : ∀ b, b = isNat d → ∃ d' L5, Dv K L2 (.bl b) d' ∧ Ent K L2 (.ld D ((ds.take i).map fun d => .bool (isNat d)) :: L5) ∧ ((ds.take i).map fun d => PyData.bool (isNat d)).length < sizeLine ∧
          L5 = L' ∧ (ds.take i).map (fun d => PyData.bool (isNat d)) ++ [d'] = (ds.take (i + 1)).map fun d => .bool (isNat d) := by
        rintro b rfl
        refine ⟨.bool (isNat d), L', Dv.bl, o.ent, by rw [List.length_map, List.length_take]; omega, rfl, ?_⟩
        rw [List.take_add_one, e]
        simp
      refine ⟨v, d, rfl, Dn.dat o.dv, _, rfl, iteR (fun hi' => ?_) fun hi' => ?_⟩
      · cases d <;> try cases hi'
        obtain ⟨rfl, rfl⟩ := o
        walk_at "go"
        exact fin _ (by simp [isNat])
      · refine fin _ ?_
        cases d <;> first | rfl | cases hi'
    · rintro acc L' D ⟨rfl, rfl⟩
      walk_at "go"
      rw [List.take_length]
      refine wc_all (bs := ds.map isNat) (by rw [List.map_map]; exact Ls.own (.head _)) ⟨_, Ent.drop Ent.refl, ?_⟩
      rw [List.all_map]
      exact q
end
abbrev s_check_touches : Stmt := topS 9
abbrev n_check_touches : List Str := ["touches"]
theorem sc_check_touches : FnScope n_check_touches ["touches"] (defScope s_check_touches) := ⟨rfl, rfl, rfl, by decide +kernel, rfl, by decide +kernel, by decide +kernel⟩
section
variable {P : Program} {w : World} {K : PySem.W.Frag} {mg : Str → Option Value} {base : Heap}
def S_check_touches (K : PySem.W.Frag) : SpL := fun vs L Q => ∃ x d, vs = [x] ∧ Dv K L x d ∧ fits d ∧ areT d = true ∧ Q .non L
theorem ok_check_touches {f : Addr} {fd : FuncData} (F : Fun K "check_touches" "check_touches" s_check_touches f fd) (B : Bs mg) (c_are_touches : Cal P w K mg base "are_touches" 2 ["thing"] (S_are_touches K)) : FnOk P w K mg base CX0 3 f fd ["touches"] (spL K (S_check_touches K)) := by
  refine okL F sc_check_touches (fun vs L Q h => ?_) (fun cdv A outer s H E hr => ⟨_, (pss_one (ps_if (pt_not (pt_val (pe_cal c_are_touches (hr.mono (by decide)) (by rfl) (pa_cons (pv 0) pa_nil)))) (pss_one ps_never) pss_nil)), fun vs L LQ h => ?_⟩)
  · obtain ⟨x, d, rfl, _⟩ := h
    rfl
  · obtain ⟨x, d, rfl, hd, hf, ht, q⟩ := h
    walk_at "norm"
    walk_at "go"
    refine ⟨x, d, rfl, hd, hf, _, rfl, ?_⟩
    rw [ht]
    refine iteF ?_
    exact ws_next ⟨_, Ent.refl, q⟩
end
abbrev s_check_room : Stmt := topS 10
abbrev n_check_room : List Str := ["room"]
theorem sc_check_room : FnScope n_check_room ["room"] (defScope s_check_room) := ⟨rfl, rfl, rfl, by decide +kernel, rfl, by decide +kernel, by decide +kernel⟩
section
variable {P : Program} {w : World} {K : PySem.W.Frag} {mg : Str → Option Value} {base : Heap}
def S_check_room (K : PySem.W.Frag) : SpL := fun vs L Q => ∃ n : Int, vs = [.int n] ∧ 1 ≤ n ∧ Q .non L
theorem ok_check_room {f : Addr} {fd : FuncData} (F : Fun K "check_room" "check_room" s_check_room f fd) (B : Bs mg) (c_is_integer : Cal P w K mg base "is_integer" 1 ["thing"] (S_is_integer K)) : FnOk P w K mg base CX0 3 f fd ["room"] (spL K (S_check_room K)) := by
  refine okL F sc_check_room (fun vs L Q h => ?_) (fun cdv A outer s H E hr => ⟨_, (pss_one (ps_if (PW.pt (pw_or (pt_not (pt_val (pe_cal c_is_integer (hr.mono (by decide)) (by rfl) (pa_cons (pv 0) pa_nil)))) (pw_or1 (pt_cmpR (opRK (K := K) (r := rLtP) (op_ltP (hu0 hr))) (pv 0) pe_int (nomark _))))) (pss_one ps_never) pss_nil)), fun vs L LQ h => ?_⟩)
  · obtain ⟨n, rfl, _⟩ := h
    rfl
  · obtain ⟨n, rfl, hn, q⟩ := h
    walk_at "norm"
    walk_at "go"
    refine ⟨_, .int n, rfl, Dn.dat Dv.int, _, rfl, ?_⟩
    refine iteF ?_
    walk_at "go"
    rw [decide_eq_false (by omega)]
    refine iteF ?_
    exact ws_next ⟨_, Ent.refl, q⟩
end
abbrev s_all_holds : Stmt := topS 11
abbrev n_all_holds : List Str := ["touches", "last", "found", "at", "number"]
theorem sc_all_holds : FnScope n_all_holds ["touches"] (defScope s_all_holds) := ⟨rfl, rfl, rfl, by decide +kernel, rfl, by decide +kernel, by decide +kernel⟩
section
variable {P : Program} {w : World} {K : PySem.W.Frag} {mg : Str → Option Value} {base : Heap}
abbrev iD (ts : List Int) : List PyData := ts.map .int
theorem iD_at {ts : List Int} {i : Nat} {d : PyData} (h : (iD ts)[i]? = some d) : ∃ c, ts[i]? = some c ∧ d = .int c := by
  rw [List.getElem?_map] at h
  cases e : ts[i]? with
  | none => rw [e] at h; cases h
  | some c => rw [e] at h; exact ⟨c, rfl, (Option.some.inj h).symm⟩
def S_all_holds (K : PySem.W.Frag) : SpL := fun vs L Q => ∃ x ts, vs = [x] ∧ Dv K L x (.tuple (iD ts)) ∧ ts.length < sizeLine ∧ ∀ p, Q (.ref p) (.ld p ((holds ts).map pD2) :: L)
theorem ok_all_holds {f : Addr} {fd : FuncData} (F : Fun K "all_holds" "all_holds" s_all_holds f fd) (B : Bs mg) : FnOk P w K mg base CX0 1 f fd ["touches"] (spL K (S_all_holds K)) := by
  refine okL F sc_all_holds (fun vs L Q h => ?_) (fun cdv A outer s H E hr => ⟨_, (pss_cons (ps_par (i := 1) (j := 2) (by rfl) sc_all_holds.nd rfl rfl (by decide) rfl rfl (pa_cons pe_dnewK (pa_cons (pe_lst pa_nil) pa_nil)) (by rfl))
      (pss_cons (ps_for PassesOwn.never rfl (pi_enumP (by rfl) B.enumerate (pa_cons (pv 0) pa_nil)) (pg_tupK (K := K) (n := 2) rfl (pgs_cons (pg_name (i := 3) sc_all_holds.nd rfl (Or.inl rfl)) (pgs_cons (pg_name (i := 4) sc_all_holds.nd rfl (Or.inl rfl)) pgs_nil))) (pss_cons (ps_if (pt_cmpR (opRK (K := K) (r := rInP) (op_inP (hu65 hr))) (pv 4) (pv 1) (by rfl)) (pss_one (ps_expr (pe_bm PySem.F.plainAttrs_list PySem.F.slot_list_append PySem.F.type_list_append mt_append (pv 2) (pa_cons (pe_tup (pa_cons (pe_ix (ixRK (K := K) (r := rIxP) (ix_P (hu1 hr))) (pv 1) (pv 4) (fun _ _ => rfl)) (pa_cons (pv 3) pa_nil))) pa_nil)))) pss_nil)
      (pss_one (ps_dput (hu1 hr) (pv 1) (pv 4) (pv 3) rfl))))
      (pss_one (ps_ret (pe_callB (callRK (K := K) (r := rSrt) (cr_sorted (hu100 hr))) (by rfl) B.sorted (by decide +kernel) (pa_cons (pv 2) pa_nil)))))), fun vs L LQ h => ?_⟩)
  · obtain ⟨x, d, rfl, _⟩ := h
    rfl
  · obtain ⟨x, ts, rfl, hd, hz, q⟩ := h
    walk_at "norm"
    walk_at "go"
    refine wp_newK fun l => ?_
    walk_at "go"
    refine wp_lst ?_
    walk_at "go"
    refine ⟨[], Dvs.nil, by decide, fun f => ?_⟩
    walk_at "go"
    refine ⟨_, _, rfl, ?_⟩
    walk_at "go"
    refine ws_for (wi_enumT ?_)
    walk_at "go"
    refine ⟨x, iD ts, rfl, Ent.dv (Ent.drop (Ent.drop Ent.refl)) hd, fun i σ L' => ∃ o1 o2 kvs, σ = [some x, some (.ref l), some (.ref f), o1, o2] ∧ L' = .ld f ((holdsTo ts i).map pD2) :: .dk l kvs :: L ∧ kvs.length ≤ i ∧ ∀ c, valD kvs (.inl c) = (lastIx ts i c).map fun j => .int (j : Nat), ?_, ?_, ?_, ?_⟩
    · exact ⟨_, _, [], rfl, rfl, Nat.le_refl _, fun c => rfl⟩
    · rintro i σ L' hi ⟨o1, o2, kvs, rfl, rfl, _, _⟩
      exact Ent.dv (Ent.drop (Ent.drop Ent.refl)) hd
    · rintro i σ L1 v L2 hi ⟨o1, o2, kvs, rfl, rfl, hk, hv⟩ ⟨d, e, rfl⟩
      obtain ⟨c, hc, rfl⟩ := iD_at e
      refine wg_tupO (ds := [.int i, .int c]) (Dv.mem (.head _)) rfl fun vs L3 o => ?_
      cases o with
      | cons o q1 =>
        cases o with
        | cons o q2 =>
          cases o
          obtain ⟨rfl, rfl⟩ := q2
          obtain ⟨rfl, rfl⟩ := q1
          walk_at "go"
          refine W2.fst (w2_inDc (DAt.k (k := .inl c) (by walk_at "mem")) ⟨_, rfl, ?_⟩)
          have hl : (holdsTo ts i).length < sizeLine := by
            have := holdsTo_len ts i
            have : (iD ts).length = ts.length := List.length_map _
            omega
          have hk2 : kvs.length < sizeLine := by
            have : (iD ts).length = ts.length := List.length_map _
            omega
          have fin : ∀ kvs', kvs' = putD kvs (.inl c) (.int (i : Nat)) → kvs'.length ≤ i + 1 ∧ ∀ c', valD kvs' (.inl c') = (lastIx ts (i + 1) c').map fun j => .int (j : Nat) := by
            rintro kvs' rfl
            refine ⟨Nat.le_trans putD_len (by omega), fun c' => ?_⟩
            rw [valD_put]
            by_cases hc' : c' = c
            · subst hc'
              rw [if_pos rfl, lastIx, if_pos hc]
              rfl
            · rw [if_neg (fun z => hc' (Sum.inl.inj z)), lastIx, if_neg (fun z => hc' (by rw [hc] at z; exact (Option.some.inj z).symm))]
              exact hv c'
          obtain ⟨f1, f2⟩ := fin _ rfl
          refine iteR (fun hb => ?_) fun hb => ?_
          · rw [hv c] at hb
            cases hx : lastIx ts i c with
            | none => rw [hx] at hb; cases hb
            | some b =>
              have hx2 : valD kvs (.inl c) = some (.int (b : Nat)) := by rw [hv c, hx]; rfl
              walk_at "go"
              refine wp_bm ?_
              walk_at "go"
              refine ⟨tyL_ld (by walk_at "mem"), ?_⟩
              walk_at "go"
              refine wp_tup ?_
              walk_at "go"
              refine W2.snd (w2_ixD (d := .int b) (by rw [← hx2]; exact DAt.k (k := .inl c) (by walk_at "mem")) fun v L' o => ?_)
              obtain ⟨rfl, rfl⟩ := o
              walk_at "go"
              refine ⟨[.int b, .int i], by walk_at "dvs", by walk_at "len", fun p => ?_⟩
              walk_at "go"
              refine wm_append (d := pD2 (b, i)) (by walk_at "put") (by walk_at "dv") (by rw [List.length_map]; exact hl) ?_
              refine ws_dput ?_
              walk_at "go"
              refine .inl ⟨l, kvs, .inl c, .int i, _, rfl, rfl, hk2, Dv.int, by walk_at "put", _, ?_, _, _, _, rfl, rfl, f1, f2⟩
              have e : (holdsTo ts (i + 1)).map pD2 = (holdsTo ts i).map pD2 ++ [pD2 (b, i)] := by
                simp only [holdsTo, holdAt, hc, hx, List.map_append, List.map_cons, List.map_nil]
              rw [e]
              walk_at "ent"
          · rw [hv c] at hb
            cases hx : lastIx ts i c with
            | some b => rw [hx] at hb; cases hb
            | none =>
              refine ws_next ?_
              refine ws_dput ?_
              walk_at "go"
              refine .inl ⟨l, kvs, .inl c, .int i, _, rfl, rfl, hk2, Dv.int, by walk_at "put", _, ?_, _, _, _, rfl, rfl, f1, f2⟩
              have e : (holdsTo ts (i + 1)).map pD2 = (holdsTo ts i).map pD2 := by
                simp only [holdsTo, holdAt, hc, hx, List.append_nil]
              rw [e]
              walk_at "ent"
    · rintro σ L1 ⟨o1, o2, kvs, rfl, rfl, hk, hv⟩
      walk_at "go"
      refine wc_sorted (Ls.own (.head _)) (sortOk_pairs ?_) fun p => ?_
      · have := holdsTo_len ts (iD ts).length
        have : (iD ts).length = ts.length := List.length_map _
        omega
      · refine ⟨.ld p ((holds ts).map pD2) :: L, ?_, q p⟩
        rw [sort_pairs, List.length_map]
        exact Ent.cons .here (Ent.drop (Ent.drop Ent.refl))
end
end K84
namespace K84
open PySem PySem.Spec PyProof.Rows L2 Lg
/-! short tactics of my own, under the word walk_at -/
local macro_rules | `(tactic| walk_at "mem") => `(tactic| first | exact List.Mem.head _ | assumption | (refine List.Mem.tail _ ?_; walk_at "mem"))
local macro_rules | `(tactic| walk_at "put") => `(tactic| first | exact Put.here | (apply Put.there; walk_at "put"))
local macro_rules | `(tactic| walk_at "pick") => `(tactic| first | exact Pick.here | (apply Pick.there; walk_at "pick"))
local macro_rules | `(tactic| walk_at "ent") => `(tactic| first | exact Ent.refl | exact Ent.nil | (refine Ent.cons (by walk_at "pick") ?_; walk_at "ent") | (refine Ent.dup (by walk_at "mem") ?_; walk_at "ent") | (refine Ent.drop ?_; walk_at "ent"))
local macro_rules | `(tactic| walk_at "dv") => `(tactic| first | exact Dv.int | exact Dv.bl | exact Dv.str | exact Dv.non | assumption | exact Dv.mem (by walk_at "mem"))
local macro_rules | `(tactic| walk_at "dvs") => `(tactic| first | exact Dvs.nil | (apply Dvs.cons; (focus walk_at "dv"); (focus walk_at "dvs")))
local macro_rules | `(tactic| walk_at "norm") => `(tactic| try dsimp only [cxK, noxK, wishK, blkK, baseK, noxB])
local macro_rules | `(tactic| walk_at "num") => `(tactic| first | decide | omega | (simp only [CMul, CPow, CDivN]; omega) | assumption)
local macro_rules | `(tactic| walk_at "one") => `(tactic| with_reducible first
  | refine wp_var rfl ?_ | refine wp_c ?_ | refine wp_op ?_ | refine wp_cb ?_ | refine wa_cons ?_ | refine wa_nil ?_
  | refine ws_seq ?_ | refine ws_asg ?_ | refine ws_drop ?_ | refine ws_ret ?_ | refine ws_if ?_ | refine ws_par ?_ | refine ws_par3 ?_
  | refine wp_un ?_ | refine wp_chain ?_ | refine wp_if ?_ | refine wp_andV ?_ | refine wp_orV ?_ | refine wp_notV ?_ | refine wp_cal ?_ | refine wp_sl ?_
  | refine wo_none ?_ | refine wo_some ?_
  | refine wt_test ?_ | refine wt_B ?_ | refine wt_yes ?_ | refine wt_and ?_ | refine wt_or ?_ | refine wt_not ?_
  | refine w2_mulI (by walk_at "num") ?_ | refine w2_I (by walk_at "num") ?_
  | refine w2_addI ?_ | refine w2_eqPI ?_ | refine w2_eqPS ?_ | refine w2_nePS ?_ | refine w2_nePI ?_ | refine w2_ltI ?_ | refine w2_I0 ?_ | refine w1_U ?_
  | refine wg_name ?_ | refine wgs_nil ?_ | refine wgs_cons ?_ | refine iteT ?_ | refine iteF ?_ | refine ⟨_, rfl, ?_⟩)
local macro_rules | `(tactic| walk_at "go") => `(tactic| repeat walk_at "one")
local macro_rules | `(tactic| walk_at "len") => `(tactic| (simp only [List.length_cons, List.length_nil]; decide))

abbrev s_is_covered : Stmt := topS 13
abbrev n_is_covered : List Str := ["hold", "place"]
theorem sc_is_covered : FnScope n_is_covered ["hold", "place"] (defScope s_is_covered) := ⟨rfl, rfl, rfl, by decide +kernel, rfl, by decide +kernel, by decide +kernel⟩
section
variable {P : Program} {w : World} {K : PySem.W.Frag} {mg : Str → Option Value} {base : Heap}
def S_is_covered (K : PySem.W.Frag) : SpL := fun vs L Q => ∃ x p i, vs = [x, .int (i : Nat)] ∧ Dv K L x (pD2 p) ∧ Q (.bl (covB p i)) L
theorem ok_is_covered {f : Addr} {fd : FuncData} (F : Fun K "is_covered" "is_covered" s_is_covered f fd) (B : Bs mg) : FnOk P w K mg base CX0 1 f fd ["hold", "place"] (spL K (S_is_covered K)) := by
  refine okL F sc_is_covered (fun vs L Q h => ?_) (fun cdv A outer s H E hr => ⟨_, (pss_one (ps_ret (pe_chain (opRK (K := K) (r := rLtP) (op_ltP (hu0 hr))) (opRK (K := K) (r := rLtP) (op_ltP (hu0 hr))) (pe_ix (ixRK (K := K) (r := rIxP) (ix_P (hu1 hr))) (pv 0) pe_int (fun _ _ => rfl)) (pv 1) (pe_ix (ixRK (K := K) (r := rIxP) (ix_P (hu1 hr))) (pv 0) pe_int (fun _ _ => rfl))))), fun vs L LQ h => ?_⟩)
  · obtain ⟨x, d, i, rfl, _⟩ := h
    rfl
  · obtain ⟨x, p, i, rfl, hd, q⟩ := h
    walk_at "norm"
    walk_at "go"
    refine W2.fst (w2_ixI (n := p.1) (Sq.tup hd) (by rfl) ?_)
    walk_at "go"
    refine iteR (fun h => ?_) fun h => ?_
    · walk_at "go"
      refine W2.fst (w2_ixI (n := p.2) (Sq.tup hd) (by rfl) ?_)
      walk_at "go"
      refine ⟨_, Ent.refl, ?_⟩
      have e : decide ((i : Int) < (p.2 : Int)) = covB p i := by
        have h' := of_decide_eq_true h
        unfold covB
        rw [decide_eq_true (by omega : p.1 < i), Bool.true_and]
        exact decide_eq_decide.mpr (by omega)
      rw [e]
      exact q
    · refine ⟨_, Ent.refl, ?_⟩
      have e : false = covB p i := by
        have h' := of_decide_eq_false h
        unfold covB
        rw [decide_eq_false (by omega : ¬ p.1 < i), Bool.false_and]
      rw [e]
      exact q
end
abbrev s_last_end : Stmt := topS 18
abbrev n_last_end : List Str := ["hold"]
theorem sc_last_end : FnScope n_last_end ["hold"] (defScope s_last_end) := ⟨rfl, rfl, rfl, by decide +kernel, rfl, by decide +kernel, by decide +kernel⟩
theorem turns_last_end {K : PySem.W.Frag} {f : Addr} {fd : FuncData} (F : Fun K "last_end" "last_end" s_last_end f fd) (b : Binds K fd ["hold"] []) : Turns K f := by
  obtain ⟨oc, od, kV, doc, pm, an, cdv, ct, osl, rfl, lk, hcd⟩ := F.ex
  refine ⟨fun prog w A s h tk t i j a b' hr KX lim ht => ?_⟩
  exact last_turn (params := defArgs s_last_end) (scope := defScope s_last_end) (x := "hold") lk hcd rfl rfl rfl rfl (by decide) b hr KX lim ht
abbrev s_kept_holds : Stmt := topS 19
abbrev n_kept_holds : List Str := ["touches", "room", "begun", "kept", "hold", "place", "covering", "given_up"]
theorem sc_kept_holds : FnScope n_kept_holds ["touches", "room"] (defScope s_kept_holds) := ⟨rfl, rfl, rfl, by decide +kernel, rfl, by decide +kernel, by decide +kernel⟩
section
variable {P : Program} {w : World} {K : PySem.W.Frag} {mg : Str → Option Value} {base : Heap}
def S_kept_holds (K : PySem.W.Frag) : SpL := fun vs L Q => ∃ x ts, ∃ k : Nat, vs = [x, .int (k + 1 : Int)] ∧ Dv K L x (.tuple (iD ts)) ∧ ts.length < 2 ^ 20 ∧ ∀ p, Q (.ref p) (.ld p ((kept ts k).map pD2) :: L)
theorem ok_kept_holds {f f_last_end : Addr} {fd : FuncData} (F : Fun K "kept_holds" "kept_holds" s_kept_holds f fd) (B : Bs mg) (g_last_end : mg "last_end" = some (.ref f_last_end)) (tl : Turns K f_last_end) (c_all_holds : Cal P w K mg base "all_holds" 1 ["touches"] (S_all_holds K))
    (c_is_covered : Cal P w K mg base "is_covered" 1 ["hold", "place"] (S_is_covered K)) : FnOk P w K mg base CX0 2 f fd ["touches", "room"] (spL K (S_kept_holds K)) := by
  refine okL F sc_kept_holds (fun vs L Q h => ?_) (fun cdv A outer s H E hr => ⟨_, (pss_cons (ps_par (i := 2) (j := 3) (by rfl) sc_kept_holds.nd rfl rfl (by decide) rfl rfl (pa_cons pe_dnewK (pa_cons (pe_lst pa_nil) pa_nil)) (by rfl))
      (pss_cons (ps_for PassesOwn.never rfl (pi_seqK (K := K) (pe_cal c_all_holds (hr.mono (by decide)) (by rfl) (pa_cons (pv 0) pa_nil))) (pg_name (i := 4) sc_kept_holds.nd rfl (Or.inl rfl)) (pss_one (ps_expr (pe_bm PySem.F.plainAttrs_list PySem.F.slot_list_append PySem.F.type_list_append mt_append (pe_dsetd (pv 2) (pe_ix (ixRK (K := K) (r := rIxP) (ix_P (hu1 hr))) (pv 4) pe_int (fun _ _ => rfl)) (pe_lst pa_nil) ⟨rfl, rfl, rfl, rfl⟩) (pa_cons (pv 4) pa_nil)))))
      (pss_cons (ps_for PassesOwn.never rfl (pi_range1 rfl B.range (pa_cons (pe_callB (callRK (K := K) (r := rLenP) call_lenP) (by rfl) B.len (by decide +kernel) (pa_cons (pv 0) pa_nil)) pa_nil)) (pg_name (i := 5) sc_kept_holds.nd rfl (Or.inr rfl)) (pss_cons (ps_expr (pe_bm PySem.F.plainAttrs_list PySem.F.slot_list_extend PySem.F.type_list_extend mt_extend (pv 3) (pa_cons (pe_dget2 (hu1 hr) (pv 2) (pe_op op_sub (pv 5) pe_int) (pe_lst pa_nil) ⟨rfl, rfl, rfl, rfl⟩) pa_nil)))
      (pss_cons (ps_set (i := 6) sc_kept_holds.nd rfl (.inl rfl) (pe_sortEnd hr (by rfl) B.sorted (pa_cons (pe_lc (own := [("hold", 4)]) (g := gName 4) (tt := _) rfl sc_kept_holds.nd (pi_seqK (K := K) (pv 3)) (blkOk_by (N := n_kept_holds) (sc := defScope s_kept_holds) (by decide +kernel)) (fun _ _ _ _ _ => (pg_name (i := 4) sc_kept_holds.nd rfl (Or.inl rfl))) (fun _ _ _ _ _ => (pts_one (pt_val (pe_cal c_is_covered (hr.mono (by decide)) (by rfl) (pa_cons (pv 4) (pa_cons (pv 5) pa_nil)))))) (fun _ _ _ _ _ => (pv 4))) pa_nil) (pk_cons (pe_glob (v := .ref f_last_end) rfl g_last_end rfl) pk_nil)))
      (pss_cons (ps_set (i := 7) sc_kept_holds.nd rfl (.inr rfl) (pe_slice (slRK (K := K) (r := rSlP) sl_P) (pv 6) (po_some (pe_op op_sub (pv 1) pe_int)) po_none))
      (pss_one (ps_setLc (i := 3) (own := [("hold", 4)]) (g := gName 4) (tt := _) rfl sc_kept_holds.nd rfl rfl (sw_true rfl rfl rfl (by decide +kernel)) (pi_seqK (K := K) (pv 3)) (blkOk_by (N := n_kept_holds) (sc := defScope s_kept_holds) (by decide +kernel)) (fun _ _ _ _ _ => (pg_name (i := 4) sc_kept_holds.nd rfl (Or.inl rfl))) (fun _ _ _ _ _ => (pts_one (pt_cmpR (opRK (K := K) (r := rNotInP) (op_notInP (hu65 hr))) (pv 4) (pv 7) (by rfl)))) (fun _ _ _ _ _ => (pv 4))))))))
      (pss_one (ps_ret (pe_callB (callRK (K := K) (r := rSrt) (cr_sorted (hu100 hr))) (by rfl) B.sorted (by decide +kernel) (pa_cons (pv 3) pa_nil))))))), fun vs L LQ h => ?_⟩)
  · obtain ⟨x, ts, k, rfl, _⟩ := h
    rfl
  · obtain ⟨x, ts, k, rfl, hd, hz, q⟩ := h
    walk_at "norm"
    walk_at "go"
    refine wp_newKP fun b => ?_
    walk_at "go"
    refine wp_lst ?_
    walk_at "go"
    refine ⟨[], Dvs.nil, by decide, fun k0 => ?_⟩
    walk_at "go"
    refine ⟨_, _, rfl, ?_⟩
    walk_at "go"
    have hN : (holds ts).length < sizeLine := Nat.lt_of_le_of_lt (holds_len ts) (Nat.lt_trans hz (by decide))
    refine ws_for (wi_seqL ?_)
    walk_at "go"
    refine ⟨x, ts, rfl, Ent.dv (Ent.drop (Ent.drop Ent.refl)) hd, Nat.lt_trans hz (by decide), fun h0 => ?_⟩
    refine ⟨_, Ls.own (.head _), fun i σ L' => ∃ o es, σ = [some x, some (.int (k + 1 : Int)), some (.ref b), some (.ref k0), o, none, none, none] ∧
      Ent K L' (.pt b (.dK (dlK es)) :: (dlS es (fun c => (begOf ((holds ts).take i) c).map pD2) ++ .ld k0 [] :: .ld h0 ((holds ts).map pD2) :: L)) ∧
      (es.map (·.1)).Nodup ∧ es.length ≤ i ∧ (∀ c, c ∉ es.map (·.1) → (begOf ((holds ts).take i) c).map pD2 = []), ?_, ?_, ?_, ?_⟩
    · refine ⟨none, [], rfl, ?_, List.nodup_nil, Nat.le_refl _, fun c _ => rfl⟩
      show Ent K _ (.pt b (.dK []) :: .ld k0 [] :: .ld h0 ((holds ts).map pD2) :: L)
      walk_at "ent"
    · rintro i σ L' hi ⟨o, es, rfl, e, _⟩
      exact Ls.ent e (Ls.own (.tail _ (List.mem_append_right _ (.tail _ (.head _)))))
    · rintro i σ L1 v L2 hi ⟨o, es, rfl, e, nd, hl, h0'⟩ ⟨d, ed, od⟩
      obtain ⟨p, hp, rfl⟩ := pD2_at ed
      refine wg_name ?_
      refine Ws.ent (Ent.put od.dv (od.ent.trans e)) ?_
      refine ws_dapp ?_
      refine wp_var rfl ⟨b, rfl, ⟨_, .tail _ (.head _)⟩, ?_⟩
      walk_at "go"
      have hi' : i < (holds ts).length := by rw [List.length_map] at hi; exact hi
      have hp' := fun (c : Int) => List.length_filter_le (fun h : Nat × Nat => decide ((h.1 : Int) = c)) ((holds ts).take i)
      refine W2.fst (w2_ixI (n := p.1) (Sq.tup (Dv.mem (.head _))) (by rfl) ?_)
      refine ⟨es, fun c => (begOf ((holds ts).take i) c).map pD2, p.1, .da v (pD2 p) :: .ld k0 [] :: .ld h0 ((holds ts).map pD2) :: L, rfl, ?_, nd, by omega, h0', fun es' nd' l' k' => ?_⟩
      · exact Ent.cons (.there .here) (Ent.perm List.perm_middle.symm)
      · refine wp_var rfl ⟨pD2 p, _, Dv.mem (.tail _ (List.mem_append_right _ (.head _))), Ent.refl, ?_, ?_⟩
        · have := hp' p.1
          rw [List.length_take] at this
          show ((begOf ((holds ts).take i) p.1).map pD2).length < sizeLine
          rw [List.length_map]
          unfold begOf
          omega
        · rw [begOf_step hp]
          refine ⟨_, Ent.refl, some v, es', rfl, ?_, nd', by omega, fun c hc => ?_⟩
          · exact Ent.drop (Ent.cons .here ((Ent.perm List.perm_middle).trans (Ent.drop Ent.refl)))
          · have hc1 : c ∉ es.map (·.1) := fun z => hc ((k' c).mpr (.inl z))
            have hc2 : c ≠ p.1 := fun z => hc ((k' c).mpr (.inr z))
            have e1 := congrFun (begOf_step hp) c
            rw [← e1]
            show gUp _ _ _ c = []
            rw [gUp_ne hc2]
            exact h0' c hc1
    · rintro σ L1 ⟨o, es, rfl, e, nd, hl, h0'⟩
      rw [List.length_map, List.take_length] at e h0'
      have e' : Ent K L1 (.ld k0 [] :: .pt b (.dK (dlK es)) :: (dlS es (fun c => (begOf (holds ts) c).map pD2) ++ L)) := by
        refine e.trans ?_
        refine Ent.trans (Ent.perm (List.Perm.cons _ List.perm_middle)) ?_
        refine Ent.cons (.there .here) (Ent.cons .here ?_)
        exact (Ent.perm List.perm_middle).trans (Ent.drop Ent.refl)
      refine Ws.ent e' ?_
      generalize hg : (fun c => (begOf (holds ts) c).map pD2) = g at *
      walk_at "go"
      refine ws_for (wi_range1 ?_)
      have h1' : ∀ c, c ∉ es.map (·.1) → g c = [] := fun c hc => by rw [← hg]; exact h0' c hc
      walk_at "go"
      have eL : Ent K (.ld k0 [] :: .pt b (.dK (dlK es)) :: (dlS es g ++ L)) L := Ent.drop (Ent.drop Ent.behind)
      refine wc_len (Sq.tup (Ent.dv eL hd)) ?_
      walk_at "go"
      have len : (iD ts).length = ts.length := List.length_map _
      rw [len]
      refine ⟨by omega, by omega, fun i σ L' => ∃ kk o4 o5 o6 o7, σ = [some x, some (.int (k + 1 : Int)), some (.ref b), some (.ref kk), o4, o5, o6, o7] ∧
        Ent K L' (.ld kk ((keepTo k (holds ts) i).map pD2) :: .pt b (.dK (dlK es)) :: (dlS es g ++ L)), ?_, ?_, ?_, ?_⟩
      · exact ⟨k0, o, none, none, none, rfl, Ent.refl⟩
      · intros; trivial
      · rintro i σ L2 v L3 hi ⟨kk, o4, o5, o6, o7, rfl, e2⟩ ⟨rfl, rfl⟩
        rw [Int.zero_add]
        refine wg_name ?_
        refine Ws.ent e2 ?_
        walk_at "go"
        refine wp_bm ?_
        walk_at "go"
        refine ⟨tyL_ld (.head _), ?_⟩
        walk_at "go"
        refine wp_get2P ?_
        walk_at "go"
        refine ⟨⟨_, .tail _ (.head _)⟩, ?_⟩
        walk_at "go"
        refine wp_lst ?_
        walk_at "go"
        refine ⟨[], Dvs.nil, by decide, fun z => ?_⟩
        refine ⟨dlK es, .inl ((i : Int) - 1), .tail _ (.tail _ (.head _)), rfl, ?_⟩
        walk_at "go"
        have hb : g ((i : Int) - 1) = (begunAt (holds ts) i).map pD2 := by rw [← hg, ← begOf_pred]
        have hlen := keepTo_len k (holds ts) i
        have ext : Wm K rExtend (.ref kk) [(valV (dlK es) (.inl ((i : Int) - 1))).getD (.ref z)] (.ld z [] :: .ld kk ((keepTo k (holds ts) i).map pD2) :: .pt b (.dK (dlK es)) :: (dlS es g ++ L)) (fun v L' => v = .non ∧ L' = .ld z [] :: .ld kk ((keepTo k (holds ts) i ++ begunAt (holds ts) i).map pD2) :: .pt b (.dK (dlK es)) :: (dlS es g ++ L)) := by
          rw [List.map_append, ← hb]
          have hll : ((keepTo k (holds ts) i).map pD2).length + (g ((i : Int) - 1)).length ≤ sizeLine := by
            rw [hb, List.length_map, List.length_map]
            omega
          by_cases hc : (i : Int) - 1 ∈ es.map (·.1)
          · obtain ⟨l, h1, h2⟩ := dl_val hc
            rw [h1]
            exact wm_extend (b := l) (.there .here) (.tail _ (.tail _ (.tail _ (dls_mem h2)))) hll ⟨rfl, rfl⟩
          · rw [dl_none hc, h1' _ hc]
            rw [h1' _ hc] at hll
            exact wm_extend (b := z) (.there .here) (.head _) hll ⟨rfl, rfl⟩
        refine fun H hs Q0 up => ext H hs Q0 fun v H' L' h' ⟨e1, e2⟩ => up v H' L' h' ?_
        clear ext
        subst e1 e2
        generalize hk1 : keepTo k (holds ts) i ++ begunAt (holds ts) i = k1
        have lk1 : k1.length < sizeLine := by
          rw [← hk1, List.length_append]
          omega
        walk_at "go"
        refine wp_sortEnd ?_
        walk_at "go"
        refine wp_lc (wi_seqL (wp_var rfl ⟨_, Ls.own (by walk_at "mem"), fun j acc L' => L' = .ld z [] :: .ld kk (k1.map pD2) :: .pt b (.dK (dlK es)) :: (dlS es g ++ L) ∧ acc = ((k1.take j).filter fun h => covB h i).map pD2, ⟨rfl, rfl⟩, ?_, ?_, ?_⟩))
        · rintro j acc L' D hj ⟨rfl, rfl⟩
          exact Ls.own (by walk_at "mem")
        · rintro j acc L' v L4 D hj ⟨rfl, rfl⟩ ⟨d, ed, od⟩
          obtain ⟨p, hp, rfl⟩ := pD2_at ed
          refine wg_name ⟨rfl, wt_B ?_⟩
          walk_at "go"
          refine ⟨v, p, i, rfl, od.dv, _, rfl, ?_⟩
          refine iteR (fun hc => ?_) fun hc => ?_
          · refine wp_var rfl ⟨pD2 p, _, od.dv, od.ent, ?_, rfl, ?_⟩
            · rw [List.length_map]
              refine Nat.lt_of_le_of_lt (List.length_filter_le _ _) ?_
              rw [List.length_take]
              omega
            · rw [filt_step hp, if_pos hc, List.map_append]; rfl
          · refine ⟨_, od.ent, rfl, ?_⟩
            rw [filt_step hp, if_neg (by rw [hc]; decide), List.append_nil]
        · rintro acc L' D ⟨rfl, rfl⟩
          rw [List.length_map, List.take_length]
          walk_at "go"
          have lk2 : (k1.filter fun h => covB h i).length ≤ k1.length := List.length_filter_le _ _
          refine ⟨_, f_last_end, _, rfl, rfl, tl, Ls.own (.head _), by omega, fun cv => ?_⟩
          walk_at "go"
          rw [Int.add_sub_cancel]
          refine wsl_L (Ls.own (.head _)) fun gu => ?_
          rw [cut_from]
          walk_at "go"
          generalize hgu : (((k1.filter fun h => covB h i).mergeSort leEnd).map pD2).drop k = gd
          have hgd : gd = (((k1.filter fun h => covB h i).mergeSort leEnd).drop k).map pD2 := by rw [← hgu, List.map_drop]
          subst hgd
          clear hgu
          generalize hgp : ((k1.filter fun h => covB h i).mergeSort leEnd).drop k = gp
          walk_at "go"
          generalize hM : As.ld gu (gp.map pD2) :: As.ld cv (((k1.filter fun h => covB h i).mergeSort leEnd).map pD2) :: As.ld D ((k1.filter fun h => covB h i).map pD2) :: As.ld z [] :: As.ld kk (k1.map pD2) :: As.pt b (.dK (dlK es)) :: (dlS es g ++ L) = M
          have m1 : As.ld gu (gp.map pD2) ∈ M := by rw [← hM]; walk_at "mem"
          have m2 : As.ld kk (k1.map pD2) ∈ M := by rw [← hM]; walk_at "mem"
          have m3 : Ent K M (.pt b (.dK (dlK es)) :: (dlS es g ++ L)) := by
            rw [← hM]
            exact Ent.drop (Ent.drop (Ent.drop (Ent.drop (Ent.drop Ent.refl))))
          refine wp_lc (wi_seqL (wp_var rfl ⟨_, Ls.own m2, fun j acc L' => L' = M ∧ acc = ((k1.take j).filter fun h => !decide (h ∈ gp)).map pD2, ⟨rfl, rfl⟩, ?_, ?_, ?_⟩))
          · rintro j acc L' D hj ⟨rfl, rfl⟩
            exact Ls.own (.tail _ m2)
          · rintro j acc L' v L4 D hj ⟨rfl, rfl⟩ ⟨d, ed, od⟩
            obtain ⟨p, hp, rfl⟩ := pD2_at ed
            refine wg_name ⟨rfl, wt_test ?_⟩
            walk_at "go"
            refine W2.snd (W2.fst (w2_notInQ (Dn.dat od.dv) (Dn.own (od.mem (.tail _ m1))) (shaped_pair p) (shaped_pairs gp) ?_))
            rw [any_pairs]
            refine ⟨_, rfl, ?_⟩
            refine iteR (fun hc => ?_) fun hc => ?_
            · refine wp_var rfl ⟨pD2 p, _, od.dv, od.ent, ?_, rfl, ?_⟩
              · rw [List.length_map]
                refine Nat.lt_of_le_of_lt (List.length_filter_le _ _) ?_
                rw [List.length_take]
                omega
              · rw [filt_step hp, if_pos hc, List.map_append]; rfl
            · refine ⟨_, od.ent, rfl, ?_⟩
              rw [filt_step hp, if_neg (by rw [hc]; decide), List.append_nil]
          · rintro acc L' D2 ⟨rfl, rfl⟩
            rw [List.length_map, List.take_length]
            refine ⟨_, Ent.refl, D2, _, _, _, _, rfl, ?_⟩
            have ek : keepTo k (holds ts) (i + 1) = k1.filter fun h => !decide (h ∈ gp) := by
              show keepK k (keepTo k (holds ts) i ++ begunAt (holds ts) i) i = _
              rw [hk1, ← hgp]
              rfl
            rw [ek]
            exact Ent.cons .here m3
      · rintro σ L2 ⟨kk, o4, o5, o6, o7, rfl, e2⟩
        rw [Int.toNat_natCast] at e2
        refine Ws.ent e2 ?_
        have hlen := keepTo_len k (holds ts) ts.length
        walk_at "go"
        refine wc_sorted (Ls.own (.head _)) (sortOk_pairs (by omega)) fun p => ?_
        rw [sort_pairs]
        exact ⟨_, Ent.cons .here (Ent.drop (Ent.drop Ent.behind)), q p⟩
end
abbrev s_fewest_fetches : Stmt := topS 24
abbrev n_fewest_fetches : List Str := ["touches", "room"]
theorem sc_fewest_fetches : FnScope n_fewest_fetches ["touches", "room"] (defScope s_fewest_fetches) := ⟨rfl, rfl, rfl, by decide +kernel, rfl, by decide +kernel, by decide +kernel⟩
section
variable {P : Program} {w : World} {K : PySem.W.Frag} {mg : Str → Option Value} {base : Heap}
def S_fewest_fetches (K : PySem.W.Frag) : SpL := fun vs L Q => ∃ x ts, ∃ k : Nat, vs = [x, .int (k + 1 : Int)] ∧ Dv K L x (.tuple (iD ts)) ∧ ts.length < 2 ^ 20 ∧ Q (.int (fewest ts (k + 1))) L
theorem ok_fewest_fetches {f : Addr} {fd : FuncData} (F : Fun K "fewest_fetches" "fewest_fetches" s_fewest_fetches f fd) (B : Bs mg) (c_kept_holds : Cal P w K mg base "kept_holds" 2 ["touches", "room"] (S_kept_holds K)) :
    FnOk P w K mg base CX0 3 f fd ["touches", "room"] (spL K (S_fewest_fetches K)) := by
  refine okL F sc_fewest_fetches (fun vs L Q h => ?_) (fun cdv A outer s H E hr => ⟨_, (pss_one (ps_ret (pe_op op_sub (pe_callB (callRK (K := K) (r := rLenP) call_lenP) (by rfl) B.len (by decide +kernel) (pa_cons (pv 0) pa_nil)) (pe_callB (callRK (K := K) (r := rLenP) call_lenP) (by rfl) B.len (by decide +kernel) (pa_cons (pe_cal c_kept_holds (hr.mono (by decide)) (by rfl) (pa_cons (pv 0) (pa_cons (pv 1) pa_nil))) pa_nil))))), fun vs L LQ h => ?_⟩)
  · obtain ⟨x, ts, k, rfl, _⟩ := h
    rfl
  · obtain ⟨x, ts, k, rfl, hd, hz, q⟩ := h
    walk_at "norm"
    walk_at "go"
    refine wc_len (Sq.tup hd) ?_
    walk_at "go"
    refine ⟨x, ts, k, rfl, hd, hz, fun p => ?_⟩
    walk_at "go"
    refine wc_len (Sq.own (.head _)) ?_
    walk_at "go"
    refine ⟨_, Ent.drop Ent.refl, ?_⟩
    rw [List.length_map, List.length_map]
    exact q
end
section
def natD (ts : List Int) : Prop := ∀ c ∈ ts, 0 ≤ c
theorem areT_of {ts : List Int} (h : natD ts) : areT (.tuple (iD ts)) = true := by
  show (ts.map PyData.int).all isNat = true
  rw [List.all_eq_true]
  intro d hd
  obtain ⟨c, hc, rfl⟩ := List.mem_map.mp hd
  exact decide_eq_true (h c hc)
theorem fits_of {ts : List Int} (h : ts.length < 2 ^ 20) : fits (.tuple (iD ts)) := fun ds e => by
  have e' : iD ts = ds := PyData.tuple.inj e
  rw [← e', List.length_map]
  exact Nat.lt_trans h (by decide)
end
abbrev s_least_fetches : Stmt := topS 27
abbrev n_least_fetches : List Str := ["touches", "room"]
theorem sc_least_fetches : FnScope n_least_fetches ["touches", "room"] (defScope s_least_fetches) := ⟨rfl, rfl, rfl, by decide +kernel, rfl, by decide +kernel, by decide +kernel⟩
section
variable {P : Program} {w : World} {K : PySem.W.Frag} {mg : Str → Option Value} {base : Heap}
def S_least_fetches (K : PySem.W.Frag) : SpL := fun vs L Q => ∃ x ts, ∃ k : Nat, vs = [x, .int (k + 1 : Int)] ∧ Dv K L x (.tuple (iD ts)) ∧ ts.length < 2 ^ 20 ∧ natD ts ∧ Q (.int (fewest ts (k + 1))) L
theorem ok_least_fetches {f : Addr} {fd : FuncData} (F : Fun K "least_fetches" "least_fetches" s_least_fetches f fd) (B : Bs mg) (c_check_touches : Cal P w K mg base "check_touches" 3 ["touches"] (S_check_touches K)) (c_check_room : Cal P w K mg base "check_room" 3 ["room"] (S_check_room K))
    (c_fewest_fetches : Cal P w K mg base "fewest_fetches" 3 ["touches", "room"] (S_fewest_fetches K)) :
    FnOk P w K mg base CX0 4 f fd ["touches", "room"] (spL K (S_least_fetches K)) := by
  refine okL F sc_least_fetches (fun vs L Q h => ?_) (fun cdv A outer s H E hr => ⟨_, (pss_cons (ps_expr (pe_cal c_check_touches (hr.mono (by decide)) (by rfl) (pa_cons (pv 0) pa_nil)))
      (pss_cons (ps_expr (pe_cal c_check_room (hr.mono (by decide)) (by rfl) (pa_cons (pv 1) pa_nil)))
      (pss_one (ps_ret (pe_cal c_fewest_fetches (hr.mono (by decide)) (by rfl) (pa_cons (pv 0) (pa_cons (pv 1) pa_nil))))))), fun vs L LQ h => ?_⟩)
  · obtain ⟨x, ts, k, rfl, _⟩ := h
    rfl
  · obtain ⟨x, ts, k, rfl, hd, hz, hn, q⟩ := h
    walk_at "norm"
    walk_at "go"
    refine ⟨x, _, rfl, hd, fits_of hz, areT_of hn, ?_⟩
    walk_at "go"
    refine ⟨_, rfl, by omega, ?_⟩
    walk_at "go"
    exact ⟨x, ts, k, rfl, hd, hz, ⟨_, Ent.refl, q⟩⟩
end
abbrev s_fetch_row : Stmt := topS 28
abbrev n_fetch_row : List Str := ["touches", "most", "room"]
theorem sc_fetch_row : FnScope n_fetch_row ["touches", "most"] (defScope s_fetch_row) := ⟨rfl, rfl, rfl, by decide +kernel, rfl, by decide +kernel, by decide +kernel⟩
section
variable {P : Program} {w : World} {K : PySem.W.Frag} {mg : Str → Option Value} {base : Heap}
def rowF (ts : List Int) (m : Nat) : List Int := (List.range m).map fun k => fewest ts (k + 1)
def S_fetch_row (K : PySem.W.Frag) : SpL := fun vs L Q => ∃ x ts, ∃ m : Nat, vs = [x, .int (m : Int)] ∧ 1 ≤ m ∧ m < 2 ^ 20 ∧ Dv K L x (.tuple (iD ts)) ∧ ts.length < 2 ^ 20 ∧ natD ts ∧ ∀ v, Q v (.da v (.tuple (iD (rowF ts m))) :: L)
theorem ok_fetch_row {f : Addr} {fd : FuncData} (F : Fun K "fetch_row" "fetch_row" s_fetch_row f fd) (B : Bs mg) (c_check_touches : Cal P w K mg base "check_touches" 3 ["touches"] (S_check_touches K)) (c_check_room : Cal P w K mg base "check_room" 3 ["room"] (S_check_room K))
    (c_fewest_fetches : Cal P w K mg base "fewest_fetches" 3 ["touches", "room"] (S_fewest_fetches K)) :
    FnOk P w K mg base CX0 4 f fd ["touches", "most"] (spL K (S_fetch_row K)) := by
  refine okL F sc_fetch_row (fun vs L Q h => ?_) (fun cdv A outer s H E hr => ⟨_, (pss_cons (ps_expr (pe_cal c_check_touches (hr.mono (by decide)) (by rfl) (pa_cons (pv 0) pa_nil)))
      (pss_cons (ps_expr (pe_cal c_check_room (hr.mono (by decide)) (by rfl) (pa_cons (pv 1) pa_nil)))
      (pss_one (ps_ret (pe_callTy (callRK (K := K) (r := rTupleP) call_tupleP) (by rfl) B.tuple (by decide +kernel) (pa_cons (pe_lc (own := [("room", 2)]) (g := gName 2) (tt := tYes) rfl sc_fetch_row.nd (pi_range2 rfl B.range (pa_cons pe_int (pa_cons (pe_op (opRK (K := K) (r := rAddP) op_addP) (pv 1) pe_int) pa_nil))) (blkOk_by (N := n_fetch_row) (sc := defScope s_fetch_row) (by decide +kernel)) (fun _ _ _ _ _ => (pg_name (i := 2) sc_fetch_row.nd rfl (Or.inl rfl))) (fun _ _ _ _ _ => pts_nil) (fun _ _ _ _ _ => (pe_cal c_fewest_fetches (hr.mono (by decide)) (by rfl) (pa_cons (pv 0) (pa_cons (pv 2) pa_nil))))) pa_nil)))))), fun vs L LQ h => ?_⟩)
  · obtain ⟨x, ts, k, rfl, _⟩ := h
    rfl
  · obtain ⟨x, ts, m, rfl, hm, hm2, hd, hz, hn, q⟩ := h
    walk_at "norm"
    walk_at "go"
    refine ⟨x, _, rfl, hd, fits_of hz, areT_of hn, ?_⟩
    walk_at "go"
    refine ⟨_, rfl, by omega, ?_⟩
    walk_at "go"
    refine wp_lc (wi_range2 ?_)
    walk_at "go"
    refine ⟨_, _, rfl, by omega, ?_⟩
    refine ⟨fun i acc L' => L' = L ∧ acc = iD (rowF ts i), ⟨rfl, rfl⟩, ?_, ?_, ?_⟩
    · intros; trivial
    · rintro i acc L' v L2 D hi ⟨rfl, rfl⟩ ⟨rfl, rfl⟩
      refine wg_name ⟨rfl, wt_yes (iteT ?_)⟩
      walk_at "go"
      refine ⟨x, ts, i, by rw [Int.add_comm], Ent.dv (Ent.drop Ent.refl) hd, hz, ?_⟩
      refine ⟨_, L', Dv.int, Ent.refl, ?_, rfl, ?_⟩
      · have : i < m := by omega
        rw [List.length_map, rowF, List.length_map, List.length_range]
        exact Nat.lt_trans this (Nat.lt_trans hm2 (by decide))
      · unfold rowF iD
        rw [List.range_succ, List.map_append, List.map_append]
        rfl
    · rintro acc L' D ⟨rfl, rfl⟩
      walk_at "go"
      refine wc_tuple (Ls.own (.head _)) fun v => ?_
      rw [show ((m : Int) + 1 - 1).toNat = m by omega]
      exact ⟨_, Ent.cons .here (Ent.drop Ent.refl), q v⟩
end
end K84
/-! Keeping what comes next first: what the law's own reckoning computes. -/
namespace Lg
open PySem PySem.Spec PyProof.Rows L2
/-- the places from m on where c stands, from the last one -/
def posGe (ts : List Int) (m : Nat) (c : Int) : List Nat := ((List.range' m (ts.length - m)).filter fun j => decide (ts[j]? = some c)).reverse
theorem posGe_step {ts : List Int} {m : Nat} (h : m < ts.length) (c : Int) : posGe ts m c = posGe ts (m + 1) c ++ if ts[m]? = some c then [m] else [] := by
  unfold posGe
  rw [show ts.length - m = (ts.length - (m + 1)) + 1 by omega, List.range'_succ, List.filter_cons]
  by_cases hc : ts[m]? = some c
  · rw [if_pos (decide_eq_true hc), if_pos hc, List.reverse_cons]
  · rw [if_neg (by simpa using hc), if_neg hc, List.append_nil]
theorem posGe_end {ts : List Int} {c : Int} {m : Nat} (h : ts.length ≤ m) : posGe ts m c = [] := by
  unfold posGe
  rw [show ts.length - m = 0 by omega]
  rfl
theorem posGe_len {ts : List Int} {c : Int} {m : Nat} : (posGe ts m c).length ≤ ts.length := by
  unfold posGe
  rw [List.length_reverse]
  refine Nat.le_trans (List.length_filter_le _ _) ?_
  rw [List.length_range']
  exact Nat.sub_le _ _
/-- the next place from m on where c stands; a far one -/
def nxt (ts : List Int) (m : Nat) (c : Int) : Nat := ((posGe ts m c).getLast?).getD (10 ^ 9)
def lmax : List Nat → Nat
  | [] => 0
  | x :: xs => max x (lmax xs)
theorem le_lmax : ∀ {xs : List Nat} {x : Nat}, x ∈ xs → x ≤ lmax xs
  | y :: xs, x, h => by
    rcases List.mem_cons.mp h with e | h
    · rw [e]; exact Nat.le_max_left _ _
    · exact Nat.le_trans (le_lmax h) (Nat.le_max_right _ _)
theorem lmax_mem : ∀ {xs : List Nat}, xs ≠ [] → lmax xs ∈ xs
  | [x], _ => by simp [lmax]
  | x :: y :: xs, _ => by
    have h := lmax_mem (xs := y :: xs) (by simp)
    show max x (lmax (y :: xs)) ∈ _
    by_cases q : x ≤ lmax (y :: xs)
    · rw [Nat.max_eq_right q]; exact .tail _ h
    · rw [Nat.max_eq_left (by omega)]; exact .head _
def imax (xs : List Nat) : Nat := xs.findIdx fun x => decide (x = lmax xs)
theorem imax_at {xs : List Nat} (h : xs ≠ []) : xs[imax xs]? = some (lmax xs) := by
  have hl : imax xs < xs.length := List.findIdx_lt_length_of_exists ⟨_, lmax_mem h, by simp⟩
  rw [List.getElem?_eq_getElem hl]
  have := List.findIdx_getElem (p := fun x => decide (x = lmax xs)) (xs := xs) (w := hl)
  exact congrArg some (of_decide_eq_true this)
theorem imax_no {xs : List Nat} {m : Nat} (h : m < imax xs) : xs[m]? ≠ some (lmax xs) := fun e => by
  obtain ⟨hl, he⟩ := List.getElem?_eq_some_iff.mp e
  have := List.not_of_lt_findIdx (p := fun x => decide (x = lmax xs)) h
  simp [he] at this
def belStep (ts : List Int) (room : Nat) (st : List Int × Nat) (i : Nat) : List Int × Nat :=
  match ts[i]? with
  | none => st
  | some c =>
    if c ∈ st.1 then st
    else ((if st.1.length = room then st.1.eraseIdx (imax (st.1.map (nxt ts (i + 1)))) else st.1) ++ [c], st.2 + 1)
def belTo (ts : List Int) (room : Nat) : Nat → List Int × Nat
  | 0 => ([], 0)
  | i + 1 => belStep ts room (belTo ts room i) i
/-- the fetches by the law's own reckoning -/
def bel (ts : List Int) (room : Nat) : Nat := (belTo ts room ts.length).2
theorem belTo_len (ts : List Int) (room : Nat) : ∀ i, (belTo ts room i).1.length ≤ i
  | 0 => Nat.le_refl _
  | i + 1 => by
    have h := belTo_len ts room i
    show (belStep ts room (belTo ts room i) i).1.length ≤ _
    unfold belStep
    split
    · omega
    · split
      · omega
      · show (_ ++ _ : List Int).length ≤ _
        rw [List.length_append]
        split
        · rw [List.length_eraseIdx]
          split <;> simp <;> omega
        · simp; omega
theorem belTo_in (ts : List Int) (room : Nat) : ∀ i, ∀ c ∈ (belTo ts room i).1, c ∈ ts
  | 0, c, h => by cases h
  | i + 1, c, h => by
    have hi := belTo_in ts room i
    change c ∈ (belStep ts room (belTo ts room i) i).1 at h
    unfold belStep at h
    split at h
    · exact hi c h
    · rename_i d hd
      split at h
      · exact hi c h
      · rcases List.mem_append.mp h with z | z
        · split at z
          · exact hi c (List.mem_of_mem_eraseIdx z)
          · exact hi c z
        · have : c = d := by simpa using z
          rw [this]
          exact List.mem_of_getElem? hd
/-! ### as data -/
def posD (ts : List Int) (m : Nat) (c : Int) : List PyData := (posGe ts m c).map fun j => .int (j : Nat)
theorem posD_step {ts : List Int} {m : Nat} {c : Int} (h : ts[m]? = some c) : posD ts m c = posD ts (m + 1) c ++ [.int (m : Nat)] := by
  have hl : m < ts.length := (List.getElem?_eq_some_iff.mp h).1
  unfold posD
  rw [posGe_step hl, if_pos h, List.map_append]
  rfl
theorem posD_other {ts : List Int} {m : Nat} {c c' : Int} (h : ts[m]? = some c) (hc : c' ≠ c) : posD ts m c' = posD ts (m + 1) c' := by
  have hl : m < ts.length := (List.getElem?_eq_some_iff.mp h).1
  unfold posD
  rw [posGe_step hl, if_neg (fun z => hc (by rw [h] at z; exact (Option.some.inj z).symm)), List.append_nil]
theorem posD_up {ts : List Int} {m : Nat} {c : Int} (h : ts[m]? = some c) : gUp (posD ts (m + 1)) c (posD ts (m + 1) c ++ [.int (m : Nat)]) = posD ts m := by
  funext x
  unfold gUp
  by_cases hx : x = c
  · rw [if_pos hx, hx, posD_step h]
  · rw [if_neg hx, posD_other h hx]
theorem posD_down {ts : List Int} {m : Nat} {c : Int} (h : ts[m]? = some c) : gUp (posD ts m) c (posD ts (m + 1) c) = posD ts (m + 1) := by
  funext x
  unfold gUp
  by_cases hx : x = c
  · rw [if_pos hx, hx]
  · rw [if_neg hx, posD_other h hx]
theorem posD_none {ts : List Int} {c : Int} : posD ts ts.length c = [] := by
  unfold posD
  rw [posGe_end (Nat.le_refl _)]
  rfl
theorem posD_in {ts : List Int} {c : Int} (h : c ∈ ts) : posD ts 0 c ≠ [] := by
  obtain ⟨j, hj, e⟩ := List.getElem_of_mem h
  unfold posD posGe
  intro z
  have : j ∈ (List.range' 0 (ts.length - 0)).filter fun j => decide (ts[j]? = some c) := by
    refine List.mem_filter.mpr ⟨?_, decide_eq_true (by rw [List.getElem?_eq_getElem hj, e])⟩
    rw [List.mem_range']
    exact ⟨j, by omega, by omega⟩
  rw [List.map_eq_nil_iff, List.reverse_eq_nil_iff] at z
  rw [z] at this
  cases this
theorem posD_len {ts : List Int} {m : Nat} {c : Int} : (posD ts m c).length ≤ ts.length := by
  unfold posD
  rw [List.length_map]
  exact posGe_len
theorem any_iD (xs : List Int) (c : Int) : ((xs.map PyData.int).any fun z => PyData.eqv z (.int c)) = decide (c ∈ xs) := by
  induction xs with
  | nil => simp
  | cons q t ih =>
    rw [List.map_cons, List.any_cons, ih]
    show (q == c || _) = _
    rw [Bool.beq_eq_decide_eq]
    by_cases h1 : q = c <;> by_cases h2 : c ∈ t <;> simp [h1, h2, eq_comm]
    all_goals exact fun z => h1 z.symm
theorem far_last {ts : List Int} {m : Nat} {c : Int} : atI ((.int (10 ^ 9) : PyData) :: posD ts m c) (-1) = some (.int (nxt ts m c : Nat)) := by
  have e : atI ((.int (10 ^ 9) : PyData) :: posD ts m c) (-1) = ((.int (10 ^ 9) : PyData) :: posD ts m c)[(posD ts m c).length]? := by
    unfold atI ixN
    rw [if_neg (by decide), if_pos (by rw [List.length_cons]; omega), List.length_cons]
    rw [show (-1 + ((posD ts m c).length + 1 : Nat) : Int).toNat = (posD ts m c).length by omega]
    rfl
  rw [e]
  unfold nxt posD
  rw [List.length_map]
  cases h : (posGe ts m c).getLast? with
  | none =>
    rw [List.getLast?_eq_none_iff] at h
    rw [h]
    rfl
  | some j =>
    have hne : posGe ts m c ≠ [] := fun z => by rw [z] at h; cases h
    have hl : 0 < (posGe ts m c).length := List.length_pos_iff.mpr hne
    rw [List.getLast?_eq_getElem?] at h
    obtain ⟨k, hk⟩ : ∃ k, (posGe ts m c).length = k + 1 := ⟨(posGe ts m c).length - 1, by omega⟩
    rw [hk] at h ⊢
    rw [List.getElem?_cons_succ, List.getElem?_map]
    rw [show k + 1 - 1 = k by omega] at h
    rw [h]
    rfl
theorem seqIndex_nat {j n : Nat} (h : j < n) : seqIndex? (j : Int) n = some j := by
  unfold seqIndex?
  rw [if_neg (by omega : ¬ (j : Int) < 0)]
  simp [h]
theorem erase_map {α β : Type} {f : α → β} : ∀ {xs : List α} {i : Nat}, (xs.eraseIdx i).map f = (xs.map f).eraseIdx i
  | [], _ => rfl
  | _ :: _, 0 => rfl
  | x :: xs, i + 1 => by
    show f x :: (xs.eraseIdx i).map f = f x :: (xs.map f).eraseIdx i
    rw [erase_map]
/-- the mathematics of the rows: proved apart -/
structure PgM : Prop where
  eq : ∀ (ts : List Int) (k : Nat), ts.length < 10 ^ 9 → fewest ts (k + 1) = (bel ts (k + 1) : Int)
  mono : ∀ (ts : List Int) (k : Nat), ts.length < 10 ^ 9 → bel ts (k + 2) ≤ bel ts (k + 1)
  conc : ∀ (ts : List Int) (k : Nat), ts.length < 10 ^ 9 → (bel ts (k + 2) : Int) - bel ts (k + 3) ≤ bel ts (k + 1) - bel ts (k + 2)
  many : ∀ (ts : List Int) (k : Nat), ts.length < 10 ^ 9 → cells ts ≤ k + 1 → bel ts (k + 1) = cells ts
def dueL (ts : List Int) (m : Nat) : List Int := (List.range m).map fun k => (bel ts (k + 1) : Int)
theorem bel_le (ts : List Int) (room : Nat) : ∀ i, (belTo ts room i).2 ≤ i
  | 0 => Nat.le_refl _
  | i + 1 => by
    have h := bel_le ts room i
    show (belStep ts room (belTo ts room i) i).2 ≤ _
    unfold belStep
    split
    · omega
    · split
      · omega
      · show _ + 1 ≤ _
        omega
theorem dueL_len (ts : List Int) (m : Nat) : (dueL ts m).length = m := by simp [dueL]
theorem dueL_small {ts : List Int} {m : Nat} (h : ts.length < 2 ^ 20) : ∀ n ∈ dueL ts m, n.natAbs < 2 ^ 64 := fun n hn => by
  obtain ⟨k, _, rfl⟩ := List.mem_map.mp hn
  have := bel_le ts (k + 1) ts.length
  have e : bel ts (k + 1) = (belTo ts (k + 1) ts.length).2 := rfl
  have h2 : bel ts (k + 1) < 2 ^ 64 := by rw [e]; exact Nat.lt_of_le_of_lt this (Nat.lt_trans h (by decide))
  simpa using h2
end Lg
/-! The mathematics of the rows: the keeping by the earliest end has a best bound by bars, and it is the keeping of what comes next first. -/
namespace Lg
/-! ### counting -/
theorem nodup_len {α : Type} [DecidableEq α] : ∀ {xs ys : List α}, xs.Nodup → (∀ x ∈ xs, x ∈ ys) → xs.length ≤ ys.length
  | [], _, _, _ => Nat.zero_le _
  | x :: xs, ys, hn, hs => by
    have hx : x ∈ ys := hs x (.head _)
    have h1 := nodup_len (xs := xs) (ys := ys.erase x) (List.nodup_cons.mp hn).2 (fun z hz => by
      have : z ≠ x := fun e => (List.nodup_cons.mp hn).1 (e ▸ hz)
      exact (List.mem_erase_of_ne this).mpr (hs z (.tail _ hz)))
    rw [List.length_erase_of_mem hx] at h1
    have := List.length_pos_of_mem hx
    simp only [List.length_cons]
    omega
theorem nodup_all {α : Type} [DecidableEq α] {xs ys : List α} (hn : xs.Nodup) (hs : ∀ x ∈ xs, x ∈ ys) (hl : ys.length ≤ xs.length) : ∀ y ∈ ys, y ∈ xs := by
  intro y hy
  apply Classical.byContradiction
  intro h
  have := nodup_len (xs := y :: xs) (ys := ys) (List.nodup_cons.mpr ⟨h, hn⟩) (fun z hz => by
    rcases List.mem_cons.mp hz with e | hz
    · rw [e]; exact hy
    · exact hs z hz)
  simp only [List.length_cons] at this
  omega
theorem count3 {α : Type} {p a b c : α → Bool} : ∀ {xs : List α}, (∀ x ∈ xs, (p x).toNat = (a x).toNat + (b x).toNat + (c x).toNat) → xs.countP p = xs.countP a + xs.countP b + xs.countP c
  | [], _ => rfl
  | x :: xs, h => by
    have h1 := h x (.head _)
    have h2 := count3 (xs := xs) fun z hz => h z (.tail _ hz)
    rw [List.countP_cons, List.countP_cons, List.countP_cons, List.countP_cons, h2]
    cases hp : p x <;> cases ha : a x <;> cases hb : b x <;> cases hc : c x <;> simp [hp, ha, hb, hc] at h1 ⊢ <;> omega
theorem count_in {K hs : List (Nat × Nat)} (nK : K.Nodup) (nh : hs.Nodup) (sub : ∀ x ∈ K, x ∈ hs) (p : Nat × Nat → Bool) : hs.countP (fun x => decide (x ∈ K) && p x) = K.countP p := by
  rw [List.countP_eq_length_filter, List.countP_eq_length_filter]
  refine Nat.le_antisymm (nodup_len (nh.sublist List.filter_sublist) fun x hx => ?_) (nodup_len (nK.sublist List.filter_sublist) fun x hx => ?_)
  · obtain ⟨h1, h2⟩ := List.mem_filter.mp hx
    simp only [Bool.and_eq_true, decide_eq_true_eq] at h2
    exact List.mem_filter.mpr h2
  · obtain ⟨h1, h2⟩ := List.mem_filter.mp hx
    exact List.mem_filter.mpr ⟨sub x h1, by simp [h1, h2]⟩
/-! ### the keeping by the earliest end -/
section
variable (k : Nat) (hs : List (Nat × Nat))
def cand (p : Nat) : List (Nat × Nat) := keepTo k hs p ++ begunAt hs p
def covs (p : Nat) : List (Nat × Nat) := (cand k hs p).filter fun h => covB h p
def gu (p : Nat) : List (Nat × Nat) := ((covs k hs p).mergeSort leEnd).drop k
theorem keep_succ (p : Nat) : keepTo k hs (p + 1) = (cand k hs p).filter fun h => !decide (h ∈ gu k hs p) := rfl
end
section
variable {k : Nat} {hs : List (Nat × Nat)}
theorem mem_cand {h : Nat × Nat} {p : Nat} : h ∈ cand k hs p ↔ h ∈ keepTo k hs p ∨ (h ∈ hs ∧ h.1 + 1 = p) := by
  unfold cand begunAt
  rw [List.mem_append, List.mem_filter, decide_eq_true_eq]
theorem mem_succ {h : Nat × Nat} {p : Nat} : h ∈ keepTo k hs (p + 1) ↔ h ∈ cand k hs p ∧ h ∉ gu k hs p := by
  rw [keep_succ, List.mem_filter]
  simp
theorem keep_in {h : Nat × Nat} : ∀ {p : Nat}, h ∈ keepTo k hs p → h ∈ hs ∧ h.1 + 1 < p
  | 0, z => by cases z
  | p + 1, z => by
    rcases mem_cand.mp (mem_succ.mp z).1 with y | ⟨y1, y2⟩
    · have := keep_in y
      exact ⟨this.1, by omega⟩
    · exact ⟨y1, by omega⟩
theorem cand_nodup' {p : Nat} (nh : hs.Nodup) (nk : (keepTo k hs p).Nodup) : (cand k hs p).Nodup := by
  unfold cand begunAt
  refine List.nodup_append.mpr ⟨nk, nh.sublist List.filter_sublist, fun a ha b hb e => ?_⟩
  have h1 := keep_in ha
  have h2 := (List.mem_filter.mp hb).2
  rw [decide_eq_true_eq] at h2
  rw [e] at h1
  omega
theorem keep_nodup (nh : hs.Nodup) : ∀ p, (keepTo k hs p).Nodup
  | 0 => List.nodup_nil
  | p + 1 => by
    rw [keep_succ]
    exact (cand_nodup' nh (keep_nodup nh p)).sublist List.filter_sublist
theorem cand_nodup (nh : hs.Nodup) (p : Nat) : (cand k hs p).Nodup := cand_nodup' nh (keep_nodup nh p)
theorem covs_nodup (nh : hs.Nodup) (p : Nat) : (covs k hs p).Nodup := (cand_nodup nh p).sublist List.filter_sublist
theorem mem_covs {h : Nat × Nat} {p : Nat} : h ∈ covs k hs p ↔ h ∈ cand k hs p ∧ covB h p = true := List.mem_filter
theorem gu_in {h : Nat × Nat} {p : Nat} (z : h ∈ gu k hs p) : h ∈ covs k hs p := List.mem_mergeSort.mp (List.mem_of_mem_drop z)
theorem cov_lt {h : Nat × Nat} {p : Nat} : covB h p = true ↔ h.1 < p ∧ p < h.2 := by
  unfold covB
  simp
theorem gu_small {p : Nat} (z : (covs k hs p).length ≤ k) : gu k hs p = [] := by
  unfold gu
  exact List.drop_of_length_le (by rw [List.length_mergeSort]; exact z)
theorem sorted_nodup (nh : hs.Nodup) (p : Nat) : ((covs k hs p).mergeSort leEnd).Nodup := (List.mergeSort_perm _ _).nodup_iff.mpr (covs_nodup nh p)
theorem leEnd_trans (a b c : Nat × Nat) (h1 : leEnd a b = true) (h2 : leEnd b c = true) : leEnd a c = true := by
  unfold leEnd at *
  simp only [decide_eq_true_eq] at *
  omega
theorem leEnd_total (a b : Nat × Nat) : (leEnd a b || leEnd b a) = true := by
  unfold leEnd
  rw [Bool.or_eq_true, decide_eq_true_eq, decide_eq_true_eq]
  omega
theorem sorted_le (p : Nat) : ((covs k hs p).mergeSort leEnd).Pairwise fun a b => leEnd a b = true := List.pairwise_mergeSort leEnd_trans leEnd_total _
theorem split_take (nh : hs.Nodup) (p : Nat) {a b : Nat × Nat} (ha : a ∈ ((covs k hs p).mergeSort leEnd).take k) (hb : b ∈ gu k hs p) : a ≠ b ∧ a.2 ≤ b.2 := by
  have n := sorted_nodup (k := k) nh p
  have s := sorted_le (k := k) (hs := hs) p
  rw [← List.take_append_drop k ((covs k hs p).mergeSort leEnd)] at n s
  refine ⟨(List.nodup_append.mp n).2.2 a ha b hb, ?_⟩
  have := (List.pairwise_append.mp s).2.2 a ha b hb
  unfold leEnd at this
  rw [decide_eq_true_eq] at this
  omega
theorem gu_take (nh : hs.Nodup) {p : Nat} {h : Nat × Nat} (z : h ∈ gu k hs p) : ∃ T : List (Nat × Nat), T.length = k ∧ T.Nodup ∧ ∀ t ∈ T, t ∈ keepTo k hs (p + 1) ∧ covB t p = true ∧ t.2 ≤ h.2 := by
  refine ⟨((covs k hs p).mergeSort leEnd).take k, ?_, (sorted_nodup nh p).sublist (List.take_sublist _ _), fun t ht => ?_⟩
  · have : 0 < (gu k hs p).length := List.length_pos_of_mem z
    unfold gu at this
    rw [List.length_drop] at this
    rw [List.length_take]
    omega
  · have h1 : t ∈ covs k hs p := List.mem_mergeSort.mp (List.mem_of_mem_take ht)
    have h2 := mem_covs.mp h1
    exact ⟨mem_succ.mpr ⟨h2.1, fun y => (split_take nh p ht y).1 rfl⟩, h2.2, (split_take nh p ht z).2⟩
theorem keep_cov (nh : hs.Nodup) (p : Nat) : ((keepTo k hs (p + 1)).filter fun h => covB h p).length ≤ k := by
  have : ((keepTo k hs (p + 1)).filter fun h => covB h p).length ≤ (((covs k hs p).mergeSort leEnd).take k).length := by
    refine nodup_len ((keep_nodup nh (p + 1)).sublist List.filter_sublist) fun t ht => ?_
    obtain ⟨h1, h2⟩ := List.mem_filter.mp ht
    obtain ⟨h3, h4⟩ := mem_succ.mp h1
    have h5 : t ∈ (covs k hs p).mergeSort leEnd := List.mem_mergeSort.mpr (mem_covs.mpr ⟨h3, h2⟩)
    rw [← List.take_append_drop k ((covs k hs p).mergeSort leEnd)] at h5
    rcases List.mem_append.mp h5 with h | h
    · exact h
    · exact absurd h h4
  rw [List.length_take] at this
  omega
theorem keep_back {h : Nat × Nat} {m : Nat} (hm : h.1 + 1 < m) : ∀ d, h ∈ keepTo k hs (m + d) → h ∈ keepTo k hs m
  | 0, z => z
  | d + 1, z => by
    rcases mem_cand.mp (mem_succ.mp (show h ∈ keepTo k hs ((m + d) + 1) from z)).1 with y | ⟨_, y⟩
    · exact keep_back hm d y
    · omega
theorem keep_fwd {h : Nat × Nat} {m : Nat} : ∀ d, h ∈ keepTo k hs m → (∀ p, m ≤ p → p < m + d → h ∉ gu k hs p) → h ∈ keepTo k hs (m + d)
  | 0, z, _ => z
  | d + 1, z, q => mem_succ.mpr ⟨mem_cand.mpr (.inl (keep_fwd d z fun p h1 h2 => q p h1 (by omega))), q (m + d) (by omega) (by omega)⟩
theorem keep_start {h : Nat × Nat} {N : Nat} (hh : h ∈ hs) (hN : h.1 + 1 < N) (q : ∀ p, p < N → h ∉ gu k hs p) : h ∈ keepTo k hs N := by
  have h1 : h ∈ keepTo k hs (h.1 + 1 + 1) := mem_succ.mpr ⟨mem_cand.mpr (.inr ⟨hh, rfl⟩), q _ hN⟩
  have := keep_fwd (N - (h.1 + 1 + 1)) h1 fun p _ h2 => q p (by omega)
  rwa [show h.1 + 1 + 1 + (N - (h.1 + 1 + 1)) = N by omega] at this
theorem keep_not {h : Nat × Nat} {N p : Nat} (z : h ∈ keepTo k hs N) (hp : p < N) : h ∉ gu k hs p := fun y => by
  have h1 := (cov_lt.mp (mem_covs.mp (gu_in y)).2).1
  have h2 : h ∈ keepTo k hs (p + 1) := keep_back (m := p + 1) (by omega) (N - (p + 1)) (by rwa [show p + 1 + (N - (p + 1)) = N by omega])
  exact (mem_succ.mp h2).2 y
theorem keep_cov2 (nh : hs.Nodup) {p N : Nat} (hp : p < N) : ((keepTo k hs N).filter fun h => covB h p).length ≤ k := by
  refine Nat.le_trans (nodup_len ((keep_nodup nh N).sublist List.filter_sublist) fun t ht => ?_) (keep_cov (k := k) nh p)
  obtain ⟨h1, h2⟩ := List.mem_filter.mp ht
  have h3 := (cov_lt.mp h2).1
  refine List.mem_filter.mpr ⟨keep_back (m := p + 1) (by omega) (N - (p + 1)) (by rwa [show p + 1 + (N - (p + 1)) = N by omega]), h2⟩
/-! ### bars -/
/-- no bar covers the hold -/
def bare (B : List Nat) (h : Nat × Nat) : Bool := B.all fun q => !covB h q
theorem bars_len {K : List (Nat × Nat)} {m : Nat} (hK : ∀ q, K.countP (fun h => covB h q) ≤ m) : ∀ B : List Nat, K.length ≤ m * B.length + K.countP (bare B)
  | [] => by
    have : K.countP (bare []) = K.length := List.countP_eq_length.mpr fun _ _ => rfl
    omega
  | q :: B => by
    have h1 := bars_len hK B
    have h2 := hK q
    have h3 : K.countP (bare B) ≤ K.countP (fun h => covB h q) + K.countP (bare (q :: B)) := by
      have : K.countP (bare B) = K.countP (fun h => bare B h && covB h q) + K.countP (bare (q :: B)) + K.countP (fun _ => false) := count3 fun x _ => by
        show _ = _ + ((!covB x q) && bare B x).toNat + _
        cases bare B x <;> cases covB x q <;> rfl
      have h4 : K.countP (fun h => bare B h && covB h q) ≤ K.countP (fun h => covB h q) := List.countP_mono_left fun x _ h => (Bool.and_eq_true_iff.mp h).2
      have h5 : K.countP (fun _ => false) = 0 := List.countP_eq_zero.mpr fun _ _ => by simp
      omega
    rw [List.length_cons, Nat.mul_succ]
    omega
theorem weak (nh : hs.Nodup) {N : Nat} (hE : ∀ h ∈ hs, h.2 ≤ N) (B : List Nat) : (keepTo k hs N).length ≤ k * B.length + hs.countP (bare B) := by
  have h1 := bars_len (K := keepTo k hs N) (m := k) (fun q => by
    by_cases hq : q < N
    · rw [List.countP_eq_length_filter]; exact keep_cov2 nh hq
    · have : (keepTo k hs N).countP (fun h => covB h q) = 0 := List.countP_eq_zero.mpr fun h hh z => by
        have := hE h (keep_in hh).1
        have := (cov_lt.mp z).2
        omega
      omega) B
  have h2 : (keepTo k hs N).countP (bare B) ≤ hs.countP (bare B) := by
    rw [List.countP_eq_length_filter, List.countP_eq_length_filter]
    refine nodup_len ((keep_nodup nh N).sublist List.filter_sublist) fun t ht => ?_
    obtain ⟨h3, h4⟩ := List.mem_filter.mp ht
    exact List.mem_filter.mpr ⟨(keep_in h3).1, h4⟩
  omega
theorem last_of {P : Nat → Prop} : ∀ {N : Nat}, (∃ p, p < N ∧ P p) → ∃ p, p < N ∧ P p ∧ ∀ q, p < q → q < N → ¬ P q
  | 0, ⟨_, h, _⟩ => absurd h (Nat.not_lt_zero _)
  | N + 1, ⟨p, hp, h⟩ => by
    by_cases hN : P N
    · exact ⟨N, Nat.lt_succ_self _, hN, fun q h1 h2 => by omega⟩
    · have hpN : p < N := by
        rcases Nat.lt_or_ge p N with z | z
        · exact z
        · have : p = N := by omega
          rw [this] at h
          exact absurd h hN
      obtain ⟨r, h1, h2, h3⟩ := last_of ⟨p, hpN, h⟩
      refine ⟨r, by omega, h2, fun q h4 h5 => ?_⟩
      by_cases hq : q = N
      · rw [hq]; exact hN
      · exact h3 q h4 (by omega)
theorem strong_at (nh : hs.Nodup) {N : Nat} (hE : ∀ h ∈ hs, h.1 < h.2 ∧ h.2 < N) : ∀ m b, b ≤ m → ∃ B : List Nat, (∀ q ∈ B, q < b) ∧ hs.countP (fun h => decide (h ∈ keepTo k hs N) && decide (h.2 ≤ b)) = k * B.length + hs.countP (fun h => decide (h.2 ≤ b) && bare B h) := by
  intro m
  induction m with
  | zero =>
    intro b hb
    refine ⟨[], (by simp), ?_⟩
    have h1 : ∀ h ∈ hs, ¬ h.2 ≤ b := fun h hh => by have := hE h hh; omega
    rw [List.countP_eq_zero.mpr (fun h hh => by simp [h1 h hh]), List.countP_eq_zero.mpr (fun h hh => by simp [h1 h hh])]
    rfl
  | succ m ih =>
    intro b hb
    by_cases hex : ∃ p, p < N ∧ ∃ h, h ∈ gu k hs p ∧ h.2 ≤ b
    · obtain ⟨p, hp, ⟨h0, hg, hb0⟩, hlast⟩ := last_of hex
      have c0 := cov_lt.mp (mem_covs.mp (gu_in hg)).2
      obtain ⟨B, hB, eB⟩ := ih p (by omega)
      -- a hold ending by b, not dropped by p, is kept
      have stay : ∀ h ∈ hs, h.2 ≤ b → (h.1 ≥ p ∨ h ∈ keepTo k hs (p + 1)) → h ∈ keepTo k hs N := fun h hh h2 hc => by
        have hlt := hE h hh
        have no : ∀ q, p < q → q < N → h ∉ gu k hs q := fun q h3 h4 h5 => hlast q h3 h4 ⟨h, h5, h2⟩
        rcases hc with hc | hc
        · refine keep_start hh (by omega) fun q hq z => ?_
          have := cov_lt.mp (mem_covs.mp (gu_in z)).2
          exact no q (by omega) hq z
        · have := keep_fwd (N - (p + 1)) hc fun q h1 h2 => no q (by omega) (by omega)
          rwa [show p + 1 + (N - (p + 1)) = N by omega] at this
      refine ⟨p :: B, fun q hq => ?_, ?_⟩
      · rcases List.mem_cons.mp hq with e | hq
        · omega
        · have := hB q hq; omega
      -- three parts
      have e1 : hs.countP (fun h => decide (h ∈ keepTo k hs N) && decide (h.2 ≤ b)) = hs.countP (fun h => decide (h ∈ keepTo k hs N) && decide (h.2 ≤ p)) + hs.countP (fun h => decide (h ∈ keepTo k hs N) && (covB h p && decide (h.2 ≤ b))) + hs.countP (fun h => decide (p ≤ h.1) && decide (h.2 ≤ b)) := count3 fun h hh => by
        have hlt := hE h hh
        by_cases a1 : h.2 ≤ b
        · by_cases a2 : p ≤ h.1
          · have a3 : h ∈ keepTo k hs N := stay h hh a1 (.inl a2)
            have a4 : covB h p = false := by cases q : covB h p with
              | false => rfl
              | true => have := cov_lt.mp q; omega
            have a5 : ¬ h.2 ≤ p := by omega
            simp [a1, a2, a3, a4, a5]
          · by_cases a6 : h.2 ≤ p
            · have a4 : covB h p = false := by cases q : covB h p with
                | false => rfl
                | true => have := cov_lt.mp q; omega
              simp [a1, a2, a4, a6]
            · have a4 : covB h p = true := cov_lt.mpr ⟨by omega, by omega⟩
              simp [a1, a2, a4, a6]
        · have a5 : ¬ h.2 ≤ p := by omega
          simp [a1, a5]
      have e2 : hs.countP (fun h => decide (h.2 ≤ b) && bare (p :: B) h) = hs.countP (fun h => decide (h.2 ≤ p) && bare B h) + hs.countP (fun h => decide (p ≤ h.1) && decide (h.2 ≤ b)) + hs.countP (fun _ => false) := count3 fun h hh => by
        have hlt := hE h hh
        show (_ && ((!covB h p) && bare B h)).toNat = _
        by_cases a1 : h.2 ≤ b
        · by_cases a2 : p ≤ h.1
          · have a4 : covB h p = false := by cases q : covB h p with
              | false => rfl
              | true => have := cov_lt.mp q; omega
            have a5 : ¬ h.2 ≤ p := by omega
            have a6 : bare B h = true := List.all_eq_true.mpr fun q hq => by
              have := hB q hq
              cases z : covB h q with
              | false => rfl
              | true => have := cov_lt.mp z; omega
            simp [a1, a2, a4, a5, a6]
          · by_cases a6 : h.2 ≤ p
            · have a4 : covB h p = false := by cases q : covB h p with
                | false => rfl
                | true => have := cov_lt.mp q; omega
              simp [a1, a2, a4, a6]
            · have a4 : covB h p = true := cov_lt.mpr ⟨by omega, by omega⟩
              simp [a1, a2, a4, a6]
        · have a5 : ¬ h.2 ≤ p := by omega
          simp [a1, a5]
      have e3 : hs.countP (fun _ => false) = 0 := List.countP_eq_zero.mpr fun _ _ => by simp
      have e4 : hs.countP (fun h => decide (h ∈ keepTo k hs N) && (covB h p && decide (h.2 ≤ b))) = k := by
        refine (count_in (keep_nodup nh N) nh (fun x hx => (keep_in hx).1) fun h => covB h p && decide (h.2 ≤ b)).trans ?_
        refine Nat.le_antisymm ?_ ?_
        · refine Nat.le_trans (List.countP_mono_left (q := fun h => covB h p) fun x _ h => (Bool.and_eq_true_iff.mp h).1) ?_
          rw [List.countP_eq_length_filter]
          exact keep_cov2 nh hp
        · obtain ⟨T, tl, tn, tm⟩ := gu_take nh hg
          rw [List.countP_eq_length_filter]
          refine Nat.le_trans (Nat.le_of_eq tl.symm) (nodup_len tn fun t ht => ?_)
          obtain ⟨t1, t2, t3⟩ := tm t ht
          have tb : t.2 ≤ b := by omega
          exact List.mem_filter.mpr ⟨stay t (keep_in t1).1 tb (.inr t1), by simp [t2, tb]⟩
      rw [e1, e2, e3, e4, eB, List.length_cons, Nat.mul_succ]
      omega
    · refine ⟨[], (by simp), ?_⟩
      rw [List.length_nil, Nat.mul_zero, Nat.zero_add]
      refine List.countP_congr fun h hh => ?_
      have hlt := hE h hh
      by_cases a1 : h.2 ≤ b
      · have : h ∈ keepTo k hs N := keep_start hh (by omega) fun p hp z => hex ⟨p, hp, h, z, a1⟩
        simp [a1, this, bare]
      · simp [a1]
theorem strong (nh : hs.Nodup) {N : Nat} (hE : ∀ h ∈ hs, h.1 < h.2 ∧ h.2 < N) : ∃ B : List Nat, (keepTo k hs N).length = k * B.length + hs.countP (bare B) := by
  obtain ⟨B, _, e⟩ := strong_at (k := k) nh hE N N (Nat.le_refl _)
  refine ⟨B, ?_⟩
  have h1 : hs.countP (fun h => decide (h ∈ keepTo k hs N) && decide (h.2 ≤ N)) = (keepTo k hs N).length := by
    refine (count_in (keep_nodup nh N) nh (fun x hx => (keep_in hx).1) fun h => decide (h.2 ≤ N)).trans ?_
    refine List.countP_eq_length.mpr fun h hh => ?_
    have := hE h (keep_in hh).1
    exact decide_eq_true (by omega)
  have h2 : hs.countP (fun h => decide (h.2 ≤ N) && bare B h) = hs.countP (bare B) := List.countP_congr fun h hh => by
    have := hE h hh
    simp [show h.2 ≤ N by omega]
  rw [← h1, e, h2]
theorem keep_mono (nh : hs.Nodup) {N : Nat} (hE : ∀ h ∈ hs, h.1 < h.2 ∧ h.2 < N) : (keepTo k hs N).length ≤ (keepTo (k + 1) hs N).length := by
  obtain ⟨B, e⟩ := strong (k := k + 1) nh hE
  have := weak (k := k) nh (fun h hh => Nat.le_of_lt (hE h hh).2) B
  rw [Nat.succ_mul] at e
  omega
theorem keep_conc (nh : hs.Nodup) {N : Nat} (hE : ∀ h ∈ hs, h.1 < h.2 ∧ h.2 < N) : (keepTo k hs N).length + (keepTo (k + 2) hs N).length ≤ 2 * (keepTo (k + 1) hs N).length := by
  obtain ⟨B, e⟩ := strong (k := k + 1) nh hE
  have h1 := weak (k := k) nh (fun h hh => Nat.le_of_lt (hE h hh).2) B
  have h2 := weak (k := k + 2) nh (fun h hh => Nat.le_of_lt (hE h hh).2) B
  rw [Nat.succ_mul] at e
  rw [show k + 2 = (k + 1) + 1 from rfl, Nat.succ_mul, Nat.succ_mul] at h2
  rw [show k + 2 = (k + 1) + 1 from rfl]
  omega
end
end Lg
/-! What comes next first: as many fetches as the keeping by the earliest end. -/
namespace Lg
theorem lastIx_some {ts : List Int} {c : Int} : ∀ {i b : Nat}, lastIx ts i c = some b → b < i ∧ ts[b]? = some c ∧ ∀ j, b < j → j < i → ts[j]? ≠ some c
  | 0, b, h => by cases h
  | i + 1, b, h => by
    unfold lastIx at h
    split at h
    · rename_i hc
      cases h
      exact ⟨Nat.lt_succ_self _, hc, fun j h1 h2 => by omega⟩
    · rename_i hc
      obtain ⟨h1, h2, h3⟩ := lastIx_some h
      refine ⟨by omega, h2, fun j h4 h5 => ?_⟩
      by_cases e : j = i
      · rw [e]; exact hc
      · exact h3 j h4 (by omega)
theorem lastIx_none {ts : List Int} {c : Int} : ∀ {i : Nat}, lastIx ts i c = none → ∀ j, j < i → ts[j]? ≠ some c
  | 0, _, j, h => absurd h (Nat.not_lt_zero _)
  | i + 1, h, j, hj => by
    unfold lastIx at h
    split at h
    · cases h
    · rename_i hc
      by_cases e : j = i
      · rw [e]; exact hc
      · exact lastIx_none h j (by omega)
structure IsHold (ts : List Int) (b e : Nat) (c : Int) : Prop where
  lt : b < e
  beg : ts[b]? = some c
  fin : ts[e]? = some c
  no : ∀ j, b < j → j < e → ts[j]? ≠ some c
theorem IsHold.last {ts : List Int} {b e : Nat} {c : Int} (h : IsHold ts b e c) : lastIx ts e c = some b := by
  cases q : lastIx ts e c with
  | none => exact absurd h.beg (lastIx_none q b h.lt)
  | some d =>
    obtain ⟨h1, h2, h3⟩ := lastIx_some q
    rcases Nat.lt_trichotomy b d with z | z | z
    · exact absurd h2 (h.no d z h1)
    · rw [z]
    · exact absurd h.beg (h3 b z h.lt)
theorem IsHold.beg_uniq {ts : List Int} {b e e' : Nat} {c c' : Int} (h : IsHold ts b e c) (h' : IsHold ts b e' c') : e = e' := by
  have ec : c = c' := Option.some.inj (h.beg.symm.trans h'.beg)
  subst ec
  rcases Nat.lt_trichotomy e e' with z | z | z
  · exact absurd h.fin (h'.no e h.lt z)
  · exact z
  · exact absurd h'.fin (h.no e' h'.lt z)
theorem IsHold.end_uniq {ts : List Int} {b b' e : Nat} {c c' : Int} (h : IsHold ts b e c) (h' : IsHold ts b' e c') : b = b' := by
  have ec : c = c' := Option.some.inj (h.fin.symm.trans h'.fin)
  subst ec
  exact Option.some.inj (h.last.symm.trans h'.last)
theorem mem_holdAt {ts : List Int} {i : Nat} {h : Nat × Nat} : h ∈ holdAt ts i ↔ h.2 = i ∧ ∃ c, IsHold ts h.1 h.2 c := by
  unfold holdAt
  constructor
  · intro z
    split at z
    · cases z
    · rename_i c hc
      split at z
      · cases z
      · rename_i b hb
        have e : h = (b, i) := by simpa using z
        obtain ⟨h1, h2, h3⟩ := lastIx_some hb
        rw [e]
        exact ⟨rfl, c, h1, h2, hc, h3⟩
  · rintro ⟨e, c, H⟩
    rw [e] at H
    rw [H.fin]
    simp only
    rw [H.last]
    simp only [List.mem_singleton]
    rw [← e]
theorem mem_holdsTo {ts : List Int} {h : Nat × Nat} : ∀ {i : Nat}, h ∈ holdsTo ts i ↔ h.2 < i ∧ ∃ c, IsHold ts h.1 h.2 c
  | 0 => by simp [holdsTo]
  | i + 1 => by
    unfold holdsTo
    rw [List.mem_append, mem_holdsTo, mem_holdAt]
    constructor
    · rintro (⟨h1, h2⟩ | ⟨h1, h2⟩)
      · exact ⟨by omega, h2⟩
      · exact ⟨by omega, h2⟩
    · rintro ⟨h1, h2⟩
      by_cases e : h.2 = i
      · exact .inr ⟨e, h2⟩
      · exact .inl ⟨by omega, h2⟩
theorem holdAt_nodup (ts : List Int) (i : Nat) : (holdAt ts i).Nodup := by
  have := holdAt_len ts i
  match h : holdAt ts i with
  | [] => exact List.nodup_nil
  | [a] => simp
  | a :: b :: r => rw [h] at this; simp at this
theorem holdsTo_nodup (ts : List Int) : ∀ i, (holdsTo ts i).Nodup
  | 0 => List.nodup_nil
  | i + 1 => by
    unfold holdsTo
    refine List.nodup_append.mpr ⟨holdsTo_nodup ts i, holdAt_nodup ts i, fun a ha b hb e => ?_⟩
    have h1 := (mem_holdsTo.mp ha).1
    have h2 := (mem_holdAt.mp hb).1
    rw [e] at h1
    omega
theorem holds_nodup (ts : List Int) : (holds ts).Nodup := (List.mergeSort_perm _ _).nodup_iff.mpr (holdsTo_nodup ts _)
theorem IsHold.inside {ts : List Int} {b e : Nat} {c : Int} (h : IsHold ts b e c) : e < ts.length := (List.getElem?_eq_some_iff.mp h.fin).1
theorem mem_holds {ts : List Int} {h : Nat × Nat} : h ∈ holds ts ↔ ∃ c, IsHold ts h.1 h.2 c := by
  unfold holds
  rw [List.mem_mergeSort, mem_holdsTo]
  exact ⟨fun z => z.2, fun z => ⟨let ⟨_, H⟩ := z; H.inside, z⟩⟩
theorem holds_ends (ts : List Int) : ∀ h ∈ holds ts, h.1 < h.2 ∧ h.2 < ts.length := fun h hh => let ⟨_, H⟩ := mem_holds.mp hh; ⟨H.lt, H.inside⟩
theorem nxt_cases (ts : List Int) (m : Nat) (c : Int) : (∃ e, m ≤ e ∧ ts[e]? = some c ∧ (∀ j, m ≤ j → j < e → ts[j]? ≠ some c) ∧ nxt ts m c = e) ∨ ((∀ j, m ≤ j → ts[j]? ≠ some c) ∧ nxt ts m c = 10 ^ 9) := by
  unfold nxt posGe
  rw [List.getLast?_reverse, List.head?_filter]
  cases q : (List.range' m (ts.length - m)).find? fun j => decide (ts[j]? = some c) with
  | none =>
    refine .inr ⟨fun j hj e => ?_, rfl⟩
    have hl : j < ts.length := (List.getElem?_eq_some_iff.mp e).1
    have := List.find?_eq_none.mp q j (List.mem_range'.mpr ⟨j - m, by omega, by omega⟩)
    simp [e] at this
  | some e =>
    rw [List.find?_range'_eq_some] at q
    obtain ⟨h1, h2, h3⟩ := q
    have h2' := List.mem_range'.mp h2
    refine .inl ⟨e, by omega, of_decide_eq_true h1, fun j h4 h5 => ?_, rfl⟩
    have := h3 j h4 h5
    simpa using this
theorem nxt_at {ts : List Int} {m e : Nat} {c : Int} (h1 : m ≤ e) (h2 : ts[e]? = some c) (h3 : ∀ j, m ≤ j → j < e → ts[j]? ≠ some c) : nxt ts m c = e := by
  rcases nxt_cases ts m c with ⟨d, q1, q2, q3, q4⟩ | ⟨q1, _⟩
  · rw [q4]
    rcases Nat.lt_trichotomy d e with z | z | z
    · exact absurd q2 (h3 d q1 z)
    · exact z
    · exact absurd h2 (q3 e h1 z)
  · exact absurd h2 (q1 e h1)
theorem mem_erase_nodup {xs : List Int} {i : Nat} {y : Int} (n : xs.Nodup) (hy : xs[i]? = some y) {x : Int} : x ∈ xs.eraseIdx i ↔ x ∈ xs ∧ x ≠ y := by
  rw [List.mem_eraseIdx_iff_getElem?]
  constructor
  · rintro ⟨j, hj, e⟩
    refine ⟨List.mem_of_getElem? e, fun z => ?_⟩
    rw [z, ← hy] at e
    have hl : j < xs.length := by
      cases q : xs[j]? with
      | none => rw [q, hy] at e; cases e
      | some w => exact (List.getElem?_eq_some_iff.mp q).1
    exact hj ((List.getElem?_inj hl n).mp e)
  · rintro ⟨h1, h2⟩
    obtain ⟨j, hj, e⟩ := List.getElem_of_mem h1
    refine ⟨j, fun z => ?_, by rw [List.getElem?_eq_getElem hj, e]⟩
    subst z
    rw [List.getElem?_eq_getElem hj, e] at hy
    exact h2 (Option.some.inj hy)
/-! ### what is kept ahead of a place -/
structure BelI (ts : List Int) (k i : Nat) : Prop where
  nd : (belTo ts (k + 1) i).1.Nodup
  sz : (belTo ts (k + 1) i).1.length ≤ k + 1
  old : ∀ x ∈ (belTo ts (k + 1) i).1, ∃ j, j < i ∧ ts[j]? = some x
  same : ∀ h ∈ holds ts, h.1 < i → i ≤ h.2 → ∀ x, ts[h.1]? = some x → (x ∈ (belTo ts (k + 1) i).1 ↔ h.1 + 1 = i ∨ h ∈ keepTo k (holds ts) i)
def cellOf (ts : List Int) (h : Nat × Nat) : Int := (ts[h.1]?).getD 0
section
variable {ts : List Int} {k i : Nat}
theorem belI_step (hN : ts.length < 10 ^ 9) (I : BelI ts k i) (hi : i < ts.length) : BelI ts k (i + 1) := by
  obtain ⟨nd, sz, old, same⟩ := I
  obtain ⟨c, hc⟩ : ∃ c, ts[i]? = some c := ⟨ts[i], List.getElem?_eq_getElem hi⟩
  have nh := holds_nodup ts
  have est : belTo ts (k + 1) (i + 1) = belStep ts (k + 1) (belTo ts (k + 1) i) i := rfl
  generalize hst : belTo ts (k + 1) i = st at *
  obtain ⟨C, m⟩ := st
  simp only at nd sz old same
  -- the holds over i that are at hand
  have mL : ∀ {h : Nat × Nat}, h ∈ covs k (holds ts) i ↔ h ∈ holds ts ∧ h.1 < i ∧ i < h.2 ∧ cellOf ts h ∈ C := by
    intro h
    rw [mem_covs, mem_cand, cov_lt]
    constructor
    · rintro ⟨h1, h2, h3⟩
      have hh : h ∈ holds ts := h1.elim (fun z => (keep_in z).1) fun z => z.1
      obtain ⟨x, H⟩ := mem_holds.mp hh
      have e : cellOf ts h = x := by unfold cellOf; rw [H.beg]; rfl
      refine ⟨hh, h2, h3, ?_⟩
      rw [e]
      exact (same h hh h2 (by omega) x H.beg).mpr (h1.elim .inr fun z => .inl z.2)
    · rintro ⟨hh, h2, h3, h4⟩
      obtain ⟨x, H⟩ := mem_holds.mp hh
      have e : cellOf ts h = x := by unfold cellOf; rw [H.beg]; rfl
      rw [e] at h4
      exact ⟨((same h hh h2 (by omega) x H.beg).mp h4).elim (fun z => .inr ⟨hh, z⟩) .inl, h2, h3⟩
  generalize hL : covs k (holds ts) i = L at mL
  have nL : L.Nodup := hL ▸ covs_nodup nh i
  have at_ : ∀ {h : Nat × Nat}, h ∈ holds ts → IsHold ts h.1 h.2 (cellOf ts h) := fun {h} hh => by
    obtain ⟨x, H⟩ := mem_holds.mp hh
    have e : cellOf ts h = x := by unfold cellOf; rw [H.beg]; rfl
    rw [e]; exact H
  have ne_c : ∀ {h : Nat × Nat}, h ∈ holds ts → h.1 < i → i < h.2 → cellOf ts h ≠ c := fun hh h1 h2 e => (at_ hh).no i h1 h2 (by rw [hc, e])
  have inj : ∀ {h h' : Nat × Nat}, h ∈ holds ts → h.1 < i → i < h.2 → h' ∈ holds ts → h'.1 < i → i < h'.2 → cellOf ts h = cellOf ts h' → h = h' := fun {h h'} a1 a2 a3 b1 b2 b3 e => by
    have H := at_ a1
    have H' := at_ b1
    have e1 : h.1 = h'.1 := by
      rcases Nat.lt_trichotomy h.1 h'.1 with z | z | z
      · exact absurd (H'.beg.trans (congrArg some e.symm)) (H.no h'.1 z (by omega))
      · exact z
      · exact absurd (H.beg.trans (congrArg some e)) (H'.no h.1 z (by omega))
    have e2 : h.2 = h'.2 := by rw [e1] at H; exact H.beg_uniq H'
    exact Prod.ext e1 e2
  have nf : (L.map (cellOf ts)).Nodup := by
    unfold List.Nodup
    rw [List.pairwise_map]
    refine nL.imp_of_mem fun {a b} ha hb hab e => hab ?_
    obtain ⟨a1, a2, a3, _⟩ := mL.mp ha
    obtain ⟨b1, b2, b3, _⟩ := mL.mp hb
    exact inj a1 a2 a3 b1 b2 b3 e
  have sub : ∀ x ∈ L.map (cellOf ts), x ∈ C := fun x hx => by
    obtain ⟨h, hh, rfl⟩ := List.mem_map.mp hx
    exact (mL.mp hh).2.2.2
  have next : ∀ {h : Nat × Nat}, h ∈ holds ts → h.1 < i → i < h.2 → nxt ts (i + 1) (cellOf ts h) = h.2 := fun {h} hh h1 h2 => nxt_at (by omega) (at_ hh).fin fun j h3 h4 => (at_ hh).no j (by omega) h4
  have live : ∀ x ∈ C, x ≠ c → x ∉ L.map (cellOf ts) → nxt ts (i + 1) x = 10 ^ 9 := fun x hx hxc hn => by
    rcases nxt_cases ts (i + 1) x with ⟨e, q1, q2, q3, q4⟩ | ⟨_, q⟩
    · refine absurd ?_ hn
      obtain ⟨j, hj, ej⟩ := old x hx
      cases q : lastIx ts i x with
      | none => exact absurd ej (lastIx_none q j hj)
      | some b =>
        obtain ⟨b1, b2, b3⟩ := lastIx_some q
        have H : IsHold ts b e x := ⟨by omega, b2, q2, fun j h1 h2 => by
          rcases Nat.lt_trichotomy j i with z | z | z
          · exact b3 j h1 z
          · rw [z, hc]; exact fun w => hxc (Option.some.inj w).symm
          · exact q3 j z h2⟩
        have hh : (b, e) ∈ holds ts := mem_holds.mpr ⟨x, H⟩
        have ec : cellOf ts (b, e) = x := by unfold cellOf; rw [show ts[(b, e).1]? = some x from b2]; rfl
        refine List.mem_map.mpr ⟨(b, e), mL.mpr ⟨hh, b1, by show i < e; omega, by rw [ec]; exact hx⟩, ec⟩
    · exact q
  -- a hold over i, behind i
  have over : ∀ {h : Nat × Nat}, h ∈ holds ts → h.1 < i → i < h.2 → (h ∈ keepTo k (holds ts) (i + 1) ↔ cellOf ts h ∈ C ∧ h ∉ gu k (holds ts) i) := fun {h} hh h1 h2 => by
    rw [mem_succ]
    refine and_congr_left fun _ => ?_
    constructor
    · intro z
      have : h ∈ L := by rw [← hL]; exact mem_covs.mpr ⟨z, cov_lt.mpr ⟨h1, h2⟩⟩
      exact (mL.mp this).2.2.2
    · intro z
      have : h ∈ L := mL.mpr ⟨hh, h1, h2, z⟩
      rw [← hL] at this
      exact (mem_covs.mp this).1
  have gnil : L.length ≤ k → gu k (holds ts) i = [] := fun z => gu_small (by rw [hL]; exact z)
  have lenL : L.length ≤ C.length := by
    have := nodup_len nf sub
    rwa [List.length_map] at this
  have est2 : belTo ts (k + 1) (i + 1) = if c ∈ C then (C, m) else ((if C.length = k + 1 then C.eraseIdx (imax (C.map (nxt ts (i + 1)))) else C) ++ [c], m + 1) := by
    rw [est]
    unfold belStep
    rw [hc]
  by_cases hit : c ∈ C
  · rw [if_pos hit] at est2
    have l2 : L.length ≤ k := by
      have := nodup_len (xs := c :: L.map (cellOf ts)) (ys := C) (List.nodup_cons.mpr ⟨fun z => by
        obtain ⟨h, hh, e⟩ := List.mem_map.mp z
        obtain ⟨a1, a2, a3, _⟩ := mL.mp hh
        exact ne_c a1 a2 a3 e, nf⟩) (fun x hx => by
        rcases List.mem_cons.mp hx with e | hx
        · rw [e]; exact hit
        · exact sub x hx)
      rw [List.length_cons, List.length_map] at this
      omega
    have g0 := gnil l2
    refine ⟨?_, ?_, ?_, ?_⟩ <;> rw [est2]
    · exact nd
    · exact sz
    · intro x hx
      obtain ⟨j, hj, e⟩ := old x hx
      exact ⟨j, by omega, e⟩
    · intro h hh h1 h2 x hx
      by_cases e : h.1 = i
      · rw [e, hc] at hx
        cases hx
        exact ⟨fun _ => .inl (by omega), fun _ => hit⟩
      · have ex : cellOf ts h = x := by unfold cellOf; rw [hx]; rfl
        rw [over hh (by omega) (by omega), ex, g0]
        exact ⟨fun z => .inr ⟨z, by simp⟩, fun z => z.elim (fun z => by omega) fun z => z.1⟩
  · rw [if_neg hit] at est2
    -- what stays
    obtain ⟨D, hD, dn, dl, dC, dk⟩ : ∃ D : List Int, (if C.length = k + 1 then C.eraseIdx (imax (C.map (nxt ts (i + 1)))) else C) = D ∧ D.Nodup ∧ D.length ≤ k ∧ (∀ x ∈ D, x ∈ C) ∧ ∀ h ∈ holds ts, h.1 < i → i < h.2 → (cellOf ts h ∈ D ↔ cellOf ts h ∈ C ∧ h ∉ gu k (holds ts) i) := by
      by_cases full : C.length = k + 1
      · rw [if_pos full]
        have cne : C.map (nxt ts (i + 1)) ≠ [] := fun z => by
          have := congrArg List.length z
          rw [List.length_map] at this
          simp at this
          rw [this] at full
          simp at full
        have hmax := imax_at cne
        generalize imax (C.map (nxt ts (i + 1))) = j at hmax
        obtain ⟨y, hy, ey⟩ : ∃ y, C[j]? = some y ∧ nxt ts (i + 1) y = lmax (C.map (nxt ts (i + 1))) := by
          rw [List.getElem?_map] at hmax
          cases q : C[j]? with
          | none => rw [q] at hmax; cases hmax
          | some y => rw [q] at hmax; exact ⟨y, rfl, Option.some.inj hmax⟩
        have jl : j < C.length := (List.getElem?_eq_some_iff.mp hy).1
        have yC : y ∈ C := List.mem_of_getElem? hy
        have top : ∀ x ∈ C, nxt ts (i + 1) x ≤ nxt ts (i + 1) y := fun x hx => by rw [ey]; exact le_lmax (List.mem_map.mpr ⟨x, hx, rfl⟩)
        refine ⟨_, rfl, nd.sublist (List.eraseIdx_sublist _ _), by rw [List.length_eraseIdx_of_lt jl]; omega, fun x hx => List.mem_of_mem_eraseIdx hx, fun h hh h1 h2 => ?_⟩
        rw [mem_erase_nodup nd hy]
        refine and_congr_right fun hC => ?_
        have hLh : h ∈ L := mL.mpr ⟨hh, h1, h2, hC⟩
        by_cases small : L.length ≤ k
        · rw [gnil small]
          refine ⟨fun _ => by simp, fun _ e => ?_⟩
          have ⟨x, hx, hxn⟩ : ∃ x, x ∈ C ∧ x ∉ L.map (cellOf ts) := by
            apply Classical.byContradiction
            intro no
            have := nodup_len (xs := C) (ys := L.map (cellOf ts)) nd fun x hx => Classical.byContradiction fun z => no ⟨x, hx, z⟩
            rw [List.length_map] at this
            omega
          have n1 := live x hx (fun e => hit (e ▸ hx)) hxn
          have n2 := top x hx
          have n3 := next hh h1 h2
          rw [e] at n3
          have := (holds_ends ts h hh).2
          omega
        · have lk : L.length = k + 1 := by omega
          have all := nodup_all nf sub (by rw [List.length_map]; omega)
          obtain ⟨g, hg, eg⟩ := List.mem_map.mp (all y yC)
          obtain ⟨g1, g2, g3, g4⟩ := mL.mp hg
          -- the one given up
          have gl : (gu k (holds ts) i).length = 1 := by
            unfold gu
            rw [List.length_drop, List.length_mergeSort, hL, lk]
            omega
          obtain ⟨u, hu⟩ := List.length_eq_one_iff.mp gl
          have uin : u ∈ gu k (holds ts) i := by rw [hu]; exact .head _
          have uL : u ∈ L := by rw [← hL]; exact gu_in uin
          obtain ⟨u1, u2, u3, u4⟩ := mL.mp uL
          have gu_ : g = u := by
            have hgs : g ∈ (covs k (holds ts) i).mergeSort leEnd := List.mem_mergeSort.mpr (by rw [hL]; exact hg)
            rw [← List.take_append_drop k ((covs k (holds ts) i).mergeSort leEnd)] at hgs
            rcases List.mem_append.mp hgs with z | z
            · have h3 := (split_take nh i z uin).2
              have h4 := top (cellOf ts u) u4
              rw [next u1 u2 u3, ← eg, next g1 g2 g3] at h4
              have e2 : g.2 = u.2 := by omega
              have Hg := at_ g1
              rw [e2] at Hg
              exact Prod.ext (Hg.end_uniq (at_ u1)) e2
            · have : g ∈ gu k (holds ts) i := z
              rw [hu] at this
              simpa using this
          rw [hu]
          simp only [List.mem_singleton]
          refine not_congr ⟨fun e => ?_, fun e => ?_⟩
          · rw [← gu_]
            exact inj hh h1 h2 g1 g2 g3 (e.trans eg.symm)
          · rw [e, ← gu_, eg]
      · rw [if_neg full]
        refine ⟨C, rfl, nd, by omega, fun x hx => hx, fun h hh h1 h2 => ?_⟩
        rw [gnil (by omega)]
        simp
    rw [hD] at est2
    have cD : c ∉ D := fun z => hit (dC c z)
    refine ⟨?_, ?_, ?_, ?_⟩ <;> rw [est2]
    · refine List.nodup_append.mpr ⟨dn, by simp, fun a ha b hb e => ?_⟩
      have : b = c := by simpa using hb
      rw [e, this] at ha
      exact cD ha
    · show (D ++ [c]).length ≤ _
      rw [List.length_append]
      simp; omega
    · intro x hx
      rcases List.mem_append.mp hx with z | z
      · obtain ⟨j, hj, e⟩ := old x (dC x z)
        exact ⟨j, by omega, e⟩
      · have : x = c := by simpa using z
        rw [this]
        exact ⟨i, by omega, hc⟩
    · intro h hh h1 h2 x hx
      show x ∈ D ++ [c] ↔ _
      by_cases e : h.1 = i
      · rw [e, hc] at hx
        cases hx
        exact ⟨fun _ => .inl (by omega), fun _ => by simp⟩
      · have ex : cellOf ts h = x := by unfold cellOf; rw [hx]; rfl
        have xc : x ≠ c := ex ▸ ne_c hh (by omega) (by omega)
        rw [over hh (by omega) (by omega), ← dk h hh (by omega) (by omega), ex, List.mem_append]
        exact ⟨fun z => z.elim .inr fun z => absurd (by simpa using z) xc, fun z => z.elim (fun z => by omega) .inl⟩
theorem belI (hN : ts.length < 10 ^ 9) : ∀ i, i ≤ ts.length → BelI ts k i
  | 0, _ => ⟨List.nodup_nil, Nat.zero_le _, (fun x hx => nomatch hx), fun h _ z => absurd z (Nat.not_lt_zero _)⟩
  | i + 1, hi => belI_step hN (belI hN i (by omega)) (by omega)
theorem bel_count (hN : ts.length < 10 ^ 9) : ∀ i, i ≤ ts.length → (belTo ts (k + 1) i).2 + (holdsTo ts i).countP (fun h => decide (h ∈ keepTo k (holds ts) ts.length)) = i
  | 0, _ => rfl
  | i + 1, hi => by
    have ih := bel_count hN i (by omega)
    have I := belI (k := k) hN i (by omega)
    obtain ⟨c, hc⟩ : ∃ c, ts[i]? = some c := ⟨ts[i], List.getElem?_eq_getElem (by omega)⟩
    have est : belTo ts (k + 1) (i + 1) = belStep ts (k + 1) (belTo ts (k + 1) i) i := rfl
    have h2 : (belTo ts (k + 1) (i + 1)).2 = (belTo ts (k + 1) i).2 + if c ∈ (belTo ts (k + 1) i).1 then 0 else 1 := by
      rw [est]
      unfold belStep
      rw [hc]
      simp only
      split <;> simp
    have key : (holdAt ts i).countP (fun h => decide (h ∈ keepTo k (holds ts) ts.length)) = if c ∈ (belTo ts (k + 1) i).1 then 1 else 0 := by
      unfold holdAt
      rw [hc]
      simp only
      cases q : lastIx ts i c with
      | none =>
        rw [if_neg fun z => by
          obtain ⟨j, hj, e⟩ := I.old c z
          exact lastIx_none q j hj e]
        rfl
      | some b =>
        obtain ⟨b1, b2, b3⟩ := lastIx_some q
        have H : IsHold ts b i c := ⟨b1, b2, hc, b3⟩
        have hh : (b, i) ∈ holds ts := mem_holds.mpr ⟨c, H⟩
        have s := I.same (b, i) hh b1 (Nat.le_refl _) c b2
        have ek : (b, i) ∈ keepTo k (holds ts) ts.length ↔ b + 1 = i ∨ (b, i) ∈ keepTo k (holds ts) i := by
          constructor
          · intro z
            by_cases e : b + 1 = i
            · exact .inl e
            · refine .inr (keep_back (m := i) (by show b + 1 < i; omega) (ts.length - i) ?_)
              rwa [show i + (ts.length - i) = ts.length by omega]
          · rintro (z | z)
            · refine keep_start hh (by show b + 1 < _; omega) fun p _ y => ?_
              have := cov_lt.mp (mem_covs.mp (gu_in y)).2
              simp only at this
              omega
            · have := keep_fwd (ts.length - i) z fun p h1 _ y => by
                have := cov_lt.mp (mem_covs.mp (gu_in y)).2
                simp only at this
                omega
              rwa [show i + (ts.length - i) = ts.length by omega] at this
        show List.countP _ [(b, i)] = _
        rw [List.countP_singleton]
        by_cases z : c ∈ (belTo ts (k + 1) i).1
        · rw [if_pos z, if_pos (decide_eq_true (ek.mpr (s.mp z)))]
        · rw [if_neg z, if_neg (fun y => z (s.mpr (ek.mp (of_decide_eq_true y))))]
    unfold holdsTo
    rw [List.countP_append, key, h2]
    split <;> omega
end
theorem fewest_bel (ts : List Int) (k : Nat) (hN : ts.length < 10 ^ 9) : bel ts (k + 1) + (keepTo k (holds ts) ts.length).length = ts.length := by
  have h1 := bel_count (k := k) hN ts.length (Nat.le_refl _)
  have h2 := count_in (keep_nodup (k := k) (holds_nodup ts) ts.length) (holdsTo_nodup ts ts.length) (fun x hx => mem_holdsTo.mpr ⟨(holds_ends ts x (keep_in hx).1).2, mem_holds.mp (keep_in hx).1⟩) fun _ => true
  have h3 : (keepTo k (holds ts) ts.length).countP (fun _ => true) = (keepTo k (holds ts) ts.length).length := List.countP_eq_length.mpr fun _ _ => rfl
  rw [h3] at h2
  simp only [Bool.and_true] at h2
  rw [h2] at h1
  exact h1
theorem belTo_roomy {ts : List Int} {k : Nat} (h : cells ts ≤ k + 1) : ∀ i, i ≤ ts.length → belTo ts (k + 1) i = (uniq (ts.take i), (uniq (ts.take i)).length)
  | 0, _ => rfl
  | i + 1, hi => by
    have ih := belTo_roomy h i (by omega)
    obtain ⟨c, hc⟩ : ∃ c, ts[i]? = some c := ⟨ts[i], List.getElem?_eq_getElem (by omega)⟩
    show belStep ts (k + 1) (belTo ts (k + 1) i) i = _
    rw [ih, uniq_step hc]
    unfold belStep uniqS
    rw [hc]
    simp only
    split
    · rfl
    · rename_i hn
      have le : (uniq (ts.take i)).length + 1 ≤ cells ts := by
        have := nodup_len (xs := c :: uniq (ts.take i)) (ys := uniq ts) (List.nodup_cons.mpr ⟨hn, uniq_nodup _⟩) fun x hx => by
          rw [uniq_mem]
          rcases List.mem_cons.mp hx with e | hx
          · rw [e]; exact List.mem_of_getElem? hc
          · exact List.mem_of_mem_take (uniq_mem.mp hx)
        rwa [List.length_cons] at this
      rw [if_neg (by omega)]
      simp
theorem pgM : PgM := by
  refine ⟨fun ts k hN => ?_, fun ts k hN => ?_, fun ts k hN => ?_, fun ts k _ h => ?_⟩
  · have := fewest_bel ts k hN
    unfold fewest kept
    rw [List.length_mergeSort, Nat.add_sub_cancel]
    omega
  · have h1 := fewest_bel ts k hN
    have h2 := fewest_bel ts (k + 1) hN
    have h3 := keep_mono (k := k) (holds_nodup ts) (holds_ends ts)
    rw [show k + 1 + 1 = k + 2 from rfl] at h2
    omega
  · have h1 := fewest_bel ts k hN
    have h2 := fewest_bel ts (k + 1) hN
    have h3 := fewest_bel ts (k + 2) hN
    have h4 := keep_conc (k := k) (holds_nodup ts) (holds_ends ts)
    rw [show k + 1 + 1 = k + 2 from rfl] at h2
    rw [show k + 2 + 1 = k + 3 from rfl] at h3
    omega
  · unfold bel
    rw [belTo_roomy h ts.length (Nat.le_refl _), List.take_length]
    rfl
end Lg
/-! The mathematics of papers: the most holds that fit, the bars of least cost, other numbers, backwards. -/
namespace Lg
/-! ### holds that fit -/
def FitP (k : Nat) (K : List (Nat × Nat)) : Prop := ∀ q, K.countP (fun h => covB h q) ≤ k
section
variable {k : Nat} {hs : List (Nat × Nat)}
theorem fit_le (nh : hs.Nodup) {N : Nat} (hE : ∀ h ∈ hs, h.1 < h.2 ∧ h.2 < N) {K : List (Nat × Nat)} (nK : K.Nodup) (sub : ∀ x ∈ K, x ∈ hs) (hK : FitP k K) : K.length ≤ (keepTo k hs N).length := by
  obtain ⟨B, e⟩ := strong (k := k) nh hE
  have h1 := bars_len hK B
  have h2 : K.countP (bare B) ≤ hs.countP (bare B) := by
    rw [List.countP_eq_length_filter, List.countP_eq_length_filter]
    refine nodup_len (nK.sublist List.filter_sublist) fun t ht => ?_
    obtain ⟨h3, h4⟩ := List.mem_filter.mp ht
    exact List.mem_filter.mpr ⟨sub t h3, h4⟩
  omega
theorem keep_fit (nh : hs.Nodup) {N : Nat} (hE : ∀ h ∈ hs, h.1 < h.2 ∧ h.2 < N) : FitP k (keepTo k hs N) := fun q => by
  by_cases hq : q < N
  · rw [List.countP_eq_length_filter]; exact keep_cov2 nh hq
  · have : (keepTo k hs N).countP (fun h => covB h q) = 0 := List.countP_eq_zero.mpr fun h hh z => by
      have := hE h (keep_in hh).1
      have := (cov_lt.mp z).2
      omega
    omega
theorem FitP.perm {K K' : List (Nat × Nat)} (p : List.Perm K K') (h : FitP k K) : FitP k K' := fun q => by rw [← p.countP_eq]; exact h q
theorem strong_lt (nh : hs.Nodup) {N : Nat} (hE : ∀ h ∈ hs, h.1 < h.2 ∧ h.2 < N) : ∃ B : List Nat, (∀ q ∈ B, q < N) ∧ (keepTo k hs N).length = k * B.length + hs.countP (bare B) := by
  obtain ⟨B, hB, e⟩ := strong_at (k := k) nh hE N N (Nat.le_refl _)
  refine ⟨B, hB, ?_⟩
  have h1 : hs.countP (fun h => decide (h ∈ keepTo k hs N) && decide (h.2 ≤ N)) = (keepTo k hs N).length := by
    refine (count_in (keep_nodup nh N) nh (fun x hx => (keep_in hx).1) fun h => decide (h.2 ≤ N)).trans ?_
    refine List.countP_eq_length.mpr fun h hh => ?_
    have := hE h (keep_in hh).1
    exact decide_eq_true (by omega)
  have h2 : hs.countP (fun h => decide (h.2 ≤ N) && bare B h) = hs.countP (bare B) := List.countP_congr fun h hh => by
    have := hE h hh
    simp [show h.2 ≤ N by omega]
  rw [← h1, e, h2]
/-! ### all sets of some holds -/
def subsS (some : List (List (Nat × Nat))) (h : Nat × Nat) : List (List (Nat × Nat)) := some ++ some.map (· ++ [h])
def subsTo (hs : List (Nat × Nat)) (i : Nat) : List (List (Nat × Nat)) := (hs.take i).foldl subsS [[]]
def subs (hs : List (Nat × Nat)) : List (List (Nat × Nat)) := hs.foldl subsS [[]]
theorem subsTo_succ {i : Nat} {h : Nat × Nat} (e : hs[i]? = some h) : subsTo hs (i + 1) = subsS (subsTo hs i) h := by
  unfold subsTo
  rw [List.take_add_one, e, List.foldl_append]
  rfl
theorem subsTo_all : subsTo hs hs.length = subs hs := by unfold subsTo subs; rw [List.take_length]
theorem subsTo_len : ∀ {i : Nat}, i ≤ hs.length → (subsTo hs i).length = 2 ^ i
  | 0, _ => rfl
  | i + 1, hi => by
    obtain ⟨h, e⟩ : ∃ h, hs[i]? = some h := ⟨hs[i], List.getElem?_eq_getElem hi⟩
    rw [subsTo_succ e]
    unfold subsS
    rw [List.length_append, List.length_map, subsTo_len (Nat.le_of_lt hi), Nat.pow_succ]
    omega
theorem mem_subsTo : ∀ {i : Nat} {s : List (Nat × Nat)}, s ∈ subsTo hs i ↔ List.Sublist s (hs.take i)
  | 0, s => by
    show s ∈ [[]] ↔ _
    rw [List.take_zero, List.sublist_nil, List.mem_singleton]
  | i + 1, s => by
    cases e : hs[i]? with
    | none =>
      have hl : hs.length ≤ i := List.getElem?_eq_none_iff.mp e
      have e1 : hs.take (i + 1) = hs.take i := by rw [List.take_of_length_le hl, List.take_of_length_le (by omega)]
      have e2 : subsTo hs (i + 1) = subsTo hs i := by unfold subsTo; rw [e1]
      rw [e2, e1]
      exact mem_subsTo
    | some h =>
      rw [subsTo_succ e, List.take_add_one, e]
      unfold subsS
      show s ∈ _ ↔ List.Sublist s (hs.take i ++ [h])
      rw [List.mem_append, List.mem_map, List.sublist_append_iff, mem_subsTo]
      constructor
      · rintro (q | ⟨a, q, rfl⟩)
        · exact ⟨s, [], (List.append_nil _).symm, q, List.nil_sublist _⟩
        · exact ⟨a, [h], rfl, mem_subsTo.mp q, List.Sublist.refl _⟩
      · rintro ⟨a, b, rfl, h1, h2⟩
        rcases List.sublist_cons_iff.mp h2 with h3 | ⟨r, rfl, h3⟩
        · cases List.sublist_nil.mp h3
          exact .inl (by rw [List.append_nil]; exact h1)
        · cases List.sublist_nil.mp h3
          exact .inr ⟨a, mem_subsTo.mpr h1, rfl⟩
theorem mem_subs {s : List (Nat × Nat)} : s ∈ subs hs ↔ List.Sublist s hs := by
  rw [← subsTo_all, mem_subsTo, List.take_length]
def fitB (n k : Nat) (ps : List (Nat × Nat)) : Bool := (List.range (n + 1)).all fun q => decide (ps.countP (fun h => covB h q) ≤ k)
theorem fitB_iff {n : Nat} {ps : List (Nat × Nat)} (hE : ∀ h ∈ ps, h.2 < n) : fitB n k ps = true ↔ FitP k ps := by
  unfold fitB
  rw [List.all_eq_true]
  constructor
  · intro h q
    by_cases hq : q < n + 1
    · exact of_decide_eq_true (h q (List.mem_range.mpr hq))
    · have : ps.countP (fun h => covB h q) = 0 := List.countP_eq_zero.mpr fun h hh z => by
        have := hE h hh
        have := (cov_lt.mp z).2
        omega
      omega
  · exact fun h q _ => decide_eq_true (h q)
def mostS (n k : Nat) (f : Nat) (s : List (Nat × Nat)) : Nat := if f < s.length ∧ fitB n k s = true then s.length else f
def mostOf (n k : Nat) (hs : List (Nat × Nat)) : Nat := (subs hs).foldl (mostS n k) 0
theorem most_fold {n : Nat} : ∀ {S : List (List (Nat × Nat))} {f m : Nat}, f ≤ m → (∀ s ∈ S, fitB n k s = true → s.length ≤ m) → (f = m ∨ ∃ s ∈ S, fitB n k s = true ∧ s.length = m) → S.foldl (mostS n k) f = m
  | [], f, m, _, _, h => by
    rcases h with h | ⟨s, hs, _⟩
    · exact h
    · cases hs
  | s :: S, f, m, h1, h2, h3 => by
    rw [List.foldl_cons]
    have hs := h2 s (.head _)
    refine most_fold ?_ (fun t ht => h2 t (.tail _ ht)) ?_
    · unfold mostS
      split
      · exact hs (by rename_i z; exact z.2)
      · exact h1
    · unfold mostS
      rcases h3 with h3 | ⟨t, ht, h4, h5⟩
      · left
        rw [if_neg]
        · exact h3
        · rintro ⟨a, b⟩
          have := hs b
          omega
      · rcases List.mem_cons.mp ht with rfl | ht
        · left
          by_cases hf : f < t.length
          · rw [if_pos ⟨hf, h4⟩]; exact h5
          · rw [if_neg (fun z => hf z.1)]; omega
        · exact .inr ⟨t, ht, h4, h5⟩
theorem most_keep (nh : hs.Nodup) {N : Nat} (hE : ∀ h ∈ hs, h.1 < h.2 ∧ h.2 < N) : mostOf N k hs = (keepTo k hs N).length := by
  refine most_fold (Nat.zero_le _) (fun s hs' hf => ?_) (.inr ?_)
  · have sb := mem_subs.mp hs'
    exact fit_le nh hE (nh.sublist sb) (fun x hx => sb.subset hx) ((fitB_iff fun h hh => (hE h (sb.subset hh)).2).mp hf)
  · have hm : List.Perm (hs.filter fun h => decide (h ∈ keepTo k hs N)) (keepTo k hs N) := by
      refine (List.perm_ext_iff_of_nodup (nh.sublist List.filter_sublist) (keep_nodup nh N)).mpr fun a => ?_
      rw [List.mem_filter]
      exact ⟨fun z => of_decide_eq_true z.2, fun z => ⟨(keep_in z).1, decide_eq_true z⟩⟩
    refine ⟨_, mem_subs.mpr List.filter_sublist, ?_, hm.length_eq⟩
    refine (fitB_iff fun h hh => (hE h (List.mem_filter.mp hh).1).2).mpr ?_
    exact (keep_fit nh hE).perm hm.symm
/-! ### bars by a row of least costs -/
def seg (hs : List (Nat × Nat)) (l : Int) (p : Int) : Nat := hs.countP fun h => decide (l ≤ (h.1 : Int)) && decide ((h.2 : Int) ≤ p)
inductive Path (k n : Nat) (hs : List (Nat × Nat)) : Int → Nat → List Nat → Prop
  | nil : Path k n hs (-1) 0 []
  | step {l : Int} {c : Nat} {B : List Nat} {p : Nat} : Path k n hs l c B → l < p → p < n → Path k n hs p (c + seg hs l p + k) (B ++ [p])
structure PathI (k n : Nat) (hs : List (Nat × Nat)) (l : Int) (c : Nat) (B : List Nat) : Prop where
  asc : B.Pairwise (· < ·)
  le : ∀ q ∈ B, (q : Int) ≤ l
  lt : ∀ q ∈ B, q < n
  low : -1 ≤ l
  top : l < n
  last : (B = [] ∧ l = -1) ∨ ∃ q ∈ B, (q : Int) = l
  cost : c = k * B.length + hs.countP fun h => decide ((h.2 : Int) ≤ l) && bare B h
theorem bare_app {B C : List Nat} {h : Nat × Nat} : bare (B ++ C) h = (bare B h && bare C h) := by unfold bare; rw [List.all_append]
theorem seg_split {n : Nat} {l : Int} {B : List Nat} (hE : ∀ h ∈ hs, h.1 < h.2 ∧ h.2 < n) (le : ∀ q ∈ B, (q : Int) ≤ l) (last : (B = [] ∧ l = -1) ∨ ∃ q ∈ B, (q : Int) = l) {p : Int} (hp : l ≤ p) :
    hs.countP (fun h => decide ((h.2 : Int) ≤ p) && bare B h) = hs.countP (fun h => decide ((h.2 : Int) ≤ l) && bare B h) + seg hs l p := by
  have := count3 (p := fun h => decide ((h.2 : Int) ≤ p) && bare B h) (a := fun h => decide ((h.2 : Int) ≤ l) && bare B h) (b := fun h => decide (l ≤ (h.1 : Int)) && decide ((h.2 : Int) ≤ p)) (c := fun _ => false) (xs := hs) fun h hh => by
    have hlt := hE h hh
    by_cases a1 : l ≤ (h.1 : Int)
    · have a2 : ¬ (h.2 : Int) ≤ l := by omega
      have a3 : bare B h = true := List.all_eq_true.mpr fun q hq => by
        have := le q hq
        cases z : covB h q with
        | false => rfl
        | true => have := cov_lt.mp z; omega
      by_cases a4 : (h.2 : Int) ≤ p <;> simp [a1, a2, a3, a4]
    · by_cases a2 : (h.2 : Int) ≤ l
      · have a4 : (h.2 : Int) ≤ p := by omega
        simp [a1, a2, a4]
      · have a3 : bare B h = false := by
          rcases last with ⟨_, rfl⟩ | ⟨q, hq, e⟩
          · omega
          · cases z : bare B h with
            | false => rfl
            | true =>
              have z1 := List.all_eq_true.mp z q hq
              have z2 : covB h q = true := cov_lt.mpr ⟨by omega, by omega⟩
              rw [z2] at z1
              cases z1
        simp [a1, a2, a3]
  have z0 : hs.countP (fun _ => false) = 0 := List.countP_eq_zero.mpr fun _ _ => by simp
  rw [this, z0]
  rfl
theorem Path.inv {n : Nat} (hE : ∀ h ∈ hs, h.1 < h.2 ∧ h.2 < n) {l : Int} {c : Nat} {B : List Nat} (P : Path k n hs l c B) (hn : -1 < (n : Int)) : PathI k n hs l c B := by
  induction P with
  | nil =>
    refine ⟨List.Pairwise.nil, (by simp), (by simp), by decide, hn, .inl ⟨rfl, rfl⟩, ?_⟩
    rw [List.countP_eq_zero.mpr fun h hh => by have := hE h hh; simp; omega]
    rfl
  | @step l c B p P h1 h2 ih =>
    have ap : (B ++ [p]).Pairwise (· < ·) := List.pairwise_append.mpr ⟨ih.asc, List.pairwise_singleton _ _, fun a ha b hb => by
      have e : b = p := by simpa using hb
      have := ih.le a ha
      omega⟩
    refine ⟨ap, fun q hq => ?_, fun q hq => ?_, by omega, by omega, .inr ⟨p, by simp, rfl⟩, ?_⟩
    · rcases List.mem_append.mp hq with z | z
      · have := ih.le q z; omega
      · have e : q = p := by simpa using z
        omega
    · rcases List.mem_append.mp hq with z | z
      · exact ih.lt q z
      · have e : q = p := by simpa using z
        omega
    · have e1 : hs.countP (fun h => decide ((h.2 : Int) ≤ (p : Int)) && bare (B ++ [p]) h) = hs.countP (fun h => decide ((h.2 : Int) ≤ (p : Int)) && bare B h) := List.countP_congr fun h hh => by
        rw [bare_app]
        by_cases a : h.2 ≤ p
        · have : bare [p] h = true := by
            unfold bare
            cases z : covB h p with
            | false => simp [z]
            | true => have := cov_lt.mp z; omega
          simp [this]
        · have : ¬ (h.2 : Int) ≤ (p : Int) := by omega
          simp [this]
      rw [e1, seg_split hE ih.le ih.last (by omega : l ≤ (p : Int)), ih.cost, List.length_append]
      simp only [List.length_cons, List.length_nil, Nat.mul_add]
      omega
/-- what a finished way costs -/
theorem Path.fin {n : Nat} (hE : ∀ h ∈ hs, h.1 < h.2 ∧ h.2 < n) {l : Int} {c : Nat} {B : List Nat} (P : Path k n hs l c B) : c + seg hs l n = k * B.length + hs.countP (bare B) := by
  have I := P.inv hE (by omega)
  have h1 := seg_split hE I.le I.last (by have := I.top; omega : l ≤ (n : Int))
  have h2 : hs.countP (fun h => decide ((h.2 : Int) ≤ (n : Int)) && bare B h) = hs.countP (bare B) := List.countP_congr fun h hh => by
    have := hE h hh
    simp [show (h.2 : Int) ≤ (n : Int) by omega]
  have := I.cost
  omega
theorem path_of {n : Nat} (hE : ∀ h ∈ hs, h.1 < h.2 ∧ h.2 < n) (S : Nat → Bool) : ∀ m, m ≤ n → ∃ l c, Path k n hs l c ((List.range m).filter S) ∧ l < m
  | 0, _ => ⟨-1, 0, .nil, by omega⟩
  | m + 1, hm => by
    obtain ⟨l, c, P, hl⟩ := path_of hE S m (by omega)
    rw [List.range_succ, List.filter_append]
    by_cases h : S m = true
    · rw [List.filter_cons_of_pos h, List.filter_nil]
      exact ⟨m, _, P.step (by omega) (by omega), by omega⟩
    · rw [List.filter_cons_of_neg h, List.filter_nil, List.append_nil]
      exact ⟨l, c, P, by omega⟩
/-- a row of costs that is closed under steps has the least cost at its end -/
structure Row (k n : Nat) (hs : List (Nat × Nat)) (st : Int → Option (Nat × List Nat)) : Prop where
  start : st (-1) = some (0, [])
  ok : ∀ j c B, st j = some (c, B) → j < (n : Int) → Path k n hs j c B
  okN : ∀ c B, st n = some (c, B) → ∃ l c', Path k n hs l c' B ∧ c = c' + seg hs l n
theorem row_end {n : Nat} (nh : hs.Nodup) (hE : ∀ h ∈ hs, h.1 < h.2 ∧ h.2 < n) {st : Int → Option (Nat × List Nat)} (R : Row k n hs st)
    (step : ∀ l c B, -1 ≤ l → l < (n : Int) → st l = some (c, B) → ∀ p : Nat, l < p → p ≤ n → ∃ c' B', st p = some (c', B') ∧ c' ≤ c + seg hs l p + (if p < n then k else 0)) :
    ∃ c B, st n = some (c, B) ∧ B.Pairwise (· < ·) ∧ (∀ q ∈ B, q < n) ∧ k * B.length + hs.countP (bare B) = (keepTo k hs n).length := by
  have best : ∀ {l c B}, Path k n hs l c B → ∃ c' B', st l = some (c', B') ∧ c' ≤ c := by
    intro l c B P
    induction P with
    | nil => exact ⟨0, [], R.start, Nat.le_refl _⟩
    | @step l c B p P h1 h2 ih =>
      obtain ⟨c', B', e, hc⟩ := ih
      have I := P.inv hE (by omega)
      obtain ⟨c2, B2, e2, hc2⟩ := step l c' B' I.low I.top e p h1 (by omega)
      rw [if_pos h2] at hc2
      exact ⟨c2, B2, e2, by omega⟩
  have fin : ∀ {l c B}, Path k n hs l c B → ∃ c' B', st n = some (c', B') ∧ c' ≤ c + seg hs l n := by
    intro l c B P
    obtain ⟨c', B', e, hc⟩ := best P
    have I := P.inv hE (by omega)
    obtain ⟨c2, B2, e2, hc2⟩ := step l c' B' I.low I.top e n I.top (Nat.le_refl _)
    rw [if_neg (Nat.lt_irrefl _)] at hc2
    exact ⟨c2, B2, e2, by omega⟩
  obtain ⟨c, B, e, _⟩ := fin Path.nil
  obtain ⟨l, c', P, hc⟩ := R.okN c B e
  have I := P.inv hE (by omega)
  refine ⟨c, B, e, I.asc, I.lt, ?_⟩
  have h1 := P.fin hE
  have h2 := weak (k := k) nh (fun h hh => Nat.le_of_lt (hE h hh).2) B
  refine Nat.le_antisymm ?_ h2
  obtain ⟨B0, hB0, e0⟩ := strong_lt (k := k) nh hE
  obtain ⟨l1, c1, P1, _⟩ := path_of (k := k) hE (fun q => decide (q ∈ B0)) n (Nat.le_refl _)
  obtain ⟨c2, B2, e2, hc2⟩ := fin P1
  rw [e] at e2
  cases e2
  have h3 := P1.fin hE
  have h4 : ((List.range n).filter fun q => decide (q ∈ B0)).length ≤ B0.length := nodup_len (List.nodup_range.sublist List.filter_sublist) fun q hq => of_decide_eq_true (List.mem_filter.mp hq).2
  have h5 : hs.countP (bare ((List.range n).filter fun q => decide (q ∈ B0))) = hs.countP (bare B0) := List.countP_congr fun h hh => by
    have : bare ((List.range n).filter fun q => decide (q ∈ B0)) h = bare B0 h := by
      rw [Bool.eq_iff_iff]
      unfold bare
      rw [List.all_eq_true, List.all_eq_true]
      exact ⟨fun z q hq => z q (List.mem_filter.mpr ⟨List.mem_range.mpr (hB0 q hq), decide_eq_true hq⟩), fun z q hq => z q (of_decide_eq_true (List.mem_filter.mp hq).2)⟩
    rw [this]
  have h6 : k * ((List.range n).filter fun q => decide (q ∈ B0)).length ≤ k * B0.length := Nat.mul_le_mul_left _ h4
  omega
end
/-! ### other numbers -/
theorem get_map_inj {ts : List Int} {f : Int → Int} (inj : ∀ a ∈ ts, ∀ b ∈ ts, f a = f b → a = b) {j : Nat} {c : Int} (hc : c ∈ ts) : ((ts.map f)[j]? = some (f c)) ↔ ts[j]? = some c := by
  rw [List.getElem?_map]
  cases e : ts[j]? with
  | none => simp
  | some d =>
    simp only [Option.map_some, Option.some.injEq]
    exact ⟨fun z => inj d (List.mem_of_getElem? e) c hc z, fun z => by rw [z]⟩
theorem lastIx_map {ts : List Int} {f : Int → Int} (inj : ∀ a ∈ ts, ∀ b ∈ ts, f a = f b → a = b) {c : Int} (hc : c ∈ ts) : ∀ i, lastIx (ts.map f) i (f c) = lastIx ts i c
  | 0 => rfl
  | i + 1 => by
    unfold lastIx
    by_cases h : ts[i]? = some c
    · rw [if_pos h, if_pos ((get_map_inj inj hc).mpr h)]
    · rw [if_neg h, if_neg (fun z => h ((get_map_inj inj hc).mp z)), lastIx_map inj hc i]
theorem holds_map {ts : List Int} {f : Int → Int} (inj : ∀ a ∈ ts, ∀ b ∈ ts, f a = f b → a = b) : holds (ts.map f) = holds ts := by
  have h1 : ∀ i, holdAt (ts.map f) i = holdAt ts i := fun i => by
    unfold holdAt
    rw [List.getElem?_map]
    cases e : ts[i]? with
    | none => rfl
    | some c =>
      show (match lastIx (ts.map f) i (f c) with | none => [] | some b => [(b, i)]) = _
      rw [lastIx_map inj (List.mem_of_getElem? e)]
      try rfl
  have h2 : ∀ i, holdsTo (ts.map f) i = holdsTo ts i := fun i => by
    induction i with
    | zero => rfl
    | succ i ih => rw [holdsTo, holdsTo, ih, h1]
  unfold holds
  rw [List.length_map, h2]
theorem fewest_map {ts : List Int} {f : Int → Int} (inj : ∀ a ∈ ts, ∀ b ∈ ts, f a = f b → a = b) (room : Nat) : fewest (ts.map f) room = fewest ts room := by
  unfold fewest kept
  rw [holds_map inj, List.length_map]
/-! ### backwards -/
def mir (n : Nat) (h : Nat × Nat) : Nat × Nat := (n - 1 - h.2, n - 1 - h.1)
theorem get_rev {ts : List Int} {j : Nat} (h : j < ts.length) : ts.reverse[ts.length - 1 - j]? = ts[j]? := by
  rw [List.getElem?_reverse (by omega)]
  congr 1
  omega
theorem IsHold.rev {ts : List Int} {b e : Nat} {c : Int} (h : IsHold ts b e c) : IsHold ts.reverse (ts.length - 1 - e) (ts.length - 1 - b) c := by
  have he := h.inside
  have hl := h.lt
  refine ⟨by omega, ?_, ?_, fun j h1 h2 z => ?_⟩
  · rw [get_rev he]; exact h.fin
  · rw [get_rev (by omega)]; exact h.beg
  · have hj : j < ts.length := by omega
    rw [List.getElem?_reverse hj] at z
    exact h.no (ts.length - 1 - j) (by omega) (by omega) z
theorem mir_fit {n k : Nat} {K : List (Nat × Nat)} (hK : ∀ h ∈ K, h.1 < h.2 ∧ h.2 < n) (f : FitP k K) : FitP k (K.map (mir n)) := fun q => by
  rw [List.countP_map]
  by_cases hq : q < n
  · refine Nat.le_trans (Nat.le_of_eq (List.countP_congr fun h hh => ?_)) (f (n - 1 - q))
    have := hK h hh
    show covB (mir n h) q = true ↔ _
    rw [cov_lt, cov_lt]
    unfold mir
    simp only
    omega
  · rw [List.countP_eq_zero.mpr fun h hh => ?_]
    · exact Nat.zero_le _
    · intro z
      have z' : covB (mir n h) q = true := z
      have := (cov_lt.mp z').2
      unfold mir at this
      simp only at this
      omega
theorem keep_rev_le (ts : List Int) (k : Nat) : (keepTo k (holds ts) ts.length).length ≤ (keepTo k (holds ts.reverse) ts.length).length := by
  have hE := holds_ends ts
  have nK := keep_nodup (k := k) (holds_nodup ts) ts.length
  have iK : ∀ h ∈ keepTo k (holds ts) ts.length, h.1 < h.2 ∧ h.2 < ts.length := fun h hh => hE h (keep_in hh).1
  have := fit_le (k := k) (N := ts.length) (holds_nodup ts.reverse) (fun h hh => by have := holds_ends ts.reverse h hh; rwa [List.length_reverse] at this) (K := (keepTo k (holds ts) ts.length).map (mir ts.length)) ?_ ?_ (mir_fit iK (keep_fit (holds_nodup ts) hE))
  · rwa [List.length_map] at this
  · refine List.pairwise_map.mpr (List.Pairwise.imp_of_mem (fun {a b} ha hb hab e => hab ?_) nK)
    have h1 := iK a ha
    have h2 := iK b hb
    unfold mir at e
    have e1 := congrArg Prod.fst e
    have e2 := congrArg Prod.snd e
    simp only at e1 e2
    exact Prod.ext (by omega) (by omega)
  · intro x hx
    obtain ⟨h, hh, rfl⟩ := List.mem_map.mp hx
    obtain ⟨c, hc⟩ := mem_holds.mp (keep_in hh).1
    exact mem_holds.mpr ⟨c, hc.rev⟩
theorem fewest_rev (ts : List Int) (room : Nat) : fewest ts.reverse room = fewest ts room := by
  unfold fewest kept
  rw [List.length_mergeSort, List.length_mergeSort, List.length_reverse]
  have h1 := keep_rev_le ts (room - 1)
  have h2 := keep_rev_le ts.reverse (room - 1)
  rw [List.reverse_reverse, List.length_reverse] at h2
  omega
/-! ### the row, step by step -/
abbrev RowS := Int → Option (Nat × List Nat)
section
variable {k n : Nat} {hs : List (Nat × Nat)}
def stepTo (k n : Nat) (hs : List (Nat × Nat)) (st : RowS) (l : Int) (q : Nat) : Prop := ∀ c B, st l = some (c, B) → ∃ c' B', st q = some (c', B') ∧ c' ≤ c + seg hs l q + (if q < n then k else 0)
/-- ahead of the turn (l, p) -/
structure RowI (k n : Nat) (hs : List (Nat × Nat)) (st : RowS) (l : Int) (p : Nat) : Prop where
  row : Row k n hs st
  done : ∀ l', -1 ≤ l' → l' < l → ∀ q : Nat, l' < q → q ≤ n → stepTo k n hs st l' q
  cur : ∀ q : Nat, l < q → q < p → stepTo k n hs st l q
  here : ∃ c B, st l = some (c, B)
def rowUp (st : RowS) (p : Int) (z : Nat × List Nat) : RowS := fun j => if j = p then some z else st j
def row0 : RowS := fun j => if j = -1 then some (0, []) else none
theorem rowI_start : RowI k n hs row0 (-1) 0 where
  row := by
    refine ⟨rfl, fun j c B e _ => ?_, fun c B e => ?_⟩
    · unfold row0 at e
      by_cases h : j = -1
      · rw [if_pos h] at e
        cases e
        rw [h]
        exact .nil
      · rw [if_neg h] at e
        cases e
    · unfold row0 at e
      rw [if_neg (by omega)] at e
      cases e
  done := fun l' h1 h2 => by omega
  cur := fun q h1 h2 => by omega
  here := ⟨0, [], rfl⟩
theorem stepTo_up {st : RowS} {l : Int} {q p : Nat} {z : Nat × List Nat} (hl : l ≠ p) (h : stepTo k n hs st l q) (better : ∀ c B, st p = some (c, B) → z.1 ≤ c) : stepTo k n hs (rowUp st p z) l q := fun c B e => by
  unfold rowUp at e ⊢
  rw [if_neg hl] at e
  obtain ⟨c', B', e1, e2⟩ := h c B e
  by_cases hq : (q : Int) = p
  · rw [if_pos hq]
    have e3 : st p = some (c', B') := by rw [← hq]; exact e1
    have := better c' B' e3
    exact ⟨z.1, z.2, rfl, by omega⟩
  · rw [if_neg hq]
    exact ⟨c', B', e1, e2⟩
/-- a turn that stores -/
theorem RowI.put {st : RowS} {l : Int} {p c : Nat} {B : List Nat} (I : RowI k n hs st l p) (h1 : l < p) (h2 : p ≤ n) (h0 : -1 ≤ l) (e : st l = some (c, B)) (better : ∀ c' B', st p = some (c', B') → c + seg hs l p + (if p < n then k else 0) ≤ c') :
    RowI k n hs (rowUp st p (c + seg hs l p + (if p < n then k else 0), B ++ if p < n then [p] else [])) l (p + 1) where
  row := by
    refine ⟨?_, fun j c' B' ej hj => ?_, fun c' B' ej => ?_⟩
    · unfold rowUp
      rw [if_neg (by omega)]
      exact I.row.start
    · unfold rowUp at ej
      by_cases hp : j = p
      · rw [if_pos hp] at ej
        have hpn : p < n := by omega
        rw [if_pos hpn, if_pos hpn] at ej
        cases ej
        rw [hp]
        exact (I.row.ok l c B e (by omega)).step h1 hpn
      · rw [if_neg hp] at ej
        exact I.row.ok j c' B' ej hj
    · unfold rowUp at ej
      by_cases hp : (n : Int) = p
      · rw [if_pos hp] at ej
        have hpn : ¬ p < n := by omega
        rw [if_neg hpn, if_neg hpn, List.append_nil, Nat.add_zero] at ej
        cases ej
        exact ⟨l, c, I.row.ok l c B e (by omega), by rw [hp]⟩
      · rw [if_neg hp] at ej
        exact I.row.okN c' B' ej
  done := fun l' g1 g2 q g3 g4 => stepTo_up (by omega) (I.done l' g1 g2 q g3 g4) better
  cur := fun q g1 g2 => by
    by_cases hq : q = p
    · subst hq
      intro c' B' ec
      unfold rowUp at ec ⊢
      rw [if_neg (by omega), e] at ec
      cases ec
      rw [if_pos rfl]
      exact ⟨_, _, rfl, Nat.le_refl _⟩
    · exact stepTo_up (by omega) (I.cur q g1 (by omega)) better
  here := by
    unfold rowUp
    rw [if_neg (by omega)]
    exact I.here
/-- a turn that stores nothing -/
theorem RowI.same {st : RowS} {l : Int} {p c c' : Nat} {B B' : List Nat} (I : RowI k n hs st l p) (e : st l = some (c, B)) (ep : st p = some (c', B')) (hc : c' ≤ c + seg hs l p + (if p < n then k else 0)) : RowI k n hs st l (p + 1) where
  row := I.row
  done := I.done
  cur := fun q g1 g2 => by
    by_cases hq : q = p
    · subst hq
      intro c2 B2 e2
      rw [e] at e2
      cases e2
      exact ⟨c', B', ep, hc⟩
    · exact I.cur q g1 (by omega)
  here := I.here
theorem RowI.next {st : RowS} {l : Int} (I : RowI k n hs st l (n + 1)) (h0 : -1 ≤ l) (h1 : l < n) (p : Nat) (hp : (p : Int) = l + 2) : RowI k n hs st (l + 1) p where
  row := I.row
  done := fun l' g1 g2 q g3 g4 => by
    by_cases hl : l' = l
    · rw [hl]
      exact I.cur q (by omega) (by omega)
    · exact I.done l' g1 (by omega) q g3 g4
  cur := fun q g1 g2 => by omega
  here := by
    obtain ⟨c, B, e⟩ := I.here
    obtain ⟨q, hq⟩ : ∃ q : Nat, (q : Int) = l + 1 := ⟨(l + 1).toNat, by omega⟩
    obtain ⟨c', B', e', _⟩ := I.cur q (by omega) (by omega) c B e
    exact ⟨c', B', by rw [← hq]; exact e'⟩
theorem RowI.fin {st : RowS} (I : RowI k n hs st n (n + 1)) (nh : hs.Nodup) (hE : ∀ h ∈ hs, h.1 < h.2 ∧ h.2 < n) :
    ∃ c B, st n = some (c, B) ∧ B.Pairwise (· < ·) ∧ (∀ q ∈ B, q < n) ∧ k * B.length + hs.countP (bare B) = (keepTo k hs n).length :=
  row_end nh hE I.row fun l c B h0 h1 e p h2 h3 => I.done l h0 h1 p h2 h3 c B e
/-- the holds that end at p, by their beginnings -/
def endsAt (hs : List (Nat × Nat)) (p : Nat) : List Nat := (hs.filter fun h => decide (h.2 = p)).map (·.1)
theorem seg_next (l : Int) (p : Nat) : seg hs l p = seg hs l ((p : Int) - 1) + ((endsAt hs p).filter fun b : Nat => decide (l ≤ (b : Int))).length := by
  unfold seg endsAt
  rw [List.filter_map, List.length_map, List.filter_filter, ← List.countP_eq_length_filter]
  have := count3 (p := fun h : Nat × Nat => decide (l ≤ (h.1 : Int)) && decide ((h.2 : Int) ≤ (p : Int))) (a := fun h => decide (l ≤ (h.1 : Int)) && decide ((h.2 : Int) ≤ (p : Int) - 1)) (b := fun h => ((fun b : Nat => decide (l ≤ (b : Int))) ∘ fun x : Nat × Nat => x.1) h && decide (h.2 = p)) (c := fun _ => false) (xs := hs) fun h hh => by
    show _ = _ + (decide (l ≤ (h.1 : Int)) && decide (h.2 = p)).toNat + _
    by_cases a1 : l ≤ (h.1 : Int)
    · by_cases a2 : h.2 = p
      · have a3 : (h.2 : Int) ≤ (p : Int) := by omega
        have a4 : ¬ (h.2 : Int) ≤ (p : Int) - 1 := by omega
        simp [a1, a2, a3, a4]
        omega
      · by_cases a3 : (h.2 : Int) ≤ (p : Int)
        · have a4 : (h.2 : Int) ≤ (p : Int) - 1 := by omega
          simp [a1, a2, a3, a4]
        · have a4 : ¬ (h.2 : Int) ≤ (p : Int) - 1 := by omega
          simp [a1, a2, a3, a4]
    · simp [a1]
  have z0 : hs.countP (fun _ => false) = 0 := List.countP_eq_zero.mpr fun _ _ => by simp
  rw [this, z0]
  rfl
theorem seg_zero {n' : Nat} (hE : ∀ h ∈ hs, h.1 < h.2 ∧ h.2 < n') {l p : Int} (hp : p ≤ l) : seg hs l p = 0 := List.countP_eq_zero.mpr fun h hh => by
  have := hE h hh
  simp
  omega
theorem seg_top {n' : Nat} (hE : ∀ h ∈ hs, h.1 < h.2 ∧ h.2 < n') {l : Int} : seg hs l n' = seg hs l ((n' : Int) - 1) := List.countP_congr fun h hh => by
  have := hE h hh
  have a1 : (h.2 : Int) ≤ (n' : Int) := by omega
  have a2 : (h.2 : Int) ≤ (n' : Int) - 1 := by omega
  simp [a1, a2]
end
/-! ### what a difference row tells -/
def ovF (ps : List (Nat × Nat)) (j : Nat) : Int := (ps.countP fun h => decide (h.1 + 1 = j) : Nat) - (ps.countP fun h => decide (h.2 = j) : Nat)
def fup (f : Nat → Int) (j : Nat) (v : Int) : Nat → Int := fun i => if i = j then v else f i
theorem ov_step {ps : List (Nat × Nat)} {i : Nat} {h : Nat × Nat} (e : ps[i]? = some h) : fup (fup (ovF (ps.take i)) (h.1 + 1) (ovF (ps.take i) (h.1 + 1) + 1)) h.2 (fup (ovF (ps.take i)) (h.1 + 1) (ovF (ps.take i) (h.1 + 1) + 1) h.2 - 1) = ovF (ps.take (i + 1)) := by
  funext j
  have et : ovF (ps.take (i + 1)) j = ovF (ps.take i) j + (if h.1 + 1 = j then 1 else 0) - (if h.2 = j then 1 else 0) := by
    unfold ovF
    rw [List.take_add_one, e, List.countP_append, List.countP_append]
    show (((_ + List.countP _ [h] : Nat) : Int)) - ((_ + List.countP _ [h] : Nat) : Int) = _
    rw [List.countP_singleton, List.countP_singleton]
    by_cases a : h.1 + 1 = j <;> by_cases b : h.2 = j <;> simp [a, b] <;> omega
  rw [et]
  unfold fup
  by_cases a : h.1 + 1 = j <;> by_cases b : h.2 = j
  · subst a
    rw [if_pos b.symm, if_pos b, if_pos rfl, if_pos b]
  · subst a
    rw [if_neg (fun z => b z.symm), if_pos rfl, if_pos rfl, if_neg b]; omega
  · subst b
    rw [if_pos rfl, if_neg (fun z => a z.symm), if_neg a, if_pos rfl]; omega
  · rw [if_neg (fun z => b z.symm), if_neg (fun z => a z.symm), if_neg a, if_neg b]; omega
def ovM (ps : List (Nat × Nat)) (i : Nat) : Int := (ps.countP fun h => decide (h.1 + 1 < i) : Nat) - (ps.countP fun h => decide (h.2 < i) : Nat)
theorem countP_lt_succ {α : Type} (f : α → Nat) (ps : List α) (i : Nat) : ps.countP (fun h => decide (f h < i + 1)) = ps.countP (fun h => decide (f h < i)) + ps.countP (fun h => decide (f h = i)) := by
  induction ps with
  | nil => rfl
  | cons h t ih =>
    rw [List.countP_cons, List.countP_cons, List.countP_cons, ih]
    by_cases a : f h < i
    · simp [a, show f h < i + 1 by omega, show ¬ f h = i by omega]; omega
    · by_cases b : f h = i
      · simp [b]; omega
      · simp [a, b, show ¬ f h < i + 1 by omega]
theorem ovM_step (ps : List (Nat × Nat)) (i : Nat) : ovM ps (i + 1) = ovM ps i + ovF ps i := by
  unfold ovM ovF
  rw [countP_lt_succ (fun h : Nat × Nat => h.1 + 1), countP_lt_succ (fun h : Nat × Nat => h.2)]
  omega
theorem ovM_zero (ps : List (Nat × Nat)) : ovM ps 0 = 0 := by
  unfold ovM
  rw [List.countP_eq_zero.mpr fun _ _ => by simp, List.countP_eq_zero.mpr fun _ _ => by simp]
  rfl
theorem ovM_cov {ps : List (Nat × Nat)} (hE : ∀ h ∈ ps, h.1 < h.2) (i : Nat) : ovM ps (i + 1) = (ps.countP fun h => covB h i : Nat) := by
  unfold ovM
  have := count3 (p := fun h : Nat × Nat => decide (h.1 + 1 < i + 1)) (a := fun h => decide (h.2 < i + 1)) (b := fun h => covB h i) (c := fun _ => false) (xs := ps) fun h hh => by
    have := hE h hh
    by_cases a : h.1 + 1 < i + 1
    · by_cases b : h.2 < i + 1
      · have c : covB h i = false := by cases z : covB h i with
          | false => rfl
          | true => have := cov_lt.mp z; omega
        simp [a, b, c]
      · have c : covB h i = true := cov_lt.mpr ⟨by omega, by omega⟩
        simp [a, b, c]
    · have b : ¬ h.2 < i + 1 := by omega
      have c : covB h i = false := by cases z : covB h i with
        | false => rfl
        | true => have := cov_lt.mp z; omega
      simp [a, b, c]
  have z0 : ps.countP (fun _ => false) = 0 := List.countP_eq_zero.mpr fun _ _ => by simp
  omega
/-- how many bars stand ahead of a place -/
def barsTo (B : List Nat) (i : Nat) : Nat := (List.range i).countP fun q => decide (q ∈ B)
theorem barsTo_succ (B : List Nat) (i : Nat) : barsTo B (i + 1) = barsTo B i + if i ∈ B then 1 else 0 := by
  unfold barsTo
  rw [List.range_succ, List.countP_append, List.countP_singleton]
  by_cases h : i ∈ B <;> simp [h]
theorem barsTo_le (B : List Nat) (i : Nat) : barsTo B i ≤ i := by
  have : barsTo B i ≤ (List.range i).length := List.countP_le_length
  rwa [List.length_range] at this
theorem barsTo_between {B : List Nat} {a : Nat} : ∀ d, (barsTo B a = barsTo B (a + d) ↔ ∀ q, a ≤ q → q < a + d → q ∉ B) ∧ barsTo B a ≤ barsTo B (a + d)
  | 0 => ⟨⟨fun _ q h1 h2 => by omega, fun _ => rfl⟩, Nat.le_refl _⟩
  | d + 1 => by
    obtain ⟨h1, h2⟩ := barsTo_between (B := B) (a := a) d
    have e := barsTo_succ B (a + d)
    rw [← Nat.add_assoc]
    by_cases hm : a + d ∈ B
    · rw [if_pos hm] at e
      refine ⟨⟨fun z => by omega, fun z => absurd hm (z (a + d) (by omega) (by omega))⟩, by omega⟩
    · rw [if_neg hm, Nat.add_zero] at e
      rw [e]
      refine ⟨h1.trans ⟨fun z q q1 q2 => ?_, fun z q q1 q2 => z q q1 (by omega)⟩, h2⟩
      by_cases hq : q = a + d
      · rw [hq]; exact hm
      · exact z q q1 (by omega)
theorem bare_bars {B : List Nat} {h : Nat × Nat} (hl : h.1 < h.2) : bare B h = decide (barsTo B h.2 = barsTo B (h.1 + 1)) := by
  have := (barsTo_between (B := B) (a := h.1 + 1) (h.2 - (h.1 + 1))).1
  rw [show h.1 + 1 + (h.2 - (h.1 + 1)) = h.2 by omega] at this
  rw [Bool.eq_iff_iff, decide_eq_true_iff, eq_comm (a := barsTo B h.2), this]
  unfold bare
  rw [List.all_eq_true]
  constructor
  · intro z q q1 q2 hq
    have := z q hq
    have : covB h q = true := cov_lt.mpr ⟨by omega, by omega⟩
    simp_all
  · intro z q hq
    cases e : covB h q with
    | false => rfl
    | true =>
      have := cov_lt.mp e
      exact absurd hq (z q (by omega) (by omega))
end Lg
/-! Further rules: dict comprehensions, len(set(..)), xs[::-1], list.index, range downwards, {..}. -/
namespace Lg
open PySem PySem.Spec PyProof.Rows L2
section
variable {K : PySem.W.Frag} {σ : L2.St} {L L' : List As} {Q : LK} {ta tb tc te tk td ty tv tx : TE} {t u : TT} {x y v : V} {r r' : R2} {a : Addr} {ds : List PyData} {d : PyData}
theorem wp_dc {wi : TI} {g : TG} {tt : TT} {vs : List Nat} (h : Wi K wi σ L fun L1 n Z Y => ∃ Pv : Nat → List (Key × PyData) → List As → Prop, Pv 0 [] L1 ∧ (∀ i acc L D, i ≤ n → Pv i acc L → Z (.dk D acc :: L)) ∧
    (∀ i acc L v L' D, i < n → Pv i acc L → Y i v (.dk D acc :: L) L' → Wg K g v (wipe σ vs) L' fun σ2 L2 => wipe σ2 vs = wipe σ vs ∧ Wt K tt σ2 L2 fun b L3 =>
      if b = true then Wp K tk σ2 L3 fun y L4 => Wp K tv σ2 L4 fun z L5 => ∃ k d L6, y = kV k ∧ Dv K L5 z d ∧ Ent K L5 (.dk D acc :: L6) ∧ acc.length < sizeLine ∧ Pv (i + 1) (putD acc k d) L6 else ∃ L5, Ent K L3 (.dk D acc :: L5) ∧ Pv (i + 1) acc L5) ∧
    (∀ acc L D, Pv n acc L → Q (.ref D) (.dk D acc :: L))) : Wp K (tDc wi g tt tk tv vs) σ L Q := fun H hs Q0 up => by
  refine h H hs _ fun J H1 L1 n Z Y h1 jo ⟨Pv, p0, pz, ps, pe⟩ D hD => ?_
  obtain ⟨T1, ht1⟩ := h1
  refine ⟨fun i m H => m = n - i ∧ i ≤ n ∧ ∃ acc L, Hs K H (.dk D acc :: L) ∧ Pv i acc L, ⟨n, by simp, Nat.zero_le _, [], L1, ⟨T1, ht1.lay (x := .dk D []) hD rfl ⟨[], upd_same, .nil⟩⟩, p0⟩, ?_⟩
  rintro i m H ⟨rfl, hi, acc, L, hl, p⟩
  by_cases hlt : i < n
  · refine .inr ⟨jo.go i H _ hl (pz i acc L D hi p) hlt, fun H' => ∃ acc L, Hs K H' (.dk D acc :: L) ∧ Pv (i + 1) acc L, fun H' ⟨acc', L', h', p'⟩ => ⟨n - (i + 1), by omega, rfl, hlt, acc', L', h', p'⟩, fun x H' y => ?_⟩
    obtain ⟨L', h', y'⟩ := jo.yld i H _ x H' hl (pz i acc L D hi p) hlt y
    refine ps i acc L x L' D hlt p y' H' h' _ fun σ2 H2 L2 h2 ⟨ew, q⟩ => ⟨ew, ?_⟩
    refine q H2 h2 _ fun b H3 L3 h3 q3 => ?_
    cases b with
    | true =>
      refine q3 H3 h3 _ fun y H4 L4 h4 q4 => q4 H4 h4 _ fun z H5 L5 h5 ⟨k, d, L6, ey, hd, he, hz, hp⟩ => ?_
      obtain ⟨T, ht⟩ := h5
      have hv := hd T H5 ht
      have ht5 := he T H5 ht
      obtain ⟨xs, e1, e2⟩ := ht5.ok _ (.head _)
      exact ⟨xs, k, ey, e1, by rw [kd_len e2]; exact hz, _, L6, ⟨T, ht5.write (y := .dk D (putD acc k d)) rfl rfl ⟨_, upd_same, kd_put e2 hv⟩⟩, hp⟩
    | false =>
      obtain ⟨L5, he, hp⟩ := q3
      exact ⟨acc, L5, he.hs h3, hp⟩
  · have e : i = n := by omega
    subst e
    exact .inl ⟨jo.stop i H _ hl (pz i acc L D hi p) (Nat.le_refl _), up _ _ _ hl (pe acc L D p)⟩
/-- xs[::-1], xs a list -/
theorem wp_revL (h : Wp K te σ L fun x L1 => ∃ ds, Ls K L1 x ds ∧ ∀ p, Q (.ref p) (.ld p ds.reverse :: L1)) : Wp K (tRevL K te) σ L Q := fun H hs Q0 up =>
  h H hs _ fun x H1 L1 h1 ⟨ds, hl, q⟩ => by
    obtain ⟨T, ht⟩ := h1
    obtain ⟨a, xs, rfl, hq, hd⟩ := hl T H1 ht
    exact ⟨a, xs, rfl, hq, fun p hp => up _ _ _ ⟨T, ht.lay (x := .ld p ds.reverse) hp rfl ⟨_, upd_same, dps_rev hd⟩⟩ (q p)⟩
/-- ns.index(k) -/
theorem wm_index {ns : List Int} {k : Int} {j : Nat} (h : Ls K L x (ns.map .int)) (hj : ns[j]? = some k) (hno : ∀ m, m < j → ns[m]? ≠ some k) (q : Q (.int (j : Nat)) L) : Wm K (rIndex K) x [.int k] L Q := fun H hs Q0 up => by
  obtain ⟨T, ht⟩ := id hs
  obtain ⟨a, xs, rfl, hq, hd⟩ := h T H ht
  rw [dps_ints hd] at hq
  refine ⟨a, _, .int k, j, .int k, rfl, rfl, hq, rfl, ?_, by rw [List.getElem?_map, hj]; rfl, by simp [eqV], fun m z' hm hz => ?_, up _ H L hs q⟩
  · rw [List.all_map, List.all_eq_true]
    intros; rfl
  · rw [List.getElem?_map] at hz
    cases e : ns[m]? with
    | none => rw [e] at hz; cases hz
    | some c =>
      rw [e] at hz
      cases hz
      have hc : c ≠ k := fun z => hno m hm (by rw [e, z])
      simpa [eqV] using hc
def YR3 (lo : Int) : Nat → V → List As → List As → Prop := fun i v L L' => v = .int (lo - i) ∧ L' = L
theorem wi_range3 {ta : TA} {Q : QI} (h : Wa K ta σ L fun vs L1 => ∃ i j : Int, vs = [.int i, .int j, .int (-1)] ∧ (-(2 ^ 62) ≤ i ∧ i < 2 ^ 62 ∧ -(2 ^ 62) ≤ j ∧ j < 2 ^ 62) ∧ Q L1 (i - j).toNat (fun _ => True) (YR3 i)) : Wi K (iRng3 ta) σ L Q := fun H hs R up =>
  h H hs _ fun vs H1 L1 h1 ⟨i, j, e, b, q⟩ => ⟨i, j, -1, (i - j).toNat, e, RgC.neg b.1 b.2.1 b.2.2.1 b.2.2.2, up _ H1 L1 _ _ _ h1 ⟨fun i H L _ _ h => h, fun i H L _ _ h => h, fun k H L v H' hl _ hi ⟨e1, e2⟩ => ⟨L, by rw [e1]; exact hl, by rw [e2, Int.mul_neg_one, ← Int.sub_eq_add_neg], rfl⟩⟩ q⟩
section
variable {X : Cx}
/-- name = {k: v for ..} on one line, the name a local -/
theorem ps_setDc {i : Nat} {y : Str} {py : Pos} {kx vx tg iter : Expr} {ifs : List Expr} {scope : Scope} {own : List (Str × Nat)} {pos spos : Pos} {wi : TI} {g : TG} {tt : TT} {tk tv : TE} (hc : X.calm = true) (hN : X.N.Nodup) (hy : X.N[i]? = some y) (hyl : X.env.scope.names.lookup y = some .local)
    (hsw : swapsWith (.DictComp kx vx [⟨tg, iter, ifs, 0⟩] scope pos) (some (.Name y py)) spos.line X.env = pure true) (hi : PI X tg iter wi) (ok : BlkOk X.N X.env.scope scope own)
    (hg : ∀ (s : Shared) (H : Hp) (C : Addr) (cl : List (Str × Addr)) (fp : List Addr), PG (X.blk s H scope (compEnvC scope cl C X.env) fp) tg g) (ht : ∀ (s : Shared) (H : Hp) (C : Addr) (cl : List (Str × Addr)) (fp : List Addr), PTs (X.blk s H scope (compEnvC scope cl C X.env) fp) ifs tt)
    (hk : ∀ (s : Shared) (H : Hp) (C : Addr) (cl : List (Str × Addr)) (fp : List Addr), PE (X.blk s H scope (compEnvC scope cl C X.env) fp) kx tk)
    (he : ∀ (s : Shared) (H : Hp) (C : Addr) (cl : List (Str × Addr)) (fp : List Addr), PE (X.blk s H scope (compEnvC scope cl C X.env) fp) vx tv) (hs : ∀ x, foldedSetIterable iter X.env x = pure x := by intro _; rfl) :
    PS X (.Assign [.Name y py] (.DictComp kx vx [⟨tg, iter, ifs, 0⟩] scope pos) spos) (tAsg (tDc wi g tt tk tv (own.map (·.2))) (gName i)) := by
  refine ⟨fun pins s σ H D I h => ?_⟩
  rw [exec_Assign_Name_used _ _ _ _ hsw]
  have h' : tDc wi g tt tk tv (own.map (·.2)) σ H (fun x H1 => gName i x σ H1 D.nx) := h
  refine wpAny_bind (wpAny_standAt (wpAny_bind ?_))
  show wpAny _ X.A (do let _ ← comprehension (.DictComp kx vx [⟨tg, iter, ifs, 0⟩] scope pos) scope X.env (firstIterPos [⟨tg, iter, ifs, 0⟩] pos) newDict false (eval iter X.env) (some (assign (.Name y py) X.env))) _ _ s
  refine wpAny_bind (thn (dc_core (Qf := fun _ s' => SP X pins D .next s') hc hN I hi ok hg ht hk he hs h' fun M C s' m H' I' q hn f => ?_) fun _ s' hq => wpAny_pure (wpAny_pure hq))
  obtain ⟨f0, f1, f2, f3, f4, f5⟩ := f
  show wpAny _ _ (assign (.Name y py) X.env (.ref M)) _ _ _
  refine wpAny_assign_Name (store_ok2 (v := V.ref M) I' hN hy (.inl hyl) rfl (fun s2 I2 ⟨a, sb, ha⟩ => ?_) (.inr hyl))
  have ne : C ≠ a := ha.elim (fun z => by rw [z]; exact f1) fun z e => f4 y a z e.symm
  exact ⟨m, hn.sameBut sb ne, fun h3 sb3 => ⟨_, H', I2.turned (t' := s2.toks) (fun b o hb e => (sb3.2 b hb).trans e) f0 f1 f3 f4 f5, q⟩⟩
theorem swD_true {kx vx : Expr} {gs : List Comprehension} {scope : Scope} {pos py : Pos} {y : Str} {l : Nat} {env : Env} (hk : env.scope.kind = .function) (hy : env.scope.names.lookup y = some .local) (hl : (py.line == pos.line) = true)
    (ha : (scope.names.any fun (n, k) => n == y && (k == .local || k == .cell)) = false) : swapsWith (.DictComp kx vx gs scope pos) (some (.Name y py)) l env = pure true := by
  have hb : env.blockKind = .function := by unfold Env.blockKind; rw [hk]; rfl
  have ky : env.kindOf y = some .local := hy
  unfold swapsWith
  simp only [hb, ky, ha, Expr.pos, hl]
  rfl
end
/-- {..}: a raw dict of one's own -/
def Wps (K : PySem.W.Frag) (σ : L2.St) : List (TE × TE) → List As → (List (V × V) → List As → Prop) → Prop
  | [], L, Q => Q [] L
  | p :: ps, L, Q => Wp K p.1 σ L fun x L1 => Wp K p.2 σ L1 fun y L2 => Wps K σ ps L2 fun qs L3 => Q ((x, y) :: qs) L3
theorem wps_run : ∀ {trs : List (TE × TE)} {L : List As} {Q : List (V × V) → List As → Prop}, Wps K σ trs L Q → ∀ H, Hs K H L → ∀ Q0 : List (V × V) → Hp → Prop, (∀ v H L, Hs K H L → Q v L → Q0 v H) → tPairs trs σ H Q0
  | [], L, Q, h, H, hs, Q0, up => up _ H L hs h
  | p :: ps, L, Q, h, H, hs, Q0, up => h H hs _ fun x H1 L1 h1 q => q H1 h1 _ fun y H2 L2 h2 q2 => wps_run q2 H2 h2 _ fun v H3 L3 h3 q3 => up _ H3 L3 h3 q3
theorem wp_disp {trs : List (TE × TE)} (h : ∀ p, Wps K σ trs (.pt p (.dK []) :: L) fun ps L2 => ∃ L3 kvs, Put (.pt p (.dK [])) (.pt p (.dK (mergeK [] kvs))) L2 L3 ∧ ps = kvs.map (fun kv => (kV kv.1, kv.2)) ∧ kvs.length ≤ 15 ∧ Q (.ref p) L3) : Wp K (tDisp trs) σ L Q := fun H hs Q0 up p hp => by
  obtain ⟨T, ht⟩ := hs
  have h1 : Hs K (upd H p (.dK [])) (.pt p (.dK []) :: L) := ⟨T, ht.lay (x := .pt p (.dK [])) hp rfl upd_same⟩
  refine wps_run (h p) _ h1 _ fun ps H2 L2 h2 ⟨L3, kvs, pt, e, hl, q⟩ => ?_
  obtain ⟨T2, ht2⟩ := h2
  have e1 : H2 p = some (.dK []) := ht2.ok _ pt.mem
  obtain ⟨R, p1, p2⟩ := pt.split
  exact ⟨e1, kvs, e, hl, up _ _ _ ⟨T2, ((ht2.perm p1).write (y := .pt p (.dK (mergeK [] kvs))) rfl rfl upd_same).perm p2⟩ q⟩
/-- len(set(x)), x a tuple of ints -/
def tLenSetT (K : PySem.W.Frag) (ta : TE) : TE := fun σ H Q => ta σ H fun x H1 => ∃ (l : Addr) (ns : List Int), x = V.ref l ∧ SqT K H1 l (ns.map V.int) ∧ ns.length + 1 < scanBound ∧ ∀ ms : List Int, ms.Nodup → (∀ k, k ∈ ms ↔ k ∈ ns) → Q (.int ms.length) H1
theorem pe_lenSetT {X : Cx} {a : Expr} {ta : TE} {p p2 q pos : Pos} (hc : X.calm = true) (hg : Gl X "len") (hm : X.mg "len" = none) (hg2 : Gl X "set") (hm2 : X.mg "set" = none) (ha : PE X a ta)
    (na : starEach [a] X.env = (false, eval a X.env) :: starEach [] X.env := by rfl) : PE X (.Call (.Name "len" p) [.Call (.Name "set" p2) [a] [] q] [] pos) (tLenSetT X.K ta) := by
  refine ⟨fun pins s σ H Q I h => ?_⟩
  refine Call_ (ld_blt I hg hm PySem.boot_len ?_)
  refine PyProof.Rows.callWith_builtin1 (PyProof.Rows.args_cons ?_ rfl) rfl rfl
  refine Call_ (ld_blt I hg2 hm2 PyProof.Rows.boot_set ?_)
  refine PyProof.Rows.callWith_type1 (PyProof.Rows.args_cons (thn (ha.run pins s σ H _ I h) fun v s1 ⟨x, H1, I1, r1, q1⟩ => PyProof.Rows.args_nil ?_) na) na rfl
  obtain ⟨l, ns, rfl, hq, h1, q1⟩ := q1
  cases r1
  obtain ⟨its, r, pl, hz⟩ := I1.tuple hq
  refine call_set_tupI ns (I1.ok.hd hc) (items := its.toArray) pl (by simpa using r.ints) h1 fun h' tk c hS hcn hk => ?_
  refine PyProof.Rows.args_nil ?_
  obtain ⟨o, es, ep, t, ho, hex, hd, hge, nd, hm', hb', hf, hn, _⟩ := hS
  have I2 : Inv X pins σ H1 { s1 with heap := h', toks := tk } := I1.kept fun b o e => hk b o e
  have q2 := q1 (es.toList.map keyOf) nd fun k => by rw [← hm' k]; simp
  have e2 : (es.toList.map keyOf).length = es.size := by rw [List.length_map, Array.length_toList]
  rw [e2] at q2
  exact call_len_set ho hex hd hf (by unfold scanBound at h1; omega) ⟨.int es.size, H1, I2.tok _, ⟨_, rfl⟩, q2⟩
theorem wp_lenSetT (h : Wp K te σ L fun x L1 => ∃ ns : List Int, Dv K L1 x (.tuple (ns.map .int)) ∧ ns.length < 1000 ∧ ∀ ms : List Int, ms.Nodup → (∀ k, k ∈ ms ↔ k ∈ ns) → Q (.int ms.length) L1) : Wp K (tLenSetT K te) σ L Q := fun H hs Q0 up =>
  h H hs _ fun x H1 L1 h1 ⟨ns, hd, hl, q⟩ => by
    obtain ⟨T, ht⟩ := id h1
    cases hd T H1 ht with
    | @tup a xs _ ha hds =>
      refine ⟨a, ns, rfl, by rw [← dps_ints hds]; exact SqT.of (ht.sub _ _ ha), ?_, fun ms n1 n2 => up _ H1 L1 h1 (q ms n1 n2)⟩
      exact Nat.lt_of_lt_of_le (Nat.add_lt_add_right hl 1) (by decide)
theorem ws_par3 {D : LE} {i j l : Nat} {ta : TA} (h : Wa K ta σ L fun vs L1 => ∃ u v w, vs = [u, v, w] ∧ D.nx (((σ.set i (some u)).set j (some v)).set l (some w)) L1) : Ws K (tPar3 i j l ta) D σ L := fun H hs D0 le =>
  h H hs _ fun vs H1 L1 h1 ⟨u, v, w, e, q⟩ => ⟨u, v, w, e, le.nx _ H1 L1 h1 q⟩
theorem Sq.ent (e : Ent K L' L) (h : Sq K L x ds) : Sq K L' x ds := fun T H q => h T H (e T H q)
/-- x is a list of data, or a tuple of data -/
def SeqB (b : Bool) (K : PySem.W.Frag) (L : List As) (x : V) (ds : List PyData) : Prop := (b = true ∧ Ls K L x ds) ∨ (b = false ∧ Dv K L x (.tuple ds))
theorem SeqB.sq {b : Bool} (h : SeqB b K L x ds) : Sq K L x ds := h.elim (fun h => h.2.sq) fun h => Sq.tup h.2
theorem SeqB.ent {b : Bool} (e : Ent K L' L) (h : SeqB b K L x ds) : SeqB b K L' x ds := h.elim (fun h => .inl ⟨h.1, fun T H q => h.2 T H (e T H q)⟩) fun h => .inr ⟨h.1, Ent.dv e h.2⟩
theorem wi_seqB {b : Bool} {tl : TE} {Q : QI} (h : Wp K tl σ L fun x L1 => ∃ ds, SeqB b K L1 x ds ∧ Q L1 ds.length (fun L => SeqB b K L x ds) (YD ds)) : Wi K (iSeq K tl) σ L Q := by
  have key : ∀ {Z Z' : List As → Prop} {J : It} {n : Nat} {Y}, (∀ L, Z' L → Z L) → JOk K J n Z Y → JOk K J n Z' Y := fun i j =>
    ⟨fun k H L h z => j.go k H L h (i L z), fun k H L h z => j.stop k H L h (i L z), fun k H L v H' h z => j.yld k H L v H' h (i L z)⟩
  cases b with
  | true =>
    intro H hs R up
    have h' : Wp K tl σ L fun x L1 => ∃ ds, Ls K L1 x ds ∧ Q L1 ds.length (fun L => SeqB true K L x ds) (YD ds) := Wp.imp h fun x L1 ⟨ds, z, q⟩ => ⟨ds, z.elim (fun z => z.2) (fun z => absurd z.1 (by decide)), q⟩
    refine h' H hs _ fun x H1 L1 h1 ⟨ds, hd, q⟩ => ?_
    have w : Wi K (iSeq K (tC x)) σ L1 fun L2 n Z Y => L2 = L1 ∧ n = ds.length ∧ Z = (fun L => Ls K L x ds) ∧ Y = YD ds := wi_seqL (wp_c ⟨ds, hd, rfl, rfl, rfl, rfl⟩)
    exact w H1 h1 R fun J H2 L2 n Z Y h2 jo ⟨e1, e2, e3, e4⟩ => by
      subst e1 e2 e3 e4
      exact up J H2 L2 _ _ _ h2 (key (fun L z => z.elim (fun z => z.2) (fun z => absurd z.1 (by decide))) jo) q
  | false =>
    intro H hs R up
    have h' : Wp K tl σ L fun x L1 => ∃ ds, Dv K L1 x (.tuple ds) ∧ Q L1 ds.length (fun L => SeqB false K L x ds) (YD ds) := Wp.imp h fun x L1 ⟨ds, z, q⟩ => ⟨ds, z.elim (fun z => absurd z.1 (by decide)) (fun z => z.2), q⟩
    refine h' H hs _ fun x H1 L1 h1 ⟨ds, hd, q⟩ => ?_
    have w : Wi K (iSeq K (tC x)) σ L1 fun L2 n Z Y => L2 = L1 ∧ n = ds.length ∧ Z = (fun L => Dv K L x (.tuple ds)) ∧ Y = YD ds := wi_seqT (wp_c ⟨ds, hd, rfl, rfl, rfl, rfl⟩)
    exact w H1 h1 R fun J H2 L2 n Z Y h2 jo ⟨e1, e2, e3, e4⟩ => by
      subst e1 e2 e3 e4
      exact up J H2 L2 _ _ _ h2 (key (fun L z => z.elim (fun z => absurd z.1 (by decide)) (fun z => z.2)) jo) q
end
end Lg
/-! The deck of a law: a raw dict of one's own, from which numbers are drawn. -/
namespace Lg
open PySem PySem.Spec PyProof.Rows L2
abbrev kGreat : Key := .inr "great"
abbrev kSeed : Key := .inr "seed"
abbrev kTurn : Key := .inr "turn"
def deckK (g : Addr) (s t : Int) : List (Key × V) := [(kGreat, .ref g), (kSeed, .int s), (kTurn, .int t)]
theorem deck_great {g : Addr} {s t : Int} : valV (deckK g s t) kGreat = some (.ref g) := rfl
theorem deck_seed {g : Addr} {s t : Int} : valV (deckK g s t) kSeed = some (.int s) := rfl
theorem deck_turn {g : Addr} {s t : Int} : valV (deckK g s t) kTurn = some (.int t) := rfl
theorem deck_put {g : Addr} {s t u : Int} : putK (deckK g s t) kTurn (.int u) = deckK g s u := rfl
structure DkOk (s t : Int) (gs : List Int) (n : Nat) : Prop where
  few : gs.length ≤ 64
  s0 : 0 ≤ s
  s1 : s < 2 ^ 31
  t0 : 0 ≤ t
  t1 : t ≤ (n : Int)
/-- a deck of at most n turns stands at a, beside L0 -/
def Deck (K : PySem.W.Frag) (L : List As) (a : Addr) (n : Nat) (L0 : List As) : Prop := ∃ g s t, ∃ gs : List Int, DkOk s t gs n ∧ Ent K L (.pt a (.dK (deckK g s t)) :: .ld g (gs.map .int) :: L0)
section
variable {K : PySem.W.Frag} {L L' L0 L1 : List As} {a : Addr} {n : Nat} {x : As}
theorem Deck.ent (h : Deck K L a n L0) : Ent K L L0 := let ⟨_, _, _, _, _, e⟩ := h; e.trans (Ent.drop (Ent.drop Ent.refl))
theorem Deck.pre (e : Ent K L' L) (h : Deck K L a n L0) : Deck K L' a n L0 := let ⟨g, s, t, gs, ok, e'⟩ := h; ⟨g, s, t, gs, ok, e.trans e'⟩
theorem Deck.post (h : Deck K L a n L0) (e : Ent K L0 L1) : Deck K L a n L1 := let ⟨g, s, t, gs, ok, e'⟩ := h; ⟨g, s, t, gs, ok, e'.trans (Ent.cons .here (Ent.cons .here e))⟩
theorem Deck.cons (h : Deck K L a n L0) : Deck K (x :: L) a n (x :: L0) := let ⟨g, s, t, gs, ok, e'⟩ := h; ⟨g, s, t, gs, ok, Ent.trans (Ent.cons .here e') (Ent.cons (.there .here) (Ent.cons (.there .here) Ent.refl))⟩
theorem Deck.le {m : Nat} (h : Deck K L a n L0) (hm : n ≤ m) : Deck K L a m L0 := let ⟨g, s, t, gs, ok, e'⟩ := h; ⟨g, s, t, gs, ⟨ok.few, ok.s0, ok.s1, ok.t0, by have := ok.t1; omega⟩, e'⟩
theorem Deck.here {g : Addr} {s t : Int} {gs : List Int} (ok : DkOk s t gs n) (e : Ent K L (.pt a (.dK (deckK g s t)) :: .ld g (gs.map .int) :: L0)) : Deck K L a n L0 := ⟨g, s, t, gs, ok, e⟩
/-- a deck in a ledger, x picked out first -/
theorem Deck.skip (h : Deck K L a n L0) (p : Ent K (x :: L) L') : Deck K (x :: L) a n (x :: L0) := h.cons
theorem Deck.append {fl : Addr} {ds : List PyData} {d : PyData} {y : V} {Q : LK} (h : Deck K L a n (.ld fl ds :: L0)) (hy : Dv K L y d) (hl : ds.length < sizeLine) (q : ∀ L', Deck K L' a n (.ld fl (ds ++ [d]) :: L0) → Q .non L') : Wm K rAppend (.ref fl) [y] L Q := by
  obtain ⟨g, s, t, gs, ok, e⟩ := h
  refine Wm.ent (Ent.put hy e) ?_
  refine wm_append (d := d) (.there (.there (.there .here))) (Dv.mem (.head _)) hl (q _ ?_)
  exact Deck.here ok (Ent.drop Ent.refl)
theorem Deck.tyL {fl : Addr} {ds : List PyData} (h : Deck K L a n (.ld fl ds :: L0)) : TyL K "list" (.ref fl) L := TyL.ent h.ent (tyL_ld (.head _))
theorem atI_nat {α : Type} {xs : List α} {i : Nat} (h : i < xs.length) : atI xs (i : Int) = xs[i]? := by
  unfold atI ixN
  rw [if_pos (by omega), if_pos (by omega), Int.toNat_natCast]
  rfl
theorem atI_neg {α : Type} {xs : List α} {i : Nat} (h : i < xs.length) : atI xs (-1 - (i : Int)) = xs[xs.length - 1 - i]? := by
  unfold atI ixN
  rw [if_neg (by omega), if_pos (by omega), show (-1 - (i : Int) + (xs.length : Int)).toNat = xs.length - 1 - i by omega]
  rfl
theorem Dn.pre {v : V} {d : PyData} (e : Ent K L' L) (h : Dn K L v d) : Dn K L' v d := fun T H q => h T H (e T H q)
end
end Lg
/-! An own exception class C under an own class D under Exception; its __init__ stores one thing. -/
namespace PySem
namespace LgXc
open PySem.W PySem.Calls PyProof.Rows PySem.HandSPX
/-! ### the text of __init__ -/
def iA (p1 p2 : Pos) : Arguments := { posonlyargs := [], args := [{ arg := "self", annotation := none, pos := p1 }, { arg := "thing", annotation := none, pos := p2 }], vararg := none, kwonlyargs := [], kw_defaults := [], kwarg := none, defaults := [] }
def iB (q1 q2 q3 q4 : Pos) : List Stmt := [.Assign [.Attribute (.Name "self" q1) "thing" q2] (.Name "thing" q3) q4]
def iS : Scope := { kind := .function, names := [(PySem.Str.ofString "self", .local), (PySem.Str.ofString "thing", .local)], isGenerator := false, isCoroutine := false, more := [] }
/-- what the written part says of the class x, at C, under D, and of its __init__, at fI -/
structure ExTxt (K : Frag) (mg : Str → Option Value) (x qi : Str) (C D fI : Addr) : Prop where
  gC : mg x = some (.ref C)
  cls : ∃ nm q N bs sn sub ab col dd k0 k1 k2 k3 k5, K.lookup C = some (excClassObj nm q C N bs (.ref D :: ESX.exTail) true sn sub ab col dd k0 k1 k2 k3 k5 "Exception.__new__")
  sa : findIn K (.ref C) "__setattr__" = some (some (.builtin "object.__setattr__"))
  ga : findIn K (.ref C) "__getattribute__" = some (some (.builtin "BaseException.__getattribute__"))
  gg : findIn K (.ref C) "__getattr__" = some none
  noN : findIn K (.ref C) "thing" = some none
  iC : findIn K (.ref C) "__init__" = some (some (.ref fI))
  tC : typeIn K (.ref fI) = some (.type "function")
  kC : keepIn K (.ref C) = true
  exC : subIn K (.ref C) (.type "BaseException") = some true
  tyC : typeIn K (.ref C) = some (.type "type")
  hdC : hasDictIn K C = true
  fn : ∃ (oc : Value) (od : Option Addr) (kV doc pm : Value) (an : Option Addr) (cdv ct : Value) (osl : Array (Option Value)) (p1 p2 q1 q2 q3 q4 : Pos),
    K.lookup fI = some ⟨oc, od, .func (fnOf "__init__" qi (iA p1 p2) (iB q1 q2 q3 q4) iS .none kV doc pm an cdv ct), osl⟩ ∧ codeIn K cdv qi = true
theorem mro_has {K : Frag} {C D : Addr} {cd : ClassData} (hcd : clsIn K C = some cd) (hm : cd.mro = .ref C :: .ref D :: ESX.exTail) {b : Value} (hb : (Value.ref C :: .ref D :: ESX.exTail).contains b = true) : mroIn K C b = some true := by
  unfold mroIn
  rw [hcd, Option.bind_some, hm, if_neg (show ¬ (List.isEmpty (Value.ref C :: .ref D :: ESX.exTail) = true) from Bool.false_ne_true), hb]
theorem tail_has {C D : Addr} (X : String) : (Value.ref C :: .ref D :: ESX.exTail).contains (.type X) = ESX.exTail.contains (.type X) := by
  rw [List.contains_cons, List.contains_cons]
  rfl
open Builtin Builtin.ObjectAttr in
theorem store_new {prog : Program} {w : World} {A : Around} {R : Result → Shared → Prop} {hp : Heap} {g : Array GenState} {d : Drawn} {t : Nat} {os : OsState} {K : Frag} {name : Str} {tk : Tok} {v : Value} {x C D : Addr} {fv : Array Value} {cd : ClassData}
    (X : K.In hp) (hx : hp.get? x = some { cls := .ref C, data := .fields fv }) (hcd : clsIn K C = some cd) (hm : cd.mro = .ref C :: .ref D :: ESX.exTail) (hh : cd.hasDict = true) (ha : findIn K (.ref C) name = some none)
    (hq : ∀ h' tk' dx, (∀ b o, b ≠ x → hp.get? b = some o → h'.get? b = some o) → hp.objs.size ≤ dx → dx ≠ x → h'.get? x = some { cls := .ref C, dict := some dx, data := .fields fv } →
      h'.Ns1 dx (fun y => if y = name then some v else none) → R (.ok (.ret .none)) ⟨h', g, d, tk', os⟩) :
    codeAny (model prog w) A (.call (.builtin "object.__setattr__") ⟨[.ref x, .str name tk, v], []⟩) R ⟨hp, g, d, t, os⟩ := by
  have I : InstAt hp x { cls := .ref C, data := .fields fv } C none := ⟨hx, rfl, rfl, trivial⟩
  have SF := F.store_object
  have hxs : x ≠ hp.objs.size := Nat.ne_of_lt (Heap.lt_size hx)
  have sub : Looks (model prog w) hp (isInstance (.ref x) (.type "object")) true := I.type.andThen (looks_mroIn X (mro_has hcd hm ((tail_has "object").trans (by decide +kernel))))
  refine codeAny_call_builtin SF.slot.plain SF.entry (@check_slot (model prog w) _ _ ⟨hp, g, d, t, os⟩ "object.__setattr__" "object" "__setattr__" (.ref x) [.str name tk, v] [] _ SF.kind SF.split sub (SF.args (.ref x) (.str name tk) v) ?_)
  have hmr : Looks (model prog w) hp (mroOf (.ref C)) cd.mro := (looks_clsIn X hcd).andThen .now
  have L3 : Looks (model prog w) hp (storeTaker? none) none := .now
  have hcls : Looks (model prog w) hp (classData C) cd := looks_clsIn X hcd
  have hpass : refuseLoop (.ref x) "__setattr__" cd.mro = pure () := by
    rw [hm, refuseLoop_ref, refuseLoop_ref]
    exact F.store_Exception.passes _
  rw [osa_eq, refuse_eq]
  refine wpAny_bind (wpAny_bind (I.type.at (wpAny_bind (hmr.at ?_))))
  rw [hpass]
  refine wpAny_pure (wpAny_bind (I.type.at (wpAny_bind ((looks_findIn X ha).at (wpAny_bind (L3.at ?_))))))
  show wpAny _ _ (storeInOwnDict (.ref x) (.ref C) (.str name tk) name v false) _ _ _
  obtain ⟨nm, bs, mro, ns, qn, hd, sn, sb, ab, col, del⟩ := cd
  dsimp only at hh
  subst hh
  unfold storeInOwnDict ownDictForStores
  repeat (first | with_reducible refine store_in_new ?_ ?_ | with_reducible refine wpAny_loadPart_at hx ?_ | with_reducible refine hcls.at ?_ | wp_step)
  · exact ⟨_, #[], _, (Heap.get?_update_ne _ _ _ _ hxs.symm).trans (Heap.get?_push_at rfl rfl), rfl, fun e he => absurd he (by simp), fun _ => rfl⟩
  · intro h' tk' hn' hs
    have hx₁ : (hp.push { cls := .type "dict", data := .dict #[] }).get? x = some { cls := .ref C, data := .fields fv } := Heap.get?_push_of_some _ hx
    refine hq h' tk' hp.objs.size (fun b o hb ho => ?_) (Nat.le_refl _) hxs.symm ?_ hn'
    · exact (hs.2 b (Nat.ne_of_lt (Heap.lt_size ho))).trans ((Heap.get?_update_ne _ _ _ _ hb).trans (Heap.get?_push_of_some _ ho))
    · exact (hs.2 x hxs).trans (Heap.get?_update_self _ hx₁ rfl)
theorem ldC {M : Model} {s : Shared} {name : Str} {scope : Scope} {L a : Addr} {cd : Value} {m : Str → Option Value} {x : Str} {pos : Pos} {v : Value} {Q : Value → Shared → Prop} {A : Around} {E : Value → Shared → Prop} (hn : s.heap.Ns L m) (hv : m x = some v) (h : Q v s)
    (hk : scope.kind = .function := by rfl) (hl : (envOfC name scope L a cd).kindOf x = some .local := by rfl) (hd : (x == ("__debug__" : Str)) = false := by decide) :
    wpAny M A (eval (.Name x pos) (envOfC name scope L a cd)) Q E s := wpAny_Name (wpAny_loadName_local hk hl hn hv h) hd
/-- what __init__ leaves of a fresh exception at x -/
structure InitEnd (h h' : Heap) (x C dx t1 : Addr) (v : Value) : Prop where
  keep : ∀ b o, b ≠ x → h.get? b = some o → h'.get? b = some o
  obj : h'.get? x = some { cls := .ref C, dict := some dx, data := .fields #[.ref t1, .none, .none, .none, .bool false, .none] }
  dbig : h.objs.size ≤ dx
  dne : dx ≠ x
  ns : h'.Ns1 dx (fun y => if y = "thing" then some v else none)
/-- a made exception -/
structure OwnMade (h h' : Heap) (e C d : Addr) (v : Value) : Prop where
  keep : ∀ b o, h.get? b = some o → h'.get? b = some o
  new : h.objs.size ≤ e
  obj : ∃ oe vs, h'.get? e = some oe ∧ oe.cls = .ref C ∧ oe.dict = some d ∧ oe.data = .fields vs ∧ vs[1]? = some .none
  dbig : h.objs.size ≤ d
  dne : d ≠ e
  ns : h'.Ns1 d (fun y => if y = "thing" then some v else none)
section
variable {prog : Program} {w : World} {A : Around} {E : Value → Shared → Prop} {R : Result → Shared → Prop} {s : Shared} {K : Frag} {mg : Str → Option Value} {xx qi : Str} {C D fI : Addr}
theorem ex_init (T : ExTxt K mg xx qi C D fI) {x t0 : Addr} {v : Value} (X : K.In s.heap) (hlim : s.heap.NoLimit) (hx : s.heap.get? x = some (excO C t0)) (hroom : A.depth < recursionLimit)
    (hq : ∀ h' tk dx, InitEnd s.heap h' x C dx t0 v → R (.ok (.ret .none)) { s with heap := h', toks := tk }) :
    codeAny (model prog w) A (.call (.ref fI) ⟨[.ref x, v], []⟩) R s := by
  obtain ⟨oc, od, kV, doc, pm, an, cdv, ct, osl, p1, p2, q1, q2, q3, q4, ho, hcd⟩ := T.fn
  obtain ⟨nm, q, N, bs, sn, sub, ab, col, dd, k0, k1, k2, k3, k5, hC⟩ := T.cls
  have hcl : clsIn K C = some { name := nm, bases := bs, mro := .ref C :: .ref D :: ESX.exTail, ns := N, qualname := q, hasDict := true, slotNames := sn, subclasses := sub, abstract := ab, collection := col, hasDel := false } := by unfold clsIn; rw [hC] <;> rfl
  refine Att.call_fn (binds := [("self", .ref x), ("thing", v)]) X hlim ho hcd hroom (BindsTo.of_eq (by first | rfl | with_unfolding_all rfl)) (by first | rfl | decide | with_unfolding_all rfl) (fun s₁ IC => ?_) rfl rfl rfl
  obtain ⟨h₁, tk₁, rfl⟩ := IC.toInCall.same
  have k : ∀ b o, s.heap.get? b = some o → h₁.get? b = some o := IC.toInCall.keep
  have hn := IC.toInCall.ns
  have X₁ : K.In h₁ := X.keeps k
  have hx₁ := k _ _ hx
  show wpAny _ _ (execs _ _) _ _ _
  refine wpAny_execs_cons (plainObj_wpAny_Assign_Attribute ?_)
  refine ldC (v := v) hn (by first | rfl | with_unfolding_all rfl | kernel_rfl) (ldC (v := .ref x) hn (by first | rfl | with_unfolding_all rfl | kernel_rfl) ?_)
  refine set_plain X₁ (ox := excO C t0) (od := none) ⟨hx₁, rfl, rfl, trivial⟩ T.sa ?_
  refine store_new X₁ hx₁ hcl rfl rfl T.noN (fun h₃ tk₃ dx k₃ dn dne hx₃ hn₃ => ?_)
  show wpAny _ _ (execs _ _) _ _ _
  have z : s.heap.objs.size < h₁.objs.size := hn.lt
  exact wpAny_execs_nil (hq h₃ tk₃ dx ⟨fun b o hb e => k₃ b o hb (k b o e), hx₃, Nat.le_of_lt (Nat.lt_of_lt_of_le z dn), dne, hn₃⟩)
theorem ex_made (T : ExTxt K mg xx qi C D fI) {v : Value} (X : K.In s.heap) (hlim : s.heap.NoLimit) (hroom : A.depth + 1 < recursionLimit)
    (hq : ∀ h' tk e d, OwnMade s.heap h' e C d v → R (.ok (.ret (.ref e))) { s with heap := h', toks := tk }) :
    codeAny (model prog w) A (.call (.ref C) ⟨[v], []⟩) R s := by
  obtain ⟨nm, q, N, bs, sn, sub, ab, col, dd, k0, k1, k2, k3, k5, hC⟩ := T.cls
  obtain ⟨hp, g, dr, tk, os⟩ := s
  have k : ∀ b o, hp.get? b = some o → ((hp.push (kdv_tup [v])).push (excO C hp.objs.size)).get? b = some o := fun b o e => Heap.get?_push_of_some _ (Heap.get?_push_of_some _ e)
  have hget : ((hp.push (kdv_tup [v])).push (excO C hp.objs.size)).get? (hp.objs.size + 1) = some (excO C hp.objs.size) := by heap_get
  refine call_own F.excBase_Exception (fun Y => tail_ex Y) (X _ _ hC) (looks_findIn X T.iC) (fun self => bind_fn X self T.tC) (by show 1 ≤ sizeLine; decide) ?_
  refine ex_init (s := ⟨(hp.push (kdv_tup [v])).push (excO C hp.objs.size), g, dr, tk, os⟩) T (X.keeps k) (hlim.keeps k) hget ?_ fun h' tk' dx ⟨k', hx, dn, dne, hns⟩ => ?_
  · show A.depth + 1 < recursionLimit
    exact hroom
  · have old : ∀ b o, hp.get? b = some o → h'.get? b = some o := fun b o e => k' b o (Nat.ne_of_lt (Nat.lt_succ_of_lt (Heap.lt_size e))) (k b o e)
    have z : hp.objs.size + 1 + 1 ≤ dx := by
      first
        | (simpa only [Heap.size_push] using dn)
        | exact dn
        | (have q := dn; rw [Heap.size_push, Heap.size_push] at q; exact q)
    exact ⟨rfl, hq h' tk' (hp.objs.size + 1) dx ⟨old, Nat.le_succ _, ⟨_, _, hx, rfl, rfl, rfl, rfl⟩, Nat.le_trans (Nat.le_trans (Nat.le_succ _) (Nat.le_succ _)) z, dne, hns⟩⟩
where
  tail_ex (Y : String) : (Value.ref D :: ESX.exTail).contains (.type Y) = ESX.exTail.contains (.type Y) := by
    rw [List.contains_cons]
    rfl
end
end LgXc
end PySem
namespace Lg
open PySem PySem.Spec PyProof.Rows L2
abbrev thingD (v : V) : HO := .xd [(("thing" : Str), v)]
theorem relO_thing {v : V} {v' : Value} (r : RelV v v') (f : Str) : RelO (List.lookup f [(("thing" : Str), v)]) (if f = "thing" then some v' else none) := by
  by_cases hw : f = "thing"
  · subst hw
    rw [if_pos rfl]
    have q : List.lookup ("thing" : Str) [(("thing" : Str), v)] = some v := by simp [List.lookup]
    rw [q]
    exact r
  · rw [if_neg hw]
    have qw : (f == ("thing" : Str)) = false := by simpa using hw
    have q2 : List.lookup f [(("thing" : Str), v)] = none := by simp [List.lookup, qw]
    rw [q2]
    trivial
section
variable {X : Cx} {x qi : Str} {C D fI : Addr}
/-- C(e) -/
def tMkX (C : Addr) (ta : TA) : L2.St → Hp → XK → Prop := fun σ H Q => ta σ H fun vs H1 => ∃ v, vs = [v] ∧ ∀ d, H1 d = none → Q (.ref C) (some d) (upd H1 d (thingD v))
theorem pmk_ex {a : Expr} {ta : TA} {p pos : Pos} {k : Nat} (T : PySem.LgXc.ExTxt X.K X.mg x qi C D fI) (hr : Room k X.A) (ha : PA X [a] ta) (hg : Gl X x) (hdb : (x == ("__debug__" : Str)) = false := by decide)
    (he : starEach (a :: []) X.env = (false, eval a X.env) :: starEach [] X.env := by rfl) (hpl : (backTo pos (starEach [] X.env)).any (·.1) = false := by rfl) :
    PMk X (.Call (.Name x p) [a] [] pos) (tMkX C ta) := by
  intro pins s σ H Q I h
  refine wpAny_Call_Name_kw (ld_glob I hg T.gC ?_ hdb)
  refine PySem.W.callWith_K (h₀ := X.base) I.ok.mod.kin T.kC (thn (ha.run pos pins s σ H _ I h) fun us s1 hh => ?_) he hpl
  obtain ⟨vs, H1, I1, r1, v, ev, q1⟩ := hh
  subst ev
  refine ⟨I1.kIn, ?_⟩
  cases r1 with
  | cons rv rn =>
    rename_i v' us'
    cases rn
    show wpAny _ _ (call (.ref C) [v']) _ _ _
    have hlim := I1.nolimit
    obtain ⟨hp, g, dr, tk, os⟩ := s1
    refine wpAny_call (PySem.LgXc.ex_made T I1.kIn hlim (by have := hr.dp; omega) fun h' tk' e d M => ?_)
    show MkP X pins σ Q (.ref e) ⟨h', g, dr, tk', os⟩
    obtain ⟨oe, fv, hoe, hc, hd, hdat, h1⟩ := M.obj
    have hns := M.ns
    obtain ⟨G', g1, g2⟩ := restrict h' fun b => decide (b ≠ e)
    have gk : ∀ b, b ≠ e → G'.get? b = h'.get? b := fun b hb => g1 b (decide_eq_true hb)
    have ge : G'.get? e = none := g2 e (by simp)
    have old : ∀ b o, hp.get? b = some o → G'.get? b = some o := fun b o q => (gk b (Nat.ne_of_lt (Nat.lt_of_lt_of_le (Heap.lt_size q) M.new))).trans (M.keep b o q)
    have ob : ObjOk X.prog X.w (upd H1 d (thingD v)) G' d (thingD v) :=
      ⟨_, hns.at (fun o q => (gk d M.dne).trans q), fun f => relO_thing rv f⟩
    have J : Inv X pins σ (upd H1 d (thingD v)) ⟨G', g, dr, tk', os⟩ := I1.laid (t' := tk') old M.dbig ob
    refine ⟨e, oe, fv, ⟨G', g, dr, tk', os⟩, _, .ref C, some d, rfl, J, fun b o q => ?_, ge, hoe, ⟨hc, hd⟩, hdat, h1, ?_, rfl, I1.bare, raises_own T.exC T.tyC, q1 d (I1.hok.fresh M.dbig)⟩
    · by_cases hb : b = e
      · have q' : G'.get? b = some o := q
        rw [hb, ge] at q'; cases q'
      · exact (gk b hb).symm.trans q
    · rw [upd_ne (Ne.symm M.dne)]
      exact I1.hok.fresh M.new
/-- raise C(e) -/
def tRaiseX (C : Addr) (W : WX) (ta : TA) : TS := fun _ σ H => tMkX C ta σ H fun cls d H' => W cls d σ H'
theorem ps_raiseX {a : Expr} {ta : TA} {W : WX} {p pos pos2 : Pos} {k : Nat} (hc : X.calm = true) (T : PySem.LgXc.ExTxt X.K X.mg x qi C D fI) (hr : Room k X.A) (tk : Takes X W) (hg : Gl X x) (ha : PA X [a] ta) (hdb : (x == ("__debug__" : Str)) = false := by decide)
    (he : starEach (a :: []) X.env = (false, eval a X.env) :: starEach [] X.env := by rfl) (hpl : (backTo pos (starEach [] X.env)).any (·.1) = false := by rfl) :
    PS X (.Raise (some (.Call (.Name x p) [a] [] pos)) none pos2) (tRaiseX C W ta) := ps_raise hc tk (pmk_ex T hr ha hg hdb he hpl)
/-- e.thing, e the exception that the suite holds (at a; its class cls, its dict d) -/
def tThing (C : Addr) (a : Addr) (cls : Value) (d : Option Addr) (te : TE) : TE := fun σ H Q => te σ H fun y H1 => y = .ref a ∧ cls = .ref C ∧ ∃ (dd : Addr) (v : V), d = some dd ∧ H1 dd = some (thingD v) ∧ Q v H1
theorem pe_thing {a : Addr} {oe : Obj} {cls : Value} {d : Option Addr} {pn : List (Addr × Obj)} {e : Expr} {te : TE} {pos : Pos} (T : PySem.LgXc.ExTxt X.K X.mg x qi C D fI) (hz : Zc cls d oe) (hf : ∃ vs, oe.data = .fields vs) (he : PE (X.suite a ((a, oe) :: pn)) e te)
    (hb : attributeBase e "thing" X.env (eval e X.env) = eval e X.env := by rfl) :
    PE (X.suite a ((a, oe) :: pn)) (.Attribute e "thing" pos) (tThing C a cls d te) := by
  refine ⟨fun pins s σ H Q I h => ?_⟩
  refine attr_of hb (thn (he.run pins s σ H _ I h) fun u s1 hh => ?_)
  obtain ⟨y, H1, I1, rx, ex, ec, dd, v, ed, ea, q⟩ := hh
  subst ex
  obtain rfl : u = Value.ref a := rx
  subst ec
  subst ed
  obtain ⟨ha, _⟩ := I1.pin (a, oe) (List.mem_append_left _ List.mem_cons_self)
  obtain ⟨vs, hd⟩ := hf
  have hx : ObjOk X.prog X.w H1 s1.heap dd (thingD v) := I1.hok dd _ ea
  obtain ⟨mA, hns, hr⟩ := hx
  obtain ⟨od, ho, hl⟩ := lookIn_ns hns
  have l : List.lookup ("thing" : Str) [(("thing" : Str), v)] = some v := by simp [List.lookup]
  obtain ⟨u, hu, ru⟩ := RelO.some_of (v := v) (o := mA "thing") (by rw [← l]; exact hr "thing")
  have J : PySem.W.InstAt s1.heap a oe C (some od) := ⟨ha, hz.1, by unfold PySem.W.notCls; rw [hd] <;> rfl, by rw [hz.2]; exact ho⟩
  exact HandSPX.exc_get I1.kIn J T.ga T.gg T.exC (PySem.W.findObj_own T.hdC T.noN rfl (by rw [hl, hu])) (handed_of ru) ⟨v, H1, I1.tok _, ru, q⟩
/-- isinstance(e, c), e the exception that the suite holds, with its dict -/
def rIsX (K : PySem.W.Frag) (C a : Addr) (cls : Value) (d : Option Addr) : List V → Hp → VK → Prop := fun xs H Q => ∃ (c : V) (cv : Value) (b : Bool) (dd : Addr) (v : V), xs = [.ref a, c] ∧ (∀ u, RelV c u → u = cv) ∧ PySem.W.kitOne K (.ref C) cv = some b ∧ cls = .ref C ∧ d = some dd ∧ H dd = some (thingD v) ∧ Q (.bl b) H
theorem call_isX {a : Addr} {oe : Obj} {cls : Value} {d : Option Addr} {pn : List (Addr × Obj)} (E : ExcC X.K C) (hz : Zc cls d oe) (hf : ∃ vs, oe.data = .fields vs) : CallR (X.suite a ((a, oe) :: pn)) (.builtin "isinstance") (rIsX X.K C a cls d) := by
  intro pins s σ H xs us Q I r h
  obtain ⟨c, cv, b, dd, v, rfl, hcv, e, rfl, rfl, ea, q⟩ := h
  cases r with
  | cons rx rr =>
    cases rr with
    | cons rt rr =>
      cases rr
      cases rx
      have ec := hcv _ rt
      subst ec
      obtain ⟨hget, _⟩ := I.pin (a, oe) (List.mem_append.mpr (.inl List.mem_cons_self))
      obtain ⟨vs, hv⟩ := hf
      have hx : ObjOk X.prog X.w H s.heap dd (thingD v) := I.hok dd _ ea
      obtain ⟨mA, hns, _⟩ := hx
      obtain ⟨od, ho, _⟩ := lookIn_ns hns
      have J : PySem.W.InstAt s.heap a oe C (some od) := ⟨hget, hz.1, by unfold PySem.W.notCls; rw [hv] <;> rfl, by rw [hz.2]; exact ho⟩
      have hcl : (PySem.W.clsIn X.K C).isSome = true := by
        obtain ⟨cd, hc, _⟩ := PySem.W.any_some E.hd
        rw [hc]; rfl
      exact PySem.W.kia_one (PySem.W.kitx_exc hcl E.hg E.hk E.hs E.ha E.hn E.ht E.hm) I.kIn J e (fun z => nomatch z) fun tk => ⟨.bl b, H, I.kept (t' := tk) fun _ _ z => z, rfl, q⟩
end
/-! ### several clauses 'except X as n' -/
def wAsMany (K : PySem.W.Frag) (i : Nat) (Wout : WX) (D : Ends) : List (Value × (Addr → Value → Option Addr → TS)) → WX
  | [] => Wout
  | (c, ts) :: r => fun cls d σ H => ∃ b, PySem.W.exmOne K cls c = some b ∧ (b = true → ∀ a, H a = none → ts a cls d { nx := fun σ' H' => D.nx (σ'.set i none) H', rt := D.rt, bk := fun σ' H' => D.bk (σ'.set i none) H', ct := fun σ' H' => D.ct (σ'.set i none) H' } (σ.set i (some (.ref a))) H) ∧
      (b = false → wAsMany K i Wout D r cls d σ H)
inductive HdsAs (X : Cx) (n : Str) : List ExceptHandler → List (Value × (Addr → Value → Option Addr → TS)) → Prop
  | nil : HdsAs X n [] []
  | cons {x : Str} {c : Value} {ts : Addr → Value → Option Addr → TS} {b₀ : Stmt} {suite : List Stmt} {np pos' : Pos} {hds : List ExceptHandler} {l : List (Value × (Addr → Value → Option Addr → TS))} (hc : Names X x c)
      (hsu : ∀ (a : Addr) (oe : Obj) (cls : Value) (d : Option Addr) (pn : List (Addr × Obj)), Zc cls d oe → (∃ vs, oe.data = .fields vs) → PSs (X.suite a ((a, oe) :: pn)) (b₀ :: suite) (ts a cls d)) (r : HdsAs X n hds l) :
      HdsAs X n (.ExceptHandler (some (.Name x np)) (some n) (b₀ :: suite) pos' :: hds) ((c, ts) :: l)
section
variable {X : Cx} {n : Str} {i : Nat} {body : List Stmt} {h₀ : ExceptHandler} {hds : List ExceptHandler} {l : List (Value × (Addr → Value → Option Addr → TS))} {pos : Pos} {tb : WX → TS} {Wout : WX}
theorem ps_try_asMany (hs : X.stack = X.env :: X.outer) (hf : X.env.frame = some X.env.locals) (hN : X.N.Nodup) (hi : X.N[i]? = some n) (hln : X.env.kindOf n = some .local) (tk : Takes X Wout)
    (hb : ∀ (W : WX) (pn : List (Addr × Obj)) (xe : Value → Shared → Prop), Takes (X.tr pn xe) W → PassesOwn (model X.prog X.w) X.A X.env xe → PSs (X.tr pn xe) body (tb W))
    (hh : HdsAs X n (h₀ :: hds) l) : PS X (.Try body (h₀ :: hds) [] [] pos) (fun D σ H => tb (wAsMany X.K i Wout D l) D σ H) := by
  refine ⟨fun pins s σ H D I h => ?_⟩
  have ok := I.ok
  have hfr : X.A.frames = some (X.env :: X.outer) := by rw [ok.frames, hs]
  have hloc : Loc X.env.scope n := .inl hln
  refine wpAny_Try_except ?_
  refine wpAny_mono ((hb (wAsMany X.K i Wout D l) (X.pn ++ pins) (fun e s₁ => wpAny (model X.prog X.w) X.A (noteFrame e X.env) (fun _ s₂ => wpAny (model X.prog X.w) X.A (setFlight e none) (fun _ s₃ =>
    wpAny (model X.prog X.w) X.A (handleBy e X.env (h₀ :: hds)) (SP X pins D) X.xe s₃) X.xe s₂) X.xe s₁) (fun u s' xx => ?_) PassesOwn.looking).run [] s σ H D (I.toTry _) h) (fun f s1 hsp => ?_) (fun e s1 he => he)
  · obtain ⟨a, B, sI, pins', σ', H', cls, d, rfl, J', nb, up, sky, na, os, ag, w⟩ := xx
    have J : Inv X pins σ' H' sI := J'.ofTry ok
    have sky' : Sky B (X.env :: X.outer) a (Zc cls d) X.env.locals s'.heap := by rw [← hs]; exact sky
    show wpAny (model X.prog X.w) X.A (noteFrame (.ref a) X.env) _ _ _
    refine Sky.land Zc.steady hfr hf sky' fun h3 fl3 up3 => ?_
    have J3 : Inv X pins σ' H' { s' with heap := h3 } := J.landed nb fl3.1 (up.trans up3) os ag
    obtain ⟨oe3, vs3, he3, hz3, hd3⟩ := fl3.there
    have nfr : a ∉ frs (X.env :: X.outer) := fun hm => by
      obtain ⟨_, o', e', hnf⟩ := fl3.2.2.1.mem hm
      rw [he3] at e'; cases e'
      exact hnf _ hd3
    have nL : a ≠ X.env.locals := fun z => nfr (List.mem_filterMap.mpr ⟨X.env, List.mem_cons_self, by rw [hf, z]⟩)
    have nF : a ∉ X.fs := fun hm => by
      obtain ⟨e, he, q⟩ := List.mem_filterMap.mp hm
      exact nfr (List.mem_filterMap.mpr ⟨e, List.mem_cons_of_mem _ he, q⟩)
    have S3 := J3.suite he3 hd3 na nL nF
    have LT : PySem.W.Looks (model X.prog X.w) h3 (typeOf (.ref a)) cls := fun A Q E s k q => wpAny_typeOf_ref (k _ _ he3) (by rw [hz3.1]; exact q)
    have go : ∀ {hds' : List ExceptHandler} {l' : List (Value × (Addr → Value → Option Addr → TS))}, HdsAs X n hds' l' → wAsMany X.K i Wout D l' cls d σ' H' →
        wpAny (model X.prog X.w) X.A (handleBy (.ref a) X.env hds') (SP X pins D) X.xe { s' with heap := h3 } := by
      intro hds' l' hk
      induction hk with
      | nil =>
        intro w
        refine wpAny_handleBy_nil ?_
        obtain ⟨k1, k2, k3, oe, vs, T, oT, ts', he, hz, hd, h1, hr⟩ := id fl3
        unfold PySem.passOn
        refine wpAny_bind (wpAny_field he hd h1 ?_)
        rw [if_neg (show ¬ ((Value.ref T == Value.none) = true) from by simp)]
        have fin : wpAny (model X.prog X.w) X.A (setFlight (.ref a) X.env.frame) (fun _ s4 => wpAny (model X.prog X.w) X.A (throw (.ref a) : Sem Flow) (SP X pins D) X.xe s4) X.xe { s' with heap := h3 } := by
          rw [hf]
          refine HandSPX.setFlight_upZ fl3 fun h4 hh4 up4 => wpAny_throw (tk _ _ ?_)
          exact ⟨a, B, sI, pins, σ', H', cls, d, rfl, J, nb, (up.trans up3).trans up4, .inr (.inr (by rw [hs]; exact hh4)), na, os, ag, w⟩
        first
          | exact wpAny_bind (wpAny_pure (wpAny_bind fin))
          | exact wpAny_bind fin
      | @cons x c ts b₀ suite np pos' hds2 l2 hc hsu r ih =>
        intro w
        obtain ⟨b, hb1, hyes, hno⟩ := w
        refine wpAny_handleBy_cons (codeAny_handlers_test ?_) (by intro q; cases q)
        have LM := PySem.W.exm_one (M := model X.prog X.w) (J3.kIn) LT hb1
        have test : ∀ {Q : Value → Shared → Prop} {E : Value → Shared → Prop}, Q c { s' with heap := h3 } → wpAny (model X.prog X.w) (X.A.mark (some (.ref a))) (eval (.Name x np) X.env) Q E { s' with heap := h3 } := fun {Q E} q => by
          obtain ⟨hg, hdbg, hm | ⟨hm, hv, hnn⟩⟩ := hc
          · exact ld_glob (X := X.suite a ((a, oe3) :: (X.pn ++ pins))) S3 hg hm q hdbg
          · exact ld_blt (X := X.suite a ((a, oe3) :: (X.pn ++ pins))) S3 hg hm hv q hnn hdbg
        refine test (LM.here ?_)
        cases b with
        | true =>
          refine codeAny_handlers_suite_as ?_
          refine HandSPX.lands_againZ fl3 fun h4 fl4 up4 => ?_
          have J4 : Inv X pins σ' H' { s' with heap := h4 } := J.landed nb fl4.1 ((up.trans up3).trans up4) os ag
          obtain ⟨oe4, vs4, he4, hz4, hd4⟩ := fl4.there
          have S4 := J4.suite he4 hd4 na nL nF
          refine store_ok (X := X.suite a ((a, oe4) :: (X.pn ++ pins))) (v := .ref a) S4 hN hi hloc rfl (fun s5 S5 => ?_) (.inr hln)
          refine wpAny_mono ((hsu a oe4 cls d (X.pn ++ pins) hz4 ⟨_, hd4⟩).run [] s5 _ H' _ S5 (hyes rfl a na)) (fun f s6 hsp => ?_) (fun _ _ z => False.elim z)
          have end_ : ∀ {σ6 : L2.St} {H6 : Hp} {Q : Shared → Prop}, Inv (X.suite a ((a, oe4) :: (X.pn ++ pins))) [] σ6 H6 s6 → (∀ s7, Inv X pins (σ6.set i none) H6 s7 → Q s7) →
              wpAny (model X.prog X.w) X.A (do bindName X.env n .none; unbindBehindTheSuite X.env n pos') (fun _ s7 => Q s7) X.xe s6 := fun {σ6 H6 Q} S6 hq => gone_ok (S6.unsuite ok) hN hi hln hq
          cases f with
          | next =>
            obtain ⟨σ6, H6, S6, q6⟩ := hsp
            exact end_ S6 fun s7 J7 => ⟨_, _, J7, q6⟩
          | brk =>
            obtain ⟨σ6, H6, S6, q6⟩ := hsp
            exact end_ S6 fun s7 J7 => ⟨_, _, J7, q6⟩
          | cont =>
            obtain ⟨σ6, H6, S6, q6⟩ := hsp
            exact end_ S6 fun s7 J7 => ⟨_, _, J7, q6⟩
          | ret u =>
            obtain ⟨v6, σ6, H6, S6, r6, q6⟩ := hsp
            exact end_ S6 fun s7 J7 => ⟨_, _, _, J7, r6, q6⟩
        | false =>
          show wpAny _ X.A (handleBy (.ref a) X.env hds2) _ _ _
          exact ih (hno rfl)
    exact go hh w
  · cases f with
    | next =>
      obtain ⟨σ', H', J', q⟩ := hsp
      exact wpAny_execs_nil ⟨σ', H', J'.ofTry ok, q⟩
    | brk =>
      obtain ⟨σ', H', J', q⟩ := hsp
      exact ⟨σ', H', J'.ofTry ok, q⟩
    | cont =>
      obtain ⟨σ', H', J', q⟩ := hsp
      exact ⟨σ', H', J'.ofTry ok, q⟩
    | ret u =>
      obtain ⟨v, σ', H', J', r, q⟩ := hsp
      exact ⟨v, σ', H', J'.ofTry ok, r, q⟩
end
end Lg
/-! Ledgers and exceptions: defs that may raise, what a lambda's call lets out. -/
namespace Lg
open PySem PySem.Spec PyProof.Rows L2
abbrev LXK := Value → Addr → List As → Prop
def UpX (K : PySem.W.Frag) (Q : LXK) (E : XK) : Prop := ∀ cls dd H L, Hs K H L → Q cls dd L → E cls (some dd) H
abbrev SpX := List V → List As → LK → LXK → Prop
def spX (K : PySem.W.Frag) (S : SpX) : Sp := fun vs H Q E => ∃ L LQ LX, Hs K H L ∧ S vs L LQ LX ∧ Up K LQ Q ∧ UpX K LX E
section
variable {K : PySem.W.Frag} {σ : L2.St} {L : List As} {Q : LK} {LX : LXK} {E : XK}
theorem wp_callX {S : SpX} {ta : TA} (up : UpX K LX E) (h : Wa K ta σ L fun vs L1 => S vs L1 Q LX) : Wp K (tCall (spX K S) [] E ta) σ L Q := fun H hs Q0 u =>
  h H hs _ fun vs H1 L1 h1 q => ⟨L1, Q, LX, h1, by rw [List.append_nil]; exact q, u, up⟩
theorem wp_callKX {S : SpX} {g : List V → List V → List V} {ta tk : TA} (up : UpX K LX E) (h : Wa K ta σ L fun vs L1 => Wa K tk σ L1 fun zs L2 => S (g vs zs) L2 Q LX) : Wp K (tCallK (spX K S) g E ta tk) σ L Q := fun H hs Q0 u =>
  h H hs _ fun vs H1 L1 h1 q => q H1 h1 _ fun zs H2 L2 h2 q2 => ⟨L2, Q, LX, h2, q2, u, up⟩
theorem ws_raiseX {D : LE} {C : Addr} {ta : TA} (up : UpX K LX E) (h : Wa K ta σ L fun vs L1 => ∃ v, vs = [v] ∧ ∀ dd, LX (.ref C) dd (.pt dd (thingD v) :: L1)) : Ws K (tRaiseX C (fun cls d _ H => E cls d H) ta) D σ L := fun H hs D0 le =>
  h H hs _ fun vs H1 L1 h1 ⟨v, e, q⟩ => ⟨v, e, fun d hd => by
    obtain ⟨T, ht⟩ := h1
    exact up _ _ _ _ ⟨T, ht.lay (x := .pt d (thingD v)) hd rfl upd_same⟩ (q d)⟩
end
/-- the rule for a def that may raise -/
theorem okX {P : Program} {w : World} {K : PySem.W.Frag} {mg : Str → Option Value} {base : Heap} {x qual : Str} {st : Stmt} {f : Addr} {fd : FuncData} {N ps : List Str} {k : Nat} {S : SpX} (F : Fun K x qual st f fd) (sc : FnScope N ps (defScope st))
    (len : ∀ vs L Q LX, S vs L Q LX → vs.length = ps.length)
    (hbody : ∀ (cdv : Value) (A : Around) (outer : List Env) (s : Shared) (H : Hp) (E : XK), Room k (A.deeper (envOfC qual (defScope st) s.heap.objs.size f cdv)) →
      ∃ t, PSs (cxOf (L2.CX P w) P w K mg base N qual (defScope st) f cdv A outer s H E) (defBody st) t ∧ ∀ vs L LQ LX, S vs L LQ LX → UpX K LX E → Ws K t { nx := fun _ L => RetE K LQ .non L, rt := RetE K LQ } (start N vs) L) :
    FnOk P w K mg base (L2.CX P w) (k + 1) f fd ps (spX K S) :=
  F.okX sc (fun vs H Q E ⟨L, LQ, LX, _, h, _⟩ => len vs L LQ LX h) fun cdv A outer s H vs Q E hr ⟨L, LQ, LX, hs, hS, up, ux⟩ => by
    obtain ⟨t, ht, hw⟩ := hbody cdv A outer s H E hr
    refine ⟨t, ht, hw vs L LQ LX hS ux H hs _ ⟨fun _ H' L' h' ⟨L2, e, q⟩ => up _ H' L2 (e.hs h') q, fun v H' L' h' ⟨L2, e, q⟩ => up v H' L2 (e.hs h') q, fun _ _ _ _ q => q.elim, fun _ _ _ _ q => q.elim⟩⟩
structure CalX (P : Program) (w : World) (K : PySem.W.Frag) (mg : Str → Option Value) (base : Heap) (x : Str) (k : Nat) (ps : List Str) (S : SpX) : Prop where
  ex : ∃ f fd, FnOk P w K mg base (L2.CX P w) k f fd ps (spX K S) ∧ mg x = some (.ref f) ∧ PySem.W.keepIn K (.ref f) = true ∧ Binds K fd ps []
theorem pe_calX {X : Cx} {P : Program} {w : World} {K : PySem.W.Frag} {mg : Str → Option Value} {base : Heap} {x : Str} {k : Nat} {ps : List Str} {S : SpX} {E : XK} {p pos : Pos} {e : Expr} {es : List Expr} {t : TA} (c : CalX P w K mg base x k ps S) (hr : Room k X.A) (hg : Gl X x) (tk : Takes X (fun cls d _ H => E cls d H)) (ha : PA X (e :: es) t)
    (h1 : X.prog = P := by rfl) (h2 : X.w = w := by rfl) (h3 : X.K = K := by rfl) (h4 : X.mg = mg := by rfl) (h5 : X.base = base := by rfl)
    (hdb : (x == ("__debug__" : Str)) = false := by decide) (he : starEach (e :: es) X.env = (false, eval e X.env) :: starEach es X.env := by rfl) (hpl : (backTo pos (starEach es X.env)).any (·.1) = false := by rfl) :
    PE X (.Call (.Name x p) (e :: es) [] pos) (tCall (spX K S) [] E t) := by
  subst h1 h2 h3 h4 h5
  obtain ⟨f, fd, F, hm, hk, hb⟩ := c.ex
  exact pe_call F hr hg hm hk hb .nil (passes_call tk fun _ _ _ _ h => h) ha hdb he hpl
/-- what is taken is taken where the slots have their length -/
theorem takes_len {X : Cx} {W : WX} (t : Takes X W) : Takes X (fun cls d σ H => σ.length = X.N.length → W cls d σ H) := fun u s' ⟨a, B, sI, pins, σ, H, cls, d, e, I, nb, up, sky, na, os, ag, w⟩ =>
  t u s' ⟨a, B, sI, pins, σ, H, cls, d, e, I, nb, up, sky, na, os, ag, w I.len⟩

/-! ### lambdas: the table's item -/
def SubN (T H : Hp) : Prop := ∀ a o, T a = some o → (∀ ps, o ≠ .tbl ps) → H a = some o
section
variable {K : PySem.W.Frag} {T H : Hp}
theorem SubN.rd (s : SubN T H) {a : Addr} {u : HO} (hu : ∀ ps, u ≠ .tbl ps) (h : Rd T a u) : Rd H a u := h.elim (fun h => .inl (s _ _ h hu)) fun ⟨o, h⟩ => .inr ⟨o, s _ _ h (fun _ z => nomatch z)⟩
theorem SubN.sqL (s : SubN T H) {a : Addr} {xs : List V} (h : SqL K T a xs) : SqL K H a xs := h.elim (fun h => .inl (s.rd (fun _ z => nomatch z) h)) .inr
mutual
theorem SubN.dp (s : SubN T H) : ∀ (d : PyData) (v : V), Dq K T v d → Dq K H v d
  | .none, _, h => by cases h; exact .non
  | .bool b, _, h => by cases h; exact .bl b
  | .int i, _, h => by cases h; exact .int i
  | .str x, _, h => by cases h; exact .str x
  | .list ds, _, h => by cases h with | lst hs ha => exact .lst (s.sqL hs) (SubN.dps s ds _ ha)
  | .tuple ds, _, h => by cases h with | tup hs ha => exact .tup (s _ _ hs (fun _ z => nomatch z)) (SubN.dps s ds _ ha)
  | .dict ds, _, h => by cases h with | dic hs ha => exact .dic (s.rd (fun _ z => nomatch z) hs) (SubN.dpk s ds _ ha)
theorem SubN.dps (s : SubN T H) : ∀ (ds : List PyData) (vs : List V), DqAll K T vs ds → DqAll K H vs ds
  | [], _, h => by cases h; exact .nil
  | d :: ds, _, h => by cases h with | cons h1 h2 => exact .cons (SubN.dp s d _ h1) (SubN.dps s ds _ h2)
theorem SubN.dpk (s : SubN T H) : ∀ (ds : List (PyData × PyData)) (vs : List (Key × V)), DqKv K T vs ds → DqKv K H vs ds
  | [], _, h => by cases h; exact .nil
  | (k, d) :: ds, _, h => by cases h with | cons h1 h2 => exact .cons (SubN.dp s d _ h1) (SubN.dpk s ds _ h2)
end
end
/-- no table, nothing of another kind -/
def As.plain : As → Prop
  | .pt _ (.tbl _) => False
  | .pt _ (.ext _) => False
  | .tb _ _ => False
  | _ => True
theorem lam_hs {K : PySem.W.Frag} {H H1 : Hp} {P : Addr} {q : Str} {R : List As} (h : Hs K H (.tb P q :: R)) (hp : ∀ x ∈ R, x.plain) (e : LamX.ExtN H H1) (t : LamX.Tabs [(P, q)] H1) : Hs K H1 (.tb P q :: R) := by
  classical
  obtain ⟨T, ht⟩ := h
  obtain ⟨ps, hP, h2, h3⟩ := t (P, q) (.head _)
  have okP := ht.ok _ (.head _)
  obtain ⟨ps0, hP0, _, h30⟩ := okP
  let code : Addr → Prop := fun b => ∃ pos, codeAmong pos ps.toList = some (.ref b)
  have hcode : ∀ b, code b → H1 b = some (LamX.CodeO b q) := fun b ⟨pos, hb⟩ => by
    obtain ⟨c, e1, e2⟩ := h3 pos _ hb
    cases e1
    exact e2
  let T1 : Hp := fun b => if code b then some (LamX.CodeO b q) else match T b with
    | some (.tbl _) => none
    | o => o
  have T1c : ∀ b, code b → T1 b = some (LamX.CodeO b q) := fun b hb => if_pos hb
  have T1n : ∀ b, ¬ code b → T1 b = (match T b with
    | some (.tbl _) => none
    | o => o) := fun b hb => if_neg hb
  have sub : Sub T1 H1 := fun b o eb => by
    by_cases hb : code b
    · rw [T1c b hb] at eb
      rw [hcode b hb, eb]
    · rw [T1n b hb] at eb
      split at eb
      · cases eb
      · rename_i hno
        exact e b o (ht.sub b o eb) fun ps z => hno ps (by rw [eb, z])
  have sn : SubN T T1 := fun b o eb no => by
    have h1 : H1 b = some o := e b o (ht.sub b o eb) no
    by_cases hb : code b
    · rw [T1c b hb]
      rw [hcode b hb] at h1
      exact h1
    · rw [T1n b hb, eb]
      split
      · rename_i z
        exact (no _ (Option.some.inj z)).elim
      · rfl
  have keep : ∀ x ∈ R, ∀ a, x.adr = some a → ∀ o, H a = some o → (∀ ps, o ≠ .tbl ps) → H1 a = some o := fun x hx a ha o eo no => e a o eo no
  refine ⟨T1, sub, fun x hx => ?_, fun x hx a ha => ?_, ht.ap⟩
  · rcases List.mem_cons.mp hx with rfl | hx
    · refine ⟨ps, hP, h2, fun pos cv hc => ?_⟩
      obtain ⟨c, e1, e2⟩ := h3 pos cv hc
      exact ⟨c, e1, T1c c ⟨pos, by rw [hc, e1]⟩⟩
    · have ok := ht.ok x (.tail _ hx)
      have pl := hp x hx
      cases x with
      | pt a o =>
        refine e a o ok fun ps z => ?_
        subst z
        exact pl
      | ld a ds => obtain ⟨xs, k1, k2⟩ := ok; exact ⟨xs, e a _ k1 (fun _ z => nomatch z), sn.dps _ _ k2⟩
      | dk a ds => obtain ⟨xs, k1, k2⟩ := ok; exact ⟨xs, e a _ k1 (fun _ z => nomatch z), Paired.mapP k2 fun p q z => ⟨z.1, sn.dp _ _ z.2⟩⟩
      | dt a ds => obtain ⟨xs, k1, k2⟩ := ok; exact ⟨xs, e a _ k1 (fun _ z => nomatch z), Paired.mapP k2 fun p q z => ⟨z.1, sn.dp _ _ z.2⟩⟩
      | da v d => exact sn.dp _ _ ok
      | tb a q => exact pl.elim
  · have notCode : ¬ code a := fun hc => by
      have z := hcode a hc
      rcases List.mem_cons.mp hx with rfl | hx
      · cases ha
        rw [hP] at z
        exact LamX.codeO_ne ps (Option.some.inj z).symm
      · have ok := ht.ok x (.tail _ hx)
        have pl := hp x hx
        cases x with
        | pt b o =>
          cases ha
          have k : H1 a = some o := e a o ok fun ps z => by subst z; exact pl
          rw [k] at z
          unfold LamX.CodeO at z
          cases Option.some.inj z
          exact pl
        | ld b ds => cases ha; obtain ⟨xs, k1, k2⟩ := ok; rw [e a _ k1 (fun _ z => nomatch z)] at z; exact nomatch (Option.some.inj z : HO.lst xs = LamX.CodeO a q)
        | dk b ds => cases ha; obtain ⟨xs, k1, k2⟩ := ok; rw [e a _ k1 (fun _ z => nomatch z)] at z; exact nomatch (Option.some.inj z : HO.dK xs = LamX.CodeO a q)
        | dt b ds => cases ha; obtain ⟨xs, k1, k2⟩ := ok; rw [e a _ k1 (fun _ z => nomatch z)] at z; exact nomatch (Option.some.inj z : HO.dT xs = LamX.CodeO a q)
        | da v d => cases ha
        | tb b q => exact pl.elim
    rw [T1n a notCode, ht.out x hx a ha]
theorem tb_tabs {K : PySem.W.Frag} {H : Hp} {P : Addr} {q : Str} {R : List As} (h : Hs K H (.tb P q :: R)) : LamX.Tabs [(P, q)] H := fun p hp => by
  obtain ⟨T, ht⟩ := h
  have e : p = (P, q) := by simpa using hp
  subst e
  obtain ⟨ps, h1, h2, h3⟩ := ht.ok _ (.head _)
  refine ⟨ps, h1, h2, fun pos cv hc => ?_⟩
  obtain ⟨c, e1, e2⟩ := h3 pos cv hc
  exact ⟨c, e1, ht.sub _ _ e2⟩
/-- a lambda's body, by what it lets out -/
def Wx (K : PySem.W.Frag) (t : XK → TE) (σ : L2.St) (L : List As) (Q : LK) (LX : LXK) : Prop := ∀ H, Hs K H L → ∀ E Q0, Up K Q Q0 → UpX K LX E → t E σ H Q0
/-! ### calls by keywords alone -/
theorem pe_kw0 {X : Cx} {CX : CXT} {k : Nat} {f : Addr} {fd : FuncData} {ps ks : List Str} {sp : Sp} {E : XK} {g : List Value → List Value → List Value} {gV : List V → List V → List V} {x : Str} {p pos : Pos} {kws : List Keyword} {tk : TA}
    (F : FnOk X.prog X.w X.K X.mg X.base CX k f fd ps sp) (hr : Room k X.A) (hg : Gl X x) (hm : X.mg x = some (.ref f)) (hk : PySem.W.keepIn X.K (.ref f) = true) (hb : KBinds X.K fd ps ks g gV) (hx : Passes CX X E) (hkw : PK X kws tk)
    (hall : (backToKw pos (keywordEach kws X.env)).all (·.1.isSome) = true := by rfl) (hks : (backToKw pos (keywordEach kws X.env)).filterMap (·.1) = ks := by rfl) (hdb : (x == ("__debug__" : Str)) = false := by decide)
    (hpl : ((backTo pos (starEach [] X.env)).any (·.1) || (backToKw pos (keywordEach kws X.env)).any (·.1.isNone)) = false := by rfl) : PE X (.Call (.Name x p) [] kws pos) (tCallK sp gV E tNil tk) := by
  refine ⟨fun pins s σ H Q I h => ?_⟩
  refine wpAny_Call_Name_kw (ld_glob I hg hm ?_ hdb)
  have h' : tk σ H fun zs H2 => sp (gV [] zs) H2 Q E := h
  refine PySem.W.callWith_KW0 (h₀ := X.base) I.ok.mod.kin hk hall (thn (hkw.run pos pins s σ H _ I h') fun ws s2 ⟨zs, H2, I2, rz, q2⟩ => ⟨I2.kIn, ?_⟩) hpl
  rw [hks]
  exact run_fnk (us := []) (vs := []) F hr hb hx I2 .nil rz q2
/-- two keywords, in the other order -/
def sw2 {α : Type} : List α → List α → List α := fun us ws => match us, ws with
  | [], [a, b] => [b, a]
  | _, _ => []
theorem sw2_rel {vs : List V} {us : List Value} {zs : List V} {ws : List Value} (h : Vals vs us) (h' : Vals zs ws) : Vals (sw2 vs zs) (sw2 us ws) := by
  cases h with
  | nil =>
    cases h' with
    | nil => exact .nil
    | cons a t =>
      cases t with
      | nil => exact .nil
      | cons b t =>
        cases t with
        | nil => exact .cons b (.cons a .nil)
        | cons _ _ => exact .nil
  | cons _ _ => exact .nil
theorem kbinds2 {K : PySem.W.Frag} {fd : FuncData} {p1 p2 : Str} (h : ∀ a b : Value, bindArgs fd ⟨[], [p2, p1].zip [b, a]⟩ = pure ([p1, p2].zip [a, b])) : KBinds K fd [p1, p2] [p2, p1] sw2 sw2 where
  to := fun s us ws _ hl => by
    match us, ws, hl with
    | [], [b, a], _ => exact .of_eq (h a b)
  rel := sw2_rel
/-- a def as it is called by two keywords in the other order -/
structure CalW (P : Program) (w : World) (K : PySem.W.Frag) (mg : Str → Option Value) (base : Heap) (x : Str) (k : Nat) (p1 p2 : Str) (S : SpL) : Prop where
  ex : ∃ f fd, FnOk P w K mg base CX0 k f fd [p1, p2] (spL K S) ∧ mg x = some (.ref f) ∧ PySem.W.keepIn K (.ref f) = true ∧ KBinds K fd [p1, p2] [p2, p1] sw2 sw2
structure CalWX (P : Program) (w : World) (K : PySem.W.Frag) (mg : Str → Option Value) (base : Heap) (x : Str) (k : Nat) (p1 p2 : Str) (S : SpX) : Prop where
  ex : ∃ f fd, FnOk P w K mg base (L2.CX P w) k f fd [p1, p2] (spX K S) ∧ mg x = some (.ref f) ∧ PySem.W.keepIn K (.ref f) = true ∧ KBinds K fd [p1, p2] [p2, p1] sw2 sw2
theorem pe_calW {X : Cx} {P : Program} {w : World} {K : PySem.W.Frag} {mg : Str → Option Value} {base : Heap} {x p1 p2 : Str} {k : Nat} {S : SpL} {p pos : Pos} {kws : List Keyword} {tk : TA} (c : CalW P w K mg base x k p1 p2 S) (hr : Room k X.A) (hg : Gl X x) (hkw : PK X kws tk)
    (h1 : X.prog = P := by rfl) (h2 : X.w = w := by rfl) (h3 : X.K = K := by rfl) (h4 : X.mg = mg := by rfl) (h5 : X.base = base := by rfl)
    (hall : (backToKw pos (keywordEach kws X.env)).all (·.1.isSome) = true := by rfl) (hks : (backToKw pos (keywordEach kws X.env)).filterMap (·.1) = [p2, p1] := by rfl) (hdb : (x == ("__debug__" : Str)) = false := by decide)
    (hpl : ((backTo pos (starEach [] X.env)).any (·.1) || (backToKw pos (keywordEach kws X.env)).any (·.1.isNone)) = false := by rfl) : PE X (.Call (.Name x p) [] kws pos) (tCallK (spL K S) sw2 E0 tNil tk) := by
  subst h1 h2 h3 h4 h5
  obtain ⟨f, fd, F, hm, hk, hb⟩ := c.ex
  exact pe_kw0 F hr hg hm hk hb pass0 hkw hall hks hdb hpl
theorem pe_calWX {X : Cx} {P : Program} {w : World} {K : PySem.W.Frag} {mg : Str → Option Value} {base : Heap} {x p1 p2 : Str} {k : Nat} {S : SpX} {E : XK} {p pos : Pos} {kws : List Keyword} {tk : TA} (c : CalWX P w K mg base x k p1 p2 S) (hr : Room k X.A) (hg : Gl X x) (tk' : Takes X (fun cls d _ H => E cls d H)) (hkw : PK X kws tk)
    (h1 : X.prog = P := by rfl) (h2 : X.w = w := by rfl) (h3 : X.K = K := by rfl) (h4 : X.mg = mg := by rfl) (h5 : X.base = base := by rfl)
    (hall : (backToKw pos (keywordEach kws X.env)).all (·.1.isSome) = true := by rfl) (hks : (backToKw pos (keywordEach kws X.env)).filterMap (·.1) = [p2, p1] := by rfl) (hdb : (x == ("__debug__" : Str)) = false := by decide)
    (hpl : ((backTo pos (starEach [] X.env)).any (·.1) || (backToKw pos (keywordEach kws X.env)).any (·.1.isNone)) = false := by rfl) : PE X (.Call (.Name x p) [] kws pos) (tCallK (spX K S) sw2 E tNil tk) := by
  subst h1 h2 h3 h4 h5
  obtain ⟨f, fd, F, hm, hk, hb⟩ := c.ex
  exact pe_kw0 F hr hg hm hk hb (passes_call tk' fun _ _ _ _ h => h) hkw hall hks hdb hpl
theorem wp_calW {K : PySem.W.Frag} {σ : L2.St} {L : List As} {Q : LK} {S : SpL} {tk : TA} (h : Wa K tk σ L fun zs L1 => S (sw2 [] zs) L1 Q) : Wp K (tCallK (spL K S) sw2 E0 tNil tk) σ L Q := wp_callK (wa_nil h)
/-! ### with K named -/
theorem ps_raiseXK {X : Cx} {K : PySem.W.Frag} {mg : Str → Option Value} {x qi : Str} {C D fI : Addr} {a : Expr} {ta : TA} {W : WX} {p pos pos2 : Pos} {k : Nat} (T : PySem.LgXc.ExTxt K mg x qi C D fI) (hc : X.calm = true) (hr : Room k X.A) (tk : Takes X W) (hg : Gl X x) (ha : PA X [a] ta) (h3 : X.K = K := by rfl) (h4 : X.mg = mg := by rfl) (hdb : (x == ("__debug__" : Str)) = false := by decide)
    (he : starEach (a :: []) X.env = (false, eval a X.env) :: starEach [] X.env := by rfl) (hpl : (backTo pos (starEach [] X.env)).any (·.1) = false := by rfl) :
    PS X (.Raise (some (.Call (.Name x p) [a] [] pos)) none pos2) (tRaiseX C W ta) := by
  subst h3 h4
  exact ps_raiseX hc T hr tk hg ha hdb he hpl
/-! ### a list of one's own that is never written again -/
section
variable {K : PySem.W.Frag} {L : List As} {a : Addr} {ds : List PyData}
theorem freeze {H : Hp} (h : Hs K H (.ld a ds :: L)) : Hs K H (.da (.ref a) (.list ds) :: L) := by
  obtain ⟨T, ht⟩ := h
  obtain ⟨xs, h1, h2⟩ := ht.ok _ (.head _)
  have tn := ht.out _ (.head _) a rfl
  obtain ⟨p1, p2⟩ := List.pairwise_cons.mp ht.ap
  have sn : Sub T (upd T a (.lst xs)) := Sub.new tn
  refine ⟨upd T a (.lst xs), fun b o e => ?_, fun x hx => ?_, fun x hx b hb => ?_, List.pairwise_cons.mpr ⟨fun y hy b e1 e2 => (nomatch e1), p2⟩⟩
  · by_cases hb : b = a
    · subst hb; rw [upd_same] at e; rw [← e]; exact h1
    · rw [upd_ne hb] at e; exact ht.sub b o e
  · rcases List.mem_cons.mp hx with rfl | hx
    · exact .lst (SqL.of upd_same) (sn.dps _ _ h2)
    · exact (ht.ok x (.tail _ hx)).move sn fun b o _ e => e
  · rcases List.mem_cons.mp hx with rfl | hx
    · exact nomatch hb
    · have hba : b ≠ a := fun z => p1 x hx a rfl (by rw [← z]; exact hb)
      rw [upd_ne hba]
      exact ht.out x (.tail _ hx) b hb
theorem freezeK {H : Hp} (h : Hs K H (.dk a [] :: L)) : Hs K H (.da (.ref a) (.dict []) :: L) := by
  obtain ⟨T, ht⟩ := h
  obtain ⟨xs, h1, h2⟩ := ht.ok _ (.head _)
  cases h2
  have tn := ht.out _ (.head _) a rfl
  obtain ⟨p1, p2⟩ := List.pairwise_cons.mp ht.ap
  have sn : Sub T (upd T a (.dK [])) := Sub.new tn
  refine ⟨upd T a (.dK []), fun b o e => ?_, fun x hx => ?_, fun x hx b hb => ?_, List.pairwise_cons.mpr ⟨fun y hy b e1 e2 => (nomatch e1), p2⟩⟩
  · by_cases hb : b = a
    · subst hb; rw [upd_same] at e; rw [← e]; exact h1
    · rw [upd_ne hb] at e; exact ht.sub b o e
  · rcases List.mem_cons.mp hx with rfl | hx
    · exact .dic (.inl upd_same) .nil
    · exact (ht.ok x (.tail _ hx)).move sn fun b o _ e => e
  · rcases List.mem_cons.mp hx with rfl | hx
    · exact nomatch hb
    · have hba : b ≠ a := fun z => p1 x hx a rfl (by rw [← z]; exact hb)
      rw [upd_ne hba]
      exact ht.out x (.tail _ hx) b hb
theorem Wa.freeze {t : TA} {σ : L2.St} {Q : List V → List As → Prop} (h : Wa K t σ (.da (.ref a) (.list ds) :: L) Q) : Wa K t σ (.ld a ds :: L) Q := fun H hs => h H (Lg.freeze hs)
theorem Wa.freezeK {t : TA} {σ : L2.St} {Q : List V → List As → Prop} (h : Wa K t σ (.da (.ref a) (.dict []) :: L) Q) : Wa K t σ (.dk a [] :: L) Q := fun H hs => h H (Lg.freezeK hs)
theorem Wp.freeze {t : TE} {σ : L2.St} {Q : LK} (h : Wp K t σ (.da (.ref a) (.list ds) :: L) Q) : Wp K t σ (.ld a ds :: L) Q := fun H hs => h H (Lg.freeze hs)
theorem Ws.freeze {t : TS} {σ : L2.St} {D : LE} (h : Ws K t D σ (.da (.ref a) (.list ds) :: L)) : Ws K t D σ (.ld a ds :: L) := fun H hs => h H (Lg.freeze hs)
end
/-! ### what the law's def makes of a call that raises -/
def RefOut (K : PySem.W.Frag) (C Wy : Addr) (word : Str) (cls : Value) (d : Option Addr) (H : Hp) (Q : VK) : Prop :=
  cls = .ref C ∧ ∃ (dd : Addr) (v : V) (b : Bool), d = some dd ∧ H dd = some (thingD v) ∧ PySem.W.kitOne K (.ref C) (.ref Wy) = some b ∧ ∀ p, H p = none → Q (.ref p) (upd H p (.lst [.str word, v, .bl b]))
def TTref (K : PySem.W.Frag) (C1 C2 Wy : Addr) : (XK → Hp → VK → Prop) → Hp → VK → Prop := fun tl H Q =>
  tl (fun cls d H' => ∃ b1, PySem.W.exmOne K cls (.ref C1) = some b1 ∧ (b1 = true → RefOut K C1 Wy "touches" cls d H' Q) ∧ (b1 = false → ∃ b2, PySem.W.exmOne K cls (.ref C2) = some b2 ∧ (b2 = true → RefOut K C2 Wy "room" cls d H' Q) ∧ (b2 = false → False)))
    H (fun _ H' => [V.str "told"].length ≤ sizeLine ∧ ∀ p, H' p = none → Q (.ref p) (upd H' p (.lst [.str "told"])))
structure RefTxt (K : PySem.W.Frag) (C1 C2 Wy : Addr) : Prop where
  e11 : PySem.W.exmOne K (.ref C1) (.ref C1) = some true
  e21 : PySem.W.exmOne K (.ref C2) (.ref C1) = some false
  e22 : PySem.W.exmOne K (.ref C2) (.ref C2) = some true
  k1 : PySem.W.kitOne K (.ref C1) (.ref Wy) = some true
  k2 : PySem.W.kitOne K (.ref C2) (.ref Wy) = some true
theorem wp_lamref {K : PySem.W.Frag} {σ : L2.St} {P : Addr} {q : Str} {R : List As} {Q : LK} {C1 C2 Wy : Addr} {t : XK → TE} (r : RefTxt K C1 C2 Wy) (pl : ∀ x ∈ R, x.plain)
    (h : Wx K t σ (.tb P q :: R) (fun _ _ => False) fun cls dd L1 => (cls = .ref C1 ∧ ∃ v d L2, Ent K L1 (.pt dd (thingD v) :: L2) ∧ Dv K L2 v d ∧ ∀ p, Q (.ref p) (.ld p [.str "touches", d, .bool true] :: L2)) ∨
      (cls = .ref C2 ∧ ∃ v d L2, Ent K L1 (.pt dd (thingD v) :: L2) ∧ Dv K L2 v d ∧ ∀ p, Q (.ref p) (.ld p [.str "room", d, .bool true] :: L2))) :
    Wp K (LamX.tLam [(P, q)] (TTref K C1 C2 Wy) t) σ (.tb P q :: R) Q := fun H hs Q0 up => by
  refine ⟨tb_tabs hs, fun H1 e tb => ?_⟩
  have hs1 := lam_hs hs pl e tb
  refine h H1 hs1 _ _ (fun _ _ _ _ q => q.elim) fun cls dd H2 L1 h2 q2 => ?_
  have out : ∀ {C : Addr} {word : Str}, cls = .ref C → PySem.W.kitOne K (.ref C) (.ref Wy) = some true → (∃ v d L2, Ent K L1 (.pt dd (thingD v) :: L2) ∧ Dv K L2 v d ∧ ∀ p, Q (.ref p) (.ld p [.str word, d, .bool true] :: L2)) → RefOut K C Wy word cls (some dd) H2 Q0 := by
    intro C word ec hk ⟨v, d, L2, en, hd, hq⟩
    obtain ⟨T, ht⟩ := en.hs h2
    refine ⟨ec, dd, v, true, rfl, ht.ok _ (.head _), hk, fun p hp => ?_⟩
    have ht2 := ht.sublist (List.sublist_cons_self _ _)
    exact up _ _ _ ⟨T, ht2.lay (x := .ld p [.str word, d, .bool true]) hp rfl ⟨_, upd_same, .cons (.str _) (.cons (hd T H2 ht2) (.cons (.bl _) .nil))⟩⟩ (hq p)
  rcases q2 with ⟨ec, z⟩ | ⟨ec, z⟩
  · exact ⟨true, by rw [ec]; exact r.e11, fun _ => out ec r.k1 z, fun z => nomatch z⟩
  · exact ⟨false, by rw [ec]; exact r.e21, fun z => (nomatch z), fun _ => ⟨true, by rw [ec]; exact r.e22, fun _ => out ec r.k2 z, fun z => nomatch z⟩⟩
/-- a datum that is an int is at hand -/
theorem Ws.int {K : PySem.W.Frag} {L : List As} {x : V} {n : Int} {t : TS} {D : LE} {σ : L2.St} (h : Dv K L x (.int n)) (w : x = .int n → Ws K t D σ L) : Ws K t D σ L := fun H hs => by
  obtain ⟨T, ht⟩ := id hs
  exact w (dp_int (h T H ht)) H hs
theorem Wp.int {K : PySem.W.Frag} {L : List As} {x : V} {n : Int} {t : TE} {Q : LK} {σ : L2.St} (h : Dv K L x (.int n)) (w : x = .int n → Wp K t σ L Q) : Wp K t σ L Q := fun H hs => by
  obtain ⟨T, ht⟩ := id hs
  exact w (dp_int (h T H ht)) H hs
theorem wx_callX {K : PySem.W.Frag} {σ : L2.St} {L : List As} {Q : LK} {LX : LXK} {S : SpX} {ta : TA} (h : Wa K ta σ L fun vs L1 => S vs L1 Q LX) : Wx K (fun E => tCall (spX K S) [] E ta) σ L Q LX := fun H hs _ Q0 up ux => wp_callX ux h H hs Q0 up
theorem wx_callKX {K : PySem.W.Frag} {σ : L2.St} {L : List As} {Q : LK} {LX : LXK} {S : SpX} {tk : TA} (h : Wa K tk σ L fun zs L1 => S (sw2 [] zs) L1 Q LX) : Wx K (fun E => tCallK (spX K S) sw2 E tNil tk) σ L Q LX := fun H hs _ Q0 up ux => wp_callKX (ta := tNil) ux (wa_nil h) H hs Q0 up
/-- as okG, the def's own code object told -/
theorem okGc {P : Program} {w : World} {K : PySem.W.Frag} {mg : Str → Option Value} {base : Heap} {x qual : Str} {st : Stmt} {f : Addr} {N ps : List Str} {k : Nat} {S : SpL} {kV doc pm cdv ct oc : Value} {an od : Option Addr} {osl : Array (Option Value)}
    (lk : K.lookup f = some ⟨oc, od, .func (PySem.W.fnOf x qual (defArgs st) (defBody st) (defScope st) .none kV doc pm an cdv ct), osl⟩) (hcd : PySem.W.codeIn K cdv qual = true) (sc : FnScope N ps (defScope st)) (len : ∀ vs L Q, S vs L Q → vs.length = ps.length)
    (hbody : ∀ (A : Around) (outer : List Env) (s : Shared) (H : Hp) (E : XK), Room k (A.deeper (envOfC qual (defScope st) s.heap.objs.size f cdv)) → (A.deeper (envOfC qual (defScope st) s.heap.objs.size f cdv)).guards = some [] →
      ∃ t, PSs (cxOf CX0 P w K mg base N qual (defScope st) f cdv A outer s H E).nox (defBody st) t ∧ ∀ vs L LQ, S vs L LQ → Ws K t { nx := fun _ L => RetE K LQ .non L, rt := RetE K LQ } (start N vs) L) :
    FnG P w K mg base (k + 1) f (PySem.W.fnOf x qual (defArgs st) (defBody st) (defScope st) .none kV doc pm an cdv ct) ps (spL K S) :=
  fn_ofG lk hcd sc (fun vs H Q E h => let ⟨L, LQ, _, h, _⟩ := h; len vs L LQ h) fun A outer s H vs Q E hr hg hsp => by
    obtain ⟨t, ht, hw⟩ := hbody A outer s H E hr hg
    exact ⟨t, ht.nox, of_ws hsp fun L LQ hS => hw vs L LQ hS⟩
end Lg
/-! How long a shown datum may be. -/
namespace Lg
open PySem PySem.Spec PyProof.Rows L2
mutual
def sizeD : PyData → Nat
  | .none => 4
  | .bool _ => 5
  | .int _ => 1921
  | .str x => 10 * x.length + 2
  | .list xs => 4 + sizeA xs
  | .tuple xs => 4 + sizeA xs
  | .dict _ => 2
def sizeA : List PyData → Nat
  | [] => 0
  | x :: xs => sizeD x + 2 + sizeA xs
end
mutual
/-- leaves of a bounded kind, no dict but the empty one -/
def fine : PyData → Bool
  | .none => true
  | .bool _ => true
  | .int i => decide (i.natAbs.log2 < 1920)
  | .str x => x.cps.toList.all fun c => decide (c < 16 ^ 8)
  | .list xs => fineA xs
  | .tuple xs => fineA xs
  | .dict kvs => kvs.isEmpty
def fineA : List PyData → Bool
  | [] => true
  | x :: xs => fine x && fineA xs
end
theorem text_len : ∀ (ts : List Str) (k : Nat) (acc : Str), (textFrom k acc ts).length ≤ acc.length + piled ts
  | [], k, acc => Nat.le_add_right _ _
  | t :: r, k, acc => by
    have h := text_len r (k + 1) (acc ++ (if k > 0 then ", " else "" : String) ++ t)
    show (textFrom (k + 1) (acc ++ (if k > 0 then ", " else "" : String) ++ t) r).length ≤ _
    have e : (acc ++ (if k > 0 then ", " else "" : String) ++ t : Str).length ≤ acc.length + 2 + t.length := by
      rw [strLen_append, strLen_append]
      have : (Str.ofString (if k > 0 then ", " else "")).length ≤ 2 := by
        split <;> decide
      omega
    have p : piled (t :: r) = t.length + 2 + piled r := by simp [piled]
    omega
mutual
theorem fine_show : ∀ d : PyData, fine d = true → d.showable = true ∧ d.shown.length ≤ sizeD d
  | .none, _ => ⟨rfl, by decide⟩
  | .bool b, _ => ⟨rfl, by cases b <;> decide⟩
  | .int i, h => by
    have h' : i.natAbs.log2 < 1920 := by simpa [fine] using h
    refine ⟨by simpa [PyData.showable] using h', ?_⟩
    have := int_text_length_le (a := i) (k := 1920) (by decide) h'
    simp only [PyData.shown, sizeD]
    have e : (Str.ofString (toString i)).length = (toString i).length := PySem.ofString_length _
    exact e ▸ this
  | .str x, h => by
    have h' : ∀ c ∈ x.cps.toList, c < 16 ^ 8 := fun c hc => of_decide_eq_true (List.all_eq_true.mp (show (x.cps.toList.all fun c => decide (c < 16 ^ 8)) = true from h) c hc)
    refine ⟨rfl, ?_⟩
    have := StrLaws.reprText_len x h'
    simpa only [PyData.shown, sizeD] using this
  | .list xs, h => by
    obtain ⟨h1, h2⟩ := fine_showA xs (by simpa [fine] using h)
    refine ⟨by simpa [PyData.showable] using h1, ?_⟩
    simp only [PyData.shown, sizeD]
    unfold listText
    rw [strLen_append]
    have := text_len (PyData.shownAll xs) 0 "["
    have e1 : (Str.ofString "[").length = 1 := by decide
    have e2 : (Str.ofString "]").length = 1 := by decide
    omega
  | .tuple xs, h => by
    obtain ⟨h1, h2⟩ := fine_showA xs (by simpa [fine] using h)
    refine ⟨by simpa [PyData.showable] using h1, ?_⟩
    simp only [PyData.shown, sizeD]
    unfold tupleText
    rw [strLen_append, strLen_append]
    have e1 : (Str.ofString "(").length = 1 := by decide
    have e2 : (Str.ofString (if (PyData.shownAll xs).length == 1 then ",)" else ")")).length ≤ 2 := by split <;> decide
    have e3 : (Str.join ", " (PyData.shownAll xs)).length ≤ piled (PyData.shownAll xs) := by
      by_cases hn : PyData.shownAll xs = []
      · rw [hn]; decide
      · have := join_length_add _ hn
        omega
    omega
  | .dict kvs, h => by
    have h' : kvs = [] := by simpa [fine] using h
    subst h'
    exact ⟨rfl, by decide⟩
theorem fine_showA : ∀ ds : List PyData, fineA ds = true → PyData.showableAll ds = true ∧ piled (PyData.shownAll ds) ≤ sizeA ds
  | [], _ => ⟨rfl, by decide⟩
  | d :: ds, h => by
    have h' : fine d = true ∧ fineA ds = true := by simpa [fineA] using h
    obtain ⟨h1, h2⟩ := fine_show d h'.1
    obtain ⟨h3, h4⟩ := fine_showA ds h'.2
    refine ⟨by simp [PyData.showableAll, h1, h3], ?_⟩
    have p : piled (PyData.shownAll (d :: ds)) = d.shown.length + 2 + piled (PyData.shownAll ds) := by simp [PyData.shownAll, piled]
    rw [p]
    simp only [sizeA]
    omega
end
theorem shows_of {base : Heap} {d : PyData} (h : fine d = true) (hd : d.depth ≤ 64) (hs : sizeD d ≤ sizeLine) (hx : d.hasDict = true → SysOk base) : Shows base d :=
  ⟨(fine_show d h).1, hd, Nat.le_trans (fine_show d h).2 hs, hx⟩
theorem fine_ints : ∀ {ns : List Int}, (∀ n ∈ ns, n.natAbs < 2 ^ 64) → fineA (ns.map .int) = true
  | [], _ => rfl
  | n :: ns, h => by
    have h1 := h n (.head _)
    have h2 : n.natAbs.log2 < 1920 := by
      by_cases z : n.natAbs = 0
      · rw [z]; decide
      · exact Nat.lt_of_lt_of_le ((Nat.log2_lt z).mpr h1) (by decide)
    simp only [List.map_cons, fineA, fine, decide_eq_true h2, Bool.true_and]
    exact fine_ints fun m hm => h m (.tail _ hm)
theorem size_ints : ∀ ns : List Int, sizeA (ns.map .int) = 1923 * ns.length
  | [] => rfl
  | n :: ns => by
    simp only [List.map_cons, sizeA, sizeD, size_ints ns, List.length_cons]
    omega
theorem hasDict_ints : ∀ ns : List Int, PyData.hasDictAll (ns.map .int) = false
  | [] => rfl
  | n :: ns => by
    simp only [List.map_cons, PyData.hasDictAll, PyData.hasDict, hasDict_ints ns, Bool.or_false]
theorem wc_repr {K : PySem.W.Frag} {base : Heap} {L : List As} {Q : LK} {x : V} {d : PyData} (h : Dn K L x d) (ok : Shows base d) (q : Q (.str d.shown) L) : Wc K (rRepr K base) [x] L Q := fun H hs Q0 u => by
  obtain ⟨T, ht⟩ := id hs
  exact ⟨x, d, rfl, h T H ht, ok, u _ H L hs q⟩
theorem baseK {CX : CXT} {P : Program} {w : World} {K : PySem.W.Frag} {mg : Str → Option Value} {base : Heap} {N : List Str} {qual : Str} {scope : Scope} {f : Addr} {cd : Value} {A : Around} {outer : List Env} {s : Shared} {H : Hp} {E : XK} :
    (cxOf CX P w K mg base N qual scope f cd A outer s H E).base = base := rfl
theorem noxB {X : Cx} : X.nox.base = X.base := rfl
theorem w2_nePS {K : PySem.W.Frag} {L : List As} {Q : LK} {x y : Str} (q : Q (.bl (!decide (x = y))) L) : W2 K (rNeP K) (.str x) (.str y) L Q := W2.fst (w2_ne rfl (by
  have e : decide (V.str x = V.str y) = decide (x = y) := by
    by_cases h : x = y
    · subst h; simp
    · rw [decide_eq_false h, decide_eq_false (fun z => h (V.str.inj z))]
  rw [e]; exact q))
theorem w2_eqPS {K : PySem.W.Frag} {L : List As} {Q : LK} {x y : Str} (q : Q (.bl (decide (x = y))) L) : W2 K (rEqP K) (.str x) (.str y) L Q := W2.fst (w2_eq rfl (by
  have e : decide (V.str x = V.str y) = decide (x = y) := by
    by_cases h : x = y
    · subst h; simp
    · rw [decide_eq_false h, decide_eq_false (fun z => h (V.str.inj z))]
  rw [e]; exact q))
/-- pairs of neighbours, taken from each other -/
def diffs (l : List Int) : List Int := (l.zip l.tail).map fun p => p.1 - p.2
theorem row_due (M : PgM) {ts : List Int} {m : Nat} (h : ts.length < 2 ^ 20) : (List.range m).map (fun k => fewest ts (k + 1)) = dueL ts m := by
  unfold dueL
  exact List.map_congr_left fun k _ => M.eq ts k (Nat.lt_trans h (by decide))
theorem diffs_len (l : List Int) : (diffs l).length = l.length - 1 := by
  unfold diffs
  rw [List.length_map, List.length_zip, List.length_tail]
  omega
theorem diffs_at {l : List Int} {i : Nat} {x y : Int} (h1 : l[i]? = some x) (h2 : l[i + 1]? = some y) : (diffs l)[i]? = some (x - y) := by
  unfold diffs
  have e : (l.zip l.tail)[i]? = some (x, y) := List.getElem?_zip_eq_some.mpr ⟨h1, by rw [List.getElem?_tail]; exact h2⟩
  rw [List.getElem?_map, e]
  rfl
theorem dueL_at {ts : List Int} {m i : Nat} (h : i < m) : (dueL ts m)[i]? = some (bel ts (i + 1) : Int) := by
  unfold dueL
  rw [List.getElem?_map, List.getElem?_range h]
  rfl
theorem diffs_due {ts : List Int} {m i : Nat} (h : i + 1 < m) : (diffs (dueL ts m))[i]? = some ((bel ts (i + 1) : Int) - bel ts (i + 2)) :=
  diffs_at (dueL_at (by omega)) (dueL_at h)
theorem diffs_pos (M : PgM) {ts : List Int} {m : Nat} (h : ts.length < 2 ^ 20) : ∀ x ∈ diffs (dueL ts m), 0 ≤ x := fun x hx => by
  obtain ⟨i, hi0, e⟩ := List.getElem_of_mem hx
  have hi := hi0
  rw [diffs_len, dueL_len] at hi
  have := diffs_due (ts := ts) (m := m) (i := i) (by omega)
  rw [List.getElem?_eq_getElem hi0, e] at this
  have z := Option.some.inj this
  have := M.mono ts i (Nat.lt_trans h (by decide))
  omega
theorem diffs_desc (M : PgM) {ts : List Int} {m : Nat} (h : ts.length < 2 ^ 20) : (diffs (dueL ts m)).Pairwise (fun a b => b ≤ a) := by
  have step : ∀ i, i + 1 < (diffs (dueL ts m)).length → ∀ x y, (diffs (dueL ts m))[i]? = some x → (diffs (dueL ts m))[i + 1]? = some y → y ≤ x := fun i hi x y hx hy => by
    rw [diffs_len, dueL_len] at hi
    rw [diffs_due (by omega)] at hx hy
    cases hx; cases hy
    exact M.conc ts i (Nat.lt_trans h (by decide))
  generalize diffs (dueL ts m) = l at step
  induction l with
  | nil => exact List.Pairwise.nil
  | cons a t ih =>
    have iht := ih fun i hi x y hx hy => step (i + 1) (by rw [List.length_cons]; omega) x y (by simpa using hx) (by simpa using hy)
    refine List.pairwise_cons.mpr ⟨fun b hb => ?_, iht⟩
    cases t with
    | nil => cases hb
    | cons c t =>
      have h1 := step 0 (by simp) a c rfl rfl
      rcases List.mem_cons.mp hb with e | hb
      · rw [e]; exact h1
      · exact Int.le_trans ((List.pairwise_cons.mp iht).1 b hb) h1
theorem sort_desc {l : List Int} (h : l.Pairwise fun a b => b ≤ a) : (l.mergeSort fun a b => decide (a ≤ b)).reverse = l := by
  have e : l.mergeSort (fun a b => decide (a ≤ b)) = l.reverse := by
    refine List.Perm.eq_of_pairwise (le := fun a b : Int => a ≤ b) (fun a b _ _ h1 h2 => Int.le_antisymm h1 h2) ?_ ?_ ?_
    · have := List.pairwise_mergeSort (le := fun a b : Int => decide (a ≤ b)) (fun a b c h1 h2 => by simp at *; omega) (fun a b => by simp; omega) l
      exact this.imp fun h => by simpa using h
    · exact List.pairwise_reverse.mpr h
    · exact (List.mergeSort_perm l _).trans (List.reverse_perm l).symm
  rw [e, List.reverse_reverse]
theorem due_many (M : PgM) {ts : List Int} {m i : Nat} {c : Int} (h : ts.length < 2 ^ 20) (hi : cells ts - 1 ≤ i) (e : (dueL ts m)[i]? = some c) : c = cells ts := by
  have hl : i < m := by
    have := (List.getElem?_eq_some_iff.mp e).1
    rw [dueL_len] at this
    exact this
  rw [dueL_at hl] at e
  have z := Option.some.inj e
  have := M.many ts i (Nat.lt_trans h (by decide)) (by omega)
  omega
theorem atI_last {ts : List Int} {m : Nat} (h : 1 ≤ m) : atI ((dueL ts m).map PyData.int) (-1) = some (.int (bel ts m : Nat)) := by
  have e := atI_neg (xs := (dueL ts m).map PyData.int) (i := 0) (by rw [List.length_map, dueL_len]; omega)
  rw [show (-1 - ((0 : Nat) : Int)) = -1 from rfl] at e
  rw [e, List.length_map, dueL_len, List.getElem?_map, show m - 1 - 0 = m - 1 by omega, dueL_at (by omega), show m - 1 + 1 = m by omega]
  rfl
/-- the rooms of at most so many fetches -/
def roomsL (ts : List Int) (many : Int) (i : Nat) : List Int := ((List.range i).filter fun k => decide ((bel ts (k + 1) : Int) ≤ many)).map fun k => ((k : Nat) : Int) + 1
theorem rooms_head (M : PgM) {ts : List Int} {many : Int} (h : ts.length < 2 ^ 20) : (roomsL ts many (max 1 (cells ts))).head? = (leastRoom ts many).map fun k => ((k : Nat) : Int) := by
  unfold roomsL leastRoom
  rw [List.head?_map, List.head?_filter, Option.map_map]
  have e : (fun k => decide (fewest ts (k + 1) ≤ many)) = fun k => decide ((bel ts (k + 1) : Int) ≤ many) := by
    funext k
    rw [M.eq ts k (Nat.lt_trans h (by decide))]
  rw [e]
  rfl
theorem shows_int {base : Heap} {n : Int} (h : n.natAbs < 2 ^ 64) : Shows base (.int n) := by
  have hf := fine_ints (ns := [n]) (by simpa using h)
  have hf' : fine (.int n) = true := by simpa [fineA] using hf
  exact shows_of hf' (by simp [PyData.depth]) (by show 1921 ≤ sizeLine; decide) (fun z => nomatch z)
theorem Wa.imp {K : PySem.W.Frag} {t : TA} {σ : L2.St} {L : List As} {Q Q' : List V → List As → Prop} (h : Wa K t σ L Q) (i : ∀ v L, Q v L → Q' v L) : Wa K t σ L Q' := fun H hs Q0 u => h H hs Q0 fun v H L h q => u v H L h (i v L q)
theorem roomsL_succ (ts : List Int) (many : Int) (i : Nat) : roomsL ts many (i + 1) = roomsL ts many i ++ if (bel ts (i + 1) : Int) ≤ many then [(i : Int) + 1] else [] := by
  unfold roomsL
  rw [List.range_succ, List.filter_append, List.map_append]
  by_cases h : (bel ts (i + 1) : Int) ≤ many
  · have e : [i].filter (fun k => decide ((bel ts (k + 1) : Int) ≤ many)) = [i] := List.filter_cons_of_pos (p := fun k => decide ((bel ts (k + 1) : Int) ≤ many)) (decide_eq_true h)
    rw [if_pos h, e]
    rfl
  · have e : [i].filter (fun k => decide ((bel ts (k + 1) : Int) ≤ many)) = [] := List.filter_cons_of_neg (p := fun k => decide ((bel ts (k + 1) : Int) ≤ many)) (by simpa using h)
    rw [if_neg h, e]
    rfl
theorem roomsL_len (ts : List Int) (many : Int) (i : Nat) : (roomsL ts many i).length ≤ i := by
  unfold roomsL
  rw [List.length_map]
  refine Nat.le_trans (List.length_filter_le _ _) ?_
  rw [List.length_range]
  exact Nat.le_refl _
theorem lr_le {ts : List Int} {many : Int} {k : Nat} (h : leastRoom ts many = some k) : k ≤ max 1 (cells ts) := by
  unfold leastRoom at h
  cases e : (List.range (max 1 (cells ts))).find? (fun k => decide (fewest ts (k + 1) ≤ many)) with
  | none => rw [e] at h; cases h
  | some j =>
    rw [e] at h
    have hj : j < max 1 (cells ts) := List.mem_range.mp (List.mem_of_find?_eq_some e)
    have z : j + 1 = k := Option.some.inj h
    omega
theorem cut_one {ds : List PyData} : cutD ds (some 1) none = ds.drop 1 := cut_from (k := 1)
theorem atI_zero {α : Type} {x : α} {xs : List α} : atI (x :: xs) 0 = some x := atI_nat (xs := x :: xs) (i := 0) (Nat.succ_pos _)
end Lg
/-! The end of a law row whose def wants to know that nothing is being shown: one code table. -/
namespace Lg
open PySem PySem.Spec PyProof.Rows L2
/-- at the start: the table at P (empty), the script at a -/
def H0 (a P : Addr) (free : Bool) (vs : List Value) (ns : List Int) : Hp := fun b =>
  if b = P then some (.tbl #[]) else if b = a ∧ free = true then some (.frz { cls := .type "list", data := .seq vs.toArray } (.lst (ns.map V.int))) else none
section
variable {a P : Addr} {free : Bool} {vs : List Value} {ns : List Int}
theorem h0_P : H0 a P free vs ns P = some (.tbl #[]) := if_pos rfl
theorem h0_none {b : Addr} (h1 : b ≠ P) (h2 : b ≠ a) : H0 a P free vs ns b = none := by
  unfold H0
  rw [if_neg h1, if_neg (fun z => h2 z.1)]
theorem h0_a (h : a ≠ P) : H0 a P true vs ns a = some (.frz { cls := .type "list", data := .seq vs.toArray } (.lst (ns.map V.int))) := by
  unfold H0
  rw [if_neg h, if_pos ⟨rfl, rfl⟩]
theorem h0_a' (h : a ≠ P) : H0 a P false vs ns a = none := by
  unfold H0
  rw [if_neg h, if_neg (fun z => Bool.noConfusion z.2)]
theorem h0_cases {b : Addr} {u : HO} (h : H0 a P free vs ns b = some u) : (b = P ∧ u = .tbl #[]) ∨ (b = a ∧ b ≠ P ∧ free = true ∧ u = .frz { cls := .type "list", data := .seq vs.toArray } (.lst (ns.map V.int))) := by
  unfold H0 at h
  by_cases h1 : b = P
  · rw [if_pos h1] at h
    exact .inl ⟨h1, (Option.some.inj h).symm⟩
  · rw [if_neg h1] at h
    by_cases h2 : b = a ∧ free = true
    · rw [if_pos h2] at h
      exact .inr ⟨h2.1, h1, h2.2, (Option.some.inj h).symm⟩
    · rw [if_neg h2] at h; cases h
end
theorem law_callG {Pg : Program} {w : World} {K : PySem.W.Frag} {mg mb : Str → Option Value} {k : Nat} {fa a c P : Addr} {fd : FuncData} {x : Str} {sp : Sp} {s₁ : Shared} {vs : List Value} {ns : List Int}
    (KX : K.In s₁.heap) (hns : s₁.heap.Ns mainGlobals mg) (hb : s₁.heap.Ns builtinsNs mb) (hbb : ∀ x : Str, x ≠ "__name__" → mb x = bootBuiltins x) (hlim : s₁.heap.NoLimit) (hg : s₁.gens = #[])
    (hT : s₁.heap.get? P = some { cls := .none, data := .fields #[] }) (nT : K.lookup P = none) (C : PySem.W.CodeHd s₁.heap c P)
    (hbm : ∃ (bm : Addr) (ob : Obj), mg "__builtins__" = some (.ref bm) ∧ bm ≠ builtinsNs ∧ s₁.heap.get? bm = some ob ∧ ob.cls = .type "module" ∧ ob.dict = some builtinsNs ∧ ob.data = .plain)
    (hsy : ∃ o, s₁.heap.get? sysModules = some o ∧ o.cls = .type "dict")
    (ha : s₁.heap.get? a = some { cls := .type "list", data := .seq vs.toArray }) (hi : IntsAre vs ns) (hl : ns.length ≤ sizeLine) (hr : Room k callerA)
    (F : ∀ base : Heap, K.In base → base.Ns mainGlobals mg → LamX.TabB base mg c P → SysOk base → FnG Pg w K mg base k fa fd [x] sp) (hbind : ∀ (s : Shared) (u : Value), BindsTo s fd ⟨[u], []⟩ [(x, u)])
    (hsp : ∀ H : Hp, H P = some (.tbl #[]) → a ≠ P → SqL K H a (ns.map V.int) → sp [.ref a] H (fun v _ => v = .bl true) fun _ _ _ => False) :
    codeAny (model Pg w) callerA (.call (.ref fa) ⟨[.ref a], []⟩) (fun r s' => r = .ok (.ret (.bool true)) ∧ OldK s₁.heap s'.heap ∧ s'.os = s₁.os ∧ AllBare s'.gens) s₁ := by
  have rv := vals_ints hi
  have lenV := hi.length
  have aP : a ≠ P := fun z => by
    rw [z, hT] at ha
    have e := congrArg Obj.cls (Option.some.inj ha)
    cases e
  -- whether the script is tracked
  obtain ⟨free, hfree, hSq⟩ : ∃ free : Bool, (free = true → K.lookup a = none) ∧ SqL K (H0 a P free vs ns) a (ns.map V.int) := by
    cases hk : K.lookup a with
    | some o =>
      have e := KX a o hk
      rw [ha] at e
      cases e
      exact ⟨false, fun z => Bool.noConfusion z, .inr ⟨_, vs.toArray, _, hk, rfl, rfl, rfl, by rw [List.size_toArray, lenV]; exact hl, by simpa using rv⟩⟩
    | none => exact ⟨true, fun _ => rfl, .inl (.inr ⟨_, h0_a aP⟩)⟩
  have hP : H0 a P free vs ns P = some (.tbl #[]) := h0_P
  generalize hH : H0 a P free vs ns = H at hSq hP
  have at_ : ∀ {b : Addr} {u : HO}, H b = some u → (b = P ∧ u = .tbl #[]) ∨ (b = a ∧ b ≠ P ∧ free = true ∧ u = .frz { cls := .type "list", data := .seq vs.toArray } (.lst (ns.map V.int))) := fun {b u} h => by
    rw [← hH] at h
    exact h0_cases h
  have hok : HOk Pg w H s₁.heap := fun b u z => by
    rcases at_ z with ⟨rfl, rfl⟩ | ⟨rfl, _, _, rfl⟩
    · exact hT
    · exact ⟨ha, by rw [List.length_map]; exact hl, vs, _, rv, ha⟩
  have off : ∀ {b : Addr} {o : Obj}, s₁.heap.get? b = some o → o.cls ≠ .none → o.cls ≠ .type "list" → H b = none := fun {b o} e h1 h2 => by
    cases q : H b with
    | none => rfl
    | some u =>
      rcases at_ q with ⟨rfl, _⟩ | ⟨rfl, _⟩
      · rw [hT] at e; cases e; exact (h1 rfl).elim
      · rw [ha] at e; cases e; exact (h2 rfl).elim
  have offD : ∀ {b : Addr} {o : Obj}, s₁.heap.get? b = some o → (∀ vs n, o.data ≠ .seq vs n) → o.data ≠ .fields #[] → H b = none := fun {b o} e h1 h2 => by
    cases q : H b with
    | none => rfl
    | some u =>
      rcases at_ q with ⟨rfl, _⟩ | ⟨rfl, _⟩
      · rw [hT] at e; cases e; exact (h2 rfl).elim
      · rw [ha] at e; cases e; exact (h1 _ _ rfl).elim
  have get : ∀ {b : Addr} {o : Obj}, s₁.heap.get? b = some o → H b = none → (hidT s₁.heap H).get? b = some o := fun e n => hidT_get e n
  have nsK : ∀ {b : Addr} {m : Str → Option Value}, s₁.heap.Ns b m → (hidT s₁.heap H).Ns b m := fun {b m} ⟨o, es, ep, e, d, r⟩ => ⟨o, es, ep, get e (offD e (fun vs n z => by rw [d] at z; cases z) (fun z => by rw [d] at z; cases z)), d, r⟩
  have hKb : K.In (hidT s₁.heap H) := fun b o e => get (KX b o e) (by
    cases q : H b with
    | none => rfl
    | some u =>
      rcases at_ q with ⟨rfl, _⟩ | ⟨rfl, _, f, _⟩
      · rw [nT] at e; cases e
      · rw [hfree f] at e; cases e)
  have hM : L2.Mod K mg (hidT s₁.heap H) := ⟨hKb, nsK hns, ⟨mb, nsK hb, hbb⟩, let ⟨mc, h1, h2⟩ := hlim; ⟨mc, nsK h1, h2⟩⟩
  have TB : LamX.TabB (hidT s₁.heap H) mg c P := by
    refine ⟨?_, ?_, fun z => ?_⟩
    · obtain ⟨o, us, file, tf, flags, tg, inF, text, tt, e1, r1, r2, r3, r4, r5, r6, r7, r8, hne⟩ := C
      exact ⟨o, us, file, tf, flags, tg, inF, text, tt, get e1 (offD e1 (fun vs n z => by rw [r2] at z; cases z) fun z => by rw [r2] at z; cases z; simp at r3), r1, r2, r3, r4, r5, r6, r7, r8, hne⟩
    · obtain ⟨bm, ob, b1, b2, b3, b4, b5, b6⟩ := hbm
      have n0 : H bm = none := off b3 (by rw [b4]; simp) (by rw [b4]; decide)
      refine ⟨bm, ob, b1, b2, fun q => ?_, fun q => ?_, get b3 n0, b4, b5, b6⟩
      · obtain ⟨o, es, ep, e, hd, _⟩ := hns
        rw [q, e] at b3
        cases b3
        rw [hd] at b6
        cases b6
      · rw [q, hT] at b3
        cases b3
        cases b6
    · obtain ⟨o, es, ep, e, hd, _⟩ := hns
      rw [z, hT] at e
      cases e
      cases hd
  have sys : SysOk (hidT s₁.heap H) := by
    obtain ⟨o, ho, hc⟩ := hsy
    exact ⟨o, get ho (off ho (by rw [hc]; simp) (by rw [hc]; decide)), by rw [hc]; decide⟩
  have e0 : Env0 Pg w K mg (hidT s₁.heap H) callerA [] s₁ H := ⟨rfl, hM, fun b o e => of_hidT e, Nat.le_of_eq (hidT_size _ _), trivial, fun b hb => absurd (show b ∈ ([] : List Addr) from hb) (by simp), hok, .of_eq hg⟩
  refine codeAny_mono ((F _ hKb (nsK hns) TB sys).run callerA [] s₁ H ⟨[.ref a], []⟩ [.ref a] [.ref a] _ _ hr rfl e0 (hbind s₁ (.ref a)) (.cons rfl .nil) (hsp H hP aP hSq)) fun r s' h => ?_
  cases r with
  | error e => exact (show False from h).elim
  | ok fl =>
    cases fl with
    | next => exact False.elim h
    | brk => exact False.elim h
    | cont => exact False.elim h
    | ret u =>
      obtain ⟨v, H', os, bare, un, hok', r', q⟩ := h
      have q' : v = .bl true := q
      subst q'
      obtain rfl : u = Value.bool true := r'
      have key : ∀ b o, b ≠ P → s₁.heap.get? b = some o → s'.heap.get? b = some o := fun b o nb e => by
        cases q : H b with
        | none => exact un.keep b o e q (by intro z; exact absurd (show b ∈ ([] : List Addr) from z) (by simp)) (by simp)
        | some u =>
          rcases at_ q with ⟨z, _⟩ | ⟨_, _, _, rfl⟩
          · exact (nb z).elim
          · have z2 := un.frzs b _ _ q
            obtain ⟨e1, _⟩ := hok b _ q
            obtain ⟨e2, _⟩ := hok' b _ z2
            rw [e] at e1; cases e1
            exact e2
      obtain ⟨more, z⟩ := un.tbls P #[] hP
      have grown : s'.heap.get? P = some { cls := .none, data := .fields (#[] ++ more) } := hok' P _ z
      refine ⟨rfl, ⟨fun b o e => ?_, fun b o e => ?_⟩, os, bare⟩
      · by_cases hb : b = P
        · subst hb
          rw [hT] at e
          cases e
          exact .inr (.inl ⟨(C.tab hT).isCodeTable, rfl, #[], more, rfl, grown⟩)
        · exact .inl (key b o hb e)
      · by_cases hb : b = P
        · subst hb
          exact ⟨_, grown⟩
        · exact ⟨o, key b o hb e⟩
/-- what is known of the law's promise behind the top -/
def LawAtG (l : PySem.W.OpenLaw) (w : World) (k n : Nat) (x : Str) (mg : Str → Option Value) (fa : Addr) (h : Heap) : Prop :=
  ∃ (K : PySem.W.Frag) (fd : FuncData) (c P : Addr) (sp : Sp), K.In h ∧ h.get? P = some { cls := .none, data := .fields #[] } ∧ K.lookup P = none ∧ PySem.W.CodeHd h c P ∧ (∃ o, h.get? sysModules = some o ∧ o.cls = .type "dict") ∧ (∀ (s : Shared) (u : Value), BindsTo s fd ⟨[u], []⟩ [(x, u)]) ∧
    (∀ (H : Hp) (a : Addr) (ns : List Int), ns.length ≤ n → H P = some (.tbl #[]) → a ≠ P → SqL K H a (ns.map V.int) → sp [.ref a] H (fun v _ => v = .bl true) fun _ _ _ => False) ∧
    ∀ base : Heap, K.In base → base.Ns mainGlobals mg → LamX.TabB base mg c P → SysOk base → FnG l.prog w K mg base k fa fd [x] sp
theorem walk_ofG {l : PySem.W.OpenLaw} {n k : Nat} {q : Program} {loose : List Str} {XP : (Str → Option Value) → Heap → Prop} {YP : World → Heap → Prop} {d : DefRec} {x : Str}
    (hn : l.most = some n) (hn2 : n ≤ sizeLine) (hdf : d.params.defaults = []) (hr : Room k callerA)
    (F : ∀ (w : World) (mg : Str → Option Value) (fa : Addr) (h : Heap), YP w h → h.Ns mainGlobals mg → mg d.name = some (.ref fa) → LawAtG l w k n x mg fa h) :
    PySem.W.WalkO q loose XP YP l.row.toRowW d [] (fun f vs => PySem.call f vs) := by
  refine _root_.Att.attach_callB hn hdf fun w s₀ s₁ mg mb fa o pm cd doc a vs ns G Y ho hd hcd hmg hobj hints hlen hbits hg => ?_
  obtain ⟨K, fd, c, P, sp, KX, hT, nT, C, hsy, hb, hsp, hF⟩ := F w mg fa _ Y G.T.g hmg
  exact law_callG KX G.T.g G.T.b G.T.builtins G.T.nolimit hg hT nT C G.T.bmain hsy hobj hints (Nat.le_trans hlen hn2) hr hF hb fun H => hsp H a ns hlen
/-- the ledger at the start -/
theorem start_hs {K : PySem.W.Frag} {H : Hp} {a P : Addr} {ns : List Int} {q : Str} (hP : H P = some (.tbl #[])) (aP : a ≠ P) (h : SqL K H a (ns.map V.int)) : Hs K H [.tb P q, .da (.ref a) (.list (ns.map .int))] := by
  refine ⟨fun b => if b = a then H a else none, fun b o e => ?_, fun x hx => ?_, fun x hx b hb => ?_, ?_⟩
  · by_cases z : b = a
    · subst z; rw [if_pos rfl] at e; exact e
    · rw [if_neg z] at e; cases e
  · have hx' : x = .tb P q ∨ x = .da (.ref a) (.list (ns.map .int)) := by simpa using hx
    rcases hx' with rfl | rfl
    · exact ⟨#[], hP, True.intro, fun pos cv hc => by simp [codeAmong] at hc⟩
    · refine .lst ?_ (ints_dps ns)
      rcases h with (h | ⟨o, h⟩) | h
      · exact .inl (.inl ((if_pos rfl).trans h))
      · exact .inl (.inr ⟨o, (if_pos rfl).trans h⟩)
      · exact .inr h
  · have hx' : x = .tb P q ∨ x = .da (.ref a) (.list (ns.map .int)) := by simpa using hx
    rcases hx' with rfl | rfl
    · cases hb
      exact if_neg (Ne.symm aP)
    · cases hb
  · exact List.pairwise_cons.mpr ⟨fun y hy b e1 e2 => (by have : y = .da (.ref a) (.list (ns.map .int)) := by simpa using hy
                                                          subst this; cases e2), List.pairwise_singleton _ _⟩
end Lg
/-! What the head tells: defs, classes of exceptions, the law's code table, sys.modules. -/
namespace Lg
open PySem PySem.Spec PyProof.Rows L2
/-- an exception class at C under D under Exception -/
def exClsB (K : PySem.W.Frag) (C D : Addr) : Bool := match K.lookup C with
  | some ⟨.type "type", _, .cls cd, sl⟩ => (match cd.mro, sl.toList with
    | [.ref C', .ref D', .type x, .type y, .type z], [_, _, _, _, some (.builtin n), _] => C' == C && D' == D && x == "Exception" && y == "BaseException" && z == "object" && n == "Exception.__new__" && !cd.hasDel && cd.hasDict
    | _, _ => false)
  | _ => false
theorem exCls_of {K : PySem.W.Frag} {C D : Addr} (q : exClsB K C D = true) : ∃ nm qn N bs sn sub ab col dd k0 k1 k2 k3 k5, K.lookup C = some (PySem.excClassObj nm qn C N bs (.ref D :: PySem.ESX.exTail) true sn sub ab col dd k0 k1 k2 k3 k5 "Exception.__new__") := by
  unfold exClsB at q
  split at q
  · rename_i dd cd sl ho
    split at q
    · rename_i C' D' x y z k0 k1 k2 k3 n k5 hm hs
      simp only [Bool.and_eq_true, beq_iff_eq, Bool.not_eq_true'] at q
      obtain ⟨⟨⟨⟨⟨⟨⟨rfl, rfl⟩, rfl⟩, rfl⟩, rfl⟩, rfl⟩, hdel⟩, hdct⟩ := q
      obtain ⟨nm, bs, mro, ns, qn, hd, sn, sub, ab, col, del⟩ := cd
      dsimp only at hm hdel hdct
      subst hm hdel hdct
      have hsl : sl = #[k0, k1, k2, k3, some (.builtin "Exception.__new__"), k5] := by
        obtain ⟨l⟩ := sl
        simp only at hs
        rw [hs]
      subst hsl
      exact ⟨nm, qn, ns, bs, sn, sub, ab, col, dd, k0, k1, k2, k3, k5, ho⟩
    · cases q
  · cases q
/-- all that is asked of the class x under d -/
def exB (K : PySem.W.Frag) (x d : Str) : Bool :=
  let C := He.ga K x
  let f := He.ma K C "__init__"
  exClsB K C (He.ga K d) && He.eqO (PySem.W.findIn K (.ref C) "__setattr__") (some (some (.builtin "object.__setattr__"))) && He.eqO (PySem.W.findIn K (.ref C) "__getattribute__") (some (some (.builtin "BaseException.__getattribute__"))) &&
  He.eqO (PySem.W.findIn K (.ref C) "__getattr__") (some none) && He.eqO (PySem.W.findIn K (.ref C) "thing") (some none) && He.eqO (PySem.W.findIn K (.ref C) "__init__") (some (some (.ref f))) && decide (PySem.W.typeIn K (.ref f) = some (.type "function")) &&
  PySem.W.keepIn K (.ref C) && decide (PySem.W.subIn K (.ref C) (.type "BaseException") = some true) && decide (PySem.W.typeIn K (.ref C) = some (.type "type")) && PySem.W.hasDictIn K C &&
  He.eqO (PySem.W.findIn K (.ref C) "__class__") (some (some (.builtin "object.__class__"))) && decide (PySem.W.specialIn K (.builtin "object.__class__") "__get__" = some (some (.builtin "getset_descriptor.__get__"))) && decide (PySem.W.takesIn K (.builtin "object.__class__") = some true) && decide (PySem.W.mroIn K C (.type "object") = some true)
structure ExFacts (K : PySem.W.Frag) (x d : Str) : Prop where
  cls : exClsB K (He.ga K x) (He.ga K d) = true
  sa : PySem.W.findIn K (.ref (He.ga K x)) "__setattr__" = some (some (.builtin "object.__setattr__"))
  ga : PySem.W.findIn K (.ref (He.ga K x)) "__getattribute__" = some (some (.builtin "BaseException.__getattribute__"))
  gg : PySem.W.findIn K (.ref (He.ga K x)) "__getattr__" = some none
  noN : PySem.W.findIn K (.ref (He.ga K x)) "thing" = some none
  iC : PySem.W.findIn K (.ref (He.ga K x)) "__init__" = some (some (.ref (He.ma K (He.ga K x) "__init__")))
  tC : PySem.W.typeIn K (.ref (He.ma K (He.ga K x) "__init__")) = some (.type "function")
  kC : PySem.W.keepIn K (.ref (He.ga K x)) = true
  exC : PySem.W.subIn K (.ref (He.ga K x)) (.type "BaseException") = some true
  tyC : PySem.W.typeIn K (.ref (He.ga K x)) = some (.type "type")
  hdC : PySem.W.hasDictIn K (He.ga K x) = true
  ha : PySem.W.findIn K (.ref (He.ga K x)) "__class__" = some (some (.builtin "object.__class__"))
  hn : PySem.W.specialIn K (.builtin "object.__class__") "__get__" = some (some (.builtin "getset_descriptor.__get__"))
  ht : PySem.W.takesIn K (.builtin "object.__class__") = some true
  hm : PySem.W.mroIn K (He.ga K x) (.type "object") = some true
theorem exB_ok {K : PySem.W.Frag} {x d : Str} (h : exB K x d = true) : ExFacts K x d := by
  unfold exB at h
  simp only [Bool.and_eq_true] at h
  obtain ⟨⟨⟨⟨⟨⟨⟨⟨⟨⟨⟨⟨⟨⟨h1, h2⟩, h3⟩, h4⟩, h5⟩, h6⟩, h7⟩, h8⟩, h9⟩, h10⟩, h11⟩, h12⟩, h13⟩, h14⟩, h15⟩ := h
  exact ⟨h1, He.eqO_ok h2, He.eqO_ok h3, He.eqO_ok h4, He.eqO_ok h5, He.eqO_ok h6, of_decide_eq_true h7, h8, of_decide_eq_true h9, of_decide_eq_true h10, h11, He.eqO_ok h12, of_decide_eq_true h13, of_decide_eq_true h14, of_decide_eq_true h15⟩
theorem ExFacts.txt {K : PySem.W.Frag} {x d qi : Str} {mg : Str → Option Value} (f : ExFacts K x d) (g : mg x = some (.ref (He.ga K x))) {fd : FuncData} {p1 p2 q1 q2 q3 q4 : Pos} (F : FunD K "__init__" qi (PySem.LgXc.iA p1 p2) (PySem.LgXc.iB q1 q2 q3 q4) PySem.LgXc.iS [] [] (He.ma K (He.ga K x) "__init__") fd) :
    PySem.LgXc.ExTxt K mg x qi (He.ga K x) (He.ga K d) (He.ma K (He.ga K x) "__init__") := by
  obtain ⟨oc, od, dV, kV, doc, pm, an, cdv, ct, osl, rfl, lk, hcd, hdv, hkv⟩ := F.ex
  have e1 : dV = .none := by
    rcases hdv with ⟨_, h⟩ | ⟨h, _⟩
    · exact h
    · exact (h rfl).elim
  subst e1
  exact { gC := g, cls := exCls_of f.cls, sa := f.sa, ga := f.ga, gg := f.gg, noN := f.noN, iC := f.iC, tC := f.tC, kC := f.kC, exC := f.exC, tyC := f.tyC, hdC := f.hdC, fn := ⟨oc, od, kV, doc, pm, an, cdv, ct, osl, p1, p2, q1, q2, q3, q4, lk, hcd⟩ }
/-- a def without defaults -/
theorem fun_of {K : PySem.W.Frag} {x qual : Str} {st : Stmt} {f : Addr} {fd : FuncData} (F : FunD K x qual (defArgs st) (defBody st) (defScope st) [] [] f fd) : Fun K x qual st f fd := by
  obtain ⟨oc, od, dV, kV, doc, pm, an, cdv, ct, osl, e, lk, hcd, hdv, hkv⟩ := F.ex
  have e1 : dV = .none := by
    rcases hdv with ⟨_, h⟩ | ⟨h, _⟩
    · exact h
    · exact (h rfl).elim
  subst e1
  exact ⟨⟨oc, od, kV, doc, pm, an, cdv, ct, osl, e, lk, hcd⟩, F.kp⟩
theorem ExFacts.exc {K : PySem.W.Frag} {x d : Str} (f : ExFacts K x d) : ExcC K (He.ga K x) := ⟨f.ga, f.gg, f.exC, f.hdC, f.ha, f.hn, f.ht, f.hm⟩
def sysB (g : Addr → Option Obj) : Bool := match g sysModules with
  | some ⟨.type c, _, _, _⟩ => decide (c = "dict")
  | _ => false
theorem sysB_ok {g : Addr → Option Obj} (h : sysB g = true) : ∃ o, g sysModules = some o ∧ o.cls = .type "dict" := by
  unfold sysB at h
  split at h
  · rename_i c _ _ _ e
    exact ⟨_, e, by rw [of_decide_eq_true h]⟩
  · cases h
def hookG (n : Nat) (fa : List He.Fa) (fn : List He.DefD) (tf : List He.Defn) (ex : PySem.W.Frag → Bool) : PySem.W.Hook where
  α := He.AlX × Bool
  obs := fun s => (He.obsX n fa fn [] tf ex s.heap.get?, sysB s.heap.get?)
  val := fun w => (He.valX fn [] w, true)
  says := fun w h => (∃ K : PySem.W.Frag, K.In h ∧ He.SaysX fa fn [] tf ex w h K) ∧ ∃ o, h.get? sysModules = some o ∧ o.cls = .type "dict"
  of := fun _ _ e => ⟨⟨_, He.frT_in, He.saysX_of (congrArg (fun z : He.AlX × Bool => z.1) e)⟩, sysB_ok (congrArg (fun z : He.AlX × Bool => z.2) e)⟩
  keeps := fun _ _ _ ⟨⟨K, hK, c⟩, o, ho, hc⟩ k => ⟨⟨K, PySem.W.Frag.In.keeps hK k, ⟨c.t, c.more, c.hd, c.out, fun p hp => k _ _ (c.empty p hp)⟩⟩, o, k _ _ ho, hc⟩
theorem obG_eq {n : Nat} {fa : List He.Fa} {fn : List He.DefD} {tf : List He.Defn} {ex : PySem.W.Frag → Bool} {g : Addr → Option Obj} {s : Shared} (h : ∀ a, g a = s.heap.get? a) : (He.obsX n fa fn [] tf ex g, sysB g) = (hookG n fa fn tf ex).obs s := by
  have e : g = s.heap.get? := funext h
  rw [e] <;> rfl
end Lg
/-! set(t) of a tuple, by any reading of the loop; dict(xs) of pairs whose keys are tuples; sorted(set(t)). -/
namespace Lg
open PySem PySem.Spec PyProof.Rows L2
section
variable {P : Program} {w : World} {A : Around} {E : Value → Shared → Prop} {s : Shared}
/-- a new set, as it is made -/
abbrev newSetO (w : World) : Obj := { cls := .type "set", dict := none, data := .set #[] 0 (.fresh 0 0 (!w.params.followText "set-order")) }
abbrev newItO (l : Addr) : Obj := { cls := .type "tuple_iterator", data := .fields #[.ref l, .int 0 0] }
abbrev setHeap (w : World) (h : Heap) : Heap := h.push (newSetO w)
abbrev setHeap2 (w : World) (h : Heap) (l : Addr) : Heap := (setHeap w h).push (newItO l)
/-- set(t), t a tuple: by what the loop does -/
theorem set_of_tuple {l : Addr} {items : Array Value} {Q : Value → Shared → Prop} (hh : A.handled = none) (hl : s.heap.IsTuple l items) (Z : Heap → Prop)
    (loop : ∀ (B : Around) (R : Result → Shared → Prop), B.handled = none → B.units ≤ A.units + 3 → (∀ h' tk, Z h' → (∀ b o, s.heap.get? b = some o → h'.get? b = some o) → R (.ok (.ret .none)) { s with heap := h', toks := tk }) →
      codeAny (model P w) B (.builtin "set.update.loop" ⟨[.ref s.heap.objs.size, .ref (setHeap w s.heap).objs.size], []⟩) R { s with heap := setHeap2 w s.heap l })
    (h : ∀ (h' : Heap) (tk : Nat), Z h' → (∀ b o, s.heap.get? b = some o → h'.get? b = some o) → Q (.ref s.heap.objs.size) { s with heap := h', toks := tk }) :
    wpAny (model P w) A (call (.type "set") [.ref l]) Q E s := by
  obtain ⟨cc, tl', hmro⟩ := PySem.F.called_set.mro
  have q1 := PySem.F.called_set.made; have q2 := PySem.F.called_set.sub
  refine wpAny_call (codeAny_of_tree ?_); show wpAny _ _ (callAny (.type "set") _) _ _ _
  refine wpAny_pure ⟨PySem.Code.quiet_builtin _ (by decide +kernel), codeAny_builtin PySem.F.entry_type_call ?_⟩
  rw [Around.under_plain (weight_type_call_type "set" [.ref l] []) rfl]
  have q3 := PySem.F.called_set.notType; have q4 := PySem.F.called_set.canCreate; have q5 := PySem.F.typeCall_set_1 (.ref l)
  repeat (any_goals (first | assumption | wp_step))
  refine codeAny_mono (code_set_led1 (.ref l) (E := E) (Q₁ := fun ob s₁ => ob = .ref s.heap.objs.size ∧ s₁ = { s with heap := setHeap w s.heap }) ⟨rfl, rfl⟩) fun r s₁ hr => ?_
  cases r with
  | error e => exact hr
  | ok fl =>
    cases fl with
    | ret ob =>
      obtain ⟨rfl, rfl⟩ := hr
      have gS : (setHeap w s.heap).get? s.heap.objs.size = some (newSetO w) := Heap.get?_push_size _ rfl
      have tS : Shared.TypeIs { s with heap := setHeap w s.heap } (.ref s.heap.objs.size) "set" := ⟨_, gS, rfl⟩
      have q6 := PySem.F.called_set.init.lookup; have q7 := PySem.F.called_set.init.bind (.ref s.heap.objs.size)
      repeat (any_goals (first | assumption | wp_step))
      refine codeAny_mono (codeAny_call_builtin (R := wants (fun r s₂ => r = .none ∧ ∃ h' tk, s₂ = { s with heap := h', toks := tk } ∧ Z h' ∧ ∀ b o, s.heap.get? b = some o → h'.get? b = some o) E) PySem.F.called_set.init.plain PySem.F.entry_set_init (check_set_init_1 tS ?_)) fun r₂ s₂ hr₂ => ?_
      · obtain ⟨⟨ocls, odict, odata, oslots⟩, hol, hcl, nl, hdl⟩ := hl
        simp only at hcl hdl; subst hcl hdl
        have hol' : (setHeap w s.heap).get? l = some { cls := .type "tuple", dict := odict, data := .seq items nl, slots := oslots } := Heap.get?_push_of_some _ hol
        have q8 := PySem.F.sub_tuple_set; have q9 := PySem.F.sub_tuple_frozenset
        have q0 : (Value.type "tuple" == Value.type "dict") = false := by decide
        have hl1 : (setHeap w s.heap).IsTuple l items := ⟨_, hol', rfl, nl, rfl⟩
        unfold Builtin.«set.__init__» noKeywords Builtin.Frozenset.updateFrom
        generalize hPI : pyIter = PI; wp_walk; subst hPI
        refine wpAny_pyIter_tuple hl1 (wpAny_bind (wpAny_runValue ?_))
        refine loop _ _ (by simp [hh]) (by first | exact Nat.le_refl _ | (simp; done) | (simp; omega)) fun h' tk hz hk => ?_
        show wpAny _ _ _ _ _ _
        refine wpAny_pure ?_
        show wpAny _ _ (ret Value.none) _ _ _
        exact wpAny_pure ⟨rfl, h', tk, rfl, hz, hk⟩
      · cases r₂ with
        | error e => exact hr₂
        | ok fl₂ =>
          cases fl₂ with
          | ret r =>
            obtain ⟨rfl, h', tk, rfl, hz, hk⟩ := hr₂
            repeat (any_goals (first | assumption | wp_step))
            exact h _ _ hz hk
          | _ => exact hr₂.elim
    | _ => exact hr.elim
/-- set(t), t a tuple of tuples of ints, fewer than 64 -/
theorem set_tupT {l : Addr} {items : Array Value} (ks : List (Addr × List Int)) {Q : Value → Shared → Prop} (hh : A.handled = none) (hl : s.heap.IsTuple l items) (hit : items.toList = ks.map fun p => Value.ref p.1)
    (hk : ∀ p ∈ ks, IsT P w s.heap p.2 p.1) (hfew : ks.length < 64) (hu : A.units + 5 < cLine)
    (h : ∀ (h' : Heap) (tk : Nat) L es ep t, SetTR P w h' s.heap.objs.size L es ep t → Got ks ks.length L → (∀ b o, s.heap.get? b = some o → h'.get? b = some o) → Q (.ref s.heap.objs.size) { s with heap := h', toks := tk }) :
    wpAny (model P w) A (call (.type "set") [.ref l]) Q E s := by
  have isz : items.size = ks.length := by
    have := congrArg List.length hit
    rwa [Array.length_toList, List.length_map] at this
  refine set_of_tuple hh hl (fun h' => ∃ L es ep t, SetTR P w h' s.heap.objs.size L es ep t ∧ Got ks ks.length L) (fun B R hB uB hR => ?_) fun h' tk ⟨L, es, ep, t, z1, z2⟩ kk => h h' tk L es ep t z1 z2 kk
  have lt : l < s.heap.objs.size := let ⟨_, ho, _⟩ := hl; Heap.lt_size ho
  have sz : (setHeap w s.heap).objs.size = s.heap.objs.size + 1 := Heap.size_push ..
  have ne : l ≠ (setHeap w s.heap).objs.size := by rw [sz]; exact Nat.ne_of_lt (Nat.lt_succ_of_lt lt)
  have nf : s.heap.objs.size ∉ [(setHeap w s.heap).objs.size, l] := by
    rw [sz]
    intro z
    simp only [List.mem_cons, List.not_mem_nil, or_false] at z
    exact z.elim (fun e => Nat.ne_of_lt (Nat.lt_succ_self _) e) fun e => Nat.ne_of_gt lt e
  have non : ∀ b, s.heap.objs.size ≤ b → s.heap.get? b = none := fun b hb => by
    cases q : s.heap.get? b with
    | none => rfl
    | some o => exact absurd (Nat.lt_of_lt_of_le (Heap.lt_size q) hb) (Nat.lt_irrefl _)
  have val : ∀ (i : Nat) (v : Value), items[i]? = some v → ∃ p, ks[i]? = some p ∧ v = .ref p.1 := fun i v hv => by
    rw [← Array.getElem?_toList, hit, List.getElem?_map] at hv
    cases hq : ks[i]? with
    | none => rw [hq] at hv; cases hv
    | some p => rw [hq] at hv; exact ⟨p, rfl, (Option.some.inj hv).symm⟩
  refine set_update_tups (A := B) ((Walks.tuple (show B.in1.handled = none by simp [hB]) _ l ne items).toS) s.heap.objs.size nf ks isz hfew val s.heap hk (non _ (Nat.le_refl _))
    (fun b hb => non b (by rw [List.mem_singleton.mp hb, sz]; omega)) (by show B.units + 1 < cLine; omega) (items.size - 0) 0 _ (by omega) (Nat.zero_le _) ⟨⟨_, Heap.get?_push_size _ rfl, rfl, rfl⟩, (hl.push _).push _⟩
    (fun b o e => Heap.get?_push_of_some _ (Heap.get?_push_of_some _ e)) ⟨[], #[], 0, _, setTR_fresh (Heap.get?_push_of_some _ (Heap.get?_push_size _ rfl)), Got.zero ks⟩ fun s' L es ep t hm hS g hkp => ?_
  obtain ⟨h', g2, d', tk', os'⟩ := s'
  cases (show g2 = s.gens from hm.gens); cases (show d' = s.drawn from hm.drawn); cases (show os' = s.os from hm.os)
  exact hR h' tk' ⟨L, es, ep, t, hS, by rw [← isz]; exact g⟩ hkp
end

/-! ### dict(xs), the keys tuples -/
section
variable {X : Cx} {pins : List (Addr × Obj)} {σ : L2.St} {H : Hp} {s : Shared}
abbrev KB := List Key × Addr × V
def putAll (qs : List KB) : List (List Key × V) := qs.foldl (fun acc q => putK acc q.1 q.2.2) []
def rDictT (K : PySem.W.Frag) : List V → Hp → VK → Prop := fun xs H Q => ∃ (a : Addr) (ps : List Addr) (qs : List KB), xs = [.ref a] ∧ SqL K H a (ps.map V.ref) ∧ Paired (fun p (q : KB) => SqT K H p [.ref q.2.1, q.2.2] ∧ H q.2.1 = some (.tup (q.1.map kV))) ps qs ∧
  ∀ p, H p = none → Q (.ref p) (upd H p (.dT (putAll qs)))
theorem pairsT_of (I : Inv X pins σ H s) : ∀ {ps : List Addr} {qs : List KB}, Paired (fun p (q : KB) => SqT X.K H p [.ref q.2.1, q.2.2] ∧ H q.2.1 = some (.tup (q.1.map kV))) ps qs →
    ∃ rs : List (List Key × Addr × Value), Paired (fun (q : KB) (r : List Key × Addr × Value) => q.1 = r.1 ∧ q.2.1 = r.2.1 ∧ H r.2.1 = some (.tup (q.1.map kV)) ∧ RelV q.2.2 r.2.2) qs rs ∧ rs.length = ps.length ∧
      ∀ (j : Nat) r, rs[j]? = some r → ∃ p, ps[j]? = some p ∧ s.heap.IsTuple p #[.ref r.2.1, r.2.2]
  | _, _, .nil => ⟨[], .nil, rfl, fun j r e => by simp at e⟩
  | _, _, .cons (a := p) (b := q) h t => by
    obtain ⟨rs, r1, r2, r3⟩ := pairsT_of I t
    obtain ⟨its, rv, ht, _⟩ := I.tuple h.1
    obtain ⟨u, y, ei, ru, ry⟩ := vals2 rv
    subst ei
    cases (show u = Value.ref q.2.1 from ru)
    refine ⟨(q.1, q.2.1, y) :: rs, .cons ⟨rfl, rfl, h.2, ry⟩ r1, by rw [List.length_cons, List.length_cons, r2], fun j r e => ?_⟩
    cases j with
    | zero =>
      cases (show (q.1, q.2.1, y) = r from Option.some.inj e)
      exact ⟨p, rfl, ht⟩
    | succ j =>
      obtain ⟨b, e1, e2⟩ := r3 j r (by simpa using e)
      exact ⟨b, by simpa using e1, e2⟩
theorem kt_all : ∀ {qs : List KB} {rs : List (List Key × Addr × Value)} {kvs : List (List Key × V)} {xs : List (List Key × Addr × Value)}, Paired (fun (q : KB) (r : List Key × Addr × Value) => q.1 = r.1 ∧ q.2.1 = r.2.1 ∧ H r.2.1 = some (.tup (q.1.map kV)) ∧ RelV q.2.2 r.2.2) qs rs → KT H kvs xs →
    KT H (qs.foldl (fun acc q => putK acc q.1 q.2.2) kvs) (storedAllH xs rs)
  | _, _, _, _, .nil, k => k
  | _, _, _, _, .cons (a := q) (b := r) h t, k => by
    obtain ⟨h1, h2, h3, h4⟩ := h
    show KT H (List.foldl _ (putK _ q.1 q.2.2) _) (storedAllH (storedH _ r.1 r.2.1 r.2.2) _)
    refine kt_all t ?_
    rw [← h1]
    exact KT.put k q.1 h3 h4
theorem keysT_of (I : Inv X pins σ H s) : ∀ {qs : List KB} {rs : List (List Key × Addr × Value)}, Paired (fun (q : KB) (r : List Key × Addr × Value) => q.1 = r.1 ∧ q.2.1 = r.2.1 ∧ H r.2.1 = some (.tup (q.1.map kV)) ∧ RelV q.2.2 r.2.2) qs rs → ∀ x ∈ rs, (tupleKind (mixKind X.prog X.w)).is s.heap x.1 x.2.1
  | _, _, .nil => fun x hx => by cases hx
  | _, _, .cons h t => fun x hx => by
    rcases List.mem_cons.mp hx with rfl | hx
    · exact key_of I.hok (by rw [← h.1]; exact h.2.2.1)
    · exact keysT_of I t x hx
theorem kt_len {kvs : List (List Key × V)} {xs : List (List Key × Addr × Value)} (h : KT H kvs xs) : kvs.length = xs.length := Paired.length h
theorem call_dictT (hc : X.calm = true) (hu : X.A.units + 5 < cLine) : CallR X (.type "dict") (rDictT X.K) := by
  intro pins s σ H xs us Q I r q
  obtain ⟨a, ps, qs, rfl, hq, hp, q⟩ := q
  rw [Vals.ref1 r]
  obtain ⟨its, rv, pl, hz⟩ := I.list hq
  have ei := refs_at rv
  subst ei
  rw [List.length_map] at hz
  obtain ⟨rs, rel, hl, hpr⟩ := pairsT_of I hp
  obtain ⟨o, n, ho, hcl, hd, hdat⟩ := pl
  have key := keysT_of I rel
  have kt := kt_all (kvs := []) (xs := []) rel .nil
  refine call_dict_pairsH (knd := tupleKind (mixKind X.prog X.w)) (ps := rs) (PairArg.list (prog := X.prog) (w := X.w) a (ps.map Value.ref).toArray (fun j => ps.getD j 0) (rs.map fun r => (.ref r.2.1, r.2.2))) (I.ok.hd hc) (tupleKind_room_in1 (by show X.A.in1.units + 1 < cLine; show X.A.units + 1 + 1 < cLine; omega))
    ⟨⟨o, n, ho, hcl, hd, hdat⟩, by simp [hl], fun j k v e => ?_⟩ ⟨by rw [List.length_map], fun i k v e => ?_⟩ (fun h' hk x hx => ?_) (by rw [List.length_map, hl]; exact hz) fun h' tk hd' hk => ?_
  · rw [List.getElem?_map] at e
    cases er : rs[j]? with
    | none => rw [er] at e; cases e
    | some r =>
      rw [er] at e
      have e' : (Value.ref r.2.1, r.2.2) = (k, v) := Option.some.inj e
      cases e'
      obtain ⟨p, e1, e2⟩ := hpr j r er
      have ej : ps.getD j 0 = p := by rw [List.getD_eq_getElem?_getD, e1]; rfl
      exact ⟨by simp [e1], .inl (by show s.heap.IsTuple (ps.getD j 0) _; rw [ej]; exact e2)⟩
  · have e' : (rs.map fun r => (Value.ref r.2.1, r.2.2))[i]? = some (k, v) := e
    rw [List.getElem?_map] at e'
    cases er : rs[i]? with
    | none => rw [er] at e'; cases e'
    | some r =>
      rw [er] at e'
      have e2 : (Value.ref r.2.1, r.2.2) = (k, v) := Option.some.inj e'
      cases e2
      exact ⟨r.1, r.2.1, rfl, rfl⟩
  · obtain ⟨o', its', n', g1, g2⟩ := key x hx
    exact ⟨o', its', n', hk _ _ (Nat.ne_of_lt (Heap.lt_size g1)) (by simp) g1, g2⟩
  · have hm : (s.heap.objs.size == sysModules) = false := beq_eq_false_iff_ne.mpr (Nat.ne_of_gt I.big)
    have k' : ∀ b o, s.heap.get? b = some o → h'.get? b = some o := fun b o e => hk b o (by simp) e
    have hlen : (putAll qs).length ≤ sizeLine := by
      have := storedAllH_length rs ([] : List (List Key × Addr × Value))
      have := kt_len kt
      unfold putAll
      rw [List.length_nil] at *
      omega
    obtain ⟨o2, es, ep, d1, d2, d3, d4, d5, d6⟩ := hd'
    refine ⟨.ref s.heap.objs.size, upd H s.heap.objs.size (.dT (putAll qs)), I.laid (t' := tk) k' (Nat.le_refl _) ?_, rfl, q _ (I.hok.fresh (Nat.le_refl _))⟩
    refine ⟨hlen, hm, storedAllH [] rs, kt.keeps fun b ys e => ?_, o2, es, ep, d1, d2, d3, d4, d6⟩
    rw [upd_ne (fun z => by rw [z, I.hok.fresh (Nat.le_refl _)] at e; cases e)]
    exact e
end
end Lg
/-! Ledgers: dict(xs) of pairs, sorted(set(t)). -/
namespace Lg
open PySem PySem.Spec PyProof.Rows L2
/-! ### dict(xs) -/
def rDictK (K : PySem.W.Frag) : List V → Hp → VK → Prop := fun xs H Q => ∃ (a : Addr) (ps : List Addr) (kvs : List (Key × V)), xs = [.ref a] ∧ SqL K H a (ps.map V.ref) ∧ Paired (fun p (kv : Key × V) => SqT K H p [kV kv.1, kv.2]) ps kvs ∧
  ∀ p, H p = none → Q (.ref p) (upd H p (.dK (mergeK [] kvs)))
def rDictP (K : PySem.W.Frag) : List V → Hp → VK → Prop := fun xs H Q => rDictK K xs H Q ∨ rDictT K xs H Q
theorem call_dictPP {X : Cx} (hc : X.calm = true) (hu : X.A.units + 100 < cLine) : CallR X (.type "dict") (rDictP X.K) := CallR.or (r := rDictK X.K) (call_dictP hc) (call_dictT hc (by omega))
section
variable {K : PySem.W.Frag} {σ : L2.St} {L L' : List As} {Q : LK} {te : TE} {x y : V} {ds : List PyData} {d : PyData} {T H : Hp}
abbrev KDk := List Key × PyData
def dkT (q : KDk) : PyData := .tuple [.tuple (q.1.map keyD), q.2]
def dkK (q : Key × PyData) : PyData := .tuple [keyD q.1, q.2]
def putAllD {κ : Type} [DecidableEq κ] (qs : List (κ × PyData)) : List (κ × PyData) := qs.foldl (fun acc q => putD acc q.1 q.2) []
theorem dq_key {v : V} {k : Key} (h : Dq K T v (keyD k)) : v = kV k := by cases k <;> (cases h; rfl)
theorem dps_dictT (sub : Sub T H) : ∀ {qs : List KDk} {xs : List V}, DqAll K T xs (qs.map dkT) → ∃ (ps : List Addr) (bs : List KB), xs = ps.map V.ref ∧ Paired (fun p (q : KB) => SqT K H p [.ref q.2.1, q.2.2] ∧ H q.2.1 = some (.tup (q.1.map kV))) ps bs ∧
    Paired (fun (b : KB) (q : KDk) => b.1 = q.1 ∧ Dq K T b.2.2 q.2) bs qs
  | [], xs, h => by cases h; exact ⟨[], [], rfl, .nil, .nil⟩
  | q :: qs, _, h => by
    cases h with
    | cons h1 h2 =>
      obtain ⟨ps, bs, e, p1, p2⟩ := dps_dictT sub h2
      cases h1 with
      | @tup a xs _ ha hd =>
        cases hd with
        | cons k1 hd =>
          cases hd with
          | cons k2 hd =>
            cases hd
            cases k1 with
            | @tup b ys _ hb hk =>
              refine ⟨a :: ps, (q.1, b, _) :: bs, by rw [e]; rfl, .cons ⟨SqT.of (sub _ _ ha), ?_⟩ p1, .cons ⟨rfl, k2⟩ p2⟩
              rw [← dps_keys hk]
              exact sub _ _ hb
theorem kd_foldT : ∀ {bs : List KB} {qs : List KDk} {us : List (List Key × V)} {ws : List KDk}, Paired (fun (b : KB) (q : KDk) => b.1 = q.1 ∧ Dq K T b.2.2 q.2) bs qs → KD K T us ws → KD K T (bs.foldl (fun acc q => putK acc q.1 q.2.2) us) (qs.foldl (fun acc q => putD acc q.1 q.2) ws)
  | _, _, _, _, .nil, k => k
  | _, _, _, _, .cons (a := b) (b := q) h t, k => by
    show KD K T (List.foldl _ (putK _ b.1 b.2.2) _) (List.foldl _ (putD _ q.1 q.2) _)
    refine kd_foldT t ?_
    rw [h.1]
    exact kd_put k h.2
theorem wc_dictT {qs : List KDk} (h : Ls K L x (qs.map dkT)) (q : ∀ p, Q (.ref p) (.dt p (putAllD qs) :: L)) : Wc K (rDictP K) [x] L Q := fun H hs Q0 up => by
  obtain ⟨T, ht⟩ := id hs
  obtain ⟨a, xs, rfl, hq, hd⟩ := h T H ht
  obtain ⟨ps, bs, rfl, p1, p2⟩ := dps_dictT ht.sub hd
  exact .inr ⟨a, ps, bs, rfl, hq, p1, fun p hp => up _ _ _ ⟨T, ht.lay (x := .dt p (putAllD qs)) hp rfl ⟨_, upd_same, kd_foldT p2 .nil⟩⟩ (q p)⟩
theorem dps_dictK (sub : Sub T H) : ∀ {qs : List (Key × PyData)} {xs : List V}, DqAll K T xs (qs.map dkK) → ∃ (ps : List Addr) (bs : List (Key × V)), xs = ps.map V.ref ∧ Paired (fun p (q : Key × V) => SqT K H p [kV q.1, q.2]) ps bs ∧ KD K T bs qs
  | [], xs, h => by cases h; exact ⟨[], [], rfl, .nil, .nil⟩
  | q :: qs, _, h => by
    cases h with
    | cons h1 h2 =>
      obtain ⟨ps, bs, e, p1, p2⟩ := dps_dictK sub h2
      cases h1 with
      | @tup a xs _ ha hd =>
        cases hd with
        | cons k1 hd =>
          cases hd with
          | cons k2 hd =>
            cases hd
            cases dq_key k1
            exact ⟨a :: ps, (q.1, _) :: bs, by rw [e]; rfl, .cons (SqT.of (sub _ _ ha)) p1, .cons ⟨rfl, k2⟩ p2⟩
theorem kd_foldK : ∀ {bs : List (Key × V)} {qs us : List (Key × PyData)} {ws : List (Key × V)}, KD K T bs qs → KD K T ws us → KD K T (bs.foldl (fun acc q => putK acc q.1 q.2) ws) (qs.foldl (fun acc q => putD acc q.1 q.2) us)
  | _, _, _, _, .nil, k => k
  | _, _, _, _, .cons (a := b) (b := q) h t, k => by
    show KD K T (List.foldl _ (putK _ b.1 b.2) _) (List.foldl _ (putD _ q.1 q.2) _)
    refine kd_foldK t ?_
    rw [h.1]
    exact kd_put k h.2
theorem wc_dictK {qs : List (Key × PyData)} (h : Ls K L x (qs.map dkK)) (q : ∀ p, Q (.ref p) (.dk p (putAllD qs) :: L)) : Wc K (rDictP K) [x] L Q := fun H hs Q0 up => by
  obtain ⟨T, ht⟩ := id hs
  obtain ⟨a, xs, rfl, hq, hd⟩ := h T H ht
  obtain ⟨ps, bs, rfl, p1, p2⟩ := dps_dictK ht.sub hd
  exact .inl ⟨a, ps, bs, rfl, hq, p1, fun p hp => up _ _ _ ⟨T, ht.lay (x := .dk p (putAllD qs)) hp rfl ⟨_, upd_same, kd_foldK p2 .nil⟩⟩ (q p)⟩
end
/-! ### what dict(xs) holds -/
theorem valD_put' {κ : Type} [DecidableEq κ] {kvs : List (κ × PyData)} {k k' : κ} {v : PyData} : valD (putD kvs k v) k' = if k' = k then some v else valD kvs k' := by
  unfold putD
  by_cases h : (kvs.any fun kv => decide (kv.1 = k)) = true
  · rw [if_pos h]
    induction kvs with
    | nil => cases h
    | cons q r ih =>
      rw [List.map_cons]
      unfold valD at ih ⊢
      by_cases hq : q.1 = k'
      · by_cases hk : k' = k
        · rw [if_pos hk, if_pos (hq.trans hk), List.find?_cons_of_pos (by exact decide_eq_true hq)]
          rfl
        · rw [if_neg hk, if_neg (fun z => hk (hq.symm.trans z)), List.find?_cons_of_pos (by exact decide_eq_true hq), List.find?_cons_of_pos (by exact decide_eq_true hq)]
      · have hm : (if q.1 = k then (q.1, v) else q).1 ≠ k' := by split <;> exact hq
        rw [List.find?_cons_of_neg (by simpa using hm), List.find?_cons_of_neg (by simpa using hq)]
        by_cases hr : (r.any fun kv => decide (kv.1 = k)) = true
        · exact ih hr
        · have hn : ∀ kv ∈ r, kv.1 ≠ k := fun kv hm e => hr (List.any_eq_true.mpr ⟨kv, hm, decide_eq_true e⟩)
          have e1 : r.map (fun kv => if kv.1 = k then (kv.1, v) else kv) = r := by
            conv => rhs; rw [← List.map_id r]
            exact List.map_congr_left fun kv hm => by rw [if_neg (hn kv hm)]; rfl
          rw [e1]
          have hqk : q.1 = k := by
            rw [List.any_cons, Bool.or_eq_true] at h
            exact h.elim of_decide_eq_true fun z => absurd z hr
          rw [if_neg (fun hk => hq (hqk.trans hk.symm))]
  · have hn : ∀ kv ∈ kvs, kv.1 ≠ k := fun kv hm e => h (List.any_eq_true.mpr ⟨kv, hm, decide_eq_true e⟩)
    rw [if_neg h]
    unfold valD
    rw [List.find?_append]
    by_cases hk : k' = k
    · subst hk
      rw [if_pos rfl, List.find?_eq_none.mpr (fun kv hm => by simpa using hn kv hm)]
      simp
    · rw [if_neg hk, List.find?_cons_of_neg (by simpa using fun e => hk e.symm)]
      simp
theorem putD_len' {κ : Type} [DecidableEq κ] {kvs : List (κ × PyData)} {k : κ} {v : PyData} : (putD kvs k v).length ≤ kvs.length + 1 := by
  unfold putD
  split
  · rw [List.length_map]; omega
  · rw [List.length_append]; exact Nat.le_refl _
theorem fold_val {κ : Type} [DecidableEq κ] (k : κ) : ∀ (qs acc : List (κ × PyData)), valD (qs.foldl (fun acc q => putD acc q.1 q.2) acc) k = ((qs.reverse.find? fun q => decide (q.1 = k)).map (·.2)).or (valD acc k)
  | [], acc => by simp
  | q :: qs, acc => by
    rw [List.foldl_cons, fold_val k qs, List.reverse_cons, List.find?_append, valD_put']
    cases h : qs.reverse.find? fun q => decide (q.1 = k) with
    | some z => simp
    | none =>
      by_cases hk : k = q.1
      · rw [if_pos hk, List.find?_cons_of_pos (by simpa using hk.symm)]
        simp
      · rw [if_neg hk, List.find?_cons_of_neg (by simpa using fun e => hk e.symm)]
        simp
theorem putAllD_val {κ : Type} [DecidableEq κ] (qs : List (κ × PyData)) (k : κ) : valD (putAllD qs) k = (qs.reverse.find? fun q => decide (q.1 = k)).map (·.2) := by
  unfold putAllD
  rw [fold_val]
  simp [valD]
/-- keys alone: is it there -/
theorem putAllD_there {κ : Type} [DecidableEq κ] (qs : List (κ × PyData)) (k : κ) : (valD (putAllD qs) k).isSome = qs.any fun q => decide (q.1 = k) := by
  rw [putAllD_val, Option.isSome_map, Bool.eq_iff_iff, List.find?_isSome, List.any_eq_true]
  exact ⟨fun ⟨z, h1, h2⟩ => ⟨z, List.mem_reverse.mp h1, h2⟩, fun ⟨z, h1, h2⟩ => ⟨z, List.mem_reverse.mpr h1, h2⟩⟩
/-! ### sorted(set(t)) -/
abbrev KP := Addr × (Nat × Nat)
def ltLex (p q : Nat × Nat) : Prop := p.1 < q.1 ∨ (p.1 = q.1 ∧ p.2 < q.2)
def tSrtSet (K : PySem.W.Frag) (ta : TE) : TE := fun σ H Q => ta σ H fun x H1 =>
  (∃ (l : Addr) (ns : List Int), x = V.ref l ∧ SqT K H1 l (ns.map V.int) ∧ ns.length < 64 ∧ ∀ (ms : List Int) (p : Addr), ms.Pairwise (· < ·) → (∀ k, k ∈ ms ↔ k ∈ ns) → H1 p = none → Q (.ref p) (upd H1 p (.lst (ms.map V.int)))) ∨
  (∃ (l : Addr) (ks : List KP), x = V.ref l ∧ SqT K H1 l (ks.map fun p => V.ref p.1) ∧ (∀ p ∈ ks, SqT K H1 p.1 [.int p.2.1, .int p.2.2] ∧ p.2.1 < 1024 ∧ p.2.2 < 1024) ∧ ks.length < 64 ∧
    ∀ (ms : List KP) (p : Addr), (∀ q ∈ ms, q ∈ ks) → (∀ q ∈ ks, q.2 ∈ ms.map (·.2)) → (ms.map (·.2)).Pairwise ltLex → H1 p = none → Q (.ref p) (upd H1 p (.lst (ms.map fun q => V.ref q.1))))
theorem code2 (x y : Int) : TS.code 1024 [x, y] = x * 1024 + y := by
  simp [TS.code]
theorem pe_srtSet {X : Cx} {a : Expr} {ta : TE} {p p2 q pos : Pos} (hc : X.calm = true) (hu : X.A.units + 100 < cLine) (hg : Gl X "sorted") (hm : X.mg "sorted" = none) (hg2 : Gl X "set") (hm2 : X.mg "set" = none) (ha : PE X a ta)
    (na : starEach [a] X.env = (false, eval a X.env) :: starEach [] X.env := by rfl) : PE X (.Call (.Name "sorted" p) [.Call (.Name "set" p2) [a] [] q] [] pos) (tSrtSet X.K ta) := by
  refine ⟨fun pins s σ H Q I h => ?_⟩
  refine Call_ (ld_blt I hg hm PyProof.Rows.boot_sorted ?_)
  refine PyProof.Rows.callWith_builtin1 (PyProof.Rows.args_cons ?_ rfl) rfl rfl
  refine Call_ (ld_blt I hg2 hm2 PyProof.Rows.boot_set ?_)
  refine PyProof.Rows.callWith_type1 (PyProof.Rows.args_cons (thn (ha.run pins s σ H _ I h) fun v s1 ⟨x, H1, I1, r1, q1⟩ => PyProof.Rows.args_nil ?_) na) na rfl
  have fin : ∀ (s2 s' : Shared) (pa : Addr) (out : Array Value) (c : Nat) (vs : List V), Inv X pins σ H1 s2 → (∀ b o, s2.heap.get? b = some o → s'.heap.get? b = some o) → s'.gens = s2.gens → s'.os = s2.os → s2.heap.objs.size ≤ pa →
      s'.heap.get? pa = some (seqObj "list" out c) → vs.length ≤ sizeLine → Vals vs out.toList → (H1 pa = none → Q (.ref pa) (upd H1 pa (.lst vs))) → ∃ y H', Inv X pins σ H' s' ∧ RelV y (.ref pa) ∧ Q y H' := by
    intro s2 s' pa out c vs J k g o hp hgt hl hv q
    have hn : H1 pa = none := J.hok.fresh hp
    have J2 : Inv X pins σ (upd H1 pa (.lst vs)) { s2 with heap := s'.heap, gens := s'.gens, drawn := s'.drawn, toks := s'.toks } :=
      J.call (ch := []) (Un.laid k hp hn) (J.hok.laid k hp ⟨hl, out.toList, c, hv, hgt⟩) (by rw [g]; exact J.bare) (fun _ z => nomatch z)
    have e : s' = { s2 with heap := s'.heap, gens := s'.gens, drawn := s'.drawn, toks := s'.toks } := by
      obtain ⟨a1, a2, a3, a4, a5⟩ := s'
      obtain ⟨b1, b2, b3, b4, b5⟩ := s2
      cases (show a5 = b5 from o)
      rfl
    exact ⟨.ref pa, _, by rw [e]; exact J2, rfl, q hn⟩
  rcases q1 with ⟨l, ns, rfl, hq, h1, q1⟩ | ⟨l, ks, rfl, hq, hk, h1, q1⟩
  · cases r1
    obtain ⟨its, r, pl, hz⟩ := I1.tuple hq
    refine call_set_tupI ns (I1.ok.hd hc) (items := its.toArray) pl (by simpa using r.ints) (by unfold scanBound; omega) fun h' tk c hS hcn hk => ?_
    refine PyProof.Rows.args_nil ?_
    have I2 : Inv X pins σ H1 { s1 with heap := h', toks := tk } := I1.kept fun b o e => hk b o e
    refine sorted_set (s := { s1 with heap := h', toks := tk }) hS (I1.ok.hd hc) (by omega) fun s' pa out c' ms k g o hp hgt hi hs hm' hl => ?_
    refine fin _ s' pa out c' (ms.map V.int) I2 k g o hp hgt (by rw [List.length_map, hl, sizeLine_eq]; omega) (vals_of_ints hi) fun hn => q1 ms pa hs (fun j => ?_) hn
    rw [hm' j]
    exact decide_eq_true_iff
  · cases r1
    obtain ⟨its, r, pl, hz⟩ := I1.tuple hq
    have hz' : (ks.map fun p => ((p.1, [(p.2.1 : Int), (p.2.2 : Int)]) : Addr × List Int)).length < 64 := by rw [List.length_map]; exact h1
    have isT : ∀ p ∈ ks.map fun p => ((p.1, [(p.2.1 : Int), (p.2.2 : Int)]) : Addr × List Int), IsT X.prog X.w s1.heap p.2 p.1 := fun p hp => by
      obtain ⟨q, hq, rfl⟩ := List.mem_map.mp hp
      exact I1.isT (k := [(q.2.1 : Int), (q.2.2 : Int)]) (hk q hq).1
    refine set_tupT (P := X.prog) (w := X.w) (ks.map fun p => ((p.1, [(p.2.1 : Int), (p.2.2 : Int)]) : Addr × List Int)) (items := its.toArray) (I1.ok.hd hc) pl ?_ isT hz' (by omega) fun h' tk L es ep t hS g kk => ?_
    · have z := refs_of_vals (ks := ks.map fun p => ((p.1, [(p.2.1 : Int), (p.2.2 : Int)]) : Addr × List Int)) (us := its) (by rw [List.map_map]; exact r)
      rw [List.toList_toArray]
      exact z
    refine PyProof.Rows.args_nil ?_
    have I2 : Inv X pins σ H1 { s1 with heap := h', toks := tk } := I1.kept fun b o e => kk b o e
    have back : ∀ p ∈ L, ∃ q ∈ ks, p = (q.1, [(q.2.1 : Int), (q.2.2 : Int)]) := fun p hp => by
      obtain ⟨q, hq, e⟩ := List.mem_map.mp (List.mem_of_mem_take (g.sub p hp))
      exact ⟨q, hq, e.symm⟩
    refine sorted_setT (s := { s1 with heap := h', toks := tk }) hS (I1.ok.hd hc) (d := 2) (B := 1024) (by decide) (fun p hp => ?_) fun s' pa out c' L' k gg o hp hgt hout pm pw => ?_
    · obtain ⟨q, hq, rfl⟩ := back p hp
      have := hk q hq
      refine ⟨rfl, fun m hm => ?_⟩
      simp only [List.mem_cons, List.not_mem_nil, or_false] at hm
      rcases hm with rfl | rfl <;> omega
    · have lift : ∀ M : List (Addr × List Int), (∀ p ∈ M, p ∈ L) → ∃ ms : List KP, M = ms.map (fun p => ((p.1, [(p.2.1 : Int), (p.2.2 : Int)]) : Addr × List Int)) ∧ ∀ q ∈ ms, q ∈ ks := by
        intro M
        induction M with
        | nil => exact fun _ => ⟨[], rfl, fun q hq => by cases hq⟩
        | cons p M ih =>
          intro hM
          obtain ⟨ms, e, hs⟩ := ih fun p hp => hM p (.tail _ hp)
          obtain ⟨q, hq, rfl⟩ := back p (hM p (.head _))
          exact ⟨q :: ms, by rw [e]; rfl, fun r hr => (List.mem_cons.mp hr).elim (fun z => z ▸ hq) (hs r)⟩
      obtain ⟨ms, rfl, hs⟩ := lift L' fun p hp => pm.mem_iff.mp hp
      have nd : ((ms.map fun p => ((p.1, [(p.2.1 : Int), (p.2.2 : Int)]) : Addr × List Int)).map (·.2)).Nodup := (pm.map (·.2)).nodup_iff.mpr hS.nd
      refine fin _ s' pa out c' (ms.map fun q => V.ref q.1) I2 k gg o hp hgt ?_ ?_ fun hn => q1 ms pa hs ?_ ?_ hn
      · have y1 := pm.length_eq
        have y2 := hS.few
        rw [List.length_map] at y1 ⊢
        rw [sizeLine_eq]
        omega
      · rw [hout, List.map_map]
        have := vals_of_refs (ms.map fun p => ((p.1, [(p.2.1 : Int), (p.2.2 : Int)]) : Addr × List Int))
        rw [List.map_map, List.map_map] at this
        exact this
      · intro q hq
        have z := g.all (q.1, [(q.2.1 : Int), (q.2.2 : Int)]) (by rw [List.take_length]; exact List.mem_map.mpr ⟨q, hq, rfl⟩)
        obtain ⟨p, hp, e⟩ := List.mem_map.mp z
        obtain ⟨q', hq', rfl⟩ := List.mem_map.mp (pm.mem_iff.mpr hp)
        refine List.mem_map.mpr ⟨q', hq', ?_⟩
        have e' : ([(q'.2.1 : Int), (q'.2.2 : Int)] : List Int) = [(q.2.1 : Int), (q.2.2 : Int)] := e
        have e1 : (q'.2.1 : Int) = q.2.1 := (List.cons.inj e').1
        have e2 : (q'.2.2 : Int) = q.2.2 := (List.cons.inj (List.cons.inj e').2).1
        exact Prod.ext (by omega) (by omega)
      · rw [List.map_map] at nd
        have nd' := List.pairwise_map.mp nd
        have pw' := List.pairwise_map.mp pw
        refine List.pairwise_map.mpr (List.Pairwise.imp_of_mem (fun {a b} hma hmb hab => ?_) (nd'.and pw'))
        obtain ⟨n1, n2⟩ := hab
        have n2' : TS.code 1024 [(a.2.1 : Int), (a.2.2 : Int)] ≤ TS.code 1024 [(b.2.1 : Int), (b.2.2 : Int)] := n2
        rw [code2, code2] at n2'
        have n1' : ¬ ([(a.2.1 : Int), (a.2.2 : Int)] : List Int) = [(b.2.1 : Int), (b.2.2 : Int)] := n1
        have b1 := hk a (hs a hma)
        have b2 := hk b (hs b hmb)
        by_cases e1 : a.2.1 = b.2.1
        · by_cases e2 : a.2.2 = b.2.2
          · exact absurd (by rw [e1, e2]) n1'
          · exact .inr ⟨e1, by omega⟩
        · exact .inl (by omega)
section
variable {K : PySem.W.Frag} {σ : L2.St} {L L' : List As} {Q : LK} {te : TE} {x y : V} {T H : Hp}
theorem pe_srtSetK {X : Cx} {a : Expr} {p p2 q pos : Pos} (hc : X.calm = true) (hu : X.A.units + 100 < cLine) (hg : Gl X "sorted") (hm : X.mg "sorted" = none) (hg2 : Gl X "set") (hm2 : X.mg "set" = none) (ha : PE X a te) (h3 : X.K = K := by rfl)
    (na : starEach [a] X.env = (false, eval a X.env) :: starEach [] X.env := by rfl) : PE X (.Call (.Name "sorted" p) [.Call (.Name "set" p2) [a] [] q] [] pos) (tSrtSet K te) := by
  subst h3
  exact pe_srtSet hc hu hg hm hg2 hm2 ha na
theorem wp_srtSetI (h : Wp K te σ L fun x L1 => ∃ ns : List Int, Dv K L1 x (.tuple (ns.map .int)) ∧ ns.length < 64 ∧ ∀ (ms : List Int) p, ms.Pairwise (· < ·) → (∀ k, k ∈ ms ↔ k ∈ ns) → Q (.ref p) (.ld p (ms.map .int) :: L1)) : Wp K (tSrtSet K te) σ L Q := fun H hs Q0 up =>
  h H hs _ fun x H1 L1 h1 ⟨ns, hd, hl, q⟩ => by
    obtain ⟨T, ht⟩ := id h1
    cases hd T H1 ht with
    | @tup a xs _ ha hds =>
      exact .inl ⟨a, ns, rfl, by rw [← dps_ints hds]; exact SqT.of (ht.sub _ _ ha), hl, fun ms p n1 n2 hp => up _ _ _ ⟨T, ht.lay (x := .ld p (ms.map .int)) hp rfl ⟨_, upd_same, ints_dps ms⟩⟩ (q ms p n1 n2)⟩
theorem dps_kp : ∀ {ps : List (Nat × Nat)} {xs : List V}, DqAll K T xs (ps.map pD2) → ∃ ks : List KP, xs = ks.map (fun p => V.ref p.1) ∧ ps = ks.map (·.2) ∧ ∀ q ∈ ks, T q.1 = some (.tup [.int q.2.1, .int q.2.2])
  | [], _, h => by cases h; exact ⟨[], rfl, rfl, fun q hq => by cases hq⟩
  | p :: ps, _, h => by
    cases h with
    | cons h1 h2 =>
      obtain ⟨ks, e1, e2, e3⟩ := dps_kp h2
      cases h1 with
      | @tup a xs _ ha hd =>
        cases hd with
        | cons k1 hd =>
          cases hd with
          | cons k2 hd =>
            cases hd
            cases k1
            cases k2
            exact ⟨(a, p) :: ks, by rw [e1]; rfl, by rw [e2]; rfl, fun q hq => (List.mem_cons.mp hq).elim (fun z => by rw [z]; exact ha) (e3 q)⟩
theorem kp_dps : ∀ {ks : List KP}, (∀ q ∈ ks, T q.1 = some (.tup [.int q.2.1, .int q.2.2])) → DqAll K T (ks.map fun p => V.ref p.1) ((ks.map (·.2)).map pD2)
  | [], _ => .nil
  | q :: ks, h => .cons (.tup (h q (.head _)) (.cons (.int _) (.cons (.int _) .nil))) (kp_dps fun r hr => h r (.tail _ hr))
theorem wp_srtSetP (h : Wp K te σ L fun x L1 => ∃ ps : List (Nat × Nat), Dv K L1 x (.tuple (ps.map pD2)) ∧ ps.length < 64 ∧ (∀ p ∈ ps, p.1 < 1024 ∧ p.2 < 1024) ∧ ∀ (ms : List (Nat × Nat)) p, ms.Pairwise ltLex → (∀ k, k ∈ ms ↔ k ∈ ps) → Q (.ref p) (.ld p (ms.map pD2) :: L1)) : Wp K (tSrtSet K te) σ L Q := fun H hs Q0 up =>
  h H hs _ fun x H1 L1 h1 ⟨ps, hd, hl, hb, q⟩ => by
    obtain ⟨T, ht⟩ := id h1
    cases hd T H1 ht with
    | @tup a xs _ ha hds =>
      obtain ⟨ks, rfl, rfl, hk⟩ := dps_kp hds
      refine .inr ⟨a, ks, rfl, SqT.of (ht.sub _ _ ha), fun p hp => ⟨SqT.of (ht.sub _ _ (hk p hp)), hb _ (List.mem_map.mpr ⟨p, hp, rfl⟩)⟩, by rw [List.length_map] at hl; exact hl, fun ms p m1 m2 m3 hp => up _ _ _ ⟨T, ht.lay (x := .ld p ((ms.map (·.2)).map pD2)) hp rfl ⟨_, upd_same, kp_dps fun q hq => hk q (m1 q hq)⟩⟩ (q _ p m3 fun k => ?_)⟩
      constructor
      · intro z
        obtain ⟨r, hr, rfl⟩ := List.mem_map.mp z
        exact List.mem_map.mpr ⟨r, m1 r hr, rfl⟩
      · intro z
        obtain ⟨r, hr, rfl⟩ := List.mem_map.mp z
        exact m2 r hr
end
/-! ### comparing -/
theorem eqv_pairs : ∀ xs ys : List (Nat × Nat), PyData.eqvAll (xs.map pD2) (ys.map pD2) = decide (xs = ys)
  | [], [] => rfl
  | [], _ :: _ => rfl
  | _ :: _, [] => rfl
  | x :: xs, y :: ys => by
    simp only [List.map_cons, PyData.eqvAll, eqv_pair, eqv_pairs xs ys]
    by_cases h1 : x = y <;> by_cases h2 : xs = ys <;> simp [h1, h2]
theorem eqvL_pairs (gs hs : List (Nat × Nat)) : PyData.eqv (.list (gs.map pD2)) (.list (hs.map pD2)) = decide (gs = hs) := eqv_pairs gs hs
/-- the same as itself, sorted, once each: already ascending -/
theorem asc_uniq {α : Type} {r : α → α → Prop} (irr : ∀ a, ¬ r a a) (asym : ∀ a b, r a b → ¬ r b a) {xs ms : List α} (hm : ms.Pairwise r) (hi : ∀ k, k ∈ ms ↔ k ∈ xs) : xs = ms ↔ xs.Pairwise r := by
  constructor
  · rintro rfl
    exact hm
  · intro hx
    refine List.Perm.eq_of_pairwise (le := r) (fun a b _ _ h1 h2 => absurd h2 (asym a b h1)) hx hm ?_
    classical
    have n1 : xs.Nodup := List.Pairwise.imp (S := (· ≠ ·)) (fun {a b} (h : r a b) (e : a = b) => irr a (by rw [← e] at h; exact h)) hx
    have n2 : ms.Nodup := List.Pairwise.imp (S := (· ≠ ·)) (fun {a b} (h : r a b) (e : a = b) => irr a (by rw [← e] at h; exact h)) hm
    exact (List.perm_ext_iff_of_nodup n1 n2).mpr fun k => (hi k).symm
end Lg
/-! Ledgers: xs[i] = v and d[k] = v as targets; comprehensions whose parts change nothing. -/
namespace Lg
open PySem PySem.Spec PyProof.Rows L2
/-! ### o[i] = v as a target -/
def rSetP : TSet := fun o i v H Q => rSetL o i v H Q ∨ ∃ a H', o = .ref a ∧ DPut H a i v H' ∧ Q H'
theorem set_P {X : Cx} (hu : X.A.units + 1 < cLine) : PSet X rSetP := by
  intro pins s σ H o i v ov iv u Q I ro ri rv h
  rcases h with h | ⟨a, H', rfl, g, q⟩
  · exact set_list pins s σ H o i v ov iv u Q I ro ri rv h
  · obtain rfl : ov = Value.ref a := ro
    exact d_setItem hu I g ri rv fun s' I' => ⟨H', I', q⟩
/-- where it is stored, and what is known behind it -/
inductive StAt (K : PySem.W.Frag) : V → V → V → List As → List As → Prop
  | l {a : Addr} {ds : List PyData} {k : Int} {j : Nat} {d : PyData} {v : V} {L L' : List As} : ixN ds.length k = some j → Dv K L v d → Put (.ld a ds) (.ld a (ds.set j d)) L L' → StAt K (.ref a) (.int k) v L L'
  | k {a : Addr} {kvs : List (Key × PyData)} {k : Key} {d : PyData} {v : V} {L L' : List As} : kvs.length < sizeLine → Dv K L v d → Put (.dk a kvs) (.dk a (putD kvs k d)) L L' → StAt K (.ref a) (kV k) v L L'
  | t {a : Addr} {kvs : List (List Key × PyData)} {k : List Key} {d : PyData} {y v : V} {L L' : List As} : KeyD L y k K → kvs.length < sizeLine → Dv K L v d → Put (.dt a kvs) (.dt a (putD kvs k d)) L L' → StAt K (.ref a) y v L L'
  | p {a : Addr} {kvs : List (Key × V)} {k : Key} {v : V} {L L' : List As} : kvs.length < sizeLine → Put (.pt a (.dK kvs)) (.pt a (.dK (putK kvs k v))) L L' → StAt K (.ref a) (kV k) v L L'
section
variable {K : PySem.W.Frag} {σ : L2.St} {L L' : List As} {Q : LK} {te : TE} {x y v : V}
theorem wg_sub {to ti : TE} {Q : L2.St → List As → Prop} (h : Wp K to σ L fun x L1 => Wp K ti σ L1 fun y L2 => ∃ L4, StAt K x y v L2 L4 ∧ Q σ L4) : Wg K (gSub to ti rSetP) v σ L Q := fun H hs Q0 up =>
  h H hs _ fun x H1 L1 h1 q => q H1 h1 _ fun y H3 L3 h3 ⟨L4, st, q'⟩ => by
    obtain ⟨T, ht⟩ := h3
    cases st with
    | @l a ds k j d _ _ _ hj hd hp =>
      obtain ⟨xs, e1, e2⟩ := ht.ok _ hp.mem
      obtain ⟨R, p1, p2⟩ := hp.split
      refine .inl ⟨a, xs, k, j, rfl, rfl, e1, by rw [dps_len e2]; exact hj, up _ _ _ ⟨T, ((ht.perm p1).write (y := .ld a (ds.set j d)) rfl rfl ⟨_, upd_same, dps_set j e2 (hd T H3 ht)⟩).perm p2⟩ q'⟩
    | @k a kvs k d _ _ _ hl hd hp =>
      obtain ⟨xs, e1, e2⟩ := ht.ok _ hp.mem
      obtain ⟨R, p1, p2⟩ := hp.split
      refine .inr ⟨a, _, rfl, .k e1 (by rw [kd_len e2]; exact hl), up _ _ _ ⟨T, ((ht.perm p1).write (y := .dk a (putD kvs k d)) rfl rfl ⟨_, upd_same, kd_put e2 (hd T H3 ht)⟩).perm p2⟩ q'⟩
    | @t a kvs k d _ _ _ _ hk hl hd hp =>
      obtain ⟨xs, e1, e2⟩ := ht.ok _ hp.mem
      obtain ⟨b, rfl, hb⟩ := hk T H3 ht
      obtain ⟨R, p1, p2⟩ := hp.split
      refine .inr ⟨a, _, rfl, .t e1 hb (by rw [kd_len e2]; exact hl), up _ _ _ ⟨T, ((ht.perm p1).write (y := .dt a (putD kvs k d)) rfl rfl ⟨_, upd_same, kd_put e2 (hd T H3 ht)⟩).perm p2⟩ q'⟩
    | @p a kvs k _ _ _ hl hp =>
      have e1 : H3 a = some (.dK kvs) := ht.ok _ hp.mem
      obtain ⟨R, p1, p2⟩ := hp.split
      exact .inr ⟨a, _, rfl, .k e1 hl, up _ _ _ ⟨T, ((ht.perm p1).write (y := .pt a (.dK (putK kvs k v))) rfl rfl upd_same).perm p2⟩ q'⟩
/-! ### comprehensions whose parts change nothing -/
/-- one turn: the test, the value -/
def LcTurn (K : PySem.W.Frag) (g : TG) (tt : TT) (te : TE) (σ : L2.St) (vs : List Nat) (v : V) (L2 : List As) (LB : List As) (f : Bool) (e : PyData) : Prop :=
  Wg K g v (wipe σ vs) L2 fun σ2 L3 => wipe σ2 vs = wipe σ vs ∧ Wt K tt σ2 L3 fun b L4 => b = f ∧ if f = true then Wp K te σ2 L4 fun y L5 => Dv K L5 y e ∧ Ent K L5 LB else Ent K L4 LB
theorem filter_map_take {α : Type} {ds : List PyData} {f : Nat → PyData → Bool} {e : Nat → PyData → α} {i : Nat} {d : PyData} (h : ds[i]? = some d) :
    (((ds.take (i + 1)).zipIdx.filter fun p => f p.2 p.1).map fun p => e p.2 p.1) = (((ds.take i).zipIdx.filter fun p => f p.2 p.1).map fun p => e p.2 p.1) ++ if f i d = true then [e i d] else [] := by
  have hi : i < ds.length := (List.getElem?_eq_some_iff.mp h).1
  have el : (ds.take i).length = i := by rw [List.length_take]; omega
  rw [List.take_add_one, h, List.zipIdx_append, List.filter_append, List.map_append, el]
  show _ ++ List.map _ (List.filter _ [(d, 0 + i)]) = _
  rw [Nat.zero_add]
  by_cases hf : f i d = true
  · rw [List.filter_cons_of_pos (by exact hf), if_pos hf]; rfl
  · rw [List.filter_cons_of_neg (by exact hf), if_neg hf]; rfl
def lcD (ds : List PyData) (f : Nat → PyData → Bool) (e : Nat → PyData → PyData) : List PyData := (ds.zipIdx.filter fun p => f p.2 p.1).map fun p => e p.2 p.1
theorem lcD_len (ds : List PyData) (f : Nat → PyData → Bool) (e : Nat → PyData → PyData) : (lcD ds f e).length ≤ ds.length := by
  unfold lcD
  rw [List.length_map]
  exact Nat.le_trans (List.length_filter_le _ _) (by rw [List.length_zipIdx]; exact Nat.le_refl _)
theorem zipIdx_plain {α β : Type} (f : α → Bool) (e : α → β) : ∀ (ds : List α) (n : Nat), ((ds.zipIdx n).filter fun p => f p.1).map (fun p => e p.1) = (ds.filter f).map e
  | [], _ => rfl
  | d :: ds, n => by
    rw [List.zipIdx_cons]
    by_cases h : f d = true
    · rw [List.filter_cons_of_pos h, List.filter_cons_of_pos (by exact h), List.map_cons, List.map_cons, zipIdx_plain f e ds]
    · rw [List.filter_cons_of_neg h, List.filter_cons_of_neg (by exact h), zipIdx_plain f e ds]
theorem lcD_plain (ds : List PyData) (f : PyData → Bool) (e : PyData → PyData) : lcD ds (fun _ => f) (fun _ => e) = (ds.filter f).map e := zipIdx_plain f e ds 0
theorem lcD_map (ds : List PyData) (e : PyData → PyData) : lcD ds (fun _ _ => true) (fun _ => e) = ds.map e := by
  rw [lcD_plain ds (fun _ => true), List.filter_eq_self.mpr fun _ _ => rfl]
/-- any walk whose i-th item, from the ledger, is told by It -/
theorem wp_lcG {wi : TI} {g : TG} {tt : TT} {vs : List Nat} (ds : List PyData) (f : Nat → PyData → Bool) (e : Nat → PyData → PyData) (h : Wi K wi σ L fun L1 n Z Y => n = ds.length ∧ n < sizeLine ∧ (∀ D acc, Z (.ld D acc :: L1)) ∧
    (∀ i d v L2 D acc, ds[i]? = some d → Y i v (.ld D acc :: L1) L2 → LcTurn K g tt te σ vs v L2 (.ld D acc :: L1) (f i d) (e i d)) ∧
    ∀ D, Q (.ref D) (.ld D (lcD ds f e) :: L1)) : Wp K (tLc wi g tt te vs) σ L Q := by
  refine wp_lc fun H hs R up => h H hs R fun J H1 L1 n Z Y h1 jo ⟨hn, hz, hZ, ht, q⟩ => up J H1 L1 n Z Y h1 jo ?_
  refine ⟨fun i acc L' => L' = L1 ∧ acc = lcD (ds.take i) f e, ⟨rfl, rfl⟩, fun i acc L' D hi ⟨e1, e2⟩ => by rw [e1]; exact hZ D acc, fun i acc L' v L2 D hi ⟨e1, e2⟩ hy => ?_, fun acc L' D ⟨e1, e2⟩ => ?_⟩
  · subst e1
    obtain ⟨d, hd⟩ : ∃ d, ds[i]? = some d := ⟨ds[i]'(by omega), List.getElem?_eq_getElem (by omega)⟩
    have T := ht i d v L2 D acc hd hy
    have el : lcD (ds.take (i + 1)) f e = acc ++ if f i d = true then [e i d] else [] := by rw [e2]; exact filter_map_take hd
    have hl : acc.length < sizeLine := by
      have := lcD_len (ds.take i) f e
      rw [List.length_take] at this
      rw [e2]
      omega
    intro H2 h2 Q0 up2
    refine T H2 h2 Q0 fun σ2 H3 L3 h3 ⟨w1, w2⟩ => up2 σ2 H3 L3 h3 ⟨w1, Wt.imp w2 fun b L4 ⟨hb, w3⟩ => ?_⟩
    subst hb
    cases hf : f i d with
    | true =>
      rw [hf] at w3 el
      exact iteT (Wp.imp (iteT_ w3) fun y L5 ⟨w4, w5⟩ => ⟨e i d, _, w4, w5, hl, rfl, by rw [el]; rfl⟩)
    | false =>
      rw [hf] at w3 el
      exact iteF ⟨_, iteF_ w3, rfl, by rw [el]; exact (List.append_nil _).symm⟩
  · subst e1
    rw [e2, hn, List.take_length]
    exact q D
where
  iteT_ {A B : Prop} (h : if true = true then A else B) : A := by rwa [if_pos rfl] at h
  iteF_ {A B : Prop} (h : if false = true then A else B) : B := by rwa [if_neg (by decide)] at h
/-- over a list or a tuple of data -/
theorem wp_lcS {b : Bool} {tl : TE} {g : TG} {tt : TT} {vs : List Nat} (f : PyData → Bool) (e : PyData → PyData) (h : Wp K tl σ L fun x L1 => ∃ ds, SeqB b K L1 x ds ∧ ds.length < sizeLine ∧
    (∀ d v L2 D acc, d ∈ ds → OutD d v (.ld D acc :: L1) L2 → LcTurn K g tt te σ vs v L2 (.ld D acc :: L1) (f d) (e d)) ∧
    ∀ D, Q (.ref D) (.ld D ((ds.filter f).map e) :: L1)) : Wp K (tLc (iSeq K tl) g tt te vs) σ L Q := fun H hs Q0 up =>
  h H hs _ fun x H1 L1 h1 ⟨ds, hd, hl, ht, q⟩ => by
    have w : Wp K (tLc (iSeq K (tC x)) g tt te vs) σ L1 Q := by
      refine wp_lcG ds (fun _ => f) (fun _ => e) (wi_seqB (b := b) (wp_c ⟨ds, hd, rfl, hl, fun D acc => hd.ent (Ent.drop Ent.refl), fun i d v L2 D acc hi ⟨d', hd', o⟩ => ?_, fun D => ?_⟩))
      · rw [hi] at hd'
        cases hd'
        exact ht d v L2 D acc (List.mem_of_getElem? hi) o
      · rw [lcD_plain]; exact q D
    exact w H1 h1 Q0 up
end
/-! ### lists of lists of one's own -/
def llS : List Addr → List (List PyData) → List As
  | a :: as, d :: ds => .ld a d :: llS as ds
  | _, _ => []
section
variable {K : PySem.W.Frag} {σ : L2.St} {L L' R : List As} {Q : LK} {te : TE} {x y v : V}
theorem ll_put : ∀ {as : List Addr} {ds : List (List PyData)} {j : Nat} {a : Addr} {d d' : List PyData}, as[j]? = some a → ds[j]? = some d → Put (.ld a d) (.ld a d') (llS as ds ++ R) (llS as (ds.set j d') ++ R)
  | [], _, _, _, _, _, h, _ => by simp at h
  | _ :: _, [], _, _, _, _, _, h => by simp at h
  | b :: as, e :: ds, 0, a, d, d', h1, h2 => by
    cases (show b = a by simpa using h1)
    cases (show e = d by simpa using h2)
    exact .here
  | b :: as, e :: ds, j + 1, a, d, d', h1, h2 => .there (ll_put (by simpa using h1) (by simpa using h2))
theorem ll_snoc : ∀ {as : List Addr} {ds : List (List PyData)} {a : Addr} {d : List PyData}, as.length = ds.length → llS (as ++ [a]) (ds ++ [d]) = llS as ds ++ [.ld a d]
  | [], [], _, _, _ => rfl
  | [], _ :: _, _, _, h => by simp at h
  | _ :: _, [], _, _, h => by simp at h
  | b :: as, e :: ds, a, d, h => by
    show As.ld b e :: llS (as ++ [a]) (ds ++ [d]) = _
    rw [ll_snoc (by simpa using h)]
    rfl
def daS (as : List Addr) (ds : List (List PyData)) : List As := List.zipWith (fun a d => .da (.ref a) (.list d)) as ds
theorem ll_freeze {H : Hp} : ∀ {as : List Addr} {ds : List (List PyData)} {R : List As}, as.length = ds.length → Hs K H (llS as ds ++ R) → Hs K H (daS as ds ++ R)
  | [], [], _, _, h => h
  | [], _ :: _, _, h, _ => by simp at h
  | _ :: _, [], _, h, _ => by simp at h
  | a :: as, d :: ds, R, hl, h => by
    have h1 : Hs K H (.da (.ref a) (.list d) :: (llS as ds ++ R)) := freeze h
    have h2 : Hs K H (llS as ds ++ (.da (.ref a) (.list d) :: R)) := (Ent.perm List.perm_middle.symm).hs h1
    have h3 := ll_freeze (by simpa using hl) h2
    exact (Ent.perm List.perm_middle).hs h3
theorem da_dqs {H T : Hp} : ∀ {as : List Addr} {ds : List (List PyData)} {R : List As}, as.length = ds.length → HsT K T H (daS as ds ++ R) → DqAll K T (as.map V.ref) (ds.map .list)
  | [], [], _, _, _ => .nil
  | [], _ :: _, _, h, _ => by simp at h
  | _ :: _, [], _, h, _ => by simp at h
  | a :: as, d :: ds, R, hl, h => .cons (h.ok _ (.head _)) (da_dqs (by simpa using hl) (h.sublist (List.sublist_cons_self _ _)))
/-- a list of lists, never written again -/
theorem ll_frozen {H : Hp} {f : Addr} {as : List Addr} {ds : List (List PyData)} (hl : as.length = ds.length) (h : Hs K H (.pt f (.lst (as.map V.ref)) :: (llS as ds ++ R))) : Hs K H (.da (.ref f) (.list (ds.map .list)) :: R) := by
  have h1 : Hs K H (llS as ds ++ (.pt f (.lst (as.map V.ref)) :: R)) := (Ent.perm List.perm_middle.symm).hs h
  obtain ⟨T, ht⟩ := ll_freeze hl h1
  have dq := da_dqs hl ht
  have ht2 := ht.perm (L' := .pt f (.lst (as.map V.ref)) :: (daS as ds ++ R)) List.perm_middle
  have ht3 : HsT K T H (.ld f (ds.map .list) :: (daS as ds ++ R)) := by
    obtain ⟨p1, p2⟩ := List.pairwise_cons.mp ht2.ap
    refine ⟨ht2.sub, fun y hy => ?_, fun y hy => ?_, List.pairwise_cons.mpr ⟨fun y hy a e1 e2 => p1 y hy a e1 e2, p2⟩⟩
    · rcases List.mem_cons.mp hy with rfl | hy
      · exact ⟨_, ht2.ok _ (.head _), dq⟩
      · exact ht2.ok y (.tail _ hy)
    · rcases List.mem_cons.mp hy with rfl | hy
      · exact fun a e => ht2.out (.pt f (.lst (as.map V.ref))) (.head _) a e
      · exact ht2.out y (.tail _ hy)
  exact (Ent.tailE Ent.behind).hs (freeze ⟨T, ht3⟩)
theorem Wp.llF {t : TE} {f : Addr} {as : List Addr} {ds : List (List PyData)} (hl : as.length = ds.length) (h : Wp K t σ (.da (.ref f) (.list (ds.map .list)) :: R) Q) : Wp K t σ (.pt f (.lst (as.map V.ref)) :: (llS as ds ++ R)) Q := fun H hs => h H (ll_frozen hl hs)
theorem Ws.llF {t : TS} {D : LE} {f : Addr} {as : List Addr} {ds : List (List PyData)} (hl : as.length = ds.length) (h : Ws K t D σ (.da (.ref f) (.list (ds.map .list)) :: R)) : Ws K t D σ (.pt f (.lst (as.map V.ref)) :: (llS as ds ++ R)) := fun H hs => h H (ll_frozen hl hs)
/-- a comprehension of values, raw -/
theorem wp_lcR {wi : TI} {g : TG} {tt : TT} {vs : List Nat} (h : Wi K wi σ L fun L1 n Z Y => ∃ Pv : Nat → List V → List As → Prop, Pv 0 [] L1 ∧ (∀ i acc L D, i ≤ n → Pv i acc L → Z (.pt D (.lst acc) :: L)) ∧
    (∀ i acc L v L' D, i < n → Pv i acc L → Y i v (.pt D (.lst acc) :: L) L' → Wg K g v (wipe σ vs) L' fun σ2 L2 => wipe σ2 vs = wipe σ vs ∧ Wt K tt σ2 L2 fun b L3 =>
      if b = true then Wp K te σ2 L3 fun y L4 => ∃ L5, Ent K L4 (.pt D (.lst acc) :: L5) ∧ acc.length < sizeLine ∧ Pv (i + 1) (acc ++ [y]) L5 else ∃ L5, Ent K L3 (.pt D (.lst acc) :: L5) ∧ Pv (i + 1) acc L5) ∧
    (∀ acc L D, Pv n acc L → Q (.ref D) (.pt D (.lst acc) :: L))) : Wp K (tLc wi g tt te vs) σ L Q := fun H hs Q0 up => by
  refine h H hs _ fun J H1 L1 n Z Y h1 jo ⟨Pv, p0, pz, ps, pe⟩ D hD => ?_
  obtain ⟨T1, ht1⟩ := h1
  refine ⟨fun i m H => m = n - i ∧ i ≤ n ∧ ∃ acc L, Hs K H (.pt D (.lst acc) :: L) ∧ Pv i acc L, ⟨n, by simp, Nat.zero_le _, [], L1, ⟨T1, ht1.lay (x := .pt D (.lst [])) hD rfl upd_same⟩, p0⟩, ?_⟩
  rintro i m H ⟨rfl, hi, acc, L, hl, p⟩
  by_cases hlt : i < n
  · refine .inr ⟨jo.go i H _ hl (pz i acc L D hi p) hlt, fun H' => ∃ acc L, Hs K H' (.pt D (.lst acc) :: L) ∧ Pv (i + 1) acc L, fun H' ⟨acc', L', h', p'⟩ => ⟨n - (i + 1), by omega, rfl, hlt, acc', L', h', p'⟩, fun x H' y => ?_⟩
    obtain ⟨L', h', y'⟩ := jo.yld i H _ x H' hl (pz i acc L D hi p) hlt y
    refine ps i acc L x L' D hlt p y' H' h' _ fun σ2 H2 L2 h2 ⟨ew, q⟩ => ⟨ew, ?_⟩
    refine q H2 h2 _ fun b H3 L3 h3 q3 => ?_
    cases b with
    | true =>
      refine q3 H3 h3 _ fun y H4 L4 h4 ⟨L5, he, hz, hp⟩ => ?_
      obtain ⟨T, ht⟩ := h4
      have ht5 := he T H4 ht
      exact ⟨acc, ht5.ok _ (.head _), hz, _, L5, ⟨T, ht5.write (y := .pt D (.lst (acc ++ [y]))) rfl rfl upd_same⟩, hp⟩
    | false =>
      obtain ⟨L5, he, hp⟩ := q3
      exact ⟨acc, L5, he.hs h3, hp⟩
  · have e : i = n := by omega
    subst e
    exact .inl ⟨jo.stop i H _ hl (pz i acc L D hi p) (Nat.le_refl _), up _ _ _ hl (pe acc L D p)⟩
end
/-! ### joining ways -/
section
variable {K : PySem.W.Frag} {σ : L2.St} {L L' R : List As} {Q : LK} {te : TE} {x y v : V}
theorem ws_cut {ts us : TS} {D : LE} (M : L2.St → List As → Prop) (h1 : Ws K ts { D with nx := M } σ L) (h2 : ∀ σ L, M σ L → Ws K us D σ L) : Ws K (tSeq ts us) D σ L :=
  ws_seq (Ws.imp h1 (fun σ L m => h2 σ L m) (fun _ _ q => q) (fun _ _ q => q) (fun _ _ q => q))
/-- a raw dict is one of data -/
theorem ent_dk1 {a : Addr} {k : Key} {d : PyData} (hd : Dv K L v d) : Ent K (.pt a (.dK [(k, v)]) :: L) (.dk a [(k, d)] :: L) := fun T H h => by
  obtain ⟨p1, p2⟩ := List.pairwise_cons.mp h.ap
  have hL := h.sublist (List.sublist_cons_self _ _)
  refine ⟨h.sub, fun y hy => ?_, fun y hy => ?_, List.pairwise_cons.mpr ⟨fun y hy a e1 e2 => p1 y hy a e1 e2, p2⟩⟩
  · rcases List.mem_cons.mp hy with rfl | hy
    · exact ⟨[(k, v)], h.ok _ (.head _), .cons ⟨rfl, hd T H hL⟩ .nil⟩
    · exact h.ok y (.tail _ hy)
  · rcases List.mem_cons.mp hy with rfl | hy
    · exact fun b e => h.out (.pt a (.dK [(k, v)])) (.head _) b e
    · exact h.out y (.tail _ hy)
end
abbrev nD (B : List Nat) : List PyData := B.map fun b => .int (b : Nat)
theorem Wgs.ent {K : PySem.W.Frag} {L L' : List As} {g : TGs} {vs : List V} {σ : L2.St} {Q : L2.St → List As → Prop} (e : Ent K L L') (h : Wgs K g vs σ L' Q) : Wgs K g vs σ L Q := fun H hs => h H (e.hs hs)
theorem w2_ipI {K : PySem.W.Frag} {L : List As} {Q : LK} {g : Int → Int → Int} {i j : Int} (q : Q (.int (g i j)) L) : W2 K (ipI g) (.int i) (.int j) L Q := fun H hs Q0 u => ⟨i, j, rfl, rfl, u _ H L hs q⟩
/-! ### rows of ints of one's own -/
def rowI (f : Nat → Int) (n : Nat) : List PyData := (List.range n).map fun j => .int (f j)
theorem rowI_len (f : Nat → Int) (n : Nat) : (rowI f n).length = n := by unfold rowI; rw [List.length_map, List.length_range]
theorem rowI_at {f : Nat → Int} {n j : Nat} (h : j < n) : (rowI f n)[j]? = some (.int (f j)) := by
  unfold rowI
  rw [List.getElem?_map, List.getElem?_range h]
  rfl
theorem rowI_atI {f : Nat → Int} {n j : Nat} (h : j < n) : atI (rowI f n) (j : Int) = some (.int (f j)) := by
  rw [atI_nat (by rw [rowI_len]; exact h)]
  exact rowI_at h
theorem rowI_set {f : Nat → Int} {n j : Nat} {v : Int} (h : j < n) : (rowI f n).set j (.int v) = rowI (fup f j v) n := by
  refine List.ext_getElem? fun i => ?_
  rw [List.getElem?_set, rowI_len]
  by_cases hi : i < n
  · rw [rowI_at hi, rowI_at hi]
    unfold fup
    by_cases e : j = i
    · rw [if_pos e, if_pos h, if_pos e.symm]
    · rw [if_neg e, if_neg (fun z => e z.symm)]
  · rw [if_neg (by omega), List.getElem?_eq_none (by rw [rowI_len]; omega), List.getElem?_eq_none (by rw [rowI_len]; omega)]
theorem rowI_zero (n : Nat) : (List.replicate n ([.int 0] : List PyData)).flatten = rowI (fun _ => 0) n := by
  refine List.ext_getElem? fun i => ?_
  have e : (List.replicate n ([.int 0] : List PyData)).flatten = List.replicate n (.int 0) := by
    induction n with
    | zero => rfl
    | succ n ih => rw [List.replicate_succ, List.replicate_succ, List.flatten_cons, ih]; rfl
  rw [e, List.getElem?_replicate]
  by_cases hi : i < n
  · rw [rowI_at hi, if_pos hi]
  · rw [if_neg hi, List.getElem?_eq_none (by rw [rowI_len]; omega)]
theorem ixN_nt {n j : Nat} (h : j < n) : ixN n (j : Int) = some j := by
  unfold ixN
  rw [if_pos (by omega), if_pos (by omega), Int.toNat_natCast]
theorem OutDs.two {d e : PyData} {vs : List V} {L L' : List As} (h : OutDs [d, e] vs L L') : ∃ v w L1, vs = [v, w] ∧ OutD e w L L1 ∧ OutD d v L1 L' := by
  cases h with
  | cons h o1 => cases h with
    | cons h o2 => cases h; exact ⟨_, _, _, rfl, o2, o1⟩
theorem OutDs.three {d e f : PyData} {vs : List V} {L L' : List As} (h : OutDs [d, e, f] vs L L') : ∃ v w u L1 L2, vs = [v, w, u] ∧ OutD f u L L1 ∧ OutD e w L1 L2 ∧ OutD d v L2 L' := by
  cases h with
  | cons h o1 => cases h with
    | cons h o2 => cases h with
      | cons h o3 => cases h; exact ⟨_, _, _, _, _, rfl, o3, o2, o1⟩
end Lg
namespace K84
open PySem PySem.Spec PyProof.Rows L2 Lg
/-! short tactics of my own, under the word walk_at -/
local macro_rules | `(tactic| walk_at "mem") => `(tactic| first | exact List.Mem.head _ | assumption | (refine List.Mem.tail _ ?_; walk_at "mem"))
local macro_rules | `(tactic| walk_at "put") => `(tactic| first | exact Put.here | (apply Put.there; walk_at "put"))
local macro_rules | `(tactic| walk_at "pick") => `(tactic| first | exact Pick.here | (apply Pick.there; walk_at "pick"))
local macro_rules | `(tactic| walk_at "ent") => `(tactic| first | exact Ent.refl | exact Ent.nil | (refine Ent.cons (by walk_at "pick") ?_; walk_at "ent") | (refine Ent.dup (by walk_at "mem") ?_; walk_at "ent") | (refine Ent.drop ?_; walk_at "ent"))
local macro_rules | `(tactic| walk_at "dv") => `(tactic| first | exact Dv.int | exact Dv.bl | exact Dv.str | exact Dv.non | assumption | exact Dv.mem (by walk_at "mem"))
local macro_rules | `(tactic| walk_at "dvs") => `(tactic| first | exact Dvs.nil | (apply Dvs.cons; (focus walk_at "dv"); (focus walk_at "dvs")))
local macro_rules | `(tactic| walk_at "norm") => `(tactic| try dsimp only [cxK, noxK, wishK, blkK, baseK, noxB])
local macro_rules | `(tactic| walk_at "num") => `(tactic| first | decide | omega | (simp only [CMul, CPow, CDivN]; omega) | assumption)
local macro_rules | `(tactic| walk_at "one") => `(tactic| with_reducible first
  | refine wp_var rfl ?_ | refine wp_c ?_ | refine wp_op ?_ | refine wp_cb ?_ | refine wa_cons ?_ | refine wa_nil ?_
  | refine ws_seq ?_ | refine ws_asg ?_ | refine ws_drop ?_ | refine ws_ret ?_ | refine ws_if ?_ | refine ws_par ?_ | refine ws_par3 ?_
  | refine wp_un ?_ | refine wp_chain ?_ | refine wp_if ?_ | refine wp_andV ?_ | refine wp_orV ?_ | refine wp_notV ?_ | refine wp_cal ?_ | refine wp_sl ?_
  | refine wo_none ?_ | refine wo_some ?_
  | refine wt_test ?_ | refine wt_B ?_ | refine wt_yes ?_ | refine wt_and ?_ | refine wt_or ?_ | refine wt_not ?_
  | refine w2_mulI (by walk_at "num") ?_ | refine w2_I (by walk_at "num") ?_
  | refine w2_addI ?_ | refine w2_eqPI ?_ | refine w2_eqPS ?_ | refine w2_nePS ?_ | refine w2_nePI ?_ | refine w2_ltI ?_ | refine w2_I0 ?_ | refine w1_U ?_
  | refine wg_name ?_ | refine wgs_nil ?_ | refine wgs_cons ?_ | refine iteT ?_ | refine iteF ?_ | refine ⟨_, rfl, ?_⟩)
local macro_rules | `(tactic| walk_at "go") => `(tactic| repeat walk_at "one")
local macro_rules | `(tactic| walk_at "len") => `(tactic| (simp only [List.length_cons, List.length_nil]; decide))

abbrev s_ends_by_place : Stmt := topS 20
abbrev n_ends_by_place : List Str := ["touches", "found", "begin", "end", "place"]
theorem sc_ends_by_place : FnScope n_ends_by_place ["touches"] (defScope s_ends_by_place) := ⟨rfl, rfl, rfl, by decide +kernel, rfl, by decide +kernel, by decide +kernel⟩
section
variable {P : Program} {w : World} {K : PySem.W.Frag} {mg : Str → Option Value} {base : Heap}
def endsL (hs : List (Nat × Nat)) (n : Nat) : List (List PyData) := (List.range n).map fun p => (endsAt hs p).map fun b => .int (b : Nat)
theorem endsL_len (hs : List (Nat × Nat)) (n : Nat) : (endsL hs n).length = n := by unfold endsL; rw [List.length_map, List.length_range]
theorem endsL_at {hs : List (Nat × Nat)} {n p : Nat} (h : p < n) : (endsL hs n)[p]? = some ((endsAt hs p).map fun b => .int (b : Nat)) := by
  unfold endsL
  rw [List.getElem?_map, List.getElem?_range h]
  rfl
theorem endsL_step {hs : List (Nat × Nat)} {n i : Nat} {h : Nat × Nat} (e : hs[i]? = some h) (hn : h.2 < n) : (endsL (hs.take i) n).set h.2 ((endsAt (hs.take i) h.2).map (fun b => .int (b : Nat)) ++ [.int (h.1 : Nat)]) = endsL (hs.take (i + 1)) n := by
  refine List.ext_getElem? fun p => ?_
  rw [List.getElem?_set, endsL_len]
  have et : ∀ q, endsAt (hs.take (i + 1)) q = endsAt (hs.take i) q ++ if h.2 = q then [h.1] else [] := fun q => by
    unfold endsAt
    rw [filt_step e, List.map_append]
    by_cases hq : h.2 = q
    · rw [if_pos (decide_eq_true hq), if_pos hq]; rfl
    · rw [if_neg (by simpa using hq), if_neg hq]; rfl
  by_cases hp : p < n
  · by_cases hq : h.2 = p
    · rw [if_pos hq, if_pos (by omega), endsL_at hp, et, if_pos hq, List.map_append, hq]
      rfl
    · rw [if_neg hq, endsL_at hp, endsL_at hp, et, if_neg hq, List.append_nil]
  · rw [if_neg (by omega), List.getElem?_eq_none (by rw [endsL_len]; omega), List.getElem?_eq_none (by rw [endsL_len]; omega)]
theorem endsAt_len {hs : List (Nat × Nat)} {p : Nat} : (endsAt hs p).length ≤ hs.length := by
  unfold endsAt
  rw [List.length_map]
  exact List.length_filter_le _ _
def S_ends_by_place (K : PySem.W.Frag) : SpL := fun vs L Q => ∃ x ts, vs = [x] ∧ Dv K L x (.tuple (iD ts)) ∧ ts.length < 2 ^ 20 ∧ ∀ v, Q v (.da v (.list ((endsL (holds ts) ts.length).map .list)) :: L)
theorem ok_ends_by_place {f : Addr} {fd : FuncData} (F : Fun K "ends_by_place" "ends_by_place" s_ends_by_place f fd) (B : Bs mg) (c_all_holds : Cal P w K mg base "all_holds" 1 ["touches"] (S_all_holds K)) : FnOk P w K mg base CX0 2 f fd ["touches"] (spL K (S_ends_by_place K)) := by
  refine okL F sc_ends_by_place (fun vs L Q h => ?_) (fun cdv A outer s H E hr => ⟨_, (pss_cons (ps_setLc (i := 1) (own := [("place", 4)]) (g := gName 4) (tt := tYes) rfl sc_ends_by_place.nd rfl rfl (sw_true rfl rfl rfl (by decide +kernel)) (pi_seqK (K := K) (pv 0)) (blkOk_by (N := n_ends_by_place) (sc := defScope s_ends_by_place) (by decide +kernel)) (fun _ _ _ _ _ => (pg_name (i := 4) sc_ends_by_place.nd rfl (Or.inl rfl))) (fun _ _ _ _ _ => pts_nil) (fun _ _ _ _ _ => (pe_lst pa_nil)))
      (pss_cons (ps_for PassesOwn.never rfl (pi_seqK (K := K) (pe_cal c_all_holds (hr.mono (by decide)) (by rfl) (pa_cons (pv 0) pa_nil))) (pg_tupK (K := K) (n := 2) rfl (pgs_cons (pg_name (i := 2) sc_ends_by_place.nd rfl (Or.inl rfl)) (pgs_cons (pg_name (i := 3) sc_ends_by_place.nd rfl (Or.inl rfl)) pgs_nil))) (pss_one (ps_expr (pe_bm PySem.F.plainAttrs_list PySem.F.slot_list_append PySem.F.type_list_append mt_append (pe_ix (ixRK (K := K) (r := rIxP) (ix_P (hu1 hr))) (pv 1) (pv 3) (fun _ _ => rfl)) (pa_cons (pv 2) pa_nil)))))
      (pss_one (ps_ret (pv 1))))), fun vs L LQ h => ?_⟩)
  · obtain ⟨x, ts, rfl, _⟩ := h
    rfl
  · obtain ⟨x, ts, rfl, hd, hz, q⟩ := h
    walk_at "norm"
    have len : (iD ts).length = ts.length := List.length_map _
    have hE := holds_ends ts
    have hS : ts.length < sizeLine := Nat.lt_trans hz (by decide)
    have hN : (holds ts).length < sizeLine := Nat.lt_of_le_of_lt (holds_len ts) (Nat.lt_trans hz (by decide))
    walk_at "go"
    refine wp_lcR (wi_seqT (wp_var rfl ⟨iD ts, hd, fun i acc L' => ∃ as : List Addr, acc = as.map V.ref ∧ as.length = i ∧ Ent K L' (llS as (List.replicate i []) ++ L), ⟨[], rfl, rfl, Ent.refl⟩, ?_, ?_, ?_⟩))
    · rintro i acc L' D hi ⟨as, rfl, hl, e⟩
      exact Ent.dv (Ent.drop (e.trans Ent.behind)) hd
    · rintro i acc L' v L2 D hi ⟨as, rfl, hl, e⟩ ⟨d, ed, od⟩
      refine wg_name ⟨rfl, wt_yes (iteT ?_)⟩
      refine wp_lst ?_
      walk_at "go"
      refine ⟨[], Dvs.nil, by decide, fun z => ?_⟩
      refine ⟨_, Ent.cons (.there (.here)) Ent.refl |> Ent.trans (Ent.tailE od.ent), by rw [List.length_map, hl]; rw [len] at hi; omega, as ++ [z], by rw [List.map_append]; rfl, by rw [List.length_append, hl]; rfl, ?_⟩
      rw [List.replicate_succ', ll_snoc (by rw [hl, List.length_replicate]), List.append_assoc]
      exact (Ent.tailE e).trans (Ent.perm List.perm_middle.symm)
    · rintro acc L' D ⟨as, rfl, hl, e⟩
      refine Ws.ent (Ent.tailE e) ?_
      walk_at "go"
      refine ws_for (wi_seqL ?_)
      walk_at "go"
      refine ⟨x, ts, rfl, Ent.dv (Ent.drop Ent.behind) hd, Nat.lt_trans hz (by decide), fun h0 => ?_⟩
      refine ⟨_, Ls.own (.head _), fun i σ L' => ∃ o2 o3, σ = [some x, some (.ref D), o2, o3, none] ∧ Ent K L' (.pt D (.lst (as.map V.ref)) :: (llS as (endsL ((holds ts).take i) ts.length) ++ (.ld h0 ((holds ts).map pD2) :: L))), ?_, ?_, ?_, ?_⟩
      · refine ⟨_, _, rfl, ?_⟩
        have e0 : endsL ((holds ts).take 0) ts.length = List.replicate ts.length [] := by
          rw [List.take_zero]
          exact List.ext_getElem? fun p => by
            unfold endsL endsAt
            rw [List.getElem?_map, List.getElem?_replicate]
            by_cases hp : p < ts.length
            · rw [List.getElem?_range hp, if_pos hp]; rfl
            · rw [List.getElem?_eq_none (by rw [List.length_range]; omega), if_neg hp]; rfl
        rw [e0, ← len]
        exact Ent.cons (.there .here) (Ent.perm List.perm_middle.symm)
      · rintro i σ L' hi ⟨o2, o3, rfl, e2⟩
        exact Ls.ent e2 (Ls.own (.tail _ (List.mem_append_right _ (.head _))))
      · rintro i σ L1 v L2 hi ⟨o2, o3, rfl, e2⟩ ⟨d, ed, od⟩
        obtain ⟨p, hp, rfl⟩ := pD2_at ed
        have hpm := hE p (List.mem_of_getElem? hp)
        refine wg_tupO (ds := [.int p.1, .int p.2]) od.dv rfl fun vs L3 o => ?_
        cases o with
        | cons o q1 =>
          cases o with
          | cons o q2 =>
            cases o
            obtain ⟨rfl, rfl⟩ := q2
            obtain ⟨rfl, rfl⟩ := q1
            refine wgs_cons (wg_name (wgs_cons (wg_name (wgs_nil ?_))))
            refine Ws.ent (od.ent.trans e2) ?_
            walk_at "go"
            refine wp_bm ?_
            walk_at "go"
            have hl2 : p.2 < as.length := by rw [hl, len]; exact hpm.2
            have ea : as[p.2]? = some as[p.2] := List.getElem?_eq_getElem hl2
            refine W2.fst (w2_ixP (v := .ref as[p.2]) (.head _) ?_ ?_)
            · rw [atI_nat (by rw [List.length_map]; exact hl2), List.getElem?_map, ea]
              rfl
            have pt := ll_put (R := .ld h0 ((holds ts).map pD2) :: L) (d' := (endsAt ((holds ts).take i) p.2).map (fun b => .int (b : Nat)) ++ [.int (p.1 : Nat)]) ea (endsL_at (hs := (holds ts).take i) hpm.2)
            refine ⟨tyL_ld (.tail _ pt.mem), ?_⟩
            walk_at "go"
            refine wm_append (.there pt) Dv.int ?_ ?_
            · have h1 := endsAt_len (hs := (holds ts).take i) (p := p.2)
              rw [List.length_take] at h1
              rw [List.length_map]
              omega
            · rw [endsL_step hp hpm.2]
              exact ⟨_, Ent.refl, _, _, rfl, Ent.refl⟩
      · rintro σ L1 ⟨o2, o3, rfl, e2⟩
        rw [List.length_map, List.take_length] at e2
        refine Ws.ent e2 (Ws.llF (by rw [hl, len, endsL_len]) ?_)
        walk_at "go"
        exact ⟨_, Ent.tailE (Ent.drop Ent.refl), q _⟩
end
end K84
namespace K84
open PySem PySem.Spec PyProof.Rows L2 Lg
/-! short tactics of my own, under the word walk_at -/
local macro_rules | `(tactic| walk_at "mem") => `(tactic| first | exact List.Mem.head _ | assumption | (refine List.Mem.tail _ ?_; walk_at "mem"))
local macro_rules | `(tactic| walk_at "put") => `(tactic| first | exact Put.here | (apply Put.there; walk_at "put"))
local macro_rules | `(tactic| walk_at "pick") => `(tactic| first | exact Pick.here | (apply Pick.there; walk_at "pick"))
local macro_rules | `(tactic| walk_at "ent") => `(tactic| first | exact Ent.refl | exact Ent.nil | (refine Ent.cons (by walk_at "pick") ?_; walk_at "ent") | (refine Ent.dup (by walk_at "mem") ?_; walk_at "ent") | (refine Ent.drop ?_; walk_at "ent"))
local macro_rules | `(tactic| walk_at "dv") => `(tactic| first | exact Dv.int | exact Dv.bl | exact Dv.str | exact Dv.non | assumption | exact Dv.mem (by walk_at "mem"))
local macro_rules | `(tactic| walk_at "dvs") => `(tactic| first | exact Dvs.nil | (apply Dvs.cons; (focus walk_at "dv"); (focus walk_at "dvs")))
local macro_rules | `(tactic| walk_at "norm") => `(tactic| try dsimp only [cxK, noxK, wishK, blkK, baseK, noxB])
local macro_rules | `(tactic| walk_at "num") => `(tactic| first | decide | omega | (simp only [CMul, CPow, CDivN]; omega) | assumption)
local macro_rules | `(tactic| walk_at "one") => `(tactic| with_reducible first
  | refine wp_var rfl ?_ | refine wp_c ?_ | refine wp_op ?_ | refine wp_cb ?_ | refine wa_cons ?_ | refine wa_nil ?_
  | refine ws_seq ?_ | refine ws_asg ?_ | refine ws_drop ?_ | refine ws_ret ?_ | refine ws_if ?_ | refine ws_par ?_ | refine ws_par3 ?_
  | refine wp_un ?_ | refine wp_chain ?_ | refine wp_if ?_ | refine wp_andV ?_ | refine wp_orV ?_ | refine wp_notV ?_ | refine wp_cal ?_ | refine wp_sl ?_
  | refine wo_none ?_ | refine wo_some ?_
  | refine wt_test ?_ | refine wt_B ?_ | refine wt_yes ?_ | refine wt_and ?_ | refine wt_or ?_ | refine wt_not ?_
  | refine w2_mulI (by walk_at "num") ?_ | refine w2_I (by walk_at "num") ?_
  | refine w2_addI ?_ | refine w2_eqPI ?_ | refine w2_eqPS ?_ | refine w2_nePS ?_ | refine w2_nePI ?_ | refine w2_ltI ?_ | refine w2_I0 ?_ | refine w1_U ?_
  | refine wg_name ?_ | refine wgs_nil ?_ | refine wgs_cons ?_ | refine iteT ?_ | refine iteF ?_ | refine ⟨_, rfl, ?_⟩)
local macro_rules | `(tactic| walk_at "go") => `(tactic| repeat walk_at "one")
local macro_rules | `(tactic| walk_at "len") => `(tactic| (simp only [List.length_cons, List.length_nil]; decide))

abbrev s_best_bars : Stmt := topS 21
abbrev n_best_bars : List Str := ["touches", "room", "many", "ends", "costs", "ways", "last", "passing", "place", "cost", "begin"]
theorem sc_best_bars : FnScope n_best_bars ["touches", "room"] (defScope s_best_bars) := ⟨rfl, rfl, rfl, by decide +kernel, rfl, by decide +kernel, by decide +kernel⟩
section
variable {P : Program} {w : World} {K : PySem.W.Frag} {mg : Str → Option Value} {base : Heap}
structure BarsOk (ts : List Int) (k : Nat) (B : List Nat) : Prop where
  asc : B.Pairwise (· < ·)
  lt : ∀ q ∈ B, q < ts.length
  cost : k * B.length + (holds ts).countP (bare B) = (keepTo k (holds ts) ts.length).length
structure DPk (st : RowS) (ck wk : List (Key × PyData)) : Prop where
  c : ∀ j : Int, valD ck (.inl j) = (st j).map fun z => .int (z.1 : Nat)
  w : ∀ j : Int, valD wk (.inl j) = (st j).map fun z => .tuple (nD z.2)
theorem DPk.put {st : RowS} {ck wk : List (Key × PyData)} (h : DPk st ck wk) (p : Int) (c : Nat) (B : List Nat) : DPk (rowUp st p (c, B)) (putD ck (.inl p) (.int (c : Nat))) (putD wk (.inl p) (.tuple (nD B))) := by
  constructor
  · intro j
    rw [valD_put, rowUp]
    by_cases hj : j = p
    · rw [if_pos (by rw [hj]), if_pos hj]; rfl
    · rw [if_neg (fun z => hj (Sum.inl.inj z)), if_neg hj]; exact h.c j
  · intro j
    rw [valD_put, rowUp]
    by_cases hj : j = p
    · rw [if_pos (by rw [hj]), if_pos hj]; rfl
    · rw [if_neg (fun z => hj (Sum.inl.inj z)), if_neg hj]; exact h.w j
def S_best_bars (K : PySem.W.Frag) : SpL := fun vs L Q => ∃ x ts, ∃ k : Nat, vs = [x, .int (k + 1 : Int)] ∧ Dv K L x (.tuple (iD ts)) ∧ ts.length < 1000 ∧ ∀ v B, BarsOk ts k B → Q v (.da v (.tuple (nD B)) :: L)
theorem ok_best_bars {f : Addr} {fd : FuncData} (F : Fun K "best_bars" "best_bars" s_best_bars f fd) (B : Bs mg) (c_ends_by_place : Cal P w K mg base "ends_by_place" 2 ["touches"] (S_ends_by_place K)) : FnOk P w K mg base CX0 3 f fd ["touches", "room"] (spL K (S_best_bars K)) := by
  refine okL F sc_best_bars (fun vs L Q h => ?_) (fun cdv A outer s H E hr => ⟨_, (pss_cons (ps_par (i := 2) (j := 3) (by rfl) sc_best_bars.nd rfl rfl (by decide) rfl rfl (pa_cons (pe_callB (callRK (K := K) (r := rLenP) call_lenP) (by rfl) B.len (by decide +kernel) (pa_cons (pv 0) pa_nil)) (pa_cons (pe_cal c_ends_by_place (hr.mono (by decide)) (by rfl) (pa_cons (pv 0) pa_nil)) pa_nil)) (by rfl))
      (pss_cons (ps_par (i := 4) (j := 5) (by rfl) sc_best_bars.nd rfl rfl (by decide) rfl rfl (pa_cons (pe_disp (pps_cons (pe_un un_neg pe_int) pe_int pps_nil) (by rfl) (by rfl) (fun z => by cases z) (by decide)) (pa_cons (pe_disp (pps_cons (pe_un un_neg pe_int) (pe_tup pa_nil) pps_nil) (by rfl) (by rfl) (fun z => by cases z) (by decide)) pa_nil)) (by rfl))
      (pss_cons (ps_for PassesOwn.never rfl (pi_range2 rfl B.range (pa_cons (pe_un un_neg pe_int) (pa_cons (pv 2) pa_nil))) (pg_name (i := 6) sc_best_bars.nd rfl (Or.inr rfl)) (pss_cons (ps_set (i := 7) sc_best_bars.nd rfl (.inl rfl) pe_int)
      (pss_one (ps_for PassesOwn.never rfl (pi_range2 rfl B.range (pa_cons (pe_op (opRK (K := K) (r := rAddP) op_addP) (pv 6) pe_int) (pa_cons (pe_op (opRK (K := K) (r := rAddP) op_addP) (pv 2) pe_int) pa_nil))) (pg_name (i := 8) sc_best_bars.nd rfl (Or.inl rfl)) (pss_cons (ps_if (pt_cmpR (opRK (K := K) (r := rLtP) (op_ltP (hu0 hr))) (pv 8) (pv 2) (nomark _)) (pss_one (ps_aug (i := 7) sc_best_bars.nd rfl (.inl rfl) (pe_callB (callRK (K := K) (r := rLenP) call_lenP) (by rfl) B.len (by decide +kernel) (pa_cons (pe_lc (own := [("begin", 10)]) (g := gName 10) (tt := _) rfl sc_best_bars.nd (pi_seqK (K := K) (pe_ix (ixRK (K := K) (r := rIxP) (ix_P (hu1 hr))) (pv 3) (pv 8) (fun _ _ => rfl))) (blkOk_by (N := n_best_bars) (sc := defScope s_best_bars) (by decide +kernel)) (fun _ _ _ _ _ => (pg_name (i := 10) sc_best_bars.nd rfl (Or.inl rfl))) (fun _ _ _ _ _ => (pts_one (pt_cmpR op_ge (pv 10) (pv 6) (nomark _)))) (fun _ _ _ _ _ => (pv 10))) pa_nil)) ip_add)) pss_nil)
      (pss_cons (ps_set (i := 9) sc_best_bars.nd rfl (.inl rfl) (pe_op (opRK (K := K) (r := rAddP) op_addP) (pe_op (opRK (K := K) (r := rAddP) op_addP) (pe_ix (ixRK (K := K) (r := rIxP) (ix_P (hu1 hr))) (pv 4) (pv 6) (fun _ _ => rfl)) (pv 7)) (pe_ifExp (pt_cmpR (opRK (K := K) (r := rLtP) (op_ltP (hu0 hr))) (pv 8) (pv 2) (nomark _)) (pe_op op_sub (pv 1) pe_int) pe_int)))
      (pss_one (ps_if (PW.pt (pw_or (pt_cmpR (opRK (K := K) (r := rNotInP) (op_notInP (hu65 hr))) (pv 8) (pv 4) (by rfl)) (pw_or1 (pt_cmpR (opRK (K := K) (r := rLtP) (op_ltP (hu0 hr))) (pv 9) (pe_ix (ixRK (K := K) (r := rIxP) (ix_P (hu1 hr))) (pv 4) (pv 8) (fun _ _ => rfl)) (nomark _))))) (pss_one (ps_asg (pe_tup (pa_cons (pv 9) (pa_cons (pe_op (opRK (K := K) (r := rAddP) op_addP) (pe_ix (ixRK (K := K) (r := rIxP) (ix_P (hu1 hr))) (pv 5) (pv 6) (fun _ _ => rfl)) (pe_ifExp (pt_cmpR (opRK (K := K) (r := rLtP) (op_ltP (hu0 hr))) (pv 8) (pv 2) (nomark _)) (pe_tup (pa_cons (pv 8) pa_nil)) (pe_tup pa_nil))) pa_nil))) (pg_tupK (K := K) (n := 2) rfl (pgs_cons (pg_sub (pv 4) (pv 8) (set_P (hu1 hr))) (pgs_cons (pg_sub (pv 5) (pv 8) (set_P (hu1 hr))) pgs_nil))))) pss_nil))))))))
      (pss_one (ps_ret (pe_ix (ixRK (K := K) (r := rIxP) (ix_P (hu1 hr))) (pv 5) (pv 2) (fun _ _ => rfl))))))), fun vs L LQ h => ?_⟩)
  · obtain ⟨x, ts, k, rfl, _⟩ := h
    rfl
  · obtain ⟨x, ts, k, rfl, hd, hz, q⟩ := h
    walk_at "norm"
    have len : (iD ts).length = ts.length := List.length_map _
    have hE := holds_ends ts
    have nh := holds_nodup ts
    generalize hhs : holds ts = hs at hE nh
    generalize hn : ts.length = n at hE hz
    walk_at "go"
    refine wc_len (Sq.tup hd) ?_
    walk_at "go"
    refine ⟨x, ts, rfl, hd, by rw [hn]; exact Nat.lt_trans hz (by decide), fun e => ?_⟩
    rw [len, hhs, hn]
    walk_at "go"
    refine ⟨_, _, rfl, ?_⟩
    walk_at "go"
    refine wp_disp fun c => ?_
    dsimp only [Wps]
    walk_at "go"
    refine ⟨_, [(.inl (-1), .int 0)], .here, rfl, by walk_at "len", ?_⟩
    walk_at "go"
    refine wp_disp fun w' => ?_
    dsimp only [Wps]
    walk_at "go"
    refine wp_tup ?_
    walk_at "go"
    refine ⟨[], Dvs.nil, by decide, fun z => ?_⟩
    refine ⟨_, [(.inl (-1), .ref z)], .there .here, rfl, by walk_at "len", ?_⟩
    walk_at "go"
    refine ⟨_, _, rfl, ?_⟩
    generalize hL0 : As.da e (PyData.list ((endsL hs n).map .list)) :: L = L0
    have hde : Dv K L0 e (.list ((endsL hs n).map .list)) := by rw [← hL0]; exact Dv.mem (.head _)
    have eL0 : Ent K L0 L := by rw [← hL0]; exact Ent.drop Ent.refl
    walk_at "go"
    refine ws_for (wi_range2 ?_)
    walk_at "go"
    refine ⟨-1, n, rfl, ⟨by decide, by decide, by omega, by omega⟩, fun i σ L' => ∃ o6 o7 o8 o9 st ck wk, σ = [some x, some (.int (k + 1 : Int)), some (.int (n : Nat)), some e, some (.ref c), some (.ref w'), o6, o7, o8, o9, none] ∧
      Ent K L' (.dk c ck :: .dk w' wk :: L0) ∧ DPk st ck wk ∧ RowI k n hs st ((i : Int) - 1) i ∧ ck.length ≤ 1 + i * (n + 1) ∧ wk.length ≤ 1 + i * (n + 1), ?_, ?_, ?_, ?_⟩
    · refine ⟨none, none, none, none, row0, [(.inl (-1), .int 0)], [(.inl (-1), .tuple [])], rfl, ?_, ⟨fun j => ?_, fun j => ?_⟩, rowI_start, by simp, by simp⟩
      · have h1 : Ent K (.da (.ref z) (.tuple []) :: .pt w' (.dK (mergeK [] [(.inl (-1), .ref z)])) :: .pt c (.dK (mergeK [] [(.inl (-1), .int 0)])) :: L0) (.pt c (.dK [(.inl (-1), .int 0)]) :: .pt w' (.dK [(.inl (-1), .ref z)]) :: .da (.ref z) (.tuple []) :: L0) :=
          Ent.cons (.there (.there .here)) (Ent.cons (.there .here) (Ent.cons .here Ent.refl))
        refine h1.trans ((ent_dk1 Dv.int).trans (Ent.tailE ((ent_dk1 (Dv.mem (.head _))).trans (Ent.tailE (Ent.drop Ent.refl)))))
      · unfold row0 valD
        by_cases hj : j = -1
        · rw [if_pos hj, hj]; rfl
        · rw [if_neg hj, List.find?_cons_of_neg (by simpa using fun z : (Sum.inl (-1) : Key) = .inl j => hj (Sum.inl.inj z).symm)]; rfl
      · unfold row0 valD
        by_cases hj : j = -1
        · rw [if_pos hj, hj]; rfl
        · rw [if_neg hj, List.find?_cons_of_neg (by simpa using fun z : (Sum.inl (-1) : Key) = .inl j => hj (Sum.inl.inj z).symm)]; rfl
    · intros; trivial
    · rintro i σ L1 v L2 hi ⟨o6, o7, o8, o9, st, ck, wk, rfl, e1, dp, I, lc, lw⟩ ⟨rfl, rfl⟩
      have hi' : i ≤ n := by omega
      refine wg_name ?_
      rw [show (-1 + (i : Int)) = (i : Int) - 1 by omega]
      generalize hl : (i : Int) - 1 = l at I
      refine Ws.ent e1 ?_
      walk_at "go"
      refine ws_for (wi_range2 ?_)
      walk_at "go"
      refine ⟨_, _, rfl, ⟨by omega, by omega, by omega, by omega⟩, fun j σ L' => ∃ o8 o9 st ck wk, σ = [some x, some (.int (k + 1 : Int)), some (.int (n : Nat)), some e, some (.ref c), some (.ref w'), some (.int l), some (.int (seg hs l ((i : Int) + j - 1) : Nat)), o8, o9, none] ∧
        Ent K L' (.dk c ck :: .dk w' wk :: L0) ∧ DPk st ck wk ∧ RowI k n hs st l (i + j) ∧ ck.length ≤ 1 + i * (n + 1) + j ∧ wk.length ≤ 1 + i * (n + 1) + j, ?_, ?_, ?_, ?_⟩
      · refine ⟨o8, o9, st, ck, wk, ?_, Ent.refl, dp, I, lc, lw⟩
        rw [seg_zero hE (by omega)]
        rfl
      · intros; trivial
      · rintro j σ L3 v L4 hj ⟨o8, o9, st, ck, wk, rfl, e2, dp, I, lc, lw⟩ ⟨rfl, rfl⟩
        have hip : i + j ≤ n := by omega
        refine wg_name ?_
        dsimp only
        rw [show (l + 1 + (j : Int)) = ((i + j : Nat) : Int) by omega, show ((i : Int) + j - 1) = ((i + j : Nat) : Int) - 1 by omega, show ((i : Int) + ((j + 1 : Nat) : Int) - 1) = ((i + j : Nat) : Int) by omega, show i + (j + 1) = (i + j) + 1 by omega]
        have hbig : 1 + i * (n + 1) + j + 1 < sizeLine := by
          have : i * (n + 1) ≤ 1000 * 1000 := Nat.mul_le_mul (by omega) (by omega)
          rw [sizeLine_eq]
          omega
        generalize hp : i + j = p at I hip
        have hlp : l < (p : Int) := by omega
        have hl0 : -1 ≤ l := by omega
        refine Ws.ent e2 ?_
        obtain ⟨cc, cB, hcB⟩ := I.here
        -- passing
        refine ws_cut (fun σ' L' => σ' = [some x, some (.int (k + 1 : Int)), some (.int (n : Nat)), some e, some (.ref c), some (.ref w'), some (.int l), some (.int (seg hs l p : Nat)), some (.int (p : Nat)), o9, none] ∧ Ent K L' (.dk c ck :: .dk w' wk :: L0)) ?_ ?_
        · refine ws_if ?_
          walk_at "go"
          refine iteR (fun hlt => ?_) fun hlt => ?_
          · have hpn : p < n := by have := of_decide_eq_true hlt; omega
            refine ws_aug rfl ?_
            walk_at "go"
            refine wp_lcS (b := true) (fun d => match d with | .int b => decide (l ≤ b) | _ => false) id ?_
            walk_at "go"
            refine W2.fst (w2_at (d := .list ((endsAt hs p).map fun b => .int (b : Nat))) (Sq.lis (Ent.dv (Ent.drop (Ent.drop Ent.refl)) hde)) ?_ fun v' L' o => ?_)
            · rw [atI_nat (by rw [List.length_map, endsL_len]; exact hpn), List.getElem?_map, endsL_at hpn]
              rfl
            obtain rfl : L' = _ := o
            refine ⟨_, .inl ⟨rfl, Ls.dat (Dv.mem (.head _))⟩, ?_, fun d v L2 D acc hdm o => ?_, fun D => ?_⟩
            · have h1 := endsAt_len (hs := hs) (p := p)
              have h2 := holds_len ts
              rw [List.length_map]
              rw [hhs, hn] at h2
              exact Nat.lt_of_le_of_lt (Nat.le_trans h1 h2) (Nat.lt_trans hz (by decide))
            · obtain ⟨b, hb, rfl⟩ := List.mem_map.mp hdm
              obtain ⟨rfl, rfl⟩ := o
              refine wg_name ⟨rfl, ?_⟩
              walk_at "go"
              refine ⟨rfl, ?_⟩
              refine iteR (fun h => ?_) fun h => ?_
              · exact wp_var rfl ⟨Dv.int, Ent.refl⟩
              · exact Ent.refl
            · walk_at "go"
              refine wc_len (Sq.own (.head _)) ?_
              refine w2_ipI ⟨?_, Ent.drop (Ent.drop Ent.refl)⟩
              rw [seg_next l p, List.map_id, List.filter_map, List.length_map]
              rfl
          · have hpn : ¬ p < n := by have := of_decide_eq_false hlt; omega
            refine ws_next ⟨?_, Ent.refl⟩
            have : p = n := by omega
            rw [this, seg_top hE]
            rfl
        rintro σ' L5 ⟨rfl, e3⟩
        refine Ws.ent e3 ?_
        -- cost
        refine ws_cut (fun σ' L' => σ' = [some x, some (.int (k + 1 : Int)), some (.int (n : Nat)), some e, some (.ref c), some (.ref w'), some (.int l), some (.int (seg hs l p : Nat)), some (.int (p : Nat)), some (.int ((cc + seg hs l p + (if p < n then k else 0) : Nat) : Int)), none] ∧ Ent K L' (.dk c ck :: .dk w' wk :: L0)) ?_ ?_
        · walk_at "go"
          refine W2.snd (w2_ixD (d := .int (cc : Nat)) ?_ fun v' L' o => ?_)
          · have := dp.c l
            rw [hcB] at this
            have h2 : valD ck (.inl l) = some (.int (cc : Nat)) := this
            rw [← h2]
            exact DAt.k (k := .inl l) (.head _)
          obtain ⟨rfl, rfl⟩ := o
          walk_at "go"
          refine iteR (fun hlt => ?_) fun hlt => ?_
          · have hpn : p < n := by have := of_decide_eq_true hlt; omega
            walk_at "go"
            refine ⟨?_, Ent.refl⟩
            rw [if_pos hpn, show (cc : Int) + (seg hs l p : Nat) + ((k : Int) + 1 - 1) = ((cc + seg hs l p + k : Nat) : Int) by omega]
            rfl
          · have hpn : ¬ p < n := by have := of_decide_eq_false hlt; omega
            walk_at "go"
            refine ⟨?_, Ent.refl⟩
            rw [if_neg hpn, show (cc : Int) + (seg hs l p : Nat) + 0 = ((cc + seg hs l p + 0 : Nat) : Int) by omega]
            rfl
        rintro σ' L6 ⟨rfl, e4⟩
        refine Ws.ent e4 ?_
        generalize hcost : cc + seg hs l p + (if p < n then k else 0) = cost
        -- store
        have fin : ∀ {L7 : List As} {D : LE}, Ent K L7 (.dk c ck :: .dk w' wk :: L0) → (∀ c' B', st p = some (c', B') → cost ≤ c') → (∀ L8 ck' wk' st', Ent K L8 (.dk c ck' :: .dk w' wk' :: L0) → DPk st' ck' wk' → RowI k n hs st' l (p + 1) → ck'.length ≤ ck.length + 1 → wk'.length ≤ wk.length + 1 → D.nx [some x, some (.int (k + 1 : Int)), some (.int (n : Nat)), some e, some (.ref c), some (.ref w'), some (.int l), some (.int (seg hs l p : Nat)), some (.int (p : Nat)), some (.int (cost : Nat)), none] L8) →
            Ws K (tAsg (tTup (tCons (tVar 9) (tCons (tOp (rAddP K) (tOp (rIxP K) (tVar 5) (tVar 6)) (tIf (tTest (tOp (rLtP K) (tVar 8) (tVar 2))) (tTup (tCons (tVar 8) tNil)) (tTup tNil))) tNil))) (gTup K 2 (gCons (gSub (tVar 4) (tVar 8) rSetP) (gCons (gSub (tVar 5) (tVar 8) rSetP) gNil)))) D [some x, some (.int (k + 1 : Int)), some (.int (n : Nat)), some e, some (.ref c), some (.ref w'), some (.int l), some (.int (seg hs l p : Nat)), some (.int (p : Nat)), some (.int (cost : Nat)), none] L7 := by
          intro L7 D e5 better hD
          refine Ws.ent e5 (ws_asgG (wp_tup ?_))
          walk_at "go"
          refine W2.snd (w2_ixD (d := .tuple (nD cB)) ?_ fun v' L' o => ?_)
          · have h2 : valD wk (.inl l) = some (.tuple (nD cB)) := by rw [dp.w l, hcB]; rfl
            rw [← h2]
            exact DAt.k (k := .inl l) (.tail _ (.head _))
          obtain rfl : L' = _ := o
          have hB : cB.length ≤ n := by
            have R := I.row.ok l cc cB hcB (by omega)
            have RI := R.inv hE (by omega)
            have := nodup_len (xs := cB) (ys := List.range n) (RI.asc.imp fun h => Nat.ne_of_lt h) fun q hq => List.mem_range.mpr (RI.lt q hq)
            rwa [List.length_range] at this
          refine Wp.imp (Q := fun y L' => Dv K L' y (.tuple (nD (if p < n then [p] else []))) ∧ Ent K L' (.da v' (.tuple (nD cB)) :: .dk c ck :: .dk w' wk :: L0)) ?_ ?_
          · walk_at "go"
            refine iteR (fun hlt => ?_) fun hlt => ?_
            · have hpn : p < n := by have := of_decide_eq_true hlt; omega
              refine wp_tup ?_
              walk_at "go"
              refine ⟨[.int (p : Nat)], Dvs.cons Dv.int Dvs.nil, by walk_at "len", fun t => ?_⟩
              rw [if_pos hpn]
              exact ⟨Dv.mem (.head _), Ent.drop Ent.refl⟩
            · have hpn : ¬ p < n := by have := of_decide_eq_false hlt; omega
              refine wp_tup ?_
              walk_at "go"
              refine ⟨[], Dvs.nil, by walk_at "len", fun t => ?_⟩
              rw [if_neg hpn]
              exact ⟨Dv.mem (.head _), Ent.drop Ent.refl⟩
          · rintro v2 L9 ⟨hv2, e6'⟩
            have hS : (nD cB).length + (nD (if p < n then [p] else [])).length ≤ sizeLine := by
              rw [List.length_map, List.length_map, sizeLine_eq]
              have : (if p < n then [p] else []).length ≤ 1 := by split <;> simp
              omega
            refine w2_addT (Ent.dv e6' (Dv.mem (.head _))) hv2 hS fun v3 => ?_
            rw [← List.map_append]
            have hv : Dv K (.da v3 (.tuple (nD (cB ++ if p < n then [p] else []))) :: L9) v3 (.tuple (nD (cB ++ if p < n then [p] else []))) := Dv.mem (.head _)
            have e6 : Ent K (.da v3 (.tuple (nD (cB ++ if p < n then [p] else []))) :: L9) (.dk c ck :: .dk w' wk :: L0) := Ent.drop (e6'.trans (Ent.drop Ent.refl))
            generalize As.da v3 (.tuple (nD (cB ++ if p < n then [p] else []))) :: L9 = L9 at hv e6
            walk_at "go"
            refine ⟨[.int (cost : Nat), .tuple (nD (cB ++ if p < n then [p] else []))], Dvs.cons Dv.int (Dvs.cons hv Dvs.nil), by walk_at "len", fun t => ?_⟩
            refine wg_tupO (Dv.mem (.head _)) rfl fun vs L11 o => ?_
            cases o with
            | cons o q1 =>
              cases o with
              | cons o q2 =>
                cases o
                obtain rfl : _ = _ := q2
                obtain ⟨rfl, rfl⟩ := q1
                rename_i v5
                have e7 : Ent K (.da v5 (.tuple (nD (cB ++ if p < n then [p] else []))) :: .da (.ref t) (.tuple [.int (cost : Nat), .tuple (nD (cB ++ if p < n then [p] else []))]) :: L9) (.da v5 (.tuple (nD (cB ++ if p < n then [p] else []))) :: .dk c ck :: .dk w' wk :: L0) := Ent.tailE (Ent.drop e6)
                refine fun H hs => ?_
                revert H
                show Wgs K _ _ _ _ _
                refine Wgs.ent e7 ?_
                refine wgs_cons (wg_sub ?_)
                walk_at "go"
                refine ⟨_, StAt.k (k := .inl (p : Int)) (d := .int (cost : Nat)) (by omega) Dv.int (.there .here), ?_⟩
                refine wgs_cons (wg_sub ?_)
                walk_at "go"
                refine ⟨_, StAt.k (k := .inl (p : Int)) (d := .tuple (nD (cB ++ if p < n then [p] else []))) (by omega) (Dv.mem (.head _)) (.there (.there .here)), ?_⟩
                refine wgs_nil (hD _ _ _ _ (Ent.drop Ent.refl) (dp.put p cost (cB ++ if p < n then [p] else [])) ?_ putD_len putD_len)
                rw [← hcost]
                refine I.put hlp hip hl0 hcB fun c' B' e' => ?_
                rw [hcost]
                exact better c' B' e'
        refine ws_if ?_
        walk_at "go"
        have hck : valD ck (.inl (p : Int)) = (st p).map fun z => .int (z.1 : Nat) := dp.c p
        refine W2.fst (w2_notInDc (o := valD ck (.inl (p : Int))) (DAt.k (k := .inl (p : Int)) (.head _)) ⟨_, rfl, ?_⟩)
        have nxt : ∀ L8 ck' wk' st', Ent K L8 (.dk c ck' :: .dk w' wk' :: L0) → DPk st' ck' wk' → RowI k n hs st' l (p + 1) → ck'.length ≤ ck.length + 1 → wk'.length ≤ wk.length + 1 → ∃ L', Ent K L8 L' ∧ ∃ o8 o9 st ck wk, [some x, some (.int (k + 1 : Int)), some (.int (n : Nat)), some e, some (.ref c), some (.ref w'), some (.int l), some (V.int (seg hs l p : Nat)), some (V.int (p : Nat)), some (V.int (cost : Nat)), none] = [some x, some (.int (k + 1 : Int)), some (.int (n : Nat)), some e, some (.ref c), some (.ref w'), some (.int l), some (.int (seg hs l p : Nat)), o8, o9, none] ∧
            Ent K L' (.dk c ck :: .dk w' wk :: L0) ∧ DPk st ck wk ∧ RowI k n hs st l (p + 1) ∧ ck.length ≤ 1 + i * (n + 1) + (j + 1) ∧ wk.length ≤ 1 + i * (n + 1) + (j + 1) :=
          fun L8 ck' wk' st' g1 g2 g3 g4 g5 => ⟨_, Ent.refl, _, _, st', ck', wk', rfl, g1, g2, g3, by omega, by omega⟩
        cases hsp : st p with
        | none =>
          rw [hsp] at hck
          rw [hck]
          refine iteT (iteT ?_)
          exact fin Ent.refl (fun c' B' z => by rw [hsp] at z; cases z) nxt
        | some z =>
          rw [hsp] at hck
          rw [hck]
          refine iteF ?_
          walk_at "go"
          refine W2.snd (w2_ixD (d := .int (z.1 : Nat)) ?_ fun v' L' o => ?_)
          · have h2 : valD ck (.inl (p : Int)) = some (.int (z.1 : Nat)) := hck
            rw [← h2]
            exact DAt.k (k := .inl (p : Int)) (.head _)
          obtain ⟨rfl, rfl⟩ := o
          walk_at "go"
          refine iteR (fun hlt => ?_) fun hlt => ?_
          · have hlt' := of_decide_eq_true hlt
            exact fin Ent.refl (fun c' B' y => by rw [hsp] at y; cases y; omega) nxt
          · have hlt' := of_decide_eq_false hlt
            refine ws_next (nxt _ ck wk st Ent.refl dp (I.same hcB hsp (by rw [hcost]; omega)) (by omega) (by omega))
      · rintro σ L3 ⟨o8, o9, st, ck, wk, rfl, e2, dp, I, lc, lw⟩
        have hcnt : ((n : Int) + 1 - (l + 1)).toNat = n + 1 - i := by omega
        generalize ((n : Int) + 1 - (l + 1)).toNat = m at hcnt e2 I lc lw
        rw [show i + m = n + 1 by omega] at I
        refine ⟨_, Ent.refl, _, _, _, _, st, ck, wk, rfl, e2, dp, ?_, ?_, ?_⟩
        · have := I.next (by omega) (by omega) (i + 1) (by omega)
          rwa [show ((i + 1 : Nat) : Int) - 1 = l + 1 by omega]
        · rw [Nat.succ_mul]; omega
        · rw [Nat.succ_mul]; omega
    · rintro σ L1 ⟨o6, o7, o8, o9, st, ck, wk, rfl, e1, dp, I, lc, lw⟩
      have hcnt : ((n : Int) - -1).toNat = n + 1 := by omega
      rw [hcnt] at I
      rw [show ((n + 1 : Nat) : Int) - 1 = (n : Int) by omega] at I
      obtain ⟨cf, Bf, ef, hb1, hb2, hb3⟩ := I.fin nh hE
      refine Ws.ent e1 ?_
      walk_at "go"
      refine W2.snd (w2_ixD (d := .tuple (nD Bf)) ?_ fun v' L' o => ?_)
      · have h2 : valD wk (.inl (n : Int)) = some (.tuple (nD Bf)) := by rw [dp.w n, ef]; rfl
        rw [← h2]
        exact DAt.k (k := .inl (n : Int)) (.tail _ (.head _))
      obtain rfl : L' = _ := o
      exact ⟨_, Ent.tailE (Ent.drop (Ent.drop eL0)), q v' Bf ⟨hb1, by rw [hn]; exact hb2, by rw [hhs, hn]; exact hb3⟩⟩
end
end K84
namespace K84
open PySem PySem.Spec PyProof.Rows L2 Lg
/-! short tactics of my own, under the word walk_at -/
local macro_rules | `(tactic| walk_at "mem") => `(tactic| first | exact List.Mem.head _ | assumption | (refine List.Mem.tail _ ?_; walk_at "mem"))
local macro_rules | `(tactic| walk_at "put") => `(tactic| first | exact Put.here | (apply Put.there; walk_at "put"))
local macro_rules | `(tactic| walk_at "pick") => `(tactic| first | exact Pick.here | (apply Pick.there; walk_at "pick"))
local macro_rules | `(tactic| walk_at "ent") => `(tactic| first | exact Ent.refl | exact Ent.nil | (refine Ent.cons (by walk_at "pick") ?_; walk_at "ent") | (refine Ent.dup (by walk_at "mem") ?_; walk_at "ent") | (refine Ent.drop ?_; walk_at "ent"))
local macro_rules | `(tactic| walk_at "dv") => `(tactic| first | exact Dv.int | exact Dv.bl | exact Dv.str | exact Dv.non | assumption | exact Dv.mem (by walk_at "mem"))
local macro_rules | `(tactic| walk_at "dvs") => `(tactic| first | exact Dvs.nil | (apply Dvs.cons; (focus walk_at "dv"); (focus walk_at "dvs")))
local macro_rules | `(tactic| walk_at "norm") => `(tactic| try dsimp only [cxK, noxK, wishK, blkK, baseK, noxB])
local macro_rules | `(tactic| walk_at "num") => `(tactic| first | decide | omega | (simp only [CMul, CPow, CDivN]; omega) | assumption)
local macro_rules | `(tactic| walk_at "one") => `(tactic| with_reducible first
  | refine wp_var rfl ?_ | refine wp_c ?_ | refine wp_op ?_ | refine wp_cb ?_ | refine wa_cons ?_ | refine wa_nil ?_
  | refine ws_seq ?_ | refine ws_asg ?_ | refine ws_drop ?_ | refine ws_ret ?_ | refine ws_if ?_ | refine ws_par ?_ | refine ws_par3 ?_
  | refine wp_un ?_ | refine wp_chain ?_ | refine wp_if ?_ | refine wp_andV ?_ | refine wp_orV ?_ | refine wp_notV ?_ | refine wp_cal ?_ | refine wp_sl ?_
  | refine wo_none ?_ | refine wo_some ?_
  | refine wt_test ?_ | refine wt_B ?_ | refine wt_yes ?_ | refine wt_and ?_ | refine wt_or ?_ | refine wt_not ?_
  | refine w2_mulI (by walk_at "num") ?_ | refine w2_I (by walk_at "num") ?_
  | refine w2_addI ?_ | refine w2_eqPI ?_ | refine w2_eqPS ?_ | refine w2_nePS ?_ | refine w2_nePI ?_ | refine w2_ltI ?_ | refine w2_I0 ?_ | refine w1_U ?_
  | refine wg_name ?_ | refine wgs_nil ?_ | refine wgs_cons ?_ | refine iteT ?_ | refine iteF ?_ | refine ⟨_, rfl, ?_⟩)
local macro_rules | `(tactic| walk_at "go") => `(tactic| repeat walk_at "one")
local macro_rules | `(tactic| walk_at "len") => `(tactic| (simp only [List.length_cons, List.length_nil]; decide))

abbrev s_least_room : Stmt := topS 29
abbrev n_least_room : List Str := ["touches", "many", "cells", "room", "number"]
theorem sc_least_room : FnScope n_least_room ["touches", "many"] (defScope s_least_room) := ⟨rfl, rfl, rfl, by decide +kernel, rfl, by decide +kernel, by decide +kernel⟩
section
variable {P : Program} {w : World} {K : PySem.W.Frag} {mg : Str → Option Value} {base : Heap}
def S_least_room (K : PySem.W.Frag) : SpL := fun vs L Q => ∃ x ts, ∃ many : Int, vs = [x, .int many] ∧ Dv K L x (.tuple (iD ts)) ∧ ts.length < 2 ^ 20 ∧ natD ts ∧ Q (optV (leastRoom ts many)) L
theorem ok_least_room {f : Addr} {fd : FuncData} (F : Fun K "least_room" "least_room" s_least_room f fd) (B : Bs mg) (c_check_touches : Cal P w K mg base "check_touches" 3 ["touches"] (S_check_touches K))
    (c_fewest_fetches : Cal P w K mg base "fewest_fetches" 3 ["touches", "room"] (S_fewest_fetches K)) :
    FnOk P w K mg base CX0 4 f fd ["touches", "many"] (spL K (S_least_room K)) := by
  refine okL F sc_least_room (fun vs L Q h => ?_) (fun cdv A outer s H E hr => ⟨_, (pss_cons (ps_expr (pe_cal c_check_touches (hr.mono (by decide)) (by rfl) (pa_cons (pv 0) pa_nil)))
      (pss_cons (ps_setDc (i := 2) (own := [("number", 4)]) (g := gName 4) (tt := tYes) rfl sc_least_room.nd rfl rfl (swD_true rfl rfl rfl (by decide +kernel)) (pi_seqK (K := K) (pv 0)) (blkOk_by (N := n_least_room) (sc := defScope s_least_room) (by decide +kernel)) (fun _ _ _ _ _ => (pg_name (i := 4) sc_least_room.nd rfl (Or.inl rfl))) (fun _ _ _ _ _ => pts_nil) (fun _ _ _ _ _ => (pv 4)) (fun _ _ _ _ _ => pe_bl))
      (pss_cons (ps_for PassesOwn.never rfl (pi_range2 rfl B.range (pa_cons pe_int (pa_cons (pe_op (opRK (K := K) (r := rAddP) op_addP) (pe_callB (call_max2P rfl) (by rfl) B.max (by decide +kernel) (pa_cons pe_int (pa_cons (pe_callB (callRK (K := K) (r := rLenP) call_lenP) (by rfl) B.len (by decide +kernel) (pa_cons (pv 2) pa_nil)) pa_nil))) pe_int) pa_nil))) (pg_name (i := 3) sc_least_room.nd rfl (Or.inl rfl)) (pss_one (ps_if (pt_cmpR op_le (pe_cal c_fewest_fetches (hr.mono (by decide)) (by rfl) (pa_cons (pv 0) (pa_cons (pv 3) pa_nil))) (pv 1) (nomark _)) (pss_one (ps_ret (pv 3))) pss_nil)))
      (pss_one (ps_ret pe_non))))), fun vs L LQ h => ?_⟩)
  · obtain ⟨x, ts, k, rfl, _⟩ := h
    rfl
  · obtain ⟨x, ts, many, rfl, hd, hz, hn, q⟩ := h
    walk_at "norm"
    walk_at "go"
    refine ⟨x, _, rfl, hd, fits_of hz, areT_of hn, ?_⟩
    walk_at "go"
    have len : (iD ts).length = ts.length := List.length_map _
    refine wp_dc (wi_seqT (wp_var rfl ⟨iD ts, hd, fun i acc L' => L' = L ∧ acc = (uniq (ts.take i)).map fun c => (.inl c, .bool true), ⟨rfl, rfl⟩, ?_, ?_, ?_⟩))
    · rintro i acc L' D hi ⟨rfl, rfl⟩
      exact Ent.dv (Ent.drop Ent.refl) hd
    · rintro i acc L' v L2 D hi ⟨rfl, rfl⟩ ⟨d, e, o⟩
      obtain ⟨c, hc, rfl⟩ := iD_at e
      obtain ⟨rfl, rfl⟩ := o
      refine wg_name ⟨rfl, wt_yes (iteT ?_)⟩
      walk_at "go"
      refine ⟨.inl c, .bool true, L', rfl, Dv.bl, Ent.refl, ?_, rfl, ?_⟩
      · have h1 := cells_le (ts.take i)
        unfold cells at h1
        rw [List.length_map]
        rw [List.length_take] at h1
        rw [len] at hi
        exact Nat.lt_of_le_of_lt h1 (Nat.lt_of_le_of_lt (Nat.min_le_right _ _) (Nat.lt_trans hz (by decide)))
      · rw [uniq_step hc]
        unfold uniqS putD
        have ea : (((uniq (ts.take i)).map fun c => ((.inl c, .bool true) : Key × PyData)).any fun kv => decide (kv.1 = .inl c)) = decide (c ∈ uniq (ts.take i)) := by
          induction uniq (ts.take i) with
          | nil => simp
          | cons a l ih =>
            rw [List.map_cons, List.any_cons, ih]
            by_cases h1 : a = c <;> by_cases h2 : c ∈ l <;> simp [h1, h2, eq_comm]
            all_goals exact fun z => h1 (Sum.inl.inj z).symm
        rw [ea]
        by_cases hm : c ∈ uniq (ts.take i)
        · rw [if_pos (decide_eq_true hm), if_pos hm]
          rw [List.map_map]
          refine List.map_congr_left fun a _ => ?_
          show (if (Sum.inl a : Key) = .inl c then (Sum.inl a, PyData.bool true) else (.inl a, .bool true)) = _
          split <;> rfl
        · rw [if_neg (by simpa using hm), if_neg hm, List.map_append]
          rfl
    · rintro acc L' D ⟨rfl, rfl⟩
      rw [len, List.take_length]
      walk_at "go"
      refine ws_for (wi_range2 ?_)
      walk_at "go"
      refine wc_lenK (.head _) ?_
      walk_at "go"
      refine wc_max2 ?_
      walk_at "go"
      have hcl := cells_le ts
      rw [List.length_map]
      have en : ((max 1 ((uniq ts).length : Int)) + 1 - 1).toNat = max 1 (cells ts) := by unfold cells; omega
      refine ⟨_, _, rfl, ?_, ?_⟩
      · unfold cells at hcl
        omega
      · rw [en]
        refine ⟨fun i σ L2 => ∃ o3 o4, σ = [some x, some (.int many), some (.ref D), o3, o4] ∧ Ent K L2 L' ∧ ∀ j, j < i → ¬ fewest ts (j + 1) ≤ many, ?_, ?_, ?_, ?_⟩
        · exact ⟨_, _, rfl, Ent.drop Ent.refl, fun j hj => absurd hj (Nat.not_lt_zero _)⟩
        · intros; trivial
        · rintro i σ L2 v L3 hi ⟨o3, o4, rfl, e, hno⟩ ⟨rfl, rfl⟩
          refine wg_name ?_
          refine Ws.ent e ?_
          walk_at "go"
          refine ⟨x, ts, i, by rw [Int.add_comm], hd, hz, ?_⟩
          walk_at "go"
          refine iteR (fun hc => ?_) fun hc => ?_
          · walk_at "go"
            refine ⟨_, Ent.refl, ?_⟩
            have e2 : leastRoom ts many = some (i + 1) := by
              unfold leastRoom
              have : (List.range (max 1 (cells ts))).find? (fun k => decide (fewest ts (k + 1) ≤ many)) = some i := by
                rw [List.find?_range_eq_some]
                refine ⟨hc, List.mem_range.mpr hi, fun j hj => ?_⟩
                simpa using hno j hj
              rw [this]
              rfl
            rw [e2] at q
            rw [show (1 + (i : Int)) = ((i + 1 : Nat) : Int) by omega]
            exact q
          · refine ws_next ⟨_, Ent.refl, _, _, rfl, Ent.refl, fun j hj => ?_⟩
            rcases Nat.lt_succ_iff_lt_or_eq.mp hj with z | z
            · exact hno j z
            · rw [z]
              exact of_decide_eq_false hc
        · rintro σ L2 ⟨o3, o4, rfl, e, hno⟩
          walk_at "go"
          refine ⟨_, e, ?_⟩
          have e2 : leastRoom ts many = none := by
            unfold leastRoom
            rw [List.find?_eq_none.mpr fun j hj => ?_]
            · rfl
            · simpa using hno j (List.mem_range.mp hj)
          rw [e2] at q
          exact q
end
end K84
namespace K84
open PySem PySem.Spec PyProof.Rows L2 Lg
/-! short tactics of my own, under the word walk_at -/
local macro_rules | `(tactic| walk_at "mem") => `(tactic| first | exact List.Mem.head _ | assumption | (refine List.Mem.tail _ ?_; walk_at "mem"))
local macro_rules | `(tactic| walk_at "put") => `(tactic| first | exact Put.here | (apply Put.there; walk_at "put"))
local macro_rules | `(tactic| walk_at "pick") => `(tactic| first | exact Pick.here | (apply Pick.there; walk_at "pick"))
local macro_rules | `(tactic| walk_at "ent") => `(tactic| first | exact Ent.refl | exact Ent.nil | (refine Ent.cons (by walk_at "pick") ?_; walk_at "ent") | (refine Ent.dup (by walk_at "mem") ?_; walk_at "ent") | (refine Ent.drop ?_; walk_at "ent"))
local macro_rules | `(tactic| walk_at "dv") => `(tactic| first | exact Dv.int | exact Dv.bl | exact Dv.str | exact Dv.non | assumption | exact Dv.mem (by walk_at "mem"))
local macro_rules | `(tactic| walk_at "dvs") => `(tactic| first | exact Dvs.nil | (apply Dvs.cons; (focus walk_at "dv"); (focus walk_at "dvs")))
local macro_rules | `(tactic| walk_at "norm") => `(tactic| try dsimp only [cxK, noxK, wishK, blkK, baseK, noxB])
local macro_rules | `(tactic| walk_at "num") => `(tactic| first | decide | omega | (simp only [CMul, CPow, CDivN]; omega) | assumption)
local macro_rules | `(tactic| walk_at "one") => `(tactic| with_reducible first
  | refine wp_var rfl ?_ | refine wp_c ?_ | refine wp_op ?_ | refine wp_cb ?_ | refine wa_cons ?_ | refine wa_nil ?_
  | refine ws_seq ?_ | refine ws_asg ?_ | refine ws_drop ?_ | refine ws_ret ?_ | refine ws_if ?_ | refine ws_par ?_ | refine ws_par3 ?_
  | refine wp_un ?_ | refine wp_chain ?_ | refine wp_if ?_ | refine wp_andV ?_ | refine wp_orV ?_ | refine wp_notV ?_ | refine wp_cal ?_ | refine wp_sl ?_
  | refine wo_none ?_ | refine wo_some ?_
  | refine wt_test ?_ | refine wt_B ?_ | refine wt_yes ?_ | refine wt_and ?_ | refine wt_or ?_ | refine wt_not ?_
  | refine w2_mulI (by walk_at "num") ?_ | refine w2_I (by walk_at "num") ?_
  | refine w2_addI ?_ | refine w2_eqPI ?_ | refine w2_eqPS ?_ | refine w2_nePS ?_ | refine w2_nePI ?_ | refine w2_ltI ?_ | refine w2_I0 ?_ | refine w1_U ?_
  | refine wg_name ?_ | refine wgs_nil ?_ | refine wgs_cons ?_ | refine iteT ?_ | refine iteF ?_ | refine ⟨_, rfl, ?_⟩)
local macro_rules | `(tactic| walk_at "go") => `(tactic| repeat walk_at "one")
local macro_rules | `(tactic| walk_at "len") => `(tactic| (simp only [List.length_cons, List.length_nil]; decide))

abbrev s_law_deck : Stmt := topS 31
abbrev n_law_deck : List Str := ["script", "seed", "cell", "great"]
theorem sc_law_deck : FnScope n_law_deck ["script"] (defScope s_law_deck) := ⟨rfl, rfl, rfl, by decide +kernel, rfl, by decide +kernel, by decide +kernel⟩
section
variable {P : Program} {w : World} {K : PySem.W.Frag} {mg : Str → Option Value} {base : Heap}
def S_law_deck (K : PySem.W.Frag) : SpL := fun vs L Q => ∃ x cs, vs = [x] ∧ Ls K L x (iD cs) ∧ cs.length < sizeLine ∧ ∀ a L', Deck K L' a 0 L → Q (.ref a) L'
theorem ok_law_deck {f : Addr} {fd : FuncData} (F : Fun K "_law_deck" "_law_deck" s_law_deck f fd) (B : Bs mg) : FnOk P w K mg base CX0 1 f fd ["script"] (spL K (S_law_deck K)) := by
  refine okL F sc_law_deck (fun vs L Q h => ?_) (fun cdv A outer s H E hr => ⟨_, (pss_cons (ps_set (i := 1) sc_law_deck.nd rfl (.inl rfl) pe_int)
      (pss_cons (ps_for PassesOwn.never rfl (pi_seqK (K := K) (pe_slice (slRK (K := K) (r := rSlP) sl_P) (pv 0) po_none (po_some pe_int))) (pg_name (i := 2) sc_law_deck.nd rfl (Or.inl rfl)) (pss_one (ps_set (i := 1) sc_law_deck.nd rfl (.inl rfl) (pe_op op_mod (pe_op (opRK (K := K) (r := rAddP) op_addP) (pe_op (opRK (K := K) (r := rAddP) op_addP) (pe_op (opRK (K := K) (r := rMulP) op_mulP) (pv 1) pe_int) (pe_op op_mod (pv 2) pe_int)) pe_int) pe_int))))
      (pss_cons (ps_setLc (i := 3) (own := [("cell", 2)]) (g := gName 2) (tt := _) rfl sc_law_deck.nd rfl rfl (sw_true rfl rfl rfl (by decide +kernel)) (pi_seqK (K := K) (pe_slice (slRK (K := K) (r := rSlP) sl_P) (pv 0) po_none (po_some pe_int))) (blkOk_by (N := n_law_deck) (sc := defScope s_law_deck) (by decide +kernel)) (fun _ _ _ _ _ => (pg_name (i := 2) sc_law_deck.nd rfl (Or.inl rfl))) (fun _ _ _ _ _ => (pts_one (pt_cmpR op_ge (pv 2) (pe_op op_pow pe_int pe_int) (nomark _)))) (fun _ _ _ _ _ => (pv 2)))
      (pss_one (ps_ret (pe_disp (pps_cons pe_str (pe_revL (pv 3)) (pps_cons pe_str (pv 1) (pps_cons pe_str pe_int pps_nil))) (by rfl) (by rfl) (fun z => by cases z) (by decide))))))), fun vs L LQ h => ?_⟩)
  · obtain ⟨x, ts, rfl, _⟩ := h
    rfl
  · obtain ⟨x, cs, rfl, hd, hz, q⟩ := h
    walk_at "norm"
    walk_at "go"
    refine ws_for (wi_seqL ?_)
    walk_at "go"
    refine wsl_L hd fun c1 => ?_
    rw [show ((63 : Int)) = ((63 : Nat) : Int) from rfl, cut_to, ← List.map_take]
    generalize hc63 : cs.take 63 = c63
    have l63 : c63.length ≤ 63 := by rw [← hc63, List.length_take]; omega
    refine ⟨_, Ls.own (.head _), fun i σ L' => ∃ s o2, σ = [some x, some (.int s), o2, none] ∧ Ent K L' (.ld c1 (iD c63) :: L) ∧ 0 ≤ s ∧ s < 2 ^ 31, ?_, ?_, ?_, ?_⟩
    · exact ⟨_, _, rfl, Ent.refl, by decide, by decide⟩
    · rintro i σ L' hi ⟨s, o2, rfl, e, _⟩
      exact Ls.ent e (Ls.own (.head _))
    · rintro i σ L1 v L2 hi ⟨s, o2, rfl, e, s0, s1⟩ ⟨d, ed, od⟩
      obtain ⟨c, hc, rfl⟩ := iD_at ed
      obtain ⟨rfl, rfl⟩ := od
      refine wg_name ?_
      walk_at "go"
      exact ⟨_, Ent.refl, _, _, rfl, e, by omega, by omega⟩
    · rintro σ L1 ⟨s, o2, rfl, e, s0, s1⟩
      refine Ws.ent (e.trans (Ent.drop Ent.refl)) ?_
      walk_at "go"
      refine wp_lc (wi_seqL ?_)
      walk_at "go"
      refine wsl_L hd fun c2 => ?_
      rw [cut_to, ← List.map_take, hc63]
      refine ⟨_, Ls.own (.head _), fun i acc L' => L' = .ld c2 (iD c63) :: L ∧ ∃ gs : List Int, acc = iD gs ∧ gs.length ≤ i, ⟨rfl, [], rfl, Nat.le_refl _⟩, ?_, ?_, ?_⟩
      · rintro i acc L' D hi ⟨rfl, _⟩
        exact Ls.own (by walk_at "mem")
      · rintro i acc L' v L2 D hi ⟨rfl, gs, rfl, hg⟩ ⟨d, ed, od⟩
        obtain ⟨c, hc, rfl⟩ := iD_at ed
        obtain ⟨rfl, rfl⟩ := od
        refine wg_name ⟨rfl, ?_⟩
        walk_at "go"
        refine iteR (fun hc => ?_) fun hc => ?_
        · walk_at "go"
          refine ⟨.int c, _, Dv.int, Ent.refl, ?_, rfl, gs ++ [c], by rw [iD, iD, List.map_append]; rfl, by rw [List.length_append]; exact Nat.succ_le_succ hg⟩
          rw [List.length_map] at hi ⊢
          exact Nat.lt_of_le_of_lt hg (Nat.lt_of_lt_of_le hi (Nat.le_trans l63 (by decide)))
        · exact ⟨_, Ent.refl, rfl, gs, rfl, Nat.le_succ_of_le hg⟩
      · rintro acc L' D ⟨rfl, gs, rfl, hg⟩
        walk_at "go"
        refine wp_disp fun p => ?_
        refine wp_c (wp_revL (wp_var rfl ⟨_, Ls.own (by walk_at "mem"), fun r => ?_⟩))
        refine wp_c (wp_var rfl ?_)
        refine wp_c (wp_c ?_)
        refine ⟨_, [(kGreat, .ref r), (kSeed, .int s), (kTurn, .int 0)], .there .here, rfl, by walk_at "len", ?_⟩
        refine ⟨_, Ent.refl, q p _ ?_⟩
        refine Deck.here (g := r) (s := s) (t := 0) (gs := gs.reverse) ⟨by rw [List.length_reverse]; rw [List.length_map] at hg; omega, s0, s1, by decide, by decide⟩ ?_
        refine Ent.cons (.there .here) ?_
        rw [List.map_reverse]
        exact Ent.cons .here (Ent.drop (Ent.drop Ent.refl))
end
abbrev s_law_draw : Stmt := topS 32
abbrev n_law_draw : List Str := ["deck", "many", "cell", "turn", "number"]
theorem sc_law_draw : FnScope n_law_draw ["deck", "many"] (defScope s_law_draw) := ⟨rfl, rfl, rfl, by decide +kernel, rfl, by decide +kernel, by decide +kernel⟩
section
variable {P : Program} {w : World} {K : PySem.W.Frag} {mg : Str → Option Value} {base : Heap}
def S_law_draw (K : PySem.W.Frag) : SpL := fun vs L Q => ∃ a, ∃ many : Int, ∃ n L0, vs = [.ref a, .int many] ∧ 1 ≤ many ∧ many < 2 ^ 30 ∧ Deck K L a n L0 ∧ n < 2 ^ 40 ∧ ∀ (r : Nat) L', (r : Int) < many → Deck K L' a (n + 1) L0 → Q (.int (r : Int)) L'
theorem ok_law_draw {f : Addr} {fd : FuncData} (F : Fun K "_law_draw" "_law_draw" s_law_draw f fd) (B : Bs mg) : FnOk P w K mg base CX0 1 f fd ["deck", "many"] (spL K (S_law_draw K)) := by
  refine okL F sc_law_draw (fun vs L Q h => ?_) (fun cdv A outer s H E hr => ⟨_, (pss_cons (ps_if (pt_cmpR (opRK (K := K) (r := rNeP) (op_neP (hu64 hr))) (pe_ix (ixRK (K := K) (r := rIxP) (ix_P (hu1 hr))) (pv 0) pe_str (fun _ _ => rfl)) (pe_lst pa_nil) (nomark _)) (pss_cons (ps_set (i := 2) sc_law_draw.nd rfl (.inl rfl) (pe_bm0 PySem.F.plainAttrs_list PySem.F.slot_list_pop PySem.F.type_list_pop mt_pop (pe_ix (ixRK (K := K) (r := rIxP) (ix_P (hu1 hr))) (pv 0) pe_str (fun _ _ => rfl))))
      (pss_cons (ps_if (pt_cmpR op_ge (pv 2) (pv 1) (nomark _)) (pss_one (ps_expr (pe_bm PySem.F.plainAttrs_list PySem.F.slot_list_append PySem.F.type_list_append mt_append (pe_ix (ixRK (K := K) (r := rIxP) (ix_P (hu1 hr))) (pv 0) pe_str (fun _ _ => rfl)) (pa_cons (pe_op op_fdivN (pv 2) (pv 1)) pa_nil)))) pss_nil)
      (pss_one (ps_ret (pe_op op_mod (pv 2) (pv 1)))))) pss_nil)
      (pss_cons (ps_set (i := 3) sc_law_draw.nd rfl (.inl rfl) (pe_op (opRK (K := K) (r := rAddP) op_addP) (pe_ix (ixRK (K := K) (r := rIxP) (ix_P (hu1 hr))) (pv 0) pe_str (fun _ _ => rfl)) pe_int))
      (pss_cons (ps_dput (hu1 hr) (pv 0) pe_str (pv 3) rfl)
      (pss_cons (ps_set (i := 4) sc_law_draw.nd rfl (.inl rfl) (pe_op (opRK (K := K) (r := rAddP) op_addP) (pe_op (opRK (K := K) (r := rAddP) op_addP) (pe_ix (ixRK (K := K) (r := rIxP) (ix_P (hu1 hr))) (pv 0) pe_str (fun _ _ => rfl)) (pe_op (opRK (K := K) (r := rMulP) op_mulP) (pe_op (opRK (K := K) (r := rMulP) op_mulP) pe_int (pv 3)) (pv 3))) pe_int))
      (pss_cons (ps_set (i := 4) sc_law_draw.nd rfl (.inl rfl) (pe_op op_mod (pe_op (opRK (K := K) (r := rMulP) op_mulP) (pv 4) pe_int) pe_int))
      (pss_cons (ps_set (i := 4) sc_law_draw.nd rfl (.inl rfl) (pe_op op_mod (pe_op (opRK (K := K) (r := rAddP) op_addP) (pe_op (opRK (K := K) (r := rMulP) op_mulP) (pv 4) (pv 4)) (pe_op (opRK (K := K) (r := rMulP) op_mulP) pe_int (pv 3))) pe_int))
      (pss_one (ps_ret (pe_op op_mod (pe_op op_fdivN (pe_op op_mod (pe_op (opRK (K := K) (r := rMulP) op_mulP) (pv 4) pe_int) pe_int) pe_int) (pv 1)))))))))), fun vs L LQ h => ?_⟩)
  · obtain ⟨a, many, n, L0, rfl, _⟩ := h
    rfl
  · obtain ⟨a, many, n, L0, rfl, h1, h2, ⟨g, s0, t, gs, ok, e⟩, hn, q⟩ := h
    walk_at "norm"
    refine Ws.ent e ?_
    walk_at "go"
    refine W2.snd (w2_ixDP (k := kGreat) (.head _) deck_great ?_)
    walk_at "go"
    refine wp_lst ?_
    walk_at "go"
    refine ⟨[], Dvs.nil, by decide, fun z => ?_⟩
    refine W2.snd (w2_neQ (Dn.own (.tail _ (.tail _ (.head _)))) (Dn.own (.head _)) (shaped_ints gs) (shaped_ints []) ?_)
    rw [eqvL_nil]
    refine ⟨_, rfl, ?_⟩
    refine iteR (fun hg => ?_) fun hg => ?_
    · have hg' : gs ≠ [] := by simpa using hg
      obtain ⟨gs', c, rfl⟩ : ∃ gs' c, gs = gs' ++ [c] := ⟨gs.dropLast, gs.getLast hg', (List.dropLast_concat_getLast hg').symm⟩
      walk_at "go"
      refine wp_bm0 ?_
      walk_at "go"
      refine W2.snd (w2_ixDP (k := kGreat) (by walk_at "mem") deck_great ?_)
      refine ⟨tyL_ld (by walk_at "mem"), ?_⟩
      rw [List.map_append]
      refine wm_pop (ds := gs'.map .int) (d := .int c) (by walk_at "put") fun v L'' o => ?_
      obtain ⟨rfl, rfl⟩ := o
      walk_at "go"
      have fin : ∀ gs'' : List Int, gs''.length ≤ 64 → ∃ L', Ent K (.ld z [] :: .pt a (.dK (deckK g s0 t)) :: .ld g (gs''.map .int) :: L0) L' ∧ LQ (.int (c % many)) L' := fun gs'' hg2 => by
        refine ⟨_, Ent.refl, ?_⟩
        have hr : c % many = ((c % many).toNat : Int) := (Int.toNat_of_nonneg (Int.emod_nonneg _ (by omega))).symm
        rw [hr]
        refine q _ _ (by rw [← hr]; exact Int.emod_lt_of_pos _ (by omega)) ?_
        exact Deck.here (gs := gs'') ⟨hg2, ok.s0, ok.s1, ok.t0, by have := ok.t1; omega⟩ (Ent.drop Ent.refl)
      refine iteR (fun hc => ?_) fun hc => ?_
      · walk_at "go"
        refine wp_bm ?_
        walk_at "go"
        refine W2.snd (w2_ixDP (k := kGreat) (by walk_at "mem") deck_great ?_)
        refine ⟨tyL_ld (by walk_at "mem"), ?_⟩
        walk_at "go"
        refine wm_append (d := .int (c.fdiv many)) (by walk_at "put") (by walk_at "dv") ?_ ?_
        · have := ok.few
          simp at this
          rw [List.length_map]
          exact Nat.lt_of_lt_of_le (by omega : gs'.length < 64) (by decide)
        · walk_at "go"
          rw [show gs'.map PyData.int ++ [PyData.int (c.fdiv many)] = (gs' ++ [c.fdiv many]).map .int by rw [List.map_append]; rfl]
          exact fin _ (by have := ok.few; rw [List.length_append] at this ⊢; exact this)
      · refine ws_next ?_
        walk_at "go"
        exact fin _ (by have := ok.few; simp at this; omega)
    · refine ws_next ?_
      walk_at "go"
      refine W2.snd (w2_ixDP (k := kTurn) (by walk_at "mem") deck_turn ?_)
      walk_at "go"
      refine ws_dput ?_
      walk_at "go"
      refine .inr (.inr ⟨a, deckK g s0 t, kTurn, _, rfl, rfl, by show 3 < sizeLine; decide, by walk_at "put", ?_⟩)
      rw [deck_put]
      have t0 := ok.t0
      have t1 := ok.t1
      have s1 := ok.s1
      have s2 := ok.s0
      walk_at "go"
      refine W2.snd (w2_ixDP (k := kSeed) (by walk_at "mem") deck_seed ?_)
      walk_at "go"
      have fin : ∀ c : Int, ∃ L', Ent K (.ld z [] :: .pt a (.dK (deckK g s0 (t + 1))) :: .ld g (gs.map .int) :: L0) L' ∧ LQ (.int (c % many)) L' := fun c => by
        refine ⟨_, Ent.refl, ?_⟩
        have hr : c % many = ((c % many).toNat : Int) := (Int.toNat_of_nonneg (Int.emod_nonneg _ (by omega))).symm
        rw [hr]
        refine q _ _ (by rw [← hr]; exact Int.emod_lt_of_pos _ (by omega)) ?_
        exact Deck.here ⟨ok.few, ok.s0, ok.s1, by omega, by omega⟩ (Ent.drop Ent.refl)
      exact fin _
end
abbrev s_law_pick : Stmt := topS 33
abbrev n_law_pick : List Str := ["deck", "some"]
theorem sc_law_pick : FnScope n_law_pick ["deck", "some"] (defScope s_law_pick) := ⟨rfl, rfl, rfl, by decide +kernel, rfl, by decide +kernel, by decide +kernel⟩
section
variable {P : Program} {w : World} {K : PySem.W.Frag} {mg : Str → Option Value} {base : Heap}
def S_law_pick (K : PySem.W.Frag) : SpL := fun vs L Q => ∃ a x n L0 ds, vs = [.ref a, x] ∧ Deck K L a n L0 ∧ n < 2 ^ 40 ∧ Sq K L0 x ds ∧ ds ≠ [] ∧ ds.length < 2 ^ 30 ∧ ∀ d v L1 L', d ∈ ds → Deck K L1 a (n + 1) L0 → OutD d v L1 L' → Q v L'
theorem ok_law_pick {f : Addr} {fd : FuncData} (F : Fun K "_law_pick" "_law_pick" s_law_pick f fd) (B : Bs mg) (c_law_draw : Cal P w K mg base "_law_draw" 1 ["deck", "many"] (S_law_draw K)) : FnOk P w K mg base CX0 2 f fd ["deck", "some"] (spL K (S_law_pick K)) := by
  refine okL F sc_law_pick (fun vs L Q h => ?_) (fun cdv A outer s H E hr => ⟨_, (pss_one (ps_ret (pe_ix (ixRK (K := K) (r := rIxP) (ix_P (hu1 hr))) (pv 1) (pe_cal c_law_draw (hr.mono (by decide)) (by rfl) (pa_cons (pv 0) (pa_cons (pe_callB (callRK (K := K) (r := rLenP) call_lenP) (by rfl) B.len (by decide +kernel) (pa_cons (pv 1) pa_nil)) pa_nil))) (fun _ _ => rfl)))), fun vs L LQ h => ?_⟩)
  · obtain ⟨a, x, n, L0, ds, rfl, _⟩ := h
    rfl
  · obtain ⟨a, x, n, L0, ds, rfl, hD, hn, hx, h0, hl, q⟩ := h
    walk_at "norm"
    walk_at "go"
    refine wc_len (hx.ent hD.ent) ?_
    walk_at "go"
    have l0 : 0 < ds.length := List.length_pos_iff.mpr h0
    refine ⟨a, _, n, L0, rfl, by omega, by omega, hD, hn, fun r L1 hr2 hD1 => ?_⟩
    have hr3 : r < ds.length := by omega
    refine W2.fst (w2_at (hx.ent hD1.ent) (d := ds[r]) ?_ fun v L' o => ⟨_, Ent.refl, q _ v L1 L' (List.getElem_mem _) hD1 o⟩)
    rw [atI_nat hr3]
    exact List.getElem?_eq_getElem hr3
end
end K84
namespace K84
open PySem PySem.Spec PyProof.Rows L2 Lg
/-! short tactics of my own, under the word walk_at -/
local macro_rules | `(tactic| walk_at "mem") => `(tactic| first | exact List.Mem.head _ | assumption | (refine List.Mem.tail _ ?_; walk_at "mem"))
local macro_rules | `(tactic| walk_at "put") => `(tactic| first | exact Put.here | (apply Put.there; walk_at "put"))
local macro_rules | `(tactic| walk_at "pick") => `(tactic| first | exact Pick.here | (apply Pick.there; walk_at "pick"))
local macro_rules | `(tactic| walk_at "ent") => `(tactic| first | exact Ent.refl | exact Ent.nil | (refine Ent.cons (by walk_at "pick") ?_; walk_at "ent") | (refine Ent.dup (by walk_at "mem") ?_; walk_at "ent") | (refine Ent.drop ?_; walk_at "ent"))
local macro_rules | `(tactic| walk_at "dv") => `(tactic| first | exact Dv.int | exact Dv.bl | exact Dv.str | exact Dv.non | assumption | exact Dv.mem (by walk_at "mem"))
local macro_rules | `(tactic| walk_at "dvs") => `(tactic| first | exact Dvs.nil | (apply Dvs.cons; (focus walk_at "dv"); (focus walk_at "dvs")))
local macro_rules | `(tactic| walk_at "norm") => `(tactic| try dsimp only [cxK, noxK, wishK, blkK, baseK, noxB])
local macro_rules | `(tactic| walk_at "num") => `(tactic| first | decide | omega | (simp only [CMul, CPow, CDivN]; omega) | assumption)
local macro_rules | `(tactic| walk_at "one") => `(tactic| with_reducible first
  | refine wp_var rfl ?_ | refine wp_c ?_ | refine wp_op ?_ | refine wp_cb ?_ | refine wa_cons ?_ | refine wa_nil ?_
  | refine ws_seq ?_ | refine ws_asg ?_ | refine ws_drop ?_ | refine ws_ret ?_ | refine ws_if ?_ | refine ws_par ?_ | refine ws_par3 ?_
  | refine wp_un ?_ | refine wp_chain ?_ | refine wp_if ?_ | refine wp_andV ?_ | refine wp_orV ?_ | refine wp_notV ?_ | refine wp_cal ?_ | refine wp_sl ?_
  | refine wo_none ?_ | refine wo_some ?_
  | refine wt_test ?_ | refine wt_B ?_ | refine wt_yes ?_ | refine wt_and ?_ | refine wt_or ?_ | refine wt_not ?_
  | refine w2_mulI (by walk_at "num") ?_ | refine w2_I (by walk_at "num") ?_
  | refine w2_addI ?_ | refine w2_eqPI ?_ | refine w2_eqPS ?_ | refine w2_nePS ?_ | refine w2_nePI ?_ | refine w2_ltI ?_ | refine w2_I0 ?_ | refine w1_U ?_
  | refine wg_name ?_ | refine wgs_nil ?_ | refine wgs_cons ?_ | refine iteT ?_ | refine iteF ?_ | refine ⟨_, rfl, ?_⟩)
local macro_rules | `(tactic| walk_at "go") => `(tactic| repeat walk_at "one")
local macro_rules | `(tactic| walk_at "len") => `(tactic| (simp only [List.length_cons, List.length_nil]; decide))

abbrev s_judge_pages : Stmt := topS 25
abbrev n_judge_pages : List Str := ["touches", "room"]
theorem sc_judge_pages : FnScope n_judge_pages ["touches", "room"] (defScope s_judge_pages) := ⟨rfl, rfl, rfl, by decide +kernel, rfl, by decide +kernel, by decide +kernel⟩
section
variable {P : Program} {w : World} {K : PySem.W.Frag} {mg : Str → Option Value} {base : Heap}
abbrev kD (ps : List (Nat × Nat)) : List PyData := ps.map pD2
def paperD (ps : List (Nat × Nat)) (B : List Nat) : PyData := .tuple [.str "fetched", .tuple (kD ps), .tuple (nD B)]
def S_judge_pages (K : PySem.W.Frag) : SpL := fun vs L Q => ∃ x ts, ∃ k : Nat, vs = [x, .int (k + 1 : Int)] ∧ Dv K L x (.tuple (iD ts)) ∧ ts.length < 1000 ∧ natD ts ∧ ∀ v B, BarsOk ts k B → Q v (.da v (paperD (kept ts k) B) :: L)
theorem ok_judge_pages {f : Addr} {fd : FuncData} {tF : Tok} (F : Fun K "judge_pages" "judge_pages" s_judge_pages f fd) (B : Bs mg) (g_FETCHED : mg "FETCHED" = some (.str "fetched" tF)) (c_check_touches : Cal P w K mg base "check_touches" 3 ["touches"] (S_check_touches K)) (c_check_room : Cal P w K mg base "check_room" 3 ["room"] (S_check_room K))
    (c_kept_holds : Cal P w K mg base "kept_holds" 2 ["touches", "room"] (S_kept_holds K)) (c_best_bars : Cal P w K mg base "best_bars" 3 ["touches", "room"] (S_best_bars K)) : FnOk P w K mg base CX0 4 f fd ["touches", "room"] (spL K (S_judge_pages K)) := by
  refine okL F sc_judge_pages (fun vs L Q h => ?_) (fun cdv A outer s H E hr => ⟨_, (pss_cons (ps_expr (pe_cal c_check_touches (hr.mono (by decide)) (by rfl) (pa_cons (pv 0) pa_nil)))
      (pss_cons (ps_expr (pe_cal c_check_room (hr.mono (by decide)) (by rfl) (pa_cons (pv 1) pa_nil)))
      (pss_one (ps_ret (pe_tup (pa_cons (pe_glob (v := .str "fetched") rfl g_FETCHED ⟨_, rfl⟩) (pa_cons (pe_callTy (callRK (K := K) (r := rTupleP) call_tupleP) (by rfl) B.tuple (by decide +kernel) (pa_cons (pe_cal c_kept_holds (hr.mono (by decide)) (by rfl) (pa_cons (pv 0) (pa_cons (pv 1) pa_nil))) pa_nil)) (pa_cons (pe_cal c_best_bars (hr.mono (by decide)) (by rfl) (pa_cons (pv 0) (pa_cons (pv 1) pa_nil))) pa_nil)))))))), fun vs L LQ h => ?_⟩)
  · obtain ⟨x, ts, k, rfl, _⟩ := h
    rfl
  · obtain ⟨x, ts, k, rfl, hd, hz, hn, q⟩ := h
    have hz2 : ts.length < 2 ^ 20 := Nat.lt_trans hz (by decide)
    walk_at "norm"
    walk_at "go"
    refine ⟨x, _, rfl, hd, fits_of hz2, areT_of hn, ?_⟩
    walk_at "go"
    refine ⟨_, rfl, by omega, ?_⟩
    walk_at "go"
    refine wp_tup ?_
    walk_at "go"
    refine ⟨x, ts, k, rfl, hd, hz2, fun p => ?_⟩
    walk_at "go"
    refine wc_tuple (Ls.own (.head _)) fun v => ?_
    walk_at "go"
    refine ⟨x, ts, k, rfl, Ent.dv (Ent.drop (Ent.drop Ent.refl)) hd, hz, fun v2 B hB => ?_⟩
    walk_at "go"
    refine ⟨[.str "fetched", .tuple (kD (kept ts k)), .tuple (nD B)], by walk_at "dvs", by walk_at "len", fun t => ⟨_, ?_, q _ B hB⟩⟩
    exact Ent.tailE (Ent.drop (Ent.drop (Ent.drop Ent.refl)))
end
abbrev s_law_all_holds : Stmt := topS 34
abbrev n_law_all_holds : List Str := ["touches", "last", "found", "at", "cell"]
theorem sc_law_all_holds : FnScope n_law_all_holds ["touches"] (defScope s_law_all_holds) := ⟨rfl, rfl, rfl, by decide +kernel, rfl, by decide +kernel, by decide +kernel⟩
section
variable {P : Program} {w : World} {K : PySem.W.Frag} {mg : Str → Option Value} {base : Heap}
def S_law_all_holds (K : PySem.W.Frag) : SpL := fun vs L Q => ∃ x ts, vs = [x] ∧ Dv K L x (.tuple (iD ts)) ∧ ts.length < sizeLine ∧ ∀ v, Q v (.da v (.tuple (kD (holds ts))) :: L)
theorem ok_law_all_holds {f : Addr} {fd : FuncData} (F : Fun K "_law_all_holds" "_law_all_holds" s_law_all_holds f fd) (B : Bs mg) : FnOk P w K mg base CX0 1 f fd ["touches"] (spL K (S_law_all_holds K)) := by
  refine okL F sc_law_all_holds (fun vs L Q h => ?_) (fun cdv A outer s H E hr => ⟨_, (pss_cons (ps_par (i := 1) (j := 2) (by rfl) sc_law_all_holds.nd rfl rfl (by decide) rfl rfl (pa_cons pe_dnewK (pa_cons (pe_lst pa_nil) pa_nil)) (by rfl))
      (pss_cons (ps_for PassesOwn.never rfl (pi_enumP (by rfl) B.enumerate (pa_cons (pv 0) pa_nil)) (pg_tupK (K := K) (n := 2) rfl (pgs_cons (pg_name (i := 3) sc_law_all_holds.nd rfl (Or.inl rfl)) (pgs_cons (pg_name (i := 4) sc_law_all_holds.nd rfl (Or.inl rfl)) pgs_nil))) (pss_cons (ps_expr (pe_bm PySem.F.plainAttrs_list PySem.F.slot_list_extend PySem.F.type_list_extend mt_extend (pv 2) (pa_cons (pe_ifExp (pt_cmpR (opRK (K := K) (r := rInP) (op_inP (hu65 hr))) (pv 4) (pv 1) (by rfl)) (pe_lst (pa_cons (pe_tup (pa_cons (pe_ix (ixRK (K := K) (r := rIxP) (ix_P (hu1 hr))) (pv 1) (pv 4) (fun _ _ => rfl)) (pa_cons (pv 3) pa_nil))) pa_nil)) (pe_lst pa_nil)) pa_nil)))
      (pss_one (ps_dput (hu1 hr) (pv 1) (pv 4) (pv 3) rfl))))
      (pss_one (ps_ret (pe_callTy (callRK (K := K) (r := rTupleP) call_tupleP) (by rfl) B.tuple (by decide +kernel) (pa_cons (pe_callB (callRK (K := K) (r := rSrt) (cr_sorted (hu100 hr))) (by rfl) B.sorted (by decide +kernel) (pa_cons (pv 2) pa_nil)) pa_nil)))))), fun vs L LQ h => ?_⟩)
  · obtain ⟨x, d, rfl, _⟩ := h
    rfl
  · obtain ⟨x, ts, rfl, hd, hz, q⟩ := h
    walk_at "norm"
    have len : (iD ts).length = ts.length := List.length_map _
    walk_at "go"
    refine wp_newK fun l => ?_
    walk_at "go"
    refine wp_lst ?_
    walk_at "go"
    refine ⟨[], Dvs.nil, by decide, fun f => ?_⟩
    walk_at "go"
    refine ⟨_, _, rfl, ?_⟩
    walk_at "go"
    refine ws_for (wi_enumT ?_)
    walk_at "go"
    refine ⟨x, iD ts, rfl, Ent.dv (Ent.drop (Ent.drop Ent.refl)) hd, fun i σ L' => ∃ o1 o2 kvs, σ = [some x, some (.ref l), some (.ref f), o1, o2] ∧ Ent K L' (.ld f ((holdsTo ts i).map pD2) :: .dk l kvs :: L) ∧ kvs.length ≤ i ∧ ∀ c, valD kvs (.inl c) = (lastIx ts i c).map fun j => .int (j : Nat), ?_, ?_, ?_, ?_⟩
    · exact ⟨_, _, [], rfl, Ent.refl, Nat.le_refl _, fun c => rfl⟩
    · rintro i σ L' hi ⟨o1, o2, kvs, rfl, e, _, _⟩
      exact Ent.dv (e.trans (Ent.drop (Ent.drop Ent.refl))) hd
    · rintro i σ L1 v L2 hi ⟨o1, o2, kvs, rfl, e1, hk, hv⟩ ⟨d, e, rfl⟩
      obtain ⟨c, hc, rfl⟩ := iD_at e
      refine wg_tupO (ds := [.int i, .int c]) (Dv.mem (.head _)) rfl fun vs L3 o => ?_
      cases o with
      | cons o q1 =>
        cases o with
        | cons o q2 =>
          cases o
          obtain ⟨rfl, rfl⟩ := q2
          obtain ⟨rfl, rfl⟩ := q1
          refine wgs_cons (wg_name (wgs_cons (wg_name (wgs_nil ?_))))
          refine Ws.ent ((Ent.drop Ent.refl).trans e1) ?_
          have hl : (holdsTo ts i).length < sizeLine := by
            have := holdsTo_len ts i
            omega
          have hk2 : kvs.length < sizeLine := by omega
          have f2 : ∀ c', valD (putD kvs (.inl c) (.int (i : Nat))) (.inl c') = (lastIx ts (i + 1) c').map fun j => .int (j : Nat) := fun c' => by
            rw [valD_put]
            by_cases hc' : c' = c
            · subst hc'
              rw [if_pos rfl, lastIx, if_pos hc]
              rfl
            · rw [if_neg (fun z => hc' (Sum.inl.inj z)), lastIx, if_neg (fun z => hc' (by rw [hc] at z; exact (Option.some.inj z).symm))]
              exact hv c'
          have f1 : (putD kvs (.inl c) (.int (i : Nat))).length ≤ i + 1 := Nat.le_trans putD_len (by omega)
          refine ws_cut (fun σ' L' => σ' = [some x, some (.ref l), some (.ref f), some (.int i), some (.int c)] ∧ Ent K L' (.ld f ((holdsTo ts (i + 1)).map pD2) :: .dk l kvs :: L)) ?_ ?_
          · walk_at "go"
            refine wp_bm ?_
            walk_at "go"
            refine ⟨tyL_ld (.head _), ?_⟩
            walk_at "go"
            refine W2.fst (w2_inDc (DAt.k (k := .inl c) (.tail _ (.head _))) ⟨_, rfl, ?_⟩)
            rw [hv c]
            cases hx : lastIx ts i c with
            | some b =>
              refine iteT ?_
              have hx2 : valD kvs (.inl c) = some (.int (b : Nat)) := by rw [hv c, hx]; rfl
              refine wp_lst ?_
              walk_at "go"
              refine wp_tup ?_
              walk_at "go"
              refine W2.snd (w2_ixD (d := .int b) (by rw [← hx2]; exact DAt.k (k := .inl c) (.tail _ (.head _))) fun v L' o => ?_)
              obtain ⟨rfl, rfl⟩ := o
              walk_at "go"
              refine ⟨[.int b, .int i], by walk_at "dvs", by walk_at "len", fun p => ?_⟩
              walk_at "go"
              refine ⟨[pD2 (b, i)], Dvs.cons (Dv.mem (.head _)) Dvs.nil, by walk_at "len", fun z => ?_⟩
              walk_at "go"
              refine wm_extend (by walk_at "put") (.head _) ?_ ?_
              · rw [List.length_map]
                show (holdsTo ts i).length + 1 ≤ sizeLine
                omega
              · refine ⟨rfl, ?_⟩
                have e : (holdsTo ts (i + 1)).map pD2 = (holdsTo ts i).map pD2 ++ [pD2 (b, i)] := by
                  simp only [holdsTo, holdAt, hc, hx, List.map_append, List.map_cons, List.map_nil]
                rw [e]
                exact Ent.drop (Ent.drop Ent.refl)
            | none =>
              refine iteF ?_
              refine wp_lst ?_
              walk_at "go"
              refine ⟨[], Dvs.nil, by walk_at "len", fun z => ?_⟩
              walk_at "go"
              refine wm_extend (by walk_at "put") (.head _) ?_ ?_
              · rw [List.length_map]
                show (holdsTo ts i).length + 0 ≤ sizeLine
                omega
              · refine ⟨rfl, ?_⟩
                have e : (holdsTo ts (i + 1)).map pD2 = (holdsTo ts i).map pD2 := by
                  simp only [holdsTo, holdAt, hc, hx, List.append_nil]
                rw [e, List.append_nil]
                exact Ent.drop Ent.refl
          · rintro σ' L4 ⟨rfl, e4⟩
            refine Ws.ent e4 ?_
            refine ws_dput ?_
            walk_at "go"
            exact .inl ⟨l, kvs, .inl c, .int i, _, rfl, rfl, hk2, Dv.int, by walk_at "put", _, Ent.refl, _, _, _, rfl, Ent.refl, f1, f2⟩
    · rintro σ L1 ⟨o1, o2, kvs, rfl, e, hk, hv⟩
      refine Ws.ent e ?_
      walk_at "go"
      refine wc_sorted (Ls.own (.head _)) (sortOk_pairs ?_) fun p => ?_
      · have := holdsTo_len ts (iD ts).length
        omega
      · walk_at "go"
        refine wc_tuple (Ls.own (.head _)) fun v => ?_
        rw [sort_pairs, len]
        exact ⟨_, Ent.tailE (Ent.drop (Ent.drop (Ent.drop Ent.refl))), q v⟩
end
abbrev s_law_is_whole : Stmt := topS 36
abbrev n_law_is_whole : List Str := ["thing"]
theorem sc_law_is_whole : FnScope n_law_is_whole ["thing"] (defScope s_law_is_whole) := ⟨rfl, rfl, rfl, by decide +kernel, rfl, by decide +kernel, by decide +kernel⟩
section
variable {P : Program} {w : World} {K : PySem.W.Frag} {mg : Str → Option Value} {base : Heap}
theorem ok_law_is_whole {f : Addr} {fd : FuncData} (F : Fun K "_law_is_whole" "_law_is_whole" s_law_is_whole f fd) (B : Bs mg) : FnOk P w K mg base CX0 1 f fd ["thing"] (spL K (S_is_integer K)) := by
  refine okL F sc_law_is_whole (fun vs L Q h => ?_) (fun cdv A outer s H E hr => ⟨_, (pss_one (ps_ret (pe_and (pe_callB (callRK (K := K) (r := rIsi) call_isi) (by rfl) B.isinstance (by decide +kernel) (pa_cons (pv 0) (pa_cons (pe_bltn (v := .ty "int") (by rfl) B.int (by decide +kernel) rfl) pa_nil))) (pe_one (pe_not (pe_callB (callRK (K := K) (r := rIsi) call_isi) (by rfl) B.isinstance (by decide +kernel) (pa_cons (pv 0) (pa_cons (pe_bltn (v := .ty "bool") (by rfl) B.bool (by decide +kernel) rfl) pa_nil)))))))), fun vs L LQ h => ?_⟩)
  · obtain ⟨x, d, rfl, _⟩ := h
    rfl
  · obtain ⟨x, d, rfl, hd, q⟩ := h
    walk_at "norm"
    walk_at "go"
    refine wc_isi hd (kit_int d) ?_
    walk_at "go"
    cases d <;> first | exact iteF ⟨_, Ent.refl, q⟩ | refine iteT ?_
    all_goals
      walk_at "go"
      refine wc_isi hd (kit_bool _) ?_
      walk_at "go"
      exact ⟨_, Ent.refl, q⟩
end
abbrev s_law_is_place : Stmt := topS 39
abbrev n_law_is_place : List Str := ["touches", "thing"]
theorem sc_law_is_place : FnScope n_law_is_place ["touches", "thing"] (defScope s_law_is_place) := ⟨rfl, rfl, rfl, by decide +kernel, rfl, by decide +kernel, by decide +kernel⟩
section
variable {P : Program} {w : World} {K : PySem.W.Frag} {mg : Str → Option Value} {base : Heap}
def isPlaceD (n : Nat) : PyData → Bool
  | .int i => decide (0 ≤ i) && decide (i < (n : Int))
  | _ => false
def S_law_is_place (K : PySem.W.Frag) : SpL := fun vs L Q => ∃ x ts y d, vs = [x, y] ∧ Dv K L x (.tuple (iD ts)) ∧ Dv K L y d ∧ Q (.bl (isPlaceD ts.length d)) L
theorem ok_law_is_place {f : Addr} {fd : FuncData} (F : Fun K "_law_is_place" "_law_is_place" s_law_is_place f fd) (B : Bs mg) (c_law_is_whole : Cal P w K mg base "_law_is_whole" 1 ["thing"] (S_is_integer K)) : FnOk P w K mg base CX0 2 f fd ["touches", "thing"] (spL K (S_law_is_place K)) := by
  refine okL F sc_law_is_place (fun vs L Q h => ?_) (fun cdv A outer s H E hr => ⟨_, (pss_one (ps_ret (pe_and (pe_cal c_law_is_whole (hr.mono (by decide)) (by rfl) (pa_cons (pv 1) pa_nil)) (pe_one (pe_chain op_le (opRK (K := K) (r := rLtP) (op_ltP (hu0 hr))) pe_int (pv 1) (pe_callB (callRK (K := K) (r := rLenP) call_lenP) (by rfl) B.len (by decide +kernel) (pa_cons (pv 0) pa_nil))))))), fun vs L LQ h => ?_⟩)
  · obtain ⟨x, ts, y, d, rfl, _⟩ := h
    rfl
  · obtain ⟨x, ts, y, d, rfl, hd, hy, q⟩ := h
    walk_at "norm"
    walk_at "go"
    refine ⟨y, d, rfl, Dn.dat hy, _, rfl, ?_⟩
    cases d <;> try exact iteF ⟨_, Ent.refl, q⟩
    rename_i i
    refine iteT (Wp.int hy fun e => ?_)
    subst e
    walk_at "go"
    refine iteR (fun h => ?_) fun h => ?_
    · walk_at "go"
      refine wc_len (Sq.tup hd) ?_
      walk_at "go"
      refine ⟨_, Ent.refl, ?_⟩
      have e : decide (i < ((iD ts).length : Int)) = isPlaceD ts.length (.int i) := by
        show _ = (decide (0 ≤ i) && decide (i < (ts.length : Int)))
        rw [h, Bool.true_and, List.length_map]
      rw [e]
      exact q
    · refine ⟨_, Ent.refl, ?_⟩
      have e : false = isPlaceD ts.length (.int i) := by
        show _ = (decide (0 ≤ i) && decide (i < (ts.length : Int)))
        rw [h, Bool.false_and]
      rw [e]
      exact q
end
end K84
namespace K84
open PySem PySem.Spec PyProof.Rows L2 Lg
/-! short tactics of my own, under the word walk_at -/
local macro_rules | `(tactic| walk_at "mem") => `(tactic| first | exact List.Mem.head _ | assumption | (refine List.Mem.tail _ ?_; walk_at "mem"))
local macro_rules | `(tactic| walk_at "put") => `(tactic| first | exact Put.here | (apply Put.there; walk_at "put"))
local macro_rules | `(tactic| walk_at "pick") => `(tactic| first | exact Pick.here | (apply Pick.there; walk_at "pick"))
local macro_rules | `(tactic| walk_at "ent") => `(tactic| first | exact Ent.refl | exact Ent.nil | (refine Ent.cons (by walk_at "pick") ?_; walk_at "ent") | (refine Ent.dup (by walk_at "mem") ?_; walk_at "ent") | (refine Ent.drop ?_; walk_at "ent"))
local macro_rules | `(tactic| walk_at "dv") => `(tactic| first | exact Dv.int | exact Dv.bl | exact Dv.str | exact Dv.non | assumption | exact Dv.mem (by walk_at "mem"))
local macro_rules | `(tactic| walk_at "dvs") => `(tactic| first | exact Dvs.nil | (apply Dvs.cons; (focus walk_at "dv"); (focus walk_at "dvs")))
local macro_rules | `(tactic| walk_at "norm") => `(tactic| try dsimp only [cxK, noxK, wishK, blkK, baseK, noxB])
local macro_rules | `(tactic| walk_at "num") => `(tactic| first | decide | omega | (simp only [CMul, CPow, CDivN]; omega) | assumption)
local macro_rules | `(tactic| walk_at "one") => `(tactic| with_reducible first
  | refine wp_var rfl ?_ | refine wp_c ?_ | refine wp_op ?_ | refine wp_cb ?_ | refine wa_cons ?_ | refine wa_nil ?_
  | refine ws_seq ?_ | refine ws_asg ?_ | refine ws_drop ?_ | refine ws_ret ?_ | refine ws_if ?_ | refine ws_par ?_ | refine ws_par3 ?_
  | refine wp_un ?_ | refine wp_chain ?_ | refine wp_if ?_ | refine wp_andV ?_ | refine wp_orV ?_ | refine wp_notV ?_ | refine wp_cal ?_ | refine wp_sl ?_
  | refine wo_none ?_ | refine wo_some ?_
  | refine wt_test ?_ | refine wt_B ?_ | refine wt_yes ?_ | refine wt_and ?_ | refine wt_or ?_ | refine wt_not ?_
  | refine w2_mulI (by walk_at "num") ?_ | refine w2_I (by walk_at "num") ?_
  | refine w2_addI ?_ | refine w2_eqPI ?_ | refine w2_eqPS ?_ | refine w2_nePS ?_ | refine w2_nePI ?_ | refine w2_ltI ?_ | refine w2_I0 ?_ | refine w1_U ?_
  | refine wg_name ?_ | refine wgs_nil ?_ | refine wgs_cons ?_ | refine iteT ?_ | refine iteF ?_ | refine ⟨_, rfl, ?_⟩)
local macro_rules | `(tactic| walk_at "go") => `(tactic| repeat walk_at "one")
local macro_rules | `(tactic| walk_at "len") => `(tactic| (simp only [List.length_cons, List.length_nil]; decide))

abbrev s_law_are_fit : Stmt := topS 35
abbrev n_law_are_fit : List Str := ["touches", "room", "holds", "over", "one", "other", "many", "step"]
theorem sc_law_are_fit : FnScope n_law_are_fit ["touches", "room", "holds"] (defScope s_law_are_fit) := ⟨rfl, rfl, rfl, by decide +kernel, rfl, by decide +kernel, by decide +kernel⟩
section
variable {P : Program} {w : World} {K : PySem.W.Frag} {mg : Str → Option Value} {base : Heap}
def S_law_are_fit (K : PySem.W.Frag) : SpL := fun vs L Q => ∃ x ts y ps, ∃ k : Nat, vs = [x, .int (k + 1 : Int), y] ∧ Dv K L x (.tuple (iD ts)) ∧ ts.length < 2 ^ 20 ∧ Dv K L y (.tuple (kD ps)) ∧ (∀ h ∈ ps, h.1 < h.2 ∧ h.2 < ts.length) ∧ Q (.bl (fitB ts.length k ps)) L
theorem ok_law_are_fit {f : Addr} {fd : FuncData} (F : Fun K "_law_are_fit" "_law_are_fit" s_law_are_fit f fd) (B : Bs mg) : FnOk P w K mg base CX0 1 f fd ["touches", "room", "holds"] (spL K (S_law_are_fit K)) := by
  refine okL F sc_law_are_fit (fun vs L Q h => ?_) (fun cdv A outer s H E hr => ⟨_, (pss_cons (ps_set (i := 3) sc_law_are_fit.nd rfl (.inl rfl) (pe_op (opRK (K := K) (r := rMulP) op_mulP) (pe_lst (pa_cons pe_int pa_nil)) (pe_op (opRK (K := K) (r := rAddP) op_addP) (pe_callB (callRK (K := K) (r := rLenP) call_lenP) (by rfl) B.len (by decide +kernel) (pa_cons (pv 0) pa_nil)) pe_int)))
      (pss_cons (ps_for PassesOwn.never rfl (pi_seqK (K := K) (pv 2)) (pg_tupK (K := K) (n := 2) rfl (pgs_cons (pg_name (i := 4) sc_law_are_fit.nd rfl (Or.inl rfl)) (pgs_cons (pg_name (i := 5) sc_law_are_fit.nd rfl (Or.inl rfl)) pgs_nil))) (pss_cons (ps_asg (pe_op (opRK (K := K) (r := rAddP) op_addP) (pe_ix (ixRK (K := K) (r := rIxP) (ix_P (hu1 hr))) (pv 3) (pe_op (opRK (K := K) (r := rAddP) op_addP) (pv 4) pe_int) (fun _ _ => rfl)) pe_int) (pg_sub (pv 3) (pe_op (opRK (K := K) (r := rAddP) op_addP) (pv 4) pe_int) (set_P (hu1 hr))))
      (pss_one (ps_asg (pe_op op_sub (pe_ix (ixRK (K := K) (r := rIxP) (ix_P (hu1 hr))) (pv 3) (pv 5) (fun _ _ => rfl)) pe_int) (pg_sub (pv 3) (pv 5) (set_P (hu1 hr)))))))
      (pss_cons (ps_set (i := 6) sc_law_are_fit.nd rfl (.inl rfl) pe_int)
      (pss_cons (ps_for PassesOwn.never rfl (pi_seqK (K := K) (pv 3)) (pg_name (i := 7) sc_law_are_fit.nd rfl (Or.inl rfl)) (pss_cons (ps_set (i := 6) sc_law_are_fit.nd rfl (.inl rfl) (pe_op (opRK (K := K) (r := rAddP) op_addP) (pv 6) (pv 7)))
      (pss_one (ps_if (pt_cmpR op_gt (pv 6) (pe_op op_sub (pv 1) pe_int) (nomark _)) (pss_one (ps_ret pe_bl)) pss_nil))))
      (pss_one (ps_ret pe_bl)))))), fun vs L LQ h => ?_⟩)
  · obtain ⟨x, ts, y, ps, k, rfl, _⟩ := h
    rfl
  · obtain ⟨x, ts, y, ps, k, rfl, hd, hz, hy, hE, q⟩ := h
    walk_at "norm"
    have len : (iD ts).length = ts.length := List.length_map _
    generalize hn : ts.length = n at *
    walk_at "go"
    refine wp_lst ?_
    walk_at "go"
    refine ⟨[.int 0], by walk_at "dvs", by walk_at "len", fun z => ?_⟩
    walk_at "go"
    refine wc_len (Sq.tup (Ent.dv (Ent.drop Ent.refl) hd)) ?_
    walk_at "go"
    rw [len]
    refine w2_mulL (k := (n : Int) + 1) (.head _) (by omega) (by omega) (by rw [sizeLine_eq]; show 1 * _ ≤ _; omega) fun o => ?_
    rw [show ((n : Int) + 1).toNat = n + 1 by omega, rowI_zero]
    walk_at "go"
    refine ws_for (wi_seqT ?_)
    walk_at "go"
    refine ⟨_, Ent.dv (Ent.drop (Ent.drop Ent.refl)) hy, fun i σ L' => ∃ o4 o5, σ = [some x, some (.int (k + 1 : Int)), some y, some (.ref o), o4, o5, none, none] ∧ Ent K L' (.ld o (rowI (ovF (ps.take i)) (n + 1)) :: L), ?_, ?_, ?_, ?_⟩
    · refine ⟨none, none, rfl, ?_⟩
      have e0 : ovF (ps.take 0) = fun _ => 0 := by
        funext j
        rw [List.take_zero]
        rfl
      rw [e0]
      exact Ent.tailE (Ent.drop Ent.refl)
    · rintro i σ L' hi ⟨o4, o5, rfl, e⟩
      exact Ent.dv (e.trans (Ent.drop Ent.refl)) hy
    · rintro i σ L1 v L2 hi ⟨o4, o5, rfl, e⟩ ⟨d, ed, od⟩
      obtain ⟨p, hp, rfl⟩ := pD2_at ed
      have hpm := hE p (List.mem_of_getElem? hp)
      refine wg_tupO (ds := [.int p.1, .int p.2]) od.dv rfl fun vs L3 o => ?_
      cases o with
      | cons o q1 =>
        cases o with
        | cons o q2 =>
          cases o
          obtain ⟨rfl, rfl⟩ := q2
          obtain ⟨rfl, rfl⟩ := q1
          refine wgs_cons (wg_name (wgs_cons (wg_name (wgs_nil ?_))))
          refine Ws.ent (od.ent.trans e) ?_
          have h1 : p.1 + 1 < n + 1 := by omega
          have h2 : p.2 < n + 1 := by omega
          refine ws_seq (ws_asgG ?_)
          walk_at "go"
          rw [show (p.1 : Int) + 1 = ((p.1 + 1 : Nat) : Int) by omega]
          refine W2.fst (w2_ixI (n := ovF (ps.take i) (p.1 + 1)) (Sq.own (.head _)) (rowI_atI h1) ?_)
          walk_at "go"
          refine wg_sub ?_
          walk_at "go"
          rw [show (p.1 : Int) + 1 = ((p.1 + 1 : Nat) : Int) by omega]
          refine ⟨_, StAt.l (d := .int (ovF (ps.take i) (p.1 + 1) + 1)) (ixN_nt (by rw [rowI_len]; exact h1)) Dv.int .here, ?_⟩
          rw [rowI_set h1]
          refine ws_asgG ?_
          walk_at "go"
          refine W2.fst (w2_ixI (n := fup (ovF (ps.take i)) (p.1 + 1) (ovF (ps.take i) (p.1 + 1) + 1) p.2) (Sq.own (.head _)) (rowI_atI h2) ?_)
          walk_at "go"
          refine wg_sub ?_
          walk_at "go"
          refine ⟨_, StAt.l (d := .int (fup (ovF (ps.take i)) (p.1 + 1) (ovF (ps.take i) (p.1 + 1) + 1) p.2 - 1)) (ixN_nt (by rw [rowI_len]; exact h2)) Dv.int .here, ?_⟩
          rw [rowI_set h2, ov_step hp]
          exact ⟨_, Ent.refl, _, _, rfl, Ent.refl⟩
    · rintro σ L1 ⟨o4, o5, rfl, e⟩
      rw [List.length_map, List.take_length] at e
      refine Ws.ent e ?_
      walk_at "go"
      refine ws_for (wi_seqL ?_)
      walk_at "go"
      refine ⟨_, Ls.own (.head _), fun i σ L' => ∃ o7, σ = [some x, some (.int (k + 1 : Int)), some y, some (.ref o), o4, o5, some (.int (ovM ps i)), o7] ∧ Ent K L' (.ld o (rowI (ovF ps) (n + 1)) :: L) ∧ ∀ j, j < i → ps.countP (fun h => covB h j) ≤ k, ?_, ?_, ?_, ?_⟩
      · exact ⟨none, by rw [ovM_zero]; rfl, Ent.refl, fun j hj => absurd hj (Nat.not_lt_zero _)⟩
      · rintro i σ L' hi ⟨o7, rfl, e2, _⟩
        exact Ls.ent e2 (Ls.own (.head _))
      · rintro i σ L2 v L3 hi ⟨o7, rfl, e2, hc⟩ ⟨d, ed, od⟩
        rw [rowI_len] at hi
        rw [rowI_at hi] at ed
        cases ed
        obtain ⟨rfl, rfl⟩ := od
        refine wg_name ?_
        refine Ws.ent e2 ?_
        have eM := ovM_step ps i
        have eC := ovM_cov (ps := ps) (fun h hh => (hE h hh).1) i
        walk_at "go"
        rw [← eM]
        refine iteR (fun hlt => ?_) fun hlt => ?_
        · have hlt' := of_decide_eq_true hlt
          walk_at "go"
          refine ⟨_, Ent.drop Ent.refl, ?_⟩
          have : fitB n k ps = false := by
            cases hf : fitB n k ps with
            | false => rfl
            | true =>
              have := (fitB_iff fun h hh => (hE h hh).2).mp hf i
              omega
          rw [this] at q
          exact q
        · have hlt' := of_decide_eq_false hlt
          refine ws_next ⟨_, Ent.refl, _, rfl, Ent.refl, fun j hj => ?_⟩
          by_cases hji : j = i
          · subst hji; omega
          · exact hc j (by omega)
      · rintro σ L2 ⟨o7, rfl, e2, hc⟩
        rw [rowI_len] at hc
        walk_at "go"
        refine ⟨_, e2.trans (Ent.drop Ent.refl), ?_⟩
        have : fitB n k ps = true := by
          unfold fitB
          exact List.all_eq_true.mpr fun q hq => decide_eq_true (hc q (List.mem_range.mp hq))
        rw [this] at q
        exact q
end
abbrev s_law_passing : Stmt := topS 40
abbrev n_law_passing : List Str := ["touches", "bars", "sums", "found", "known", "at", "one", "other", "bar"]
theorem sc_law_passing : FnScope n_law_passing ["touches", "bars"] (defScope s_law_passing) := ⟨rfl, rfl, rfl, by decide +kernel, rfl, by decide +kernel, by decide +kernel⟩
section
variable {P : Program} {w : World} {K : PySem.W.Frag} {mg : Str → Option Value} {base : Heap}
def S_law_passing (K : PySem.W.Frag) : SpL := fun vs L Q => ∃ x ts y B, vs = [x, y] ∧ Dv K L x (.tuple (iD ts)) ∧ ts.length < 2 ^ 20 ∧ Dv K L y (.tuple (nD B)) ∧ B.length < 2 ^ 20 ∧ Q (.int ((holds ts).countP (bare B) : Nat)) L
theorem passing_step {B : List Nat} {hs : List (Nat × Nat)} {i : Nat} {h : Nat × Nat} (e : hs[i]? = some h) : (hs.take (i + 1)).countP (bare B) = (hs.take i).countP (bare B) + if bare B h = true then 1 else 0 := by
  rw [List.take_add_one, e, List.countP_append]
  show _ + List.countP _ [h] = _
  rw [List.countP_singleton]
theorem ok_law_passing {f : Addr} {fd : FuncData} (F : Fun K "_law_passing" "_law_passing" s_law_passing f fd) (B : Bs mg) (c_law_all_holds : Cal P w K mg base "_law_all_holds" 1 ["touches"] (S_law_all_holds K)) : FnOk P w K mg base CX0 2 f fd ["touches", "bars"] (spL K (S_law_passing K)) := by
  refine okL F sc_law_passing (fun vs L Q h => ?_) (fun cdv A outer s H E hr => ⟨_, (pss_cons (ps_par3 (i := 2) (j := 3) (l := 4) (by rfl) sc_law_passing.nd rfl rfl rfl (by decide) (by decide) (by decide) rfl rfl rfl (pa_cons (pe_lst (pa_cons pe_int pa_nil)) (pa_cons pe_int (pa_cons (pe_callTy (callRK (K := K) (r := rDictP) (call_dictPP rfl (hu100 hr))) (by rfl) B.dict (by decide +kernel) (pa_cons (pe_lc (own := [("bar", 8)]) (g := gName 8) (tt := tYes) rfl sc_law_passing.nd (pi_seqK (K := K) (pv 1)) (blkOk_by (N := n_law_passing) (sc := defScope s_law_passing) (by decide +kernel)) (fun _ _ _ _ _ => (pg_name (i := 8) sc_law_passing.nd rfl (Or.inl rfl))) (fun _ _ _ _ _ => pts_nil) (fun _ _ _ _ _ => (pe_tup (pa_cons (pv 8) (pa_cons pe_bl pa_nil))))) pa_nil)) pa_nil))) (by rfl))
      (pss_cons (ps_for PassesOwn.never rfl (pi_range1 rfl B.range (pa_cons (pe_callB (callRK (K := K) (r := rLenP) call_lenP) (by rfl) B.len (by decide +kernel) (pa_cons (pv 0) pa_nil)) pa_nil)) (pg_name (i := 5) sc_law_passing.nd rfl (Or.inl rfl)) (pss_one (ps_expr (pe_bm PySem.F.plainAttrs_list PySem.F.slot_list_append PySem.F.type_list_append mt_append (pv 2) (pa_cons (pe_op (opRK (K := K) (r := rAddP) op_addP) (pe_ix (ixRK (K := K) (r := rIxP) (ix_P (hu1 hr))) (pv 2) (pe_un un_neg pe_int) (fun _ _ => rfl)) (pe_callTy call_int1P (by rfl) B.int (by decide +kernel) (pa_cons (pe_cmpR (opRK (K := K) (r := rInP) (op_inP (hu65 hr))) (pv 5) (pv 4) (by rfl)) pa_nil))) pa_nil)))))
      (pss_cons (ps_for PassesOwn.never rfl (pi_seqK (K := K) (pe_cal c_law_all_holds (hr.mono (by decide)) (by rfl) (pa_cons (pv 0) pa_nil))) (pg_tupK (K := K) (n := 2) rfl (pgs_cons (pg_name (i := 6) sc_law_passing.nd rfl (Or.inl rfl)) (pgs_cons (pg_name (i := 7) sc_law_passing.nd rfl (Or.inl rfl)) pgs_nil))) (pss_one (ps_set (i := 3) sc_law_passing.nd rfl (.inl rfl) (pe_op (opRK (K := K) (r := rAddP) op_addP) (pv 3) (pe_callTy call_int1P (by rfl) B.int (by decide +kernel) (pa_cons (pe_cmpR (opRK (K := K) (r := rEqP) (op_eqP (hu64 hr))) (pe_ix (ixRK (K := K) (r := rIxP) (ix_P (hu1 hr))) (pv 2) (pv 7) (fun _ _ => rfl)) (pe_ix (ixRK (K := K) (r := rIxP) (ix_P (hu1 hr))) (pv 2) (pe_op (opRK (K := K) (r := rAddP) op_addP) (pv 6) pe_int) (fun _ _ => rfl)) (nomark _)) pa_nil))))))
      (pss_one (ps_ret (pv 3)))))), fun vs L LQ h => ?_⟩)
  · obtain ⟨x, ts, y, bs, rfl, _⟩ := h
    rfl
  · obtain ⟨x, ts, y, bs, rfl, hd, hz, hy, hb, q⟩ := h
    walk_at "norm"
    have len : (iD ts).length = ts.length := List.length_map _
    have hE := holds_ends ts
    have hS : ∀ m, m < 2 ^ 20 → m + 1 < sizeLine := fun m hm => by rw [sizeLine_eq]; omega
    walk_at "go"
    refine wp_lst ?_
    walk_at "go"
    refine ⟨[.int 0], by walk_at "dvs", by walk_at "len", fun su => ?_⟩
    walk_at "go"
    refine wp_lcS (b := false) (fun _ => true) (fun d => dkK (match d with | .int i => .inl i | _ => .inl 0, .bool true)) ?_
    walk_at "go"
    refine ⟨nD bs, .inr ⟨rfl, Ent.dv (Ent.drop Ent.refl) hy⟩, by rw [List.length_map]; have := hS _ hb; omega, fun d v L2 D acc hdm o => ?_, fun D => ?_⟩
    · obtain ⟨b, hb, rfl⟩ := List.mem_map.mp hdm
      obtain ⟨rfl, rfl⟩ := o
      refine wg_name ⟨rfl, wt_yes ⟨rfl, iteT (wp_tup ?_)⟩⟩
      walk_at "go"
      exact ⟨[.int (b : Nat), .bool true], by walk_at "dvs", by walk_at "len", fun t => ⟨Dv.mem (.head _), Ent.drop Ent.refl⟩⟩
    walk_at "go"
    generalize hqs : (bs.map fun b : Nat => (((.inl (b : Int)), .bool true) : Key × PyData)) = qs
    have eqs : ((nD bs).filter fun _ => true).map (fun d => dkK (match d with | .int i => .inl i | _ => .inl 0, .bool true)) = qs.map dkK := by
      rw [List.filter_eq_self.mpr fun _ _ => rfl, ← hqs, List.map_map, List.map_map]
      rfl
    rw [eqs]
    refine wc_dictK (Ls.own (.head _)) fun kn => ?_
    have hkn : ∀ i : Nat, (valD (putAllD qs) (.inl (i : Int))).isSome = decide (i ∈ bs) := fun i => by
      rw [putAllD_there, ← hqs, List.any_map, Bool.eq_iff_iff, List.any_eq_true, decide_eq_true_iff]
      constructor
      · rintro ⟨b, hb, e⟩
        have e' : (Sum.inl (b : Int) : Key) = .inl (i : Int) := of_decide_eq_true e
        have : (b : Int) = i := Sum.inl.inj e'
        rw [show i = b by omega]
        exact hb
      · exact fun hi => ⟨i, hi, decide_eq_true rfl⟩
    walk_at "go"
    refine ⟨_, _, _, rfl, ?_⟩
    refine Ws.ent (L' := .ld su [.int 0] :: .dk kn (putAllD qs) :: L) (Ent.cons (.there (.there .here)) (Ent.cons .here (Ent.drop Ent.refl))) ?_
    refine ws_seq (ws_for (wi_range1 ?_))
    walk_at "go"
    refine wc_len (Sq.tup (Ent.dv (Ent.drop (Ent.drop Ent.refl)) hd)) ?_
    walk_at "go"
    rw [len]
    refine ⟨by omega, by omega, fun i σ L' => ∃ o5, σ = [some x, some y, some (.ref su), some (.int 0), some (.ref kn), o5, none, none, none] ∧ Ent K L' (.ld su (rowI (fun j => (barsTo bs j : Nat)) (i + 1)) :: .dk kn (putAllD qs) :: L), ?_, ?_, ?_, ?_⟩
    · exact ⟨none, rfl, Ent.refl⟩
    · intros; trivial
    · rintro i σ L1 v L2 hi ⟨o5, rfl, e⟩ ⟨rfl, rfl⟩
      rw [Int.zero_add]
      rw [Int.toNat_natCast] at hi
      refine wg_name ?_
      refine Ws.ent e ?_
      walk_at "go"
      refine wp_bm ?_
      walk_at "go"
      refine ⟨tyL_ld (.head _), ?_⟩
      walk_at "go"
      refine W2.fst (w2_ixI (n := (barsTo bs i : Nat)) (Sq.own (.head _)) ?_ ?_)
      · rw [show (-(1 : Int)) = -1 - ((0 : Nat) : Int) from rfl, atI_neg (by rw [rowI_len]; omega), rowI_len, show i + 1 - 1 - 0 = i by omega]
        exact rowI_at (Nat.lt_succ_self _)
      walk_at "go"
      refine W2.fst (w2_inDc (DAt.k (k := .inl (i : Int)) (.tail _ (.head _))) ?_)
      walk_at "go"
      refine wc_intB ?_
      walk_at "go"
      rw [hkn i]
      refine wm_append (d := .int (barsTo bs (i + 1) : Nat)) .here ?_ (by rw [rowI_len]; have := hS i (by omega); omega) ?_
      · rw [barsTo_succ]
        by_cases hib : i ∈ bs
        · simp only [hib, decide_true, if_true]; exact Dv.int
        · simp only [hib, decide_false, if_false, Nat.add_zero]; exact Dv.int
      · refine ⟨_, Ent.refl, _, rfl, ?_⟩
        have : rowI (fun j => (barsTo bs j : Nat)) (i + 1) ++ [.int (barsTo bs (i + 1) : Nat)] = rowI (fun j => (barsTo bs j : Nat)) (i + 1 + 1) := by
          unfold rowI
          rw [List.range_succ (n := i + 1), List.map_append]
          rfl
        rw [this]
        exact Ent.refl
    · rintro σ L1 ⟨o5, rfl, e⟩
      rw [Int.toNat_natCast] at e
      refine Ws.ent e ?_
      walk_at "go"
      refine ws_for (wi_seqT ?_)
      walk_at "go"
      refine ⟨x, ts, rfl, Ent.dv (Ent.drop (Ent.drop Ent.refl)) hd, by have := hS _ hz; omega, fun hv => ?_⟩
      refine ⟨_, Dv.mem (.head _), fun i σ L' => ∃ o6 o7, σ = [some x, some y, some (.ref su), some (.int (((holds ts).take i).countP (bare bs) : Nat)), some (.ref kn), o5, o6, o7, none] ∧ Ent K L' (.da hv (.tuple (kD (holds ts))) :: .ld su (rowI (fun j => (barsTo bs j : Nat)) (ts.length + 1)) :: L), ?_, ?_, ?_, ?_⟩
      · exact ⟨none, none, rfl, Ent.tailE (Ent.tailE (Ent.drop Ent.refl))⟩
      · rintro i σ L' hi ⟨o6, o7, rfl, e2⟩
        exact Ent.dv e2 (Dv.mem (.head _))
      · rintro i σ L2 v L3 hi ⟨o6, o7, rfl, e2⟩ ⟨d, ed, od⟩
        obtain ⟨p, hp, rfl⟩ := pD2_at ed
        have hpm := hE p (List.mem_of_getElem? hp)
        refine wg_tupO (ds := [.int p.1, .int p.2]) od.dv rfl fun vs L4 o => ?_
        cases o with
        | cons o q1 =>
          cases o with
          | cons o q2 =>
            cases o
            obtain ⟨rfl, rfl⟩ := q2
            obtain ⟨rfl, rfl⟩ := q1
            refine wgs_cons (wg_name (wgs_cons (wg_name (wgs_nil ?_))))
            refine Ws.ent (od.ent.trans e2) ?_
            walk_at "go"
            refine W2.fst (w2_ixI (n := (barsTo bs p.2 : Nat)) (Sq.own (.tail _ (.head _))) (rowI_atI (f := fun j => (barsTo bs j : Nat)) (by omega)) ?_)
            walk_at "go"
            rw [show (p.1 : Int) + 1 = ((p.1 + 1 : Nat) : Int) by omega]
            refine W2.fst (w2_ixI (n := (barsTo bs (p.1 + 1) : Nat)) (Sq.own (.tail _ (.head _))) (rowI_atI (f := fun j => (barsTo bs j : Nat)) (by omega)) ?_)
            walk_at "go"
            refine wc_intB ?_
            walk_at "go"
            refine ⟨_, Ent.refl, some (.int (p.1 : Nat)), some (.int (p.2 : Nat)), ?_, Ent.refl⟩
            have eb : decide ((barsTo bs p.2 : Int) = (barsTo bs (p.1 + 1) : Int)) = bare bs p := by
              rw [bare_bars hpm.1]
              exact decide_eq_decide.mpr (by omega)
            rw [eb, passing_step hp]
            cases bare bs p <;> rfl
      · rintro σ L2 ⟨o6, o7, rfl, e2⟩
        rw [List.length_map, List.take_length] at *
        walk_at "go"
        exact ⟨_, e2.trans (Ent.drop (Ent.drop Ent.refl)), q⟩
end
end K84
/-! The step x -> 5 x + 1 below a power of two meets every number. -/
namespace Lg
theorem pow5_odd (k : Nat) : 5 ^ (2 * k + 1) % 8 = 5 := by
  induction k with
  | zero => rfl
  | succ k ih =>
    rw [show 2 * (k + 1) + 1 = 2 * k + 1 + 2 by omega, Nat.pow_add, Nat.mul_mod, ih]
theorem pow5_four (k : Nat) : 5 ^ k % 4 = 1 := by
  induction k with
  | zero => rfl
  | succ k ih => rw [Nat.pow_succ, Nat.mul_mod, ih]
theorem pow5_pos (k : Nat) : 1 ≤ 5 ^ k := Nat.one_le_pow _ _ (by decide)
/-- how often two divides 5^k - 1 -/
theorem pow5_two : ∀ (n k : Nat), 2 ^ (n + 2) ∣ 5 ^ k - 1 → 2 ^ n ∣ k
  | 0, k, _ => ⟨k, by simp⟩
  | n + 1, k, h => by
    have h8 : 8 ∣ 5 ^ k - 1 := Nat.dvd_trans ⟨2 ^ n, by rw [show n + 1 + 2 = n + 3 by omega, Nat.pow_add]; omega⟩ h
    have hp := pow5_pos k
    obtain ⟨j, hj | hj⟩ : ∃ j, k = 2 * j ∨ k = 2 * j + 1 := ⟨k / 2, by omega⟩
    · have e : 5 ^ k - 1 = (5 ^ j - 1) * (5 ^ j + 1) := by
        obtain ⟨z, hz⟩ : ∃ z, 5 ^ j = z + 1 := ⟨5 ^ j - 1, by have := pow5_pos j; omega⟩
        rw [hj, Nat.mul_comm 2 j, Nat.pow_mul, hz]
        show (z + 1) ^ 2 - 1 = (z + 1 - 1) * (z + 1 + 1)
        rw [Nat.pow_two, Nat.add_sub_cancel]
        have a := Nat.succ_mul z (z + 1)
        have c : z * (z + 1 + 1) = z * (z + 1) + z := Nat.mul_succ z (z + 1)
        rw [Nat.succ_eq_add_one] at a
        omega
      have h4 := pow5_four j
      obtain ⟨o, ho⟩ : ∃ o, 5 ^ j + 1 = 2 * (2 * o + 1) := ⟨5 ^ j / 4, by omega⟩
      rw [e, ho] at h
      have h2 : 2 ^ (n + 2) ∣ (5 ^ j - 1) * (2 * o + 1) := by
        obtain ⟨q, hq⟩ := h
        refine ⟨q, ?_⟩
        have : 2 ^ (n + 1 + 2) = 2 * 2 ^ (n + 2) := by rw [show n + 1 + 2 = (n + 2) + 1 by omega, Nat.pow_succ]; omega
        rw [this, Nat.mul_assoc] at hq
        have e2 : (5 ^ j - 1) * (2 * (2 * o + 1)) = 2 * ((5 ^ j - 1) * (2 * o + 1)) := by rw [← Nat.mul_assoc, Nat.mul_comm _ 2, Nat.mul_assoc]
        omega
      have co : Nat.Coprime (2 ^ (n + 2)) (2 * o + 1) := Nat.Coprime.pow_left _ (by
        rw [Nat.coprime_iff_gcd_eq_one, Nat.gcd_comm, show (2 * o + 1) = 1 + 2 * o by omega]
        simp)
      obtain ⟨q, hq⟩ := pow5_two n j (co.dvd_of_dvd_mul_right h2)
      exact ⟨q, by rw [hj, hq, Nat.pow_succ]; rw [Nat.mul_comm (2 ^ n) 2, Nat.mul_assoc]⟩
    · have := pow5_odd j
      rw [← hj] at this
      omega
/-- the step, from anywhere, m + 1 a power of two -/
def goI (m : Nat) : Nat → Nat → Nat
  | i, 0 => i
  | i, k + 1 => goI m ((i * 5 + 1) % (m + 1)) k
theorem goI_back (m : Nat) : ∀ (k i : Nat), goI m i (k + 1) = (goI m i k * 5 + 1) % (m + 1)
  | 0, _ => rfl
  | k + 1, i => by
    show goI m ((i * 5 + 1) % (m + 1)) (k + 1) = _
    rw [goI_back m k]
    rfl
/-- four times it, and one: a power of five -/
theorem goI_pow {m : Nat} (i k : Nat) : (4 * goI m i k + 1) % (4 * (m + 1)) = ((4 * i + 1) * 5 ^ k) % (4 * (m + 1)) := by
  induction k with
  | zero => simp [goI]
  | succ k ih =>
    rw [goI_back]
    have e : (4 * ((goI m i k * 5 + 1) % (m + 1)) + 1) % (4 * (m + 1)) = ((4 * goI m i k + 1) * 5) % (4 * (m + 1)) := by
      rw [← Nat.mul_mod_mul_left, Nat.mod_add_mod]
      congr 1
      omega
    rw [e, Nat.mul_mod, ih, ← Nat.mul_mod, Nat.mul_assoc, ← Nat.pow_succ]
theorem goI_le (m i : Nat) (hi : i ≤ m) : ∀ k, goI m i k ≤ m
  | 0 => hi
  | k + 1 => by
    rw [goI_back]
    exact Nat.le_of_lt_succ (Nat.mod_lt _ (Nat.succ_pos m))
theorem goI_inj {n m : Nat} (hm : m + 1 = 2 ^ n) {i a b : Nat} (hab : a ≤ b) (hb : b ≤ m) (e : goI m i a = goI m i b) : a = b := by
  have h1 := goI_pow (m := m) i a
  have h2 := goI_pow (m := m) i b
  rw [e, h2] at h1
  obtain ⟨d, rfl⟩ := Nat.exists_eq_add_of_le hab
  have e4 : 4 * (m + 1) = 2 ^ (n + 2) := by rw [hm, Nat.pow_add]; omega
  have dv : 2 ^ (n + 2) ∣ (4 * i + 1) * 5 ^ (a + d) - (4 * i + 1) * 5 ^ a := by
    rw [← e4]
    exact Nat.dvd_of_mod_eq_zero (Nat.sub_mod_eq_zero_of_mod_eq h1)
  have e5 : (4 * i + 1) * 5 ^ (a + d) - (4 * i + 1) * 5 ^ a = ((4 * i + 1) * 5 ^ a) * (5 ^ d - 1) := by
    rw [Nat.pow_add, ← Nat.mul_assoc, Nat.mul_sub_one]
  rw [e5] at dv
  have odd : ((4 * i + 1) * 5 ^ a) % 2 = 1 := by
    have := pow5_four a
    rw [Nat.mul_mod, show (4 * i + 1) % 2 = 1 by omega, show 5 ^ a % 2 = 1 by omega]
  have co : Nat.Coprime (2 ^ (n + 2)) ((4 * i + 1) * 5 ^ a) := Nat.Coprime.pow_left _ (by
    obtain ⟨o, ho⟩ : ∃ o, (4 * i + 1) * 5 ^ a = 1 + 2 * o := ⟨((4 * i + 1) * 5 ^ a) / 2, by omega⟩
    rw [Nat.coprime_iff_gcd_eq_one, Nat.gcd_comm, ho]
    simp)
  obtain ⟨q, hq⟩ := pow5_two n d (co.dvd_of_dvd_mul_left dv)
  rw [← hm] at hq
  have hd : d < m + 1 := by omega
  have : q = 0 := by
    cases q with
    | zero => rfl
    | succ q =>
      rw [Nat.mul_succ] at hq
      omega
  rw [this] at hq
  omega
/-- from anywhere all are met -/
theorem goI_all {n m : Nat} (hm : m + 1 = 2 ^ n) {i j : Nat} (hi : i ≤ m) (hj : j ≤ m) : ∃ k, k ≤ m ∧ goI m i k = j := Classical.byContradiction fun no => by
  have nd : (j :: (List.range (m + 1)).map (goI m i)).Nodup := by
    refine List.nodup_cons.mpr ⟨fun z => ?_, ?_⟩
    · obtain ⟨k, hk, e⟩ := List.mem_map.mp z
      exact no ⟨k, by have := List.mem_range.mp hk; omega, e⟩
    · unfold List.Nodup
      rw [List.pairwise_map]
      refine (List.nodup_range (n := m + 1)).imp_of_mem fun {a b} ha hb hab e => hab ?_
      have ha' := List.mem_range.mp ha
      have hb' := List.mem_range.mp hb
      rcases Nat.le_total a b with h | h
      · exact goI_inj hm h (by omega) e
      · exact (goI_inj hm h (by omega) e.symm).symm
  have := nodup_len nd (ys := List.range (m + 1)) fun x hx => by
    rcases List.mem_cons.mp hx with z | z
    · rw [z]; exact List.mem_range.mpr (by omega)
    · obtain ⟨k, _, e⟩ := List.mem_map.mp z
      rw [← e]
      exact List.mem_range.mpr (by have := goI_le m i hi k; omega)
  rw [List.length_cons, List.length_map, List.length_range] at this
  omega
end Lg
/-! Tables of sets, of any mask below a power of two. -/
namespace Lg
open PySem PySem.Spec PyProof.Rows L2
def Pow2 (m : Nat) : Prop := ∃ n, 3 ≤ n ∧ m + 1 = 2 ^ n
theorem goI_kit (m : Nat) : ∀ (k i : Nat), lcgI m i k = goI m i k
  | 0, _ => rfl
  | k + 1, i => by
    rw [goI_back, ← goI_kit m k i]
    rfl
/-- every place of the table is met on the way of every hash, within the search's fuel -/
theorem way_all {m : Nat} (hm : Pow2 m) (h : Int) {j : Nat} (hj : j ≤ m) : ∃ k, k < 10 * SetTable.turns m ∧ way m h k = j := by
  obtain ⟨n, _, hn⟩ := hm
  obtain ⟨c, hc, e⟩ := goI_all hn (runI_le m (SetTable.bits h) 12) hj
  obtain ⟨k, hk, e2⟩ := run_nth m (SetTable.bits h) (12 + c)
  refine ⟨k, by unfold SetTable.turns; omega, ?_⟩
  unfold way
  rw [e2, runI_tail (bits_lt h), goI_kit, e]
  rfl
/-- a table that finds each of its hashes again -/
structure TabP (t : SetTable) (hs : List Int) : Prop where
  up : Ris t.place.toList
  none_gone : t.dummies = #[]
  many : t.place.size = hs.length
  pow : Pow2 t.mask
  within : ∀ x ∈ t.place.toList, x ≤ t.mask
  found : ∀ (i : Nat) (h : Int) (j : Nat), hs[i]? = some h → t.place.toList[i]? = some j → ∃ k, way t.mask h k = j ∧ ∀ c, c < k → way t.mask h c ∈ t.place.toList
theorem TabP.open_ {t : SetTable} {hs : List Int} (T : TabP t hs) (hl : hs.length ≤ t.mask) (h : Int) : ∃ K, K < 10 * SetTable.turns t.mask ∧ way t.mask h K ∉ t.place.toList ∧ ∀ c, c < K → way t.mask h c ∈ t.place.toList := by
  obtain ⟨j, hj, hn⟩ := st_missing t.place.toList (t.mask + 1) (by rw [Array.length_toList, T.many]; omega)
  obtain ⟨k, hk, e⟩ := way_all T.pow h (Nat.le_of_lt_succ hj)
  obtain ⟨K, h1, h2, h3⟩ := st_least (p := fun c => way t.mask h c ∉ t.place.toList) k (by rw [e]; exact hn)
  exact ⟨K, by omega, h2, fun c hc => Classical.byContradiction fun z => h3 c hc z⟩
theorem TabP.ahead {t : SetTable} {hs : List Int} (T : TabP t hs) {h : Int} {K i j : Nat} (hK : way t.mask h K ∉ t.place.toList) (hi : hs[i]? = some h) (hj : t.place.toList[i]? = some j) : ∃ k, k < K ∧ way t.mask h k = j := by
  obtain ⟨k, e, hb⟩ := T.found i h j hi hj
  refine ⟨k, Classical.byContradiction fun z => ?_, e⟩
  by_cases c : K = k
  · exact hK (by rw [c, e]; exact List.mem_of_getElem? hj)
  · exact hK (hb K (by omega))
theorem pow2_odd {m : Nat} (h : Pow2 m) : m % 2 = 1 := by
  obtain ⟨n, hn, e⟩ := h
  obtain ⟨d, rfl⟩ : ∃ d, n = d + 1 := ⟨n - 1, by omega⟩
  rw [Nat.pow_succ] at e
  omega
theorem way_in (m : Nat) (h : Int) (c : Nat) : way m h c ≤ m := by
  have i0 : SetTable.bits h % (m + 1) ≤ m := Nat.lt_succ_iff.mp (Nat.mod_lt _ (Nat.succ_pos m))
  have r0 := runEnd_bd i0
  have z := nth_in (m := m) c (runAt m (SetTable.bits h % (m + 1)) (SetTable.bits h)) (by unfold runAt; dsimp only; omega)
  exact Nat.le_trans (Nat.le_add_right _ _) z
/-- the table with one hash more, at rank p -/
structure PutP (t u : SetTable) (hs : List Int) (h : Int) (p : Nat) : Prop where
  le : p ≤ hs.length
  tab : TabP u (hs.take p ++ h :: hs.drop p)
  mask : u.mask = t.mask
  led : u.led = t.led
  plain : u.plain = t.plain
  fill : u.fill = hs.length + 1
theorem TabP.put {t : SetTable} {hs : List Int} (T : TabP t hs) {h : Int} {K : Nat} (free : way t.mask h K ∉ t.place.toList) (full : ∀ c, c < K → way t.mask h c ∈ t.place.toList) :
    PutP t (t.put (way t.mask h K)).1 hs h (t.put (way t.mask h K)).2 := by
  generalize hj : way t.mask h K = j at free
  have jm : j ≤ t.mask := hj ▸ way_in t.mask h K
  have cut := (below_cut T.up j).1
  have e2 : (t.put j).2 = SetTable.below t.place j := rfl
  rw [e2]
  generalize hb : SetTable.below t.place j = p at cut
  have pl : (t.put j).1.place.toList = t.place.toList.take p ++ j :: t.place.toList.drop p := hb ▸ put_place t j
  have gone := put_dm T.none_gone j
  have lp : t.place.toList.length = hs.length := by rw [Array.length_toList]; exact T.many
  have cut2 : p ≤ hs.length := T.many ▸ cut
  have cut3 : p ≤ t.place.toList.length := lp ▸ cut2
  have sz : (t.put j).1.place.size = hs.length + 1 := by rw [← Array.length_toList, pl, len_ins _ cut3, lp]
  have keep : ∀ x ∈ t.place.toList, x ∈ (t.put j).1.place.toList := fun x hx => pl ▸ mem_ins.mpr (.inr hx)
  have old : ∀ (i : Nat) (g : Int) (l : Nat), hs[i]? = some g → t.place.toList[i]? = some l → ∃ k, way t.mask g k = l ∧ ∀ c, c < k → way t.mask g c ∈ (t.put j).1.place.toList := fun i g l a b => by
    obtain ⟨k, e, f⟩ := T.found i g l a b
    exact ⟨k, e, fun c hc => keep _ (f c hc)⟩
  have nw : t.place[SetTable.below t.place j]? ≠ some j := fun e => free (List.mem_of_getElem? (Array.getElem?_toList ▸ e))
  refine ⟨cut2, ⟨ris_insert T.up nw, gone, ?_, T.pow, fun x hx => ?_, fun i g l a b => ?_⟩, rfl, rfl, rfl, ?_⟩
  · rw [sz, len_ins hs cut2]
  · rw [pl, mem_ins] at hx
    exact hx.elim (fun z => z ▸ jm) (T.within x)
  · rw [pl, tins_get _ cut3] at b
    rw [tins_get _ cut2] at a
    show ∃ k, way t.mask g k = l ∧ _
    by_cases q1 : i < p
    · rw [if_pos q1] at a b
      exact old i g l a b
    · by_cases q2 : i = p
      · rw [if_neg q1, if_pos q2] at a b
        cases a
        cases b
        exact ⟨K, hj, fun c hc => keep _ (full c hc)⟩
      · rw [if_neg q1, if_neg q2] at a b
        exact old (i - 1) g l a b
  · unfold SetTable.fill
    rw [gone, sz]
    rfl
end Lg
/-! A set of tuples of ints, of any size: its table, the search. -/
namespace Lg
open PySem PySem.Spec PyProof.Rows L2
/-- the set at a holds just the tuples L, in the order of its table -/
structure SetP (P : Program) (w : World) (h : Heap) (a : Addr) (L : List (Addr × List Int)) (es : Array (Int × Value)) (ep : Nat) (t : SetTable) : Prop where
  at_ : ∃ o, h.get? a = some o ∧ o.ExactSet ∧ o.data = .set es ep t
  rows : es.toList = rowsOf P w L
  tab : TabP t (L.map fun p => thash P w p.2)
  nd : (L.map (·.2)).Nodup
  tup : ∀ p ∈ L, IsT P w h p.2 p.1
  plain : t.plain = true
  led : w.params.followText "set-order" = true ∨ t.led = true
  room : L.length * 5 < t.mask * 3
  mask : t.mask < 4096
section
variable {P : Program} {w : World} {A : Around} {E : Value → Shared → Prop} {s : Shared} {a : Addr} {L : List (Addr × List Int)} {es : Array (Int × Value)} {ep : Nat} {t : SetTable}
theorem SetP.many (R : SetP P w s.heap a L es ep t) : t.place.size = L.length := by rw [R.tab.many, List.length_map]
theorem SetP.size (R : SetP P w s.heap a L es ep t) : es.size = L.length := by
  rw [← Array.length_toList, R.rows]
  exact List.length_map _
theorem SetP.fits (R : SetP P w s.heap a L es ep t) : t.fits es.size = true := by
  have z := R.room
  have y := R.many
  have x := R.size
  unfold SetTable.fits SetTable.fill
  simp only [R.tab.none_gone, Bool.and_eq_true, beq_iff_eq, decide_eq_true_eq]
  constructor
  · omega
  · show t.place.size + 0 ≤ t.mask
    omega
theorem SetP.row (R : SetP P w s.heap a L es ep t) {i : Nat} {p : Addr × List Int} (h : L[i]? = some p) : es[i]? = some (thash P w p.2, Value.ref p.1) := by
  rw [← Array.getElem?_toList, R.rows, rowsOf, List.getElem?_map, h]
  rfl
theorem SetP.stays (R : SetP P w s.heap a L es ep t) : ¬ t.gaveWay = true := by
  unfold SetTable.gaveWay
  have := pow2_odd R.tab.pow
  simp [this]
/-- the c-th step of the way of a hash -/
abbrev stepAt (m : Nat) (h : Int) (c : Nat) : SetTable.Probe := nth m (runAt m (SetTable.bits h % (m + 1)) (SetTable.bits h)) c
theorem step_dummy {m : Nat} : ∀ (n : Nat) (p : SetTable.Probe), p.dummy = none → (nth m p n).dummy = none
  | 0, _, h => h
  | n + 1, p, h => step_dummy n (adv m p) (by unfold adv; split <;> exact h)
theorem find_from (R : SetP P w s.heap a L es ep t) {x : Addr} {k : List Int} (hx : IsT P w s.heap k x) (hu : A.units < cLine) {H : Int} (hH : H = thash P w k) {K : Nat} (hKf : K < 10 * SetTable.turns t.mask)
    (free : way t.mask H K ∉ t.place.toList) (full : ∀ c, c < K → way t.mask H c ∈ t.place.toList) {Q : SetFound → Shared → Prop}
    (hin : k ∈ L.map (·.2) → Q (.there none) s) (hout : k ∉ L.map (·.2) → Q (.free (way t.mask H K) false) s) :
    ∀ (f c : Nat) (stand : Option SetTable.Probe), stand.getD (t.probeStart H) = stepAt t.mask H c → c ≤ K → K - c < f →
      (∀ (i : Nat) p, L[i]? = some p → p.2 = k → ∃ d, c ≤ d ∧ d < K ∧ t.place.toList[i]? = some (way t.mask H d)) → wpAny (model P w) A (setSearchFrom a (.ref x) H true f stand) Q E s := by
  intro f
  induction f with
  | zero => exact fun c stand _ _ z _ => absurd z (Nat.not_lt_zero _)
  | succ f ih =>
    intro c stand hst hc hf met
    obtain ⟨o, ho, _, hd⟩ := R.at_
    have shift : ∀ q, nth t.mask (stepAt t.mask H c) q = stepAt t.mask H (c + q) := fun q => (nth_add t.mask c _ q).symm
    have shiftJ : ∀ q, (nth t.mask (stepAt t.mask H c) q).j = way t.mask H (c + q) := fun q => by rw [shift q]
    have hashI : ∀ (i : Nat) p, L[i]? = some p → ((es[i]?.map (·.1)).getD 0) = thash P w p.2 := fun i p hp => by rw [R.row hp]; rfl
    have far : c + (K - c) = K := by omega
    rw [setSearchFrom_succ]
    refine wpAny_bind (wpAny_setState_of ho hd R.fits ?_)
    dsimp only
    refine wp_if_neg R.stays ?_
    try refine wpAny_bind (wpAny_pure ?_)
    have spec := go_spec t R.tab.up R.tab.none_gone (fun i => (es[i]?.map (·.1)).getD 0) H (10 * SetTable.turns t.mask) (K - c) (stepAt t.mask H c) (step_dummy c _ rfl) (by omega)
      (fun q hq => by rw [shiftJ]; exact full _ (by omega)) (by rw [shiftJ, far]; exact free)
    rcases spec with ⟨q, i, hq, hi, _, none_before, pr⟩ | ⟨none_before, pr⟩
    · rw [shiftJ] at hi
      have pr2 : t.probe (fun i => (es[i]?.map (·.1)).getD 0) H (stand.getD (t.probeStart H)) = some (.candidate (way t.mask H (c + q)) i (stepAt t.mask H (c + (q + 1)))) := by
        rw [hst, ← shiftJ, ← shift]
        exact pr
      rw [pr2]
      dsimp only
      have il : i < L.length := by
        have := (List.getElem?_eq_some_iff.mp hi).1
        rw [Array.length_toList, R.many] at this
        exact this
      obtain ⟨p, hp⟩ : ∃ p, L[i]? = some p := ⟨L[i], List.getElem?_eq_getElem il⟩
      have pm := List.mem_of_getElem? hp
      have slot := slot_live R.tab.up hi
      have go_on : wpAny (model P w) A (searchRest a (.ref x) H true f es t (way t.mask H (c + q)) i (stepAt t.mask H (c + (q + 1)))) Q E s := by
        unfold searchRest
        rw [R.row hp]
        dsimp only
        refine wpAny_bind (wpAny_holding (wpAny_eqBool_tuple hu (R.tup p pm) hx (wpAny_bind (wpAny_setState_of ho hd R.fits ?_))))
        dsimp only
        by_cases same : p.2 = k
        · exact wp_if_pos (by simp [same]) (wpAny_pure (hin (List.mem_map.mpr ⟨p, pm, same⟩)))
        refine wp_if_neg (by simp [same]) ?_
        try refine wpAny_bind (wpAny_pure ?_)
        rw [sameMem]
        simp only [if_true, slot, R.row hp]
        refine wpAny_bind (wpAny_isSame_ref_self (wpAny_bind (wpAny_pure ?_)))
        simp only [if_true]
        refine wp_if_neg (by simp [same]) (ih (c + (q + 1)) _ rfl (by omega) (by omega) fun i0 p0 h0 k0 => ?_)
        obtain ⟨d, d1, d2, d3⟩ := met i0 p0 h0 k0
        refine ⟨d, Classical.byContradiction fun z => ?_, d2, d3⟩
        by_cases y : d = c + q
        · rw [y] at d3
          have := slot_live R.tab.up d3
          rw [slot] at this
          injection this with this
          rw [← this, hp] at h0
          cases h0
          exact same k0
        · refine none_before (d - c) i0 (by omega) (by rw [shiftJ, show c + (d - c) = d by omega]; exact d3) ?_
          rw [hH, ← k0]
          exact hashI i0 p0 h0
      by_cases hl : t.led = true
      · refine wp_if_neg (by simp [hl]) ?_
        try refine wpAny_bind (wpAny_pure ?_)
        exact go_on
      · refine wp_if_pos (by simp [hl]) (wpAny_bind (seen_tup hx (fun y hy => ?_) (wp_if_neg (by decide) ?_)))
        · obtain ⟨e, he, rfl⟩ := List.mem_map.mp hy
          have e1 : e ∈ es.toList := by
            have : e ∈ es ∧ e.1 = H := by simpa using he
            simpa using this.1
          rw [R.rows] at e1
          obtain ⟨g, hg, rfl⟩ := List.mem_map.mp e1
          exact ⟨g.2, g.1, rfl, R.tup g hg⟩
        · try refine wpAny_bind (wpAny_pure ?_)
          exact go_on
    · have pr2 : t.probe (fun i => (es[i]?.map (·.1)).getD 0) H (stand.getD (t.probeStart H)) = some (.empty (way t.mask H K) none) := by
        rw [hst, show way t.mask H K = (nth t.mask (stepAt t.mask H c) (K - c)).j by rw [shiftJ, far]]
        exact pr
      rw [pr2]
      dsimp only
      refine wpAny_pure (hout fun km => ?_)
      obtain ⟨p0, m0, k0⟩ := List.mem_map.mp km
      obtain ⟨i0, il, e0⟩ := List.getElem_of_mem m0
      have h0 : L[i0]? = some p0 := by rw [List.getElem?_eq_getElem il, e0]
      obtain ⟨d, d1, d2, d3⟩ := met i0 p0 h0 k0
      refine none_before (d - c) i0 (by omega) (by rw [shiftJ, show c + (d - c) = d by omega]; exact d3) ?_
      rw [hH, ← k0]
      exact hashI i0 p0 h0
end
end Lg
/-! A table laid anew, of any size. -/
namespace Lg
open PySem PySem.Spec PyProof.Rows L2
theorem starts_all {m : Nat} (hm : Pow2 m) (h : Int) {j : Nat} (hj : j ≤ m) : ∃ n, n ≤ m + 12 ∧ runI m (SetTable.bits h) n = j := by
  obtain ⟨n, _, hn⟩ := hm
  obtain ⟨c, hc, e⟩ := goI_all hn (runI_le m (SetTable.bits h) 12) hj
  exact ⟨12 + c, by omega, by rw [runI_tail (bits_lt h), goI_kit, e]⟩
/-- the first free slot on the way -/
theorem free_first {m : Nat} (hm : Pow2 m) (owner : Array (Option Nat)) (h : Int) {j : Nat} (hj : j ≤ m) (hf : oAt owner j = none) :
    ∃ K, SetTable.layClean.free m owner (SetTable.turns m) (SetTable.bits h % (m + 1)) (SetTable.bits h) = some (way m h K) ∧ oAt owner (way m h K) = none ∧ ∀ c, c < K → oAt owner (way m h c) ≠ none := by
  obtain ⟨n, hn, e⟩ := starts_all hm h hj
  generalize hd : off m (SetTable.bits h % (m + 1)) (SetTable.bits h) n = d
  have at_d : way m h d = j := by
    unfold way
    rw [← hd, nth_off, itL_run, e]
    rfl
  obtain ⟨K, k1, k2, k3⟩ := st_least (p := fun c => oAt owner (way m h c) = none) d (by rw [at_d]; exact hf)
  refine ⟨K, free_spec m owner (SetTable.turns m) n _ _ K (by unfold SetTable.turns; omega) (hd ▸ k1) (fun c hc => ?_) ?_, k2, k3⟩
  · have z := k3 c hc
    show (oAt owner (way m h c)).isNone = false
    cases y : oAt owner (way m h c) with
    | none => exact absurd y z
    | some _ => rfl
  · show (oAt owner (way m h K)).isNone = true
    rw [k2]
    rfl
/-- one more is laid -/
theorem own_more {m : Nat} (hm : Pow2 m) {done : List Int} {owner : Array (Option Nat)} (W : Own m done owner) (hl : done.length ≤ m) (h : Int) :
    ∃ j, SetTable.layClean.free m owner (SetTable.turns m) (SetTable.bits h % (m + 1)) (SetTable.bits h) = some j ∧ Own m (done ++ [h]) (owner.setIfInBounds j (some done.length)) := by
  obtain ⟨taken, lt, mt⟩ := W.ps
  obtain ⟨j0, h0, n0⟩ := st_missing taken (m + 1) (by omega)
  have f0 : oAt owner j0 = none := Classical.byContradiction fun z => n0 (mt j0 (by omega) z)
  obtain ⟨K, e1, e2, e3⟩ := free_first hm owner h (by omega : j0 ≤ m) f0
  have jm := way_in m h K
  refine ⟨way m h K, e1, ?_⟩
  generalize hj : way m h K = j at e2 jm
  have self := oAt_set_self (owner := owner) (some done.length) (j := j) (by rw [W.sz]; omega)
  have other : ∀ {i : Nat}, i ≠ j → oAt (owner.setIfInBounds j (some done.length)) i = oAt owner i := fun n => oAt_set_ne _ n
  have still : ∀ {i : Nat}, oAt owner i ≠ none → oAt (owner.setIfInBounds j (some done.length)) i ≠ none := fun {i} z => by
    by_cases q : i = j
    · rw [q, self]; exact Option.some_ne_none _
    · rw [other q]; exact z
  refine ⟨(Array.size_setIfInBounds ..).trans W.sz, fun i k hi e => ?_, fun k hk => ?_, j :: taken, by simp [lt], fun i hi e => ?_⟩
  · by_cases q : i = j
    · rw [q, self] at e
      cases e
      exact ⟨h, K, by simp, by rw [hj, q], fun c hc => still (e3 c hc)⟩
    · rw [other q] at e
      obtain ⟨g, C, a1, a2, a3⟩ := W.at_ i k hi e
      exact ⟨g, C, by rw [List.getElem?_append_left (List.getElem?_eq_some_iff.mp a1).1]; exact a1, a2, fun c hc => still (a3 c hc)⟩
  · by_cases q : k < done.length
    · obtain ⟨i, hi, e⟩ := W.all k q
      refine ⟨i, hi, ?_⟩
      rw [other fun z => by rw [z, e2] at e; cases e]
      exact e
    · refine ⟨j, jm, ?_⟩
      rw [self]
      simp at hk
      congr 1
      omega
  · by_cases q : i = j
    · rw [q]; exact .head _
    · rw [other q] at e
      exact .tail _ (mt i hi e)
theorem own_all {m : Nat} (hm : Pow2 m) : ∀ (rest done : List Int) (owner : Array (Option Nat)), Own m done owner → done.length + rest.length ≤ m →
    ∃ o2, rest.foldl (stepF m) (some (owner, done.length)) = some (o2, done.length + rest.length) ∧ Own m (done ++ rest) o2
  | [], done, owner, W, _ => ⟨owner, rfl, by rw [List.append_nil]; exact W⟩
  | h :: rest, done, owner, W, hl => by
    obtain ⟨j, e, W2⟩ := own_more hm W (by rw [List.length_cons] at hl; omega) h
    obtain ⟨o2, f, W3⟩ := own_all hm rest (done ++ [h]) _ W2 (by simp only [List.length_append, List.length_cons, List.length_nil] at hl ⊢; omega)
    refine ⟨o2, ?_, by rw [List.append_assoc] at W3; exact W3⟩
    rw [List.foldl_cons, stepF_some e]
    simp only [List.length_append, List.length_cons, List.length_nil] at f ⊢
    rw [show done.length + (rest.length + 1) = done.length + (0 + 1) + rest.length by omega]
    exact f
theorem lay_all {m : Nat} (hm : Pow2 m) {hs : Array Int} (hn : hs.size ≤ m) : ∃ owner, SetTable.layClean m hs = some owner ∧ Own m hs.toList owner := by
  obtain ⟨o2, f, W⟩ := own_all hm hs.toList [] _ (Own.init m) (by simpa using hn)
  refine ⟨o2, ?_, W⟩
  rw [layClean_eq]
  rw [show ([] : List Int).length = 0 from rfl] at f
  rw [f]
  rfl
end Lg
/-! The table laid anew finds all its hashes. -/
namespace Lg
open PySem PySem.Spec PyProof.Rows L2
theorem relaid_all (t : SetTable) {hs : Array Int} {wanted M : Nat} (hw : SetTable.sizeAbove wanted - 1 = M) (hM : Pow2 M) (hn : hs.size ≤ M) :
    ∃ u order, t.relaid hs wanted = some (u, order) ∧ order.toList.Perm (List.range hs.size) ∧ TabP u (order.toList.map fun i => hs.getD i 0) ∧ u.mask = M ∧ u.led = t.led ∧ u.plain = t.plain := by
  obtain ⟨owner, e, W⟩ := lay_all hM hn
  generalize hlv : liveOf M owner = lv
  have ml : ∀ {j k : Nat}, (j, k) ∈ lv ↔ j ≤ M ∧ oAt owner j = some k := fun {j k} => hlv ▸ mem_live W.sz
  obtain ⟨r1, r2⟩ := ris_live (fun j => owner.getD j none) (List.range (M + 1)) (show Ris (List.range (M + 1)) from List.pairwise_lt_range)
  have up : Ris (lv.map (·.1)) := hlv ▸ r1
  have nd : (lv.map (·.1)).Nodup := up.imp fun z => Nat.ne_of_lt z
  have seconds : ∀ k, k < hs.size → k ∈ lv.map (·.2) := fun k hk => by
    obtain ⟨j, a, b⟩ := W.all k (by rw [Array.length_toList]; exact hk)
    exact List.mem_map.mpr ⟨(j, k), ml.mpr ⟨a, b⟩, rfl⟩
  have len : lv.length = hs.size := by
    obtain ⟨taken, lt, mt⟩ := W.ps
    have a := nodup_len nd (ys := taken) fun x hx => by
      obtain ⟨⟨y, k⟩, hq, rfl⟩ := List.mem_map.mp hx
      obtain ⟨b1, b2⟩ := ml.mp hq
      exact mt y b1 (by rw [b2]; exact Option.some_ne_none _)
    have b := nodup_len (List.nodup_range (n := hs.size)) (ys := lv.map (·.2)) fun k hk => seconds k (List.mem_range.mp hk)
    have la : hs.toList.length = hs.size := Array.length_toList
    rw [List.length_map, lt] at a
    rw [List.length_map, List.length_range] at b
    omega
  refine ⟨tabOf t M owner, (lv.map (·.2)).toArray, ?_, ?_, ⟨?_, rfl, ?_, hM, fun x hx => ?_, fun i h j a b => ?_⟩, rfl, rfl, rfl⟩
  · rw [relaid_eq, hw, e, ← hlv]
    rfl
  · exact perm_range hs.size _ (by rw [List.length_map, len]) seconds
  · show Ris ((liveOf M owner).map (·.1))
    rw [hlv]
    exact up
  · show ((liveOf M owner).map (·.1)).toArray.size = _
    rw [hlv]
    simp
  · have hx2 : x ∈ (liveOf M owner).map (·.1) := hx
    rw [hlv] at hx2
    obtain ⟨⟨y, k⟩, hq, rfl⟩ := List.mem_map.mp hx2
    exact (ml.mp hq).1
  · have b2 : ((liveOf M owner).map (·.1))[i]? = some j := b
    have a2 : ((lv.map (·.2)).map fun i => hs.getD i 0)[i]? = some h := a
    rw [hlv, List.getElem?_map] at b2
    rw [List.getElem?_map, List.getElem?_map] at a2
    cases hq : lv[i]? with
    | none => rw [hq] at b2; cases b2
    | some q =>
      obtain ⟨y, k⟩ := q
      rw [hq] at a2 b2
      obtain rfl : y = j := Option.some.inj b2
      have eh : hs.getD k 0 = h := Option.some.inj a2
      obtain ⟨c1, c2⟩ := ml.mp (List.mem_of_getElem? hq)
      obtain ⟨g, K, d1, d2, d3⟩ := W.at_ y k c1 c2
      have eg : hs.getD k 0 = g := by
        rw [Array.getD_eq_getD_getElem?, ← Array.getElem?_toList, d1]
        rfl
      obtain rfl : g = h := eg.symm.trans eh
      refine ⟨K, d2, fun c hc => ?_⟩
      show way M g c ∈ (liveOf M owner).map (·.1)
      rw [hlv]
      cases z : oAt owner (way M g c) with
      | none => exact absurd z (d3 c hc)
      | some k2 => exact List.mem_map.mpr ⟨(way M g c, k2), ml.mpr ⟨way_in M g c, z⟩, rfl⟩
end Lg
/-! One tuple more in a set of any size. -/
namespace Lg
open PySem PySem.Spec PyProof.Rows L2
theorem above_go (n : Nat) : ∀ (f a : Nat), 3 ≤ a → n < 2 ^ (a + f) → ∃ b, 3 ≤ b ∧ SetTable.sizeAbove.go n f (2 ^ a) = 2 ^ b ∧ n < 2 ^ b ∧ (b = a ∨ 2 ^ b ≤ 2 * n)
  | 0, a, h3, h => ⟨a, h3, rfl, h, .inl rfl⟩
  | f + 1, a, h3, h => by
    unfold SetTable.sizeAbove.go
    by_cases c : 2 ^ a ≤ n
    · rw [if_pos c, show 2 ^ a * 2 = 2 ^ (a + 1) from rfl]
      obtain ⟨b, b1, b2, b3, b4⟩ := above_go n f (a + 1) (by omega) (by rw [show a + 1 + f = a + (f + 1) by omega]; exact h)
      refine ⟨b, b1, b2, b3, .inr ?_⟩
      rcases b4 with z | z
      · rw [z, Nat.pow_succ]; omega
      · exact z
    · rw [if_neg c]
      exact ⟨a, h3, rfl, by omega, .inl rfl⟩
theorem above_all {n : Nat} (h : n < 2 ^ 60) : ∃ b, 3 ≤ b ∧ SetTable.sizeAbove n = 2 ^ b ∧ n < 2 ^ b ∧ (b = 3 ∨ 2 ^ b ≤ 2 * n) :=
  above_go n 64 3 (Nat.le_refl _) (Nat.lt_of_lt_of_le h (Nat.pow_le_pow_right (by decide) (by decide)))
section
variable {P : Program} {w : World} {A : Around} {E : Value → Shared → Prop} {s : Shared} {a : Addr} {L : List (Addr × List Int)} {es : Array (Int × Value)} {ep : Nat} {t : SetTable}
theorem find_at (R : SetP P w s.heap a L es ep t) {x : Addr} {k : List Int} (hx : IsT P w s.heap k x) (hu : A.units < cLine) {Q : SetFound → Shared → Prop} (hin : k ∈ L.map (·.2) → Q (.there none) s)
    (hout : ∀ K, k ∉ L.map (·.2) → way t.mask (thash P w k) K ∉ t.place.toList → (∀ c, c < K → way t.mask (thash P w k) c ∈ t.place.toList) → Q (.free (way t.mask (thash P w k) K) false) s) :
    wpAny (model P w) A (setSearch a (.ref x) (thash P w k) true) Q E s := by
  have room := R.room
  have small := R.mask
  obtain ⟨K, k1, k2, k3⟩ := R.tab.open_ (by rw [List.length_map]; omega) (thash P w k)
  have fuel : K < 100000 := by unfold SetTable.turns at k1; omega
  unfold setSearch
  refine find_from R hx hu rfl k1 k2 k3 hin (fun z => hout K z k2 k3) 100000 0 none rfl (Nat.zero_le _) (by omega) fun i p hp hk => ?_
  have il : i < t.place.toList.length := by
    rw [Array.length_toList, R.many]
    exact (List.getElem?_eq_some_iff.mp hp).1
  have hj := List.getElem?_eq_getElem il
  obtain ⟨c, hc, e⟩ := R.tab.ahead k2 (show (L.map fun p => thash P w p.2)[i]? = some (thash P w k) by rw [List.getElem?_map, hp, ← hk]; rfl) hj
  exact ⟨c, Nat.zero_le _, hc, by rw [hj, e]⟩
theorem relay_all {o : Obj} (ho : s.heap.get? a = some o) (hex : o.ExactSet) (hd : o.data = .set es ep t) (rows : es.toList = rowsOf P w L) (many : t.place.size = es.size) (gone : t.dummies = #[]) (fill : es.size ≤ t.mask)
    (nd : (L.map (·.2)).Nodup) (tup : ∀ p ∈ L, IsT P w s.heap p.2 p.1) (pl : t.plain = true) (ld : w.params.followText "set-order" = true ∨ t.led = true) (l0 : 0 < L.length) (few : L.length ≤ 500) {Q : Unit → Shared → Prop}
    (hQ : ∀ h' L' es' ep' t', Heap.SameBut a s.heap h' → SetP P w h' a L' es' ep' t' → L'.Perm L → Q () { s with heap := h' }) : wpAny (model P w) A (setRelay a (SetTable.grown L.length)) Q E s := by
  have sl : es.size = L.length := by
    rw [← Array.length_toList, rows]
    exact List.length_map _
  have fits : t.fits es.size = true := by
    unfold SetTable.fits SetTable.fill
    simp only [gone, Bool.and_eq_true, beq_iff_eq, decide_eq_true_eq]
    exact ⟨many, by show t.place.size + 0 ≤ t.mask; omega⟩
  have hg : SetTable.grown L.length = L.length * 4 := by unfold SetTable.grown; rw [if_neg (by omega)]
  obtain ⟨b, b3, eb, lt, le⟩ := above_all (n := L.length * 4) (by omega)
  have top : 2 ^ b ≤ 4000 := by
    rcases le with z | z
    · rw [z]; decide
    · omega
  obtain ⟨u, order, e, pm, T, um, ul, up⟩ := relaid_all t (hs := es.map (·.1)) (wanted := L.length * 4) (M := 2 ^ b - 1) (by rw [eb]) ⟨b, b3, by omega⟩ (by rw [Array.size_map]; omega)
  rw [Array.size_map, sl] at pm
  obtain ⟨L2, r1, r2, r3⟩ := order_rows L es order rows pm
  rw [← r3] at T
  have s2 : (order.filterMap (es[·]?)).size = es.size := by
    have := congrArg List.length r1
    rw [Array.length_toList, rowsOf, List.length_map, r2.length_eq] at this
    omega
  rw [setRelay_eq, hg]
  refine wpAny_bind (wpAny_setState_of ho hd fits ?_)
  dsimp only
  refine wp_if_neg (by rw [eb, sizeLine_eq]; omega) ?_
  try refine wpAny_bind (wpAny_pure ?_)
  rw [e]
  dsimp only
  refine wpAny_bind (wp_if_neg (by rw [s2]; simp) ?_)
  try refine wpAny_bind (wpAny_pure ?_)
  refine wpAny_pure ?_
  dsimp only
  refine wpAny_storeSet_of ho hd ?_ (by rw [s2, sl, sizeLine_eq]; omega)
  have same : Heap.SameBut a s.heap (s.heap.update a (Obj.putSet (order.filterMap (es[·]?)) u)) := Heap.SameBut.update ..
  refine hQ _ L2 _ (ep + 1) u same ⟨⟨_, store_at ho hd, ⟨hex.1, hex.2.1, hex.2.2⟩, rfl⟩, r1, T, (r2.map (·.2)).nodup_iff.mpr nd, fun p hp => isT_same (tup p (r2.mem_iff.mp hp)) ho hd same, up ▸ pl, ul ▸ ld, ?_, ?_⟩ r2
  · rw [r2.length_eq, um]; omega
  · rw [um]; omega
end
end Lg
/-! set.add of a tuple, to a set of any size. -/
namespace Lg
open PySem PySem.Spec PyProof.Rows L2
section
variable {P : Program} {w : World} {A : Around} {E : Value → Shared → Prop} {s : Shared} {a : Addr} {L : List (Addr × List Int)} {es : Array (Int × Value)} {ep : Nat} {t : SetTable}
theorem add_all (R : SetP P w s.heap a L es ep t) {x : Addr} {k : List Int} (hx : IsT P w s.heap k x) (hu : A.units < cLine) (few : L.length + 1 ≤ 500) {Q : Bool → Shared → Prop}
    (hQ : ∀ b h' L' es' ep' t', Heap.SameBut a s.heap h' → SetP P w h' a L' es' ep' t' → (k ∈ L.map (·.2) → L' = L) → (k ∉ L.map (·.2) → L'.Perm ((x, k) :: L)) → Q b { s with heap := h' }) :
    wpAny (model P w) A (setAddHashed a (.ref x) (thash P w k)) Q E s := by
  obtain ⟨o, ho, hex, hd⟩ := R.at_
  have sl := R.size
  have room := R.room
  unfold setAddHashed
  refine wpAny_holding ?_
  rw [show (100000 : Nat) = 99999 + 1 from rfl, setAddHashedIn_succ]
  refine wpAny_bind (wpAny_setState_of ho hd R.fits ?_)
  dsimp only
  refine wp_if_neg (by simp [byScan, Value.scannable]) ?_
  try refine wpAny_bind (wpAny_pure ?_)
  refine wpAny_bind (find_at R hx hu (fun there => ?_) fun K fresh k2 k3 => ?_)
  · dsimp only
    exact wpAny_pure (hQ false s.heap L es ep t (Heap.SameBut.refl a s.heap) R (fun _ => rfl) fun z => absurd there z)
  · dsimp only
    refine wpAny_bind (wpAny_setState_of ho hd R.fits ?_)
    dsimp only
    have U := R.tab.put k2 k3
    generalize t.put (way t.mask (thash P w k) K) = pt at U ⊢
    obtain ⟨u, p⟩ := pt
    dsimp only at U ⊢
    have up : u.plain = true := U.plain ▸ R.plain
    first
      | (refine wpAny_bind ?_; refine wp_if_pos up ?_; refine hashBy_tup hx ?_)
      | refine wp_if_pos up (wpAny_bind (hashBy_tup hx ?_))
    simp only [if_true]
    have rows1 : (SetTable.insertAt es p (thash P w k, Value.ref x)).toList = rowsOf P w (L.take p ++ (x, k) :: L.drop p) := by rw [SetTable.toList_insertAt, rows_put, R.rows]
    have pm := put_perm L p (x, k)
    have hashes : (L.take p ++ (x, k) :: L.drop p).map (fun g => thash P w g.2) = (L.map fun g => thash P w g.2).take p ++ thash P w k :: (L.map fun g => thash P w g.2).drop p := by
      rw [List.map_append, List.map_cons, List.map_take, List.map_drop]
    have T1 := U.tab
    rw [← hashes] at T1
    have fill1 := U.fill
    rw [List.length_map] at fill1
    generalize L.take p ++ (x, k) :: L.drop p = L1 at pm T1 rows1
    generalize SetTable.insertAt es p (thash P w k, Value.ref x) = es1 at rows1 ⊢
    have len1 : L1.length = L.length + 1 := pm.length_eq
    have sz1 : es1.size = L.length + 1 := by
      have := congrArg List.length rows1
      rw [Array.length_toList, rowsOf, List.length_map] at this
      omega
    have nd1 : (L1.map (·.2)).Nodup := (pm.map (·.2)).nodup_iff.mpr (List.nodup_cons.mpr ⟨fresh, R.nd⟩)
    refine wpAny_bind (wpAny_storeSet_of ho hd ?_ (by rw [sz1, sizeLine_eq]; omega))
    have same : Heap.SameBut a s.heap (s.heap.update a (Obj.putSet es1 u)) := Heap.SameBut.update ..
    have ho1 := store_at (es' := es1) (t' := u) ho hd
    generalize s.heap.update a (Obj.putSet es1 u) = h1 at same ho1 ⊢
    have tup1 : ∀ g ∈ L1, IsT P w h1 g.2 g.1 := fun g hg => (List.mem_cons.mp (pm.mem_iff.mp hg)).elim (fun z => z ▸ isT_same hx ho hd same) fun z => isT_same (R.tup g z) ho hd same
    have led1 : w.params.followText "set-order" = true ∨ u.led = true := U.led ▸ R.led
    have many1 : u.place.size = es1.size := by rw [T1.many, List.length_map, len1, sz1]
    by_cases full : u.tooFull = true
    · first
        | (refine wpAny_bind ?_; refine wp_if_pos (by simp [full]) ?_)
        | (refine wp_if_pos (by simp [full]) ?_; refine wpAny_bind ?_)
      rw [sl, ← len1]
      refine relay_all (s := { s with heap := h1 }) ho1 ⟨hex.1, hex.2.1, hex.2.2⟩ rfl rows1 many1 T1.none_gone (by rw [sz1, U.mask]; omega) nd1 tup1 up led1 (by omega) (by omega) ?_
      intro h2 L2 es2 ep2 t2 same2 R2 pm2
      exact wpAny_pure (hQ true h2 L2 es2 ep2 t2 (same.trans same2) R2 (fun z => absurd z fresh) fun _ => pm2.trans pm)
    · first
        | refine wp_if_neg (by simp [full]) ?_
        | (refine wpAny_bind ?_; refine wp_if_neg (by simp [full]) ?_; refine wpAny_pure ?_)
      refine wpAny_pure (hQ true h1 L1 es1 (ep + 1) u same ⟨⟨_, ho1, ⟨hex.1, hex.2.1, hex.2.2⟩, rfl⟩, rows1, T1, nd1, tup1, up, led1, ?_, U.mask ▸ R.mask⟩ (fun z => absurd z fresh) fun _ => pm)
      unfold SetTable.tooFull at full
      rw [decide_eq_true_eq, fill1] at full
      rw [len1]
      omega
end
end Lg
/-! set(t) of a tuple of tuples of ints, at most 500. -/
namespace Lg
open PySem PySem.Spec PyProof.Rows L2
section
variable {P : Program} {w : World} {A : Around} {E : Value → Shared → Prop} {s : Shared}
theorem SetP.over {h h' : Heap} {a : Addr} {L : List (Addr × List Int)} {es : Array (Int × Value)} {ep : Nat} {t : SetTable} (R : SetP P w h a L es ep t) (ka : ∀ o, h.get? a = some o → h'.get? a = some o) (kt : ∀ p ∈ L, IsT P w h' p.2 p.1) : SetP P w h' a L es ep t :=
  let ⟨o, ho, r⟩ := R.at_
  ⟨⟨o, ka o ho, r⟩, R.rows, R.tab, R.nd, kt, R.plain, R.led, R.room, R.mask⟩
theorem setP_new {h : Heap} {a : Addr} (ho : h.get? a = some (newSetO w)) : SetP P w h a [] #[] 0 (.fresh 0 0 (!w.params.followText "set-order")) :=
  ⟨⟨_, ho, ⟨rfl, rfl, rfl⟩, rfl⟩, rfl, ⟨List.Pairwise.nil, rfl, rfl, ⟨3, Nat.le_refl _, rfl⟩, (fun x hx => nomatch hx), fun i h j z => by simp at z⟩, List.nodup_nil, (fun p hp => nomatch hp), rfl,
    (by cases q : w.params.followText "set-order" with
      | true => exact .inl rfl
      | false => exact .inr (by show (!false) = true; rfl)), (by show 0 * 5 < 7 * 3; decide), (by show 7 < 4096; decide)⟩
theorem update_loop {I : Addr} {fp wr : List Addr} {G : Array GenState → Array GenState → Prop} {n : Nat} {Pv : Nat → Value → Prop} {St : Nat → Shared → Prop} {R : Result → Shared → Prop}
    (W : WalksS P w A.in1 I fp wr G n Pv St) (S : Addr) (nS : S ∉ fp) (ks : List (Addr × List Int)) (hn : n = ks.length) (few : ks.length ≤ 499) (val : ∀ i v, Pv i v → ∃ p, ks[i]? = some p ∧ v = .ref p.1)
    (h0 : Heap) (hk : ∀ p ∈ ks, IsT P w h0 p.2 p.1) (noS : h0.get? S = none) (noW : ∀ b ∈ wr, h0.get? b = none) (hu : A.in1.units < cLine) :
    ∀ (d i : Nat) (s : Shared), n - i = d → i ≤ n → St i s → (∀ b o, h0.get? b = some o → s.heap.get? b = some o) → (∃ L es ep t, SetP P w s.heap S L es ep t ∧ Got ks i L) →
      (∀ s' L es ep t, Moved (S :: wr) G s s' → SetP P w s'.heap S L es ep t → Got ks n L → (∀ b o, h0.get? b = some o → s'.heap.get? b = some o) → R (.ok (.ret .none)) s') →
      codeAny (model P w) A (.builtin "set.update.loop" ⟨[.ref S, .ref I], []⟩) R s := by
  have nW : S ∉ wr := fun z => nS (W.sub _ z)
  have wide : ∀ b ∈ wr, b ∈ S :: wr := fun b hb => .tail _ hb
  have old : ∀ {s s' : Shared}, Moved wr G s s' → (∀ b o, h0.get? b = some o → s.heap.get? b = some o) → ∀ b o, h0.get? b = some o → s'.heap.get? b = some o := fun m k b o e =>
    m.heap b o (fun z => by rw [noW b z] at e; cases e) (k b o e)
  intro d
  induction d with
  | zero =>
    intro i s hd hi st k0 ⟨L, es, ep, t, hS, g⟩ hR
    obtain rfl : i = n := by omega
    refine codeAny_builtin F.entry_set_update_loop ?_
    rw [Around.under_plainId F.plain_set_update_loop _]
    show wpAny _ A.in1 (pyNext (.ref I) >>= _) _ _ s
    refine wpAny_bind (W.done s _ _ st fun s' m => ?_)
    show wpAny _ A.in1 (ret Value.none) _ _ s'
    have k1 := old m k0
    exact wpAny_pure (hR s' L es ep t (m.mono wide) (hS.over (fun o e => m.heap S o nW e) fun p hp => isT_keep (hk p (List.mem_of_mem_take (g.sub p hp))) k1) g k1)
  | succ d ih =>
    intro i s hd hi st k0 ⟨L, es, ep, t, hS, g⟩ hR
    have lt : i < n := by omega
    refine codeAny_builtin F.entry_set_update_loop ?_
    rw [Around.under_plainId F.plain_set_update_loop _]
    show wpAny _ A.in1 (pyNext (.ref I) >>= _) _ _ s
    refine wpAny_bind (W.item i s _ _ lt st fun v s' pv st' m => ?_)
    obtain ⟨p, hp, rfl⟩ := val i v pv
    have k1 := old m k0
    have S1 := hS.over (h' := s'.heap) (fun o e => m.heap S o nW e) fun q hq => isT_keep (hk q (List.mem_of_mem_take (g.sub q hq))) k1
    have tx := isT_keep (hk p (List.mem_of_getElem? hp)) k1
    show wpAny _ A.in1 (holding [Value.ref p.1] (setAdd S (.ref p.1)) >>= _) _ _ s'
    refine wpAny_bind (wpAny_holding ?_)
    unfold setAdd
    refine wpAny_holding (wpAny_bind (wpAny_pyHash_tuple hu tx ?_))
    refine add_all (s := { s' with toks := s'.toks + (p.2.length + 1) }) S1 tx hu (by have := g.len; omega) fun b h' L' es' ep' t' same S2 c1 c2 => ?_
    have g2 : Got ks (i + 1) L' := by
      by_cases c : p.2 ∈ L.map (·.2)
      · rw [c1 c]; exact g.same hp c
      · exact g.more hp (c2 c)
    have k2 : ∀ b o, h0.get? b = some o → h'.get? b = some o := fun b o e => (same.2 b fun z => by rw [z, noS] at e; cases e).trans (k1 b o e)
    refine wpAny_pure ⟨plainId_quiet F.plain_set_update_loop _, ih (i + 1) _ (by omega) lt (W.frame _ s' _ _ st' (Nat.le_add_right _ _) fun b hb o e => ?_) k2 ⟨L', es', ep', t', S2, g2⟩ fun s3 L3 es3 ep3 t3 m3 S3 g3 k3 => ?_⟩
    · rw [same.2 b fun z => nS (z ▸ hb)]; exact e
    · refine hR s3 L3 es3 ep3 t3 (Moved.trans W.gtrans ((m.mono wide).then_heap (Nat.le_add_right _ _) fun b o hb e => ?_) m3) S3 g3 k3
      rw [same.2 b fun z => hb (z ▸ .head _)]; exact e
end
end Lg
namespace Lg
open PySem PySem.Spec PyProof.Rows L2
section
variable {P : Program} {w : World} {A : Around} {E : Value → Shared → Prop} {s : Shared}
/-- set(t), t a tuple of tuples of ints, at most 499 -/
theorem set_tupB {l : Addr} {items : Array Value} (ks : List (Addr × List Int)) {Q : Value → Shared → Prop} (hh : A.handled = none) (hl : s.heap.IsTuple l items) (hit : items.toList = ks.map fun p => Value.ref p.1)
    (hk : ∀ p ∈ ks, IsT P w s.heap p.2 p.1) (few : ks.length ≤ 499) (hu : A.units + 5 < cLine)
    (h : ∀ (h' : Heap) (tk : Nat) L es ep t, SetP P w h' s.heap.objs.size L es ep t → Got ks ks.length L → (∀ b o, s.heap.get? b = some o → h'.get? b = some o) → Q (.ref s.heap.objs.size) { s with heap := h', toks := tk }) :
    wpAny (model P w) A (call (.type "set") [.ref l]) Q E s := by
  have isz : items.size = ks.length := by
    have := congrArg List.length hit
    rwa [Array.length_toList, List.length_map] at this
  refine set_of_tuple hh hl (fun h' => ∃ L es ep t, SetP P w h' s.heap.objs.size L es ep t ∧ Got ks ks.length L) (fun B R hB uB hR => ?_) fun h' tk ⟨L, es, ep, t, z1, z2⟩ kk => h h' tk L es ep t z1 z2 kk
  have lt : l < s.heap.objs.size := let ⟨_, ho, _⟩ := hl; Heap.lt_size ho
  have sz : (setHeap w s.heap).objs.size = s.heap.objs.size + 1 := Heap.size_push ..
  have ne : l ≠ (setHeap w s.heap).objs.size := by rw [sz]; exact Nat.ne_of_lt (Nat.lt_succ_of_lt lt)
  have nf : s.heap.objs.size ∉ [(setHeap w s.heap).objs.size, l] := by
    rw [sz]
    intro z
    simp only [List.mem_cons, List.not_mem_nil, or_false] at z
    exact z.elim (fun e => Nat.ne_of_lt (Nat.lt_succ_self _) e) fun e => Nat.ne_of_gt lt e
  have non : ∀ b, s.heap.objs.size ≤ b → s.heap.get? b = none := fun b hb => by
    cases q : s.heap.get? b with
    | none => rfl
    | some o => exact absurd (Nat.lt_of_lt_of_le (Heap.lt_size q) hb) (Nat.lt_irrefl _)
  have val : ∀ (i : Nat) (v : Value), items[i]? = some v → ∃ p, ks[i]? = some p ∧ v = .ref p.1 := fun i v hv => by
    rw [← Array.getElem?_toList, hit, List.getElem?_map] at hv
    cases hq : ks[i]? with
    | none => rw [hq] at hv; cases hv
    | some p => rw [hq] at hv; exact ⟨p, rfl, (Option.some.inj hv).symm⟩
  refine update_loop (A := B) ((Walks.tuple (show B.in1.handled = none by simp [hB]) _ l ne items).toS) s.heap.objs.size nf ks isz few val s.heap hk (non _ (Nat.le_refl _))
    (fun b hb => non b (by rw [List.mem_singleton.mp hb, sz]; omega)) (by show B.units + 1 < cLine; omega) (items.size - 0) 0 _ (by omega) (Nat.zero_le _) ⟨⟨_, Heap.get?_push_size _ rfl, rfl, rfl⟩, (hl.push _).push _⟩
    (fun b o e => Heap.get?_push_of_some _ (Heap.get?_push_of_some _ e)) ⟨[], #[], 0, _, setP_new (Heap.get?_push_of_some _ (Heap.get?_push_size _ rfl)), Got.zero ks⟩ fun s' L es ep t hm hS g hkp => ?_
  obtain ⟨h', g2, d', tk', os'⟩ := s'
  cases (show g2 = s.gens from hm.gens); cases (show d' = s.drawn from hm.drawn); cases (show os' = s.os from hm.os)
  exact hR h' tk' ⟨L, es, ep, t, hS, by rw [← isz]; exact g⟩ hkp
end
end Lg
/-! sorted(set) of pairs of any number. -/
namespace Lg
open PySem PySem.Spec PyProof.Rows L2
open PySem.W (dataLe list_sort_data EachIs)
section
variable {P : Program} {w : World} {A : Around} {E : Value → Shared → Prop} {s : Shared}
def encT (q : Addr × List Int) : PyData := .tuple (q.2.map .int)
theorem read_ints {h : Heap} : ∀ {k : List Int} {vs : List Value}, ItemsAre (intKind P w) k vs → ReadsAll h vs (k.map .int) []
  | _, _, .nil => .nil
  | _, _, .cons h1 h2 => by
    obtain ⟨t, e⟩ := Value.isInt_shape h1
    rw [e]
    exact ReadsAll.cons (as := []) (bs := []) (.int _ t) (read_ints h2)
theorem read_tup {h : Heap} {b : Addr} {k : List Int} (x : IsT P w h k b) : Reads h (.ref b) (.tuple (k.map .int)) [] := by
  obtain ⟨o, items, n, ho, hc, hd, hi⟩ := x
  exact Reads.tuple ho hc hd (read_ints hi)
theorem perm_map_ex {α β : Type} {f : α → β} {xs zs : List β} (h : xs.Perm zs) : ∀ {ys : List α}, zs = ys.map f → ∃ l : List α, xs = l.map f ∧ l.Perm ys := by
  induction h with
  | nil => intro ys e; exact ⟨[], rfl, by cases ys with
    | nil => exact .nil
    | cons _ _ => cases e⟩
  | cons x _ ih =>
    intro ys e
    cases ys with
    | nil => cases e
    | cons y ys =>
      obtain ⟨rfl, e2⟩ := List.cons.inj e
      obtain ⟨l, e3, pm⟩ := ih e2
      exact ⟨y :: l, by rw [e3]; rfl, pm.cons y⟩
  | swap x y l =>
    intro ys e
    match ys, e with
    | a :: b :: ys, e =>
      obtain ⟨rfl, e2⟩ := List.cons.inj e
      obtain ⟨rfl, rfl⟩ := List.cons.inj e2
      exact ⟨b :: a :: ys, rfl, .swap a b ys⟩
  | trans _ _ ih1 ih2 =>
    intro ys e
    obtain ⟨l, e1, p1⟩ := ih2 e
    obtain ⟨l2, e2, p2⟩ := ih1 e1
    exact ⟨l2, e2, p2.trans p1⟩
theorem each_refs {h : Heap} : ∀ {L1 : List (Addr × List Int)}, (∀ q ∈ L1, IsT P w h q.2 q.1) → EachIs (fun v q => v = Value.ref q.1) (L1.map fun q => Value.ref q.1) L1 ∧ ∀ a : Addr, EachIs (fun v q => ∃ as, Reads h v (encT q) as ∧ a ∉ as) (L1.map fun q => Value.ref q.1) L1
  | [], _ => ⟨.nil, fun _ => .nil⟩
  | q :: L1, hq => by
    obtain ⟨e1, e2⟩ := each_refs fun r hr => hq r (.tail _ hr)
    exact ⟨.cons rfl e1, fun a => .cons ⟨[], read_tup (hq q (.head _)), fun z => nomatch z⟩ (e2 a)⟩
end
end Lg
namespace Lg
open PySem PySem.Spec PyProof.Rows L2
open PySem.W (dataLe list_sort_data EachIs AllAlike Sortable)
section
variable {P : Program} {w : World} {A : Around} {E : Value → Shared → Prop} {s : Shared}
theorem refs_of : ∀ {out : List Value} {Ls : List (Addr × List Int)}, EachIs (fun v q => v = Value.ref q.1) out Ls → out = Ls.map fun q => Value.ref q.1
  | _, _, .nil => rfl
  | _, _, .cons h t => by rw [h, refs_of t]; rfl
theorem sorted_setP {a : Addr} {L : List (Addr × List Int)} {es : Array (Int × Value)} {ep : Nat} {t : SetTable} {Q : Value → Shared → Prop} (R : SetP P w s.heap a L es ep t) (hh : A.handled = none) (hu : A.units + 64 < cLine)
    (pairs : ∀ q ∈ L, ∃ x y : Int, q.2 = [x, y]) (few : L.length ≤ 500)
    (hQ : ∀ s' p (out : Array Value) (c : Nat) (L1 : List (Addr × List Int)), (∀ b o, s.heap.get? b = some o → s'.heap.get? b = some o) → s'.gens = s.gens → s'.os = s.os → s.heap.objs.size ≤ p →
      s'.heap.get? p = some (seqObj "list" out c) → out.toList = (L1.mergeSort (dataLe false encT)).map (fun q => Value.ref q.1) → L1.Perm L → Q (.ref p) s') :
    wpAny (model P w) A (call (.builtin "sorted") [.ref a]) Q E s := by
  obtain ⟨o, ho, hex, hd⟩ := R.at_
  have sz := R.size
  refine Calls.call_function_entry kind_sorted plain_sorted entry_sorted (args_sorted1 _) ?_
  unfold Builtin.«sorted»
  refine wpAny_bind (m := checkCount "sorted" 1 1 _) (wpAny_pure (wpAny_bind (collect_set (A := A.in1) hh ⟨o, ho, hex.1, hd⟩ R.fits (by unfold scanBound; omega) R.tab.up R.led fun s1 vs k1 hz g1 o1 pm => ?_)))
  rw [R.rows, show (rowsOf P w L).map (·.2) = L.map (fun q => Value.ref q.1) by unfold rowsOf; rw [List.map_map]; rfl] at pm
  obtain ⟨L1, rfl, pL⟩ := perm_map_ex pm rfl
  have len1 : L1.length = L.length := pL.length_eq
  refine wpAny_bind (wpAny_newList ?_ (by rw [List.length_map, sizeLine_eq]; omega))
  have at1 : (s1.heap.push (seqObj "list" (L1.map fun q => Value.ref q.1).toArray 0)).get? s1.heap.objs.size = some (seqObj "list" (L1.map fun q => Value.ref q.1).toArray 0) := Heap.get?_push_size _ rfl
  obtain ⟨r1, r2⟩ := each_refs (P := P) (w := w) (h := s1.heap.push (seqObj "list" (L1.map fun q => Value.ref q.1).toArray 0)) (L1 := L1) fun q hq => isT_keep (R.tup q (pL.mem_iff.mp hq)) fun b u e => Heap.get?_push_of_some _ (k1 b u e)
  have shape : ∀ q ∈ L1, ∃ x y : Int, encT q = .tuple [.int x, .int y] := fun q hq => by
    obtain ⟨x, y, e⟩ := pairs q (pL.mem_iff.mp hq)
    exact ⟨x, y, by unfold encT; rw [e]; rfl⟩
  refine wpAny_bind (wpAny_holding (list_sort_data (s := { s1 with heap := s1.heap.push (seqObj "list" (L1.map fun q => Value.ref q.1).toArray 0) }) at1 r1 (r2 _) (fun d hd d' hd' => ?_) (.inl fun d hd => ?_) (by rw [len1, sizeLine_eq]; omega) (fun q hq => ?_) fun out ol eo => ?_))
  · obtain ⟨q, hq, rfl⟩ := List.mem_map.mp hd
    obtain ⟨q', hq', rfl⟩ := List.mem_map.mp hd'
    obtain ⟨x, y, e⟩ := shape q hq
    obtain ⟨x', y', e'⟩ := shape q' hq'
    rw [e, e']
    simp [PySem.W.alike, PySem.W.alikeAll]
  · obtain ⟨q, hq, rfl⟩ := List.mem_map.mp hd
    obtain ⟨x, y, e⟩ := shape q hq
    exact ⟨_, _, e⟩
  · obtain ⟨x, y, e⟩ := shape q hq
    rw [e]
    simp only [PyData.depth, PyData.depthAll]
    show A.units + 1 + 1 + _ < cLine
    omega
  · obtain ⟨c, hc⟩ := sortedHeap_at (vs := L1.map fun q => Value.ref q.1) (out := out.toArray) at1
    refine wpAny_pure ⟨_, rfl, hQ _ s1.heap.objs.size out.toArray c L1 (fun b u e => ?_) g1 o1 hz hc (by rw [List.toList_toArray]; exact refs_of eo) pL⟩
    have q := k1 b u e
    have lt := Heap.lt_size q
    show (sortedHeap _ s1.heap.objs.size _ _).get? b = some u
    rw [sortedHeap_old (Nat.ne_of_lt lt) (by rw [size_push']; exact Nat.lt_succ_of_lt lt)]
    exact Heap.get?_push_of_some _ q
end
end Lg
/-! sorted(set) of ints of any number below the scan's bound. -/
namespace Lg
open PySem PySem.Spec PyProof.Rows L2
open PySem.W (dataLe list_sort_data EachIs AllAlike Sortable)
section
variable {P : Program} {w : World} {A : Around} {E : Value → Shared → Prop} {s : Shared}
theorem each_ints {h : Heap} : ∀ {vs : List Value} {ns : List Int}, IntsAre vs ns → EachIs (fun v (n : Int) => ∃ t, v = Value.int n t) vs ns ∧ ∀ a : Addr, EachIs (fun v n => ∃ as, Reads h v (PyData.int n) as ∧ a ∉ as) vs ns := by
  intro vs ns hi
  induction hi with
  | nil => exact ⟨.nil, fun _ => .nil⟩
  | cons _ _ _ ih =>
    obtain ⟨e1, e2⟩ := ih
    exact ⟨.cons ⟨_, rfl⟩ e1, fun a => .cons ⟨[], .int _ _, fun z => nomatch z⟩ (e2 a)⟩
theorem ints_each : ∀ {vs : List Value} {ns : List Int}, EachIs (fun v (n : Int) => ∃ t, v = Value.int n t) vs ns → IntsAre vs ns
  | _, _, .nil => .nil
  | _, _, .cons ⟨_, e⟩ t => by rw [e]; exact .cons _ _ (ints_each t)
theorem le_ints (x y : Int) : dataLe false PyData.int x y = decide (x ≤ y) := by
  show (!PySem.W.dataLt (.int y) (.int x)) = _
  rw [PySem.W.dataLt_int]
  by_cases h : y < x
  · rw [decide_eq_true h, decide_eq_false (by omega)]; rfl
  · rw [decide_eq_false h, decide_eq_true (by omega)]; rfl
theorem sorted_setI {a : Addr} {S : Int → Bool} {n : Nat} {Q : Value → Shared → Prop} (R : SetR w s.heap a S n) (hh : A.handled = none) (hu : A.units + 64 < cLine)
    (hQ : ∀ s' p (out : Array Value) (c : Nat) (ns : List Int), (∀ b o, s.heap.get? b = some o → s'.heap.get? b = some o) → s'.gens = s.gens → s'.os = s.os → s.heap.objs.size ≤ p →
      s'.heap.get? p = some (seqObj "list" out c) → IntsAre out.toList ns → ns.Pairwise (· < ·) → (∀ k, k ∈ ns ↔ S k = true) → ns.length = n → Q (.ref p) s') :
    wpAny (model P w) A (call (.builtin "sorted") [.ref a]) Q E s := by
  obtain ⟨o, es, ep, t, ho, hex, hd, g, nd, hm, hb, hf, hn, hr, hl⟩ := R
  refine Calls.call_function_entry kind_sorted plain_sorted entry_sorted (args_sorted1 _) ?_
  unfold Builtin.«sorted»
  refine wpAny_bind (m := checkCount "sorted" 1 1 _) (wpAny_pure (wpAny_bind (collect_set (A := A.in1) hh ⟨o, ho, hex.1, hd⟩ hf hb hr hl fun s1 vs k1 hz g1 o1 pm => ?_)))
  have many : vs.length = n := by rw [pm.length_eq, List.length_map, Array.length_toList]; exact hn
  have small : n < scanBound := hn ▸ hb
  have hin : IntsAre vs (vs.map Builtin.Re.reRawOf) := ints_of vs fun v hv => by
    obtain ⟨e, he, rfl⟩ := List.mem_map.mp (pm.mem_iff.mp hv)
    obtain ⟨k, tk, h1, _⟩ := g e he
    exact ⟨k, tk, h1⟩
  have pk : (vs.map Builtin.Re.reRawOf).Perm (es.toList.map keyOf) := by
    have z := pm.map Builtin.Re.reRawOf
    rw [List.map_map] at z
    exact z
  generalize vs.map Builtin.Re.reRawOf = ks at hin pk
  refine wpAny_bind (wpAny_newList ?_ (by unfold scanBound at small; rw [many, sizeLine_eq]; omega))
  have at1 : (s1.heap.push (seqObj "list" vs.toArray 0)).get? s1.heap.objs.size = some (seqObj "list" vs.toArray 0) := Heap.get?_push_size _ rfl
  obtain ⟨r1, r2⟩ := each_ints (h := s1.heap.push (seqObj "list" vs.toArray 0)) hin
  have kl : ks.length = n := by rw [pk.length_eq, List.length_map, Array.length_toList]; exact hn
  refine wpAny_bind (wpAny_holding (list_sort_data (s := { s1 with heap := s1.heap.push (seqObj "list" vs.toArray 0) }) (enc := PyData.int) at1 r1 (r2 _) (fun d hd d' hd' => ?_) (.inr fun d hd => ?_) (by unfold scanBound at small; rw [kl, sizeLine_eq]; omega) (fun k hk => ?_) fun out ol eo => ?_))
  · obtain ⟨x, _, rfl⟩ := List.mem_map.mp hd
    obtain ⟨y, _, rfl⟩ := List.mem_map.mp hd'
    simp [PySem.W.alike]
  · obtain ⟨x, _, rfl⟩ := List.mem_map.mp hd
    exact ⟨fun z => (nomatch z), fun _ z => (nomatch z)⟩
  · simp only [PyData.depth]
    show A.units + 1 + 1 + 0 < cLine
    omega
  · obtain ⟨c, hc⟩ := sortedHeap_at (vs := vs) (out := out.toArray) at1
    have pz := List.mergeSort_perm ks (dataLe false PyData.int)
    have pn := pz.trans pk
    have srt : (ks.mergeSort (dataLe false PyData.int)).Pairwise (· < ·) := by
      have e : dataLe false PyData.int = fun x y : Int => decide (x ≤ y) := by funext x y; exact le_ints x y
      rw [e] at pn ⊢
      have h1 := List.pairwise_mergeSort (le := fun x y : Int => decide (x ≤ y)) (fun a b c h1 h2 => decide_eq_true (by have := of_decide_eq_true h1; have := of_decide_eq_true h2; omega)) (fun a b => by rw [Bool.or_eq_true, decide_eq_true_iff, decide_eq_true_iff]; omega) ks
      have h2 : (ks.mergeSort fun x y : Int => decide (x ≤ y)).Nodup := pn.nodup_iff.mpr nd
      exact (h1.and h2).imp fun {a b} ⟨u, v⟩ => by have := of_decide_eq_true u; omega
    refine wpAny_pure ⟨_, rfl, hQ _ s1.heap.objs.size out.toArray c _ (fun b u e => ?_) g1 o1 hz hc (by rw [List.toList_toArray]; exact ints_each eo) srt (fun k => by rw [pn.mem_iff, ← hm k]) (by rw [pn.length_eq, List.length_map, Array.length_toList]; exact hn)⟩
    have q := k1 b u e
    have lt := Heap.lt_size q
    show (sortedHeap _ s1.heap.objs.size _ _).get? b = some u
    rw [sortedHeap_old (Nat.ne_of_lt lt) (by rw [size_push']; exact Nat.lt_succ_of_lt lt)]
    exact Heap.get?_push_of_some _ q
end
end Lg
/-! Ledgers: sorted(set(t)) of any ints below the scan's bound, of at most 499 pairs. -/
namespace Lg
open PySem PySem.Spec PyProof.Rows L2
def tSrtSetB (K : PySem.W.Frag) (ta : TE) : TE := fun σ H Q => ta σ H fun x H1 =>
  (∃ (l : Addr) (ns : List Int), x = V.ref l ∧ SqT K H1 l (ns.map V.int) ∧ ns.length < 4000 ∧ ∀ (ms : List Int) (p : Addr), ms.Pairwise (· < ·) → (∀ k, k ∈ ms ↔ k ∈ ns) → H1 p = none → Q (.ref p) (upd H1 p (.lst (ms.map V.int)))) ∨
  (∃ (l : Addr) (ks : List KP), x = V.ref l ∧ SqT K H1 l (ks.map fun p => V.ref p.1) ∧ (∀ p ∈ ks, SqT K H1 p.1 [.int p.2.1, .int p.2.2]) ∧ ks.length < 500 ∧
    ∀ (ms : List KP) (p : Addr), (∀ q ∈ ms, q ∈ ks) → (∀ q ∈ ks, q.2 ∈ ms.map (·.2)) → (ms.map (·.2)).Pairwise ltLex → H1 p = none → Q (.ref p) (upd H1 p (.lst (ms.map fun q => V.ref q.1))))
abbrev kpL (p : KP) : Addr × List Int := (p.1, [(p.2.1 : Int), (p.2.2 : Int)])
theorem le_kp (a b : KP) : PySem.W.dataLe false encT (kpL a) (kpL b) = leLex a.2 b.2 := by
  have e := congrFun (congrFun (PySem.W.dataLe_ii (fun p : Nat × Nat => (p.1 : Int)) (fun p => (p.2 : Int))) a.2) b.2
  have e2 : PySem.W.dataLe false encT (kpL a) (kpL b) = PySem.W.dataLe false (fun p : Nat × Nat => PyData.tuple [.int p.1, .int p.2]) a.2 b.2 := rfl
  rw [e2, e]
  unfold leLex
  simp only [Int.ofNat_lt, Int.ofNat_le, Int.ofNat_inj]
theorem pe_srtSetB {X : Cx} {a : Expr} {ta : TE} {p p2 q pos : Pos} (hc : X.calm = true) (hu : X.A.units + 100 < cLine) (hg : Gl X "sorted") (hm : X.mg "sorted" = none) (hg2 : Gl X "set") (hm2 : X.mg "set" = none) (ha : PE X a ta)
    (na : starEach [a] X.env = (false, eval a X.env) :: starEach [] X.env := by rfl) : PE X (.Call (.Name "sorted" p) [.Call (.Name "set" p2) [a] [] q] [] pos) (tSrtSetB X.K ta) := by
  refine ⟨fun pins s σ H Q I h => ?_⟩
  refine Call_ (ld_blt I hg hm PyProof.Rows.boot_sorted ?_)
  refine PyProof.Rows.callWith_builtin1 (PyProof.Rows.args_cons ?_ rfl) rfl rfl
  refine Call_ (ld_blt I hg2 hm2 PyProof.Rows.boot_set ?_)
  refine PyProof.Rows.callWith_type1 (PyProof.Rows.args_cons (thn (ha.run pins s σ H _ I h) fun v s1 ⟨x, H1, I1, r1, q1⟩ => PyProof.Rows.args_nil ?_) na) na rfl
  have fin : ∀ (s2 s' : Shared) (pa : Addr) (out : Array Value) (c : Nat) (vs : List V), Inv X pins σ H1 s2 → (∀ b o, s2.heap.get? b = some o → s'.heap.get? b = some o) → s'.gens = s2.gens → s'.os = s2.os → s2.heap.objs.size ≤ pa →
      s'.heap.get? pa = some (seqObj "list" out c) → vs.length ≤ sizeLine → Vals vs out.toList → (H1 pa = none → Q (.ref pa) (upd H1 pa (.lst vs))) → ∃ y H', Inv X pins σ H' s' ∧ RelV y (.ref pa) ∧ Q y H' := by
    intro s2 s' pa out c vs J k g o hp hgt hl hv q
    have hn : H1 pa = none := J.hok.fresh hp
    have J2 : Inv X pins σ (upd H1 pa (.lst vs)) { s2 with heap := s'.heap, gens := s'.gens, drawn := s'.drawn, toks := s'.toks } :=
      J.call (ch := []) (Un.laid k hp hn) (J.hok.laid k hp ⟨hl, out.toList, c, hv, hgt⟩) (by rw [g]; exact J.bare) (fun _ z => nomatch z)
    have e : s' = { s2 with heap := s'.heap, gens := s'.gens, drawn := s'.drawn, toks := s'.toks } := by
      obtain ⟨a1, a2, a3, a4, a5⟩ := s'
      obtain ⟨b1, b2, b3, b4, b5⟩ := s2
      cases (show a5 = b5 from o)
      rfl
    exact ⟨.ref pa, _, by rw [e]; exact J2, rfl, q hn⟩
  rcases q1 with ⟨l, ns, rfl, hq, h1, q1⟩ | ⟨l, ks, rfl, hq, hk, h1, q1⟩
  · cases r1
    obtain ⟨its, r, pl, hz⟩ := I1.tuple hq
    refine call_set_tupI ns (I1.ok.hd hc) (items := its.toArray) pl (by simpa using r.ints) (by unfold scanBound; omega) fun h' tk c hS hcn hk => ?_
    refine PyProof.Rows.args_nil ?_
    have I2 : Inv X pins σ H1 { s1 with heap := h', toks := tk } := I1.kept fun b o e => hk b o e
    refine sorted_setI (s := { s1 with heap := h', toks := tk }) hS (I1.ok.hd hc) (by show X.A.units + 64 < cLine; omega) fun s' pa out c' ms k g o hp hgt hi hs hm' hl => ?_
    refine fin _ s' pa out c' (ms.map V.int) I2 k g o hp hgt (by rw [List.length_map, hl, sizeLine_eq]; omega) (vals_of_ints hi) fun hn => q1 ms pa hs (fun j => ?_) hn
    rw [hm' j]
    exact decide_eq_true_iff
  · cases r1
    obtain ⟨its, r, pl, hz⟩ := I1.tuple hq
    have hz' : (ks.map kpL).length ≤ 499 := by rw [List.length_map]; omega
    have isT : ∀ p ∈ ks.map kpL, IsT X.prog X.w s1.heap p.2 p.1 := fun p hp => by
      obtain ⟨q, hq, rfl⟩ := List.mem_map.mp hp
      exact I1.isT (k := [(q.2.1 : Int), (q.2.2 : Int)]) (hk q hq)
    refine set_tupB (P := X.prog) (w := X.w) (ks.map kpL) (items := its.toArray) (I1.ok.hd hc) pl ?_ isT hz' (by omega) fun h' tk L es ep t hS g kk => ?_
    · have z := refs_of_vals (ks := ks.map kpL) (us := its) (by rw [List.map_map]; exact r)
      rw [List.toList_toArray]
      exact z
    refine PyProof.Rows.args_nil ?_
    have I2 : Inv X pins σ H1 { s1 with heap := h', toks := tk } := I1.kept fun b o e => kk b o e
    have back : ∀ p ∈ L, ∃ q ∈ ks, p = kpL q := fun p hp => by
      obtain ⟨q, hq, e⟩ := List.mem_map.mp (List.mem_of_mem_take (g.sub p hp))
      exact ⟨q, hq, e.symm⟩
    have lift : ∀ M : List (Addr × List Int), (∀ p ∈ M, p ∈ L) → ∃ ms : List KP, M = ms.map kpL ∧ ∀ q ∈ ms, q ∈ ks := by
      intro M
      induction M with
      | nil => exact fun _ => ⟨[], rfl, fun q hq => by cases hq⟩
      | cons p M ih =>
        intro hM
        obtain ⟨ms, e, hs⟩ := ih fun p hp => hM p (.tail _ hp)
        obtain ⟨q, hq, rfl⟩ := back p (hM p (.head _))
        exact ⟨q :: ms, by rw [e]; rfl, fun r hr => (List.mem_cons.mp hr).elim (fun z => z ▸ hq) (hs r)⟩
    have few : L.length ≤ 500 := by
      have h1 := hS.room
      have h2 := hS.nd
      have h4 := nodup_len h2 (ys := (ks.map kpL).map (·.2)) fun k hk => by
        obtain ⟨p, hp, rfl⟩ := List.mem_map.mp hk
        obtain ⟨q, hq, rfl⟩ := back p hp
        exact List.mem_map.mpr ⟨kpL q, List.mem_map.mpr ⟨q, hq, rfl⟩, rfl⟩
      rw [List.length_map, List.length_map, List.length_map] at h4
      omega
    refine sorted_setP (s := { s1 with heap := h', toks := tk }) hS (I1.ok.hd hc) (by show X.A.units + 64 < cLine; omega) (fun p hp => ?_) few fun s' pa out c' L1 k gg o hp hgt hout pm => ?_
    · obtain ⟨q, hq, rfl⟩ := back p hp
      exact ⟨_, _, rfl⟩
    · obtain ⟨m1, rfl, hs1⟩ := lift L1 fun p hp => pm.mem_iff.mp hp
      have esort : (m1.map kpL).mergeSort (PySem.W.dataLe false encT) = (m1.mergeSort fun a b => leLex a.2 b.2).map kpL := (List.map_mergeSort fun a _ b _ => (le_kp a b).symm).symm
      rw [esort] at hout
      generalize hms : (m1.mergeSort fun a b => leLex a.2 b.2) = ms at hout
      have pms : ms.Perm m1 := hms ▸ List.mergeSort_perm _ _
      have pw0 : ms.Pairwise fun a b => leLex a.2 b.2 = true := hms ▸ List.pairwise_mergeSort (le := fun a b : KP => leLex a.2 b.2) (fun a b c h1 h2 => by
        unfold leLex at *
        have h1 := of_decide_eq_true h1
        have h2 := of_decide_eq_true h2
        exact decide_eq_true (by omega)) (fun a b => by
        unfold leLex
        rw [Bool.or_eq_true, decide_eq_true_iff, decide_eq_true_iff]
        omega) m1
      have hs : ∀ q ∈ ms, q ∈ ks := fun q hq => hs1 q (pms.mem_iff.mp hq)
      have nd : ((ms.map kpL).map (·.2)).Nodup := ((((pms.map kpL).trans pm).map (·.2)).nodup_iff).mpr hS.nd
      refine fin _ s' pa out c' (ms.map fun q => V.ref q.1) I2 k gg o hp hgt ?_ ?_ fun hn => q1 ms pa hs ?_ ?_ hn
      · have y1 := pm.length_eq
        have y2 := pms.length_eq
        rw [List.length_map] at y1 ⊢
        rw [sizeLine_eq]
        omega
      · rw [hout, List.map_map]
        have := vals_of_refs (ms.map kpL)
        rw [List.map_map, List.map_map] at this
        exact this
      · intro q hq
        have z := g.all (kpL q) (by rw [List.take_length]; exact List.mem_map.mpr ⟨q, hq, rfl⟩)
        obtain ⟨p, hp, e⟩ := List.mem_map.mp z
        obtain ⟨q', hq', rfl⟩ := List.mem_map.mp (pm.mem_iff.mpr hp)
        refine List.mem_map.mpr ⟨q', pms.mem_iff.mpr hq', ?_⟩
        have e' : ([(q'.2.1 : Int), (q'.2.2 : Int)] : List Int) = [(q.2.1 : Int), (q.2.2 : Int)] := e
        have e1 : (q'.2.1 : Int) = q.2.1 := (List.cons.inj e').1
        have e2 : (q'.2.2 : Int) = q.2.2 := (List.cons.inj (List.cons.inj e').2).1
        exact Prod.ext (by omega) (by omega)
      · rw [List.map_map] at nd
        have nd' := List.pairwise_map.mp nd
        refine List.pairwise_map.mpr (List.Pairwise.imp_of_mem (fun {a b} hma hmb hab => ?_) (nd'.and pw0))
        obtain ⟨n1, n2⟩ := hab
        have n2' : a.2.1 < b.2.1 ∨ (a.2.1 = b.2.1 ∧ a.2.2 ≤ b.2.2) := of_decide_eq_true n2
        have n1' : ¬ ([(a.2.1 : Int), (a.2.2 : Int)] : List Int) = [(b.2.1 : Int), (b.2.2 : Int)] := n1
        unfold ltLex
        by_cases e1 : a.2.1 = b.2.1
        · by_cases e2 : a.2.2 = b.2.2
          · exact absurd (by rw [e1, e2]) n1'
          · exact .inr ⟨e1, by omega⟩
        · exact .inl (by omega)
section
variable {K : PySem.W.Frag} {σ : L2.St} {L L' : List As} {Q : LK} {te : TE} {x y : V} {T H : Hp}
theorem pe_srtSetBK {X : Cx} {a : Expr} {p p2 q pos : Pos} (hc : X.calm = true) (hu : X.A.units + 100 < cLine) (hg : Gl X "sorted") (hm : X.mg "sorted" = none) (hg2 : Gl X "set") (hm2 : X.mg "set" = none) (ha : PE X a te) (h3 : X.K = K := by rfl)
    (na : starEach [a] X.env = (false, eval a X.env) :: starEach [] X.env := by rfl) : PE X (.Call (.Name "sorted" p) [.Call (.Name "set" p2) [a] [] q] [] pos) (tSrtSetB K te) := by
  subst h3
  exact pe_srtSetB hc hu hg hm hg2 hm2 ha na
theorem wp_srtSetIB (h : Wp K te σ L fun x L1 => ∃ ns : List Int, Dv K L1 x (.tuple (ns.map .int)) ∧ ns.length < 500 ∧ ∀ (ms : List Int) p, ms.Pairwise (· < ·) → (∀ k, k ∈ ms ↔ k ∈ ns) → Q (.ref p) (.ld p (ms.map .int) :: L1)) : Wp K (tSrtSetB K te) σ L Q := fun H hs Q0 up =>
  h H hs _ fun x H1 L1 h1 ⟨ns, hd, hl, q⟩ => by
    obtain ⟨T, ht⟩ := id h1
    cases hd T H1 ht with
    | @tup a xs _ ha hds =>
      exact .inl ⟨a, ns, rfl, by rw [← dps_ints hds]; exact SqT.of (ht.sub _ _ ha), by omega, fun ms p n1 n2 hp => up _ _ _ ⟨T, ht.lay (x := .ld p (ms.map .int)) hp rfl ⟨_, upd_same, ints_dps ms⟩⟩ (q ms p n1 n2)⟩
theorem wp_srtSetPB (h : Wp K te σ L fun x L1 => ∃ ps : List (Nat × Nat), Dv K L1 x (.tuple (ps.map pD2)) ∧ ps.length < 500 ∧ (∀ p ∈ ps, p.1 < 1024 ∧ p.2 < 1024) ∧ ∀ (ms : List (Nat × Nat)) p, ms.Pairwise ltLex → (∀ k, k ∈ ms ↔ k ∈ ps) → Q (.ref p) (.ld p (ms.map pD2) :: L1)) : Wp K (tSrtSetB K te) σ L Q := fun H hs Q0 up =>
  h H hs _ fun x H1 L1 h1 ⟨ps, hd, hl, hb, q⟩ => by
    obtain ⟨T, ht⟩ := id h1
    cases hd T H1 ht with
    | @tup a xs _ ha hds =>
      obtain ⟨ks, rfl, rfl, hk⟩ := dps_kp hds
      refine .inr ⟨a, ks, rfl, SqT.of (ht.sub _ _ ha), fun p hp => SqT.of (ht.sub _ _ (hk p hp)), by rw [List.length_map] at hl; exact hl, fun ms p m1 m2 m3 hp => up _ _ _ ⟨T, ht.lay (x := .ld p ((ms.map (·.2)).map pD2)) hp rfl ⟨_, upd_same, kp_dps fun q hq => hk q (m1 q hq)⟩⟩ (q _ p m3 fun k => ?_)⟩
      constructor
      · intro z
        obtain ⟨r, hr, rfl⟩ := List.mem_map.mp z
        exact List.mem_map.mpr ⟨r, m1 r hr, rfl⟩
      · intro z
        obtain ⟨r, hr, rfl⟩ := List.mem_map.mp z
        exact m2 r hr
end
end Lg
namespace K84
open PySem PySem.Spec PyProof.Rows L2 Lg
/-! short tactics of my own, under the word walk_at -/
local macro_rules | `(tactic| walk_at "mem") => `(tactic| first | exact List.Mem.head _ | assumption | (refine List.Mem.tail _ ?_; walk_at "mem"))
local macro_rules | `(tactic| walk_at "put") => `(tactic| first | exact Put.here | (apply Put.there; walk_at "put"))
local macro_rules | `(tactic| walk_at "pick") => `(tactic| first | exact Pick.here | (apply Pick.there; walk_at "pick"))
local macro_rules | `(tactic| walk_at "ent") => `(tactic| first | exact Ent.refl | exact Ent.nil | (refine Ent.cons (by walk_at "pick") ?_; walk_at "ent") | (refine Ent.dup (by walk_at "mem") ?_; walk_at "ent") | (refine Ent.drop ?_; walk_at "ent"))
local macro_rules | `(tactic| walk_at "dv") => `(tactic| first | exact Dv.int | exact Dv.bl | exact Dv.str | exact Dv.non | assumption | exact Dv.mem (by walk_at "mem"))
local macro_rules | `(tactic| walk_at "dvs") => `(tactic| first | exact Dvs.nil | (apply Dvs.cons; (focus walk_at "dv"); (focus walk_at "dvs")))
local macro_rules | `(tactic| walk_at "norm") => `(tactic| try dsimp only [cxK, noxK, wishK, blkK, baseK, noxB])
local macro_rules | `(tactic| walk_at "num") => `(tactic| first | decide | omega | (simp only [CMul, CPow, CDivN]; omega) | assumption)
local macro_rules | `(tactic| walk_at "one") => `(tactic| with_reducible first
  | refine wp_var rfl ?_ | refine wp_c ?_ | refine wp_op ?_ | refine wp_cb ?_ | refine wa_cons ?_ | refine wa_nil ?_
  | refine ws_seq ?_ | refine ws_asg ?_ | refine ws_drop ?_ | refine ws_ret ?_ | refine ws_if ?_ | refine ws_par ?_ | refine ws_par3 ?_
  | refine wp_un ?_ | refine wp_chain ?_ | refine wp_if ?_ | refine wp_andV ?_ | refine wp_orV ?_ | refine wp_notV ?_ | refine wp_cal ?_ | refine wp_sl ?_
  | refine wo_none ?_ | refine wo_some ?_
  | refine wt_test ?_ | refine wt_B ?_ | refine wt_yes ?_ | refine wt_and ?_ | refine wt_or ?_ | refine wt_not ?_
  | refine w2_mulI (by walk_at "num") ?_ | refine w2_I (by walk_at "num") ?_
  | refine w2_addI ?_ | refine w2_eqPI ?_ | refine w2_eqPS ?_ | refine w2_nePS ?_ | refine w2_nePI ?_ | refine w2_ltI ?_ | refine w2_I0 ?_ | refine w1_U ?_
  | refine wg_name ?_ | refine wgs_nil ?_ | refine wgs_cons ?_ | refine iteT ?_ | refine iteF ?_ | refine ⟨_, rfl, ?_⟩)
local macro_rules | `(tactic| walk_at "go") => `(tactic| repeat walk_at "one")
local macro_rules | `(tactic| walk_at "len") => `(tactic| (simp only [List.length_cons, List.length_nil]; decide))

abbrev s_law_are_holds : Stmt := topS 37
abbrev n_law_are_holds : List Str := ["touches", "room", "thing", "known", "pair", "hold"]
theorem sc_law_are_holds : FnScope n_law_are_holds ["touches", "room", "thing"] (defScope s_law_are_holds) := ⟨rfl, rfl, rfl, by decide +kernel, rfl, by decide +kernel, by decide +kernel⟩
section
variable {P : Program} {w : World} {K : PySem.W.Frag} {mg : Str → Option Value} {base : Heap}
/-- holds of the touches, ascending, that fit -/
structure HoldsOk (ts : List Int) (k : Nat) (ps : List (Nat × Nat)) : Prop where
  sub : ∀ p ∈ ps, p ∈ holds ts
  asc : ps.Pairwise ltLex
  fit : FitP k ps
theorem isTup_inv {d : PyData} (h : isTupD d = true) : ∃ ds, d = .tuple ds := by
  cases d <;> try cases h
  exact ⟨_, rfl⟩
theorem isInt_inv {d : PyData} (h : isIntD d = true) : ∃ i, d = .int i := by
  cases d <;> try cases h
  exact ⟨_, rfl⟩
theorem isStr_inv {d : PyData} (h : isStrD d = true) : ∃ i, d = .str i := by
  cases d <;> try cases h
  exact ⟨_, rfl⟩
def few (m : Nat) (d : PyData) : Prop := ∀ ds, d = .tuple ds → ds.length < m
/-- the i first items are holds -/
def HoldsTo (ts : List Int) (ds : List PyData) (i : Nat) : Prop := ∃ ps : List (Nat × Nat), ds.take i = kD ps ∧ ∀ p ∈ ps, p ∈ holds ts
def pkey (p : Nat × Nat) : List Key := [.inl (p.1 : Int), .inl (p.2 : Int)]
theorem pkey_inj {p q : Nat × Nat} (h : pkey p = pkey q) : p = q := by
  have h1 := (List.cons.inj h).1
  have h2 := (List.cons.inj (List.cons.inj h).2).1
  have e1 : (p.1 : Int) = q.1 := Sum.inl.inj h1
  have e2 : (p.2 : Int) = q.2 := Sum.inl.inj h2
  exact Prod.ext (by omega) (by omega)
def S_law_are_holds (K : PySem.W.Frag) : SpL := fun vs L Q => ∃ x ts y d, ∃ k : Nat, vs = [x, .int (k + 1 : Int), y] ∧ Dv K L x (.tuple (iD ts)) ∧ ts.length < 1000 ∧ Dv K L y d ∧ few 500 d ∧ ∀ b, (b = true ↔ ∃ ps, d = .tuple (kD ps) ∧ HoldsOk ts k ps) → Q (.bl b) L
theorem kD_inj {ps qs : List (Nat × Nat)} (h : kD ps = kD qs) : ps = qs := by
  induction ps generalizing qs with
  | nil => cases qs with
    | nil => rfl
    | cons q t => cases h
  | cons p ps ih => cases qs with
    | nil => cases h
    | cons q t =>
      have h1 := (List.cons.inj h).1
      have h2 := (List.cons.inj h).2
      unfold pD2 at h1
      have h3 := PyData.tuple.inj h1
      have a1 := PyData.int.inj (List.cons.inj h3).1
      have a2 := PyData.int.inj (List.cons.inj (List.cons.inj h3).2).1
      rw [ih h2, show p = q from Prod.ext (by omega) (by omega)]
theorem ok_law_are_holds {f : Addr} {fd : FuncData} (F : Fun K "_law_are_holds" "_law_are_holds" s_law_are_holds f fd) (B : Bs mg) (c_law_is_whole : Cal P w K mg base "_law_is_whole" 1 ["thing"] (S_is_integer K)) (c_law_all_holds : Cal P w K mg base "_law_all_holds" 1 ["touches"] (S_law_all_holds K))
    (c_law_are_fit : Cal P w K mg base "_law_are_fit" 1 ["touches", "room", "holds"] (S_law_are_fit K)) : FnOk P w K mg base CX0 2 f fd ["touches", "room", "thing"] (spL K (S_law_are_holds K)) := by
  refine okL F sc_law_are_holds (fun vs L Q h => ?_) (fun cdv A outer s H E hr => ⟨_, (pss_cons (ps_if (pt_not (pt_val (pe_callB (callRK (K := K) (r := rIsi) call_isi) (by rfl) B.isinstance (by decide +kernel) (pa_cons (pv 2) (pa_cons (pe_bltn (v := .ty "tuple") (by rfl) B.tuple (by decide +kernel) rfl) pa_nil))))) (pss_one (ps_ret pe_bl)) pss_nil)
      (pss_cons (ps_set (i := 3) sc_law_are_holds.nd rfl (.inl rfl) (pe_callTy (callRK (K := K) (r := rDictP) (call_dictPP rfl (hu100 hr))) (by rfl) B.dict (by decide +kernel) (pa_cons (pe_lc (own := [("hold", 5)]) (g := gName 5) (tt := tYes) rfl sc_law_are_holds.nd (pi_seqK (K := K) (pe_cal c_law_all_holds (hr.mono (by decide)) (by rfl) (pa_cons (pv 0) pa_nil))) (blkOk_by (N := n_law_are_holds) (sc := defScope s_law_are_holds) (by decide +kernel)) (fun _ _ _ _ _ => (pg_name (i := 5) sc_law_are_holds.nd rfl (Or.inl rfl))) (fun _ _ _ _ _ => pts_nil) (fun _ _ _ _ _ => (pe_tup (pa_cons (pv 5) (pa_cons pe_bl pa_nil))))) pa_nil)))
      (pss_cons (ps_for PassesOwn.never rfl (pi_seqK (K := K) (pv 2)) (pg_name (i := 4) sc_law_are_holds.nd rfl (Or.inl rfl)) (pss_cons (ps_if (PW.pt (pw_or (pt_not (pt_val (pe_callB (callRK (K := K) (r := rIsi) call_isi) (by rfl) B.isinstance (by decide +kernel) (pa_cons (pv 4) (pa_cons (pe_bltn (v := .ty "tuple") (by rfl) B.tuple (by decide +kernel) rfl) pa_nil))))) (pw_or (pt_cmpR (opRK (K := K) (r := rNeP) (op_neP (hu64 hr))) (pe_callB (callRK (K := K) (r := rLenP) call_lenP) (by rfl) B.len (by decide +kernel) (pa_cons (pv 4) pa_nil)) pe_int (nomark _)) (pw_or (pt_not (pt_val (pe_cal c_law_is_whole (hr.mono (by decide)) (by rfl) (pa_cons (pe_ix (ixRK (K := K) (r := rIxP) (ix_P (hu1 hr))) (pv 4) pe_int (fun _ _ => rfl)) pa_nil)))) (pw_or1 (pt_not (pt_val (pe_cal c_law_is_whole (hr.mono (by decide)) (by rfl) (pa_cons (pe_ix (ixRK (K := K) (r := rIxP) (ix_P (hu1 hr))) (pv 4) pe_int (fun _ _ => rfl)) pa_nil))))))))) (pss_one (ps_ret pe_bl)) pss_nil)
      (pss_one (ps_if (pt_cmpR (opRK (K := K) (r := rNotInP) (op_notInP (hu65 hr))) (pv 4) (pv 3) (by rfl)) (pss_one (ps_ret pe_bl)) pss_nil))))
      (pss_one (ps_ret (pe_and (pe_cmpR (opRK (K := K) (r := rEqP) (op_eqP (hu64 hr))) (pe_callTy (callRK (K := K) (r := rListP) call_listP) (by rfl) B.list (by decide +kernel) (pa_cons (pv 2) pa_nil)) (pe_srtSetBK rfl (hu100 hr) (by rfl) B.sorted (by rfl) B.set (pv 2)) (nomark _)) (pe_one (pe_cal c_law_are_fit (hr.mono (by decide)) (by rfl) (pa_cons (pv 0) (pa_cons (pv 1) (pa_cons (pv 2) pa_nil))))))))))), fun vs L LQ h => ?_⟩)
  · obtain ⟨x, ts, y, d, k, rfl, _⟩ := h
    rfl
  · obtain ⟨x, ts, y, d, k, rfl, hd, hz, hy, hf, q⟩ := h
    walk_at "norm"
    have len : (iD ts).length = ts.length := List.length_map _
    have hE := holds_ends ts
    have hN := holds_len ts
    have hbig : 1000 < sizeLine := by decide
    have no : (¬ ∃ ps, d = .tuple (kD ps) ∧ HoldsOk ts k ps) → LQ (.bl false) L := fun z => q false ⟨fun h => (by cases h), fun h => absurd h z⟩
    walk_at "go"
    refine wc_isi (Dn.dat hy) (kit_tuple d) ⟨_, rfl, ?_⟩
    cases ht : isTupD d with
    | false =>
      refine iteT ?_
      walk_at "go"
      exact ⟨_, Ent.refl, no fun ⟨ps, e, _⟩ => by rw [e] at ht; cases ht⟩
    | true =>
      obtain ⟨ds, rfl⟩ := isTup_inv ht
      have hds := hf ds rfl
      refine iteF (ws_next ?_)
      walk_at "go"
      refine wp_lcS (b := false) (fun _ => true) (fun d => match d with | .tuple [.int a, .int b] => dkT ([.inl a, .inl b], .bool true) | _ => .none) ?_
      walk_at "go"
      refine ⟨x, ts, rfl, hd, by omega, fun hv => ?_⟩
      refine ⟨kD (holds ts), .inr ⟨rfl, Dv.mem (.head _)⟩, by rw [List.length_map]; omega, fun d v L2 D acc hdm o => ?_, fun D => ?_⟩
      · obtain ⟨p, hp, rfl⟩ := List.mem_map.mp hdm
        refine wg_name ⟨rfl, wt_yes ⟨rfl, iteT (wp_tup ?_)⟩⟩
        walk_at "go"
        exact ⟨[pD2 p, .bool true], Dvs.cons o.dv (Dvs.cons Dv.bl Dvs.nil), by walk_at "len", fun t => ⟨Dv.mem (.head _), Ent.drop o.ent⟩⟩
      walk_at "go"
      generalize hqs : ((holds ts).map fun p => ((pkey p, .bool true) : KDk)) = qs
      have eqs : ((kD (holds ts)).filter fun _ => true).map (fun d => match d with | .tuple [.int a, .int b] => dkT ([.inl a, .inl b], .bool true) | _ => .none) = qs.map dkT := by
        rw [List.filter_eq_self.mpr fun _ _ => rfl, ← hqs, List.map_map, List.map_map]
        rfl
      rw [eqs]
      refine wc_dictT (Ls.own (.head _)) fun kn => ?_
      have hkn : ∀ a b : Int, (valD (putAllD qs) [.inl a, .inl b]).isSome = true ↔ ∃ p ∈ holds ts, (p.1 : Int) = a ∧ (p.2 : Int) = b := fun a b => by
        rw [putAllD_there, ← hqs, List.any_map, List.any_eq_true]
        constructor
        · rintro ⟨p, hp, e⟩
          have e' : pkey p = [.inl a, .inl b] := of_decide_eq_true e
          exact ⟨p, hp, Sum.inl.inj (List.cons.inj e').1, Sum.inl.inj (List.cons.inj (List.cons.inj e').2).1⟩
        · rintro ⟨p, hp, rfl, rfl⟩
          exact ⟨p, hp, decide_eq_true rfl⟩
      refine Ws.ent (L' := .dt kn (putAllD qs) :: L) (Ent.tailE (Ent.drop (Ent.drop Ent.refl))) ?_
      walk_at "go"
      refine ws_for (wi_seqT ?_)
      walk_at "go"
      refine ⟨ds, Ent.dv (Ent.drop Ent.refl) hy, fun i σ L' => ∃ o4, σ = [some x, some (.int (k + 1 : Int)), some y, some (.ref kn), o4, none] ∧ Ent K L' (.dt kn (putAllD qs) :: L) ∧ HoldsTo ts ds i, ?_, ?_, ?_, ?_⟩
      · exact ⟨_, rfl, Ent.refl, [], rfl, fun p hp => by cases hp⟩
      · rintro i σ L' hi ⟨o4, rfl, e, _⟩
        exact Ent.dv (e.trans (Ent.drop Ent.refl)) hy
      · rintro i σ L1 v L2 hi ⟨o4, rfl, e, ps, eps, hps⟩ ⟨d, ed, od⟩
        refine wg_name ?_
        have hdv : Dv K L2 v d := od.dv
        have eL : Ent K L2 (.dt kn (putAllD qs) :: L) := od.ent.trans e
        have bad : (¬ ∃ p ∈ holds ts, d = pD2 p) → LQ (.bl false) L := fun z => no fun ⟨ps', e', h'⟩ => by
          have e2 : ds = kD ps' := PyData.tuple.inj e'
          rw [e2] at ed
          obtain ⟨p, hp, rfl⟩ := pD2_at ed
          exact z ⟨p, h'.sub p (List.mem_of_getElem? hp), rfl⟩
        have out : ∀ {L3 : List As}, Ent K L3 L2 → (¬ ∃ p ∈ holds ts, d = pD2 p) → RetE K LQ (.bl false) L3 := fun e3 z => ⟨_, e3.trans (eL.trans (Ent.drop Ent.refl)), bad z⟩
        walk_at "go"
        refine wc_isi (Dn.dat hdv) (kit_tuple d) ⟨_, rfl, ?_⟩
        cases ht2 : isTupD d with
        | false =>
          refine iteT (iteT ?_)
          walk_at "go"
          exact out Ent.refl fun ⟨p, _, e2⟩ => by rw [e2] at ht2; cases ht2
        | true =>
          obtain ⟨es, rfl⟩ := isTup_inv ht2
          refine iteF ?_
          walk_at "go"
          refine wc_len (Sq.tup hdv) ?_
          walk_at "go"
          refine iteR (fun h2 => iteT ?_) fun h2 => ?_
          · walk_at "go"
            refine out Ent.refl fun ⟨p, _, e2⟩ => ?_
            have : es.length = 2 := by rw [PyData.tuple.inj e2]; rfl
            rw [this] at h2
            cases h2
          · have h2' : es.length = 2 := by
              have : decide ((es.length : Int) = 2) = true := by simpa using h2
              have := of_decide_eq_true this
              omega
            match es, h2' with
            | [a, b], _ =>
              walk_at "go"
              refine W2.fst (w2_at (d := a) (Sq.tup hdv) rfl fun va La oa => ?_)
              have ea : Ent K La L2 := oa.ent
              walk_at "go"
              refine ⟨va, a, rfl, Dn.dat oa.dv, _, rfl, ?_⟩
              cases ha : isIntD a with
              | false =>
                refine iteT (iteT ?_)
                walk_at "go"
                exact out ea fun ⟨p, _, e2⟩ => by
                  have := (List.cons.inj (PyData.tuple.inj e2)).1
                  rw [this] at ha
                  cases ha
              | true =>
                obtain ⟨ai, rfl⟩ := isInt_inv ha
                refine iteF ?_
                walk_at "go"
                refine W2.fst (w2_at (d := b) (Sq.tup (Ent.dv ea hdv)) rfl fun vb Lb ob => ?_)
                have eb : Ent K Lb L2 := ob.ent.trans ea
                walk_at "go"
                refine ⟨vb, b, rfl, Dn.dat ob.dv, _, rfl, ?_⟩
                cases hb : isIntD b with
                | false =>
                  refine iteT ?_
                  walk_at "go"
                  exact out eb fun ⟨p, _, e2⟩ => by
                    have := (List.cons.inj (List.cons.inj (PyData.tuple.inj e2)).2).1
                    rw [this] at hb
                    cases hb
                | true =>
                  obtain ⟨bi, rfl⟩ := isInt_inv hb
                  refine iteF (ws_next ?_)
                  refine Ws.ent ((Ent.put (Ent.dv eb hdv) (eb.trans eL))) ?_
                  walk_at "go"
                  refine W2.fst (w2_notInDc (o := valD (putAllD qs) [.inl ai, .inl bi]) (DAt.t (.tail _ (.head _)) (KeyD.of (ks := [.inl ai, .inl bi]) (Dv.mem (.head _)))) ⟨_, rfl, ?_⟩)
                  cases hin : (valD (putAllD qs) [.inl ai, .inl bi]).isSome with
                  | false =>
                    refine iteT ?_
                    walk_at "go"
                    refine ⟨_, Ent.drop (Ent.drop Ent.refl), bad fun ⟨p, hp, e2⟩ => ?_⟩
                    have e3 := PyData.tuple.inj e2
                    have := (hkn ai bi).mpr ⟨p, hp, (PyData.int.inj (List.cons.inj e3).1).symm, (PyData.int.inj (List.cons.inj (List.cons.inj e3).2).1).symm⟩
                    rw [hin] at this
                    cases this
                  | true =>
                    obtain ⟨p, hp, rfl, rfl⟩ := (hkn ai bi).mp hin
                    refine iteF (ws_next ⟨_, Ent.refl, _, rfl, Ent.drop Ent.refl, ps ++ [p], ?_, fun p' hp' => ?_⟩)
                    · rw [List.take_add_one, eps, ed, kD, kD, List.map_append]
                      rfl
                    · rcases List.mem_append.mp hp' with z | z
                      · exact hps p' z
                      · have : p' = p := by simpa using z
                        rw [this]; exact hp
      · rintro σ L1 ⟨o4, rfl, e, ps, eps, hps⟩
        rw [List.take_length] at eps
        subst eps
        have hpl : ps.length < 500 := by rw [List.length_map] at hds; exact hds
        have hpE : ∀ p ∈ ps, p.1 < p.2 ∧ p.2 < ts.length := fun p hp => hE p (hps p hp)
        refine Ws.ent (e.trans (Ent.drop Ent.refl)) ?_
        walk_at "go"
        refine wc_list (Sq.tup hy) fun l1 => ?_
        refine wp_srtSetPB (wp_var rfl ⟨ps, Ent.dv (Ent.drop Ent.refl) hy, hpl, fun p hp => by have := hpE p hp; omega, fun ms l2 hm1 hm2 => ?_⟩)
        refine W2.snd (w2_eqQ (Dn.own (.tail _ (.head _))) (Dn.own (.head _)) (shaped_pairs ps) (shaped_pairs ms) ?_)
        rw [eqvL_pairs]
        refine ⟨_, rfl, ?_⟩
        have asc : ps = ms ↔ ps.Pairwise ltLex := asc_uniq (fun a h => by unfold ltLex at h; omega) (fun a b h1 h2 => by unfold ltLex at h1 h2; omega) hm1 hm2
        by_cases hpm : ps = ms
        · rw [decide_eq_true hpm]
          refine iteT ?_
          walk_at "go"
          refine ⟨x, ts, y, ps, k, rfl, Ent.dv (Ent.drop (Ent.drop Ent.refl)) hd, by omega, Ent.dv (Ent.drop (Ent.drop Ent.refl)) hy, hpE, ?_⟩
          refine ⟨_, Ent.drop (Ent.drop Ent.refl), q _ ?_⟩
          rw [fitB_iff fun h hh => (hpE h hh).2]
          constructor
          · exact fun h => ⟨ps, rfl, hps, asc.mp hpm, h⟩
          · rintro ⟨ps', e', h'⟩
            have := kD_inj (PyData.tuple.inj e')
            rw [this]
            exact h'.fit
        · rw [decide_eq_false hpm]
          refine iteF ⟨_, Ent.drop (Ent.drop Ent.refl), no fun ⟨ps', e', h'⟩ => hpm ?_⟩
          have := kD_inj (PyData.tuple.inj e')
          rw [← this] at h'
          exact asc.mpr h'.asc
end
end K84
namespace K84
open PySem PySem.Spec PyProof.Rows L2 Lg
/-! short tactics of my own, under the word walk_at -/
local macro_rules | `(tactic| walk_at "mem") => `(tactic| first | exact List.Mem.head _ | assumption | (refine List.Mem.tail _ ?_; walk_at "mem"))
local macro_rules | `(tactic| walk_at "put") => `(tactic| first | exact Put.here | (apply Put.there; walk_at "put"))
local macro_rules | `(tactic| walk_at "pick") => `(tactic| first | exact Pick.here | (apply Pick.there; walk_at "pick"))
local macro_rules | `(tactic| walk_at "ent") => `(tactic| first | exact Ent.refl | exact Ent.nil | (refine Ent.cons (by walk_at "pick") ?_; walk_at "ent") | (refine Ent.dup (by walk_at "mem") ?_; walk_at "ent") | (refine Ent.drop ?_; walk_at "ent"))
local macro_rules | `(tactic| walk_at "dv") => `(tactic| first | exact Dv.int | exact Dv.bl | exact Dv.str | exact Dv.non | assumption | exact Dv.mem (by walk_at "mem"))
local macro_rules | `(tactic| walk_at "dvs") => `(tactic| first | exact Dvs.nil | (apply Dvs.cons; (focus walk_at "dv"); (focus walk_at "dvs")))
local macro_rules | `(tactic| walk_at "norm") => `(tactic| try dsimp only [cxK, noxK, wishK, blkK, baseK, noxB])
local macro_rules | `(tactic| walk_at "num") => `(tactic| first | decide | omega | (simp only [CMul, CPow, CDivN]; omega) | assumption)
local macro_rules | `(tactic| walk_at "one") => `(tactic| with_reducible first
  | refine wp_var rfl ?_ | refine wp_c ?_ | refine wp_op ?_ | refine wp_cb ?_ | refine wa_cons ?_ | refine wa_nil ?_
  | refine ws_seq ?_ | refine ws_asg ?_ | refine ws_drop ?_ | refine ws_ret ?_ | refine ws_if ?_ | refine ws_par ?_ | refine ws_par3 ?_
  | refine wp_un ?_ | refine wp_chain ?_ | refine wp_if ?_ | refine wp_andV ?_ | refine wp_orV ?_ | refine wp_notV ?_ | refine wp_cal ?_ | refine wp_sl ?_
  | refine wo_none ?_ | refine wo_some ?_
  | refine wt_test ?_ | refine wt_B ?_ | refine wt_yes ?_ | refine wt_and ?_ | refine wt_or ?_ | refine wt_not ?_
  | refine w2_mulI (by walk_at "num") ?_ | refine w2_I (by walk_at "num") ?_
  | refine w2_addI ?_ | refine w2_eqPI ?_ | refine w2_eqPS ?_ | refine w2_nePS ?_ | refine w2_nePI ?_ | refine w2_ltI ?_ | refine w2_I0 ?_ | refine w1_U ?_
  | refine wg_name ?_ | refine wgs_nil ?_ | refine wgs_cons ?_ | refine iteT ?_ | refine iteF ?_ | refine ⟨_, rfl, ?_⟩)
local macro_rules | `(tactic| walk_at "go") => `(tactic| repeat walk_at "one")
local macro_rules | `(tactic| walk_at "len") => `(tactic| (simp only [List.length_cons, List.length_nil]; decide))

abbrev s_law_is_paper : Stmt := topS 41
abbrev n_law_is_paper : List Str := ["touches", "room", "thing", "word", "holds", "bars", "bar"]
theorem sc_law_is_paper : FnScope n_law_is_paper ["touches", "room", "thing"] (defScope s_law_is_paper) := ⟨rfl, rfl, rfl, by decide +kernel, rfl, by decide +kernel, by decide +kernel⟩
section
variable {P : Program} {w : World} {K : PySem.W.Frag} {mg : Str → Option Value} {base : Heap}
/-- a right paper of pages -/
structure PaperOk (ts : List Int) (k : Nat) (ps : List (Nat × Nat)) (bs : List Nat) : Prop where
  hok : HoldsOk ts k ps
  lt : ∀ q ∈ bs, q < ts.length
  asc : bs.Pairwise (· < ·)
  cost : ps.length = k * bs.length + (holds ts).countP (bare bs)
def IsPaper (ts : List Int) (k : Nat) (d : PyData) : Prop := ∃ ps bs, d = paperD ps bs ∧ PaperOk ts k ps bs
/-- the second and the third part have few items -/
def fewP (m : Nat) (d : PyData) : Prop := ∀ a b c, d = .tuple [a, b, c] → few m b ∧ few m c
def S_law_is_paper (K : PySem.W.Frag) : SpL := fun vs L Q => ∃ x ts y d, ∃ k : Nat, vs = [x, .int (k + 1 : Int), y] ∧ Dv K L x (.tuple (iD ts)) ∧ ts.length < 1000 ∧ k < 2 ^ 20 ∧ Dv K L y d ∧ fewP 500 d ∧ ∀ b, (b = true ↔ IsPaper ts k d) → Q (.bl b) L
theorem nD_inj {xs ys : List Nat} (h : nD xs = nD ys) : xs = ys := by
  induction xs generalizing ys with
  | nil => cases ys with
    | nil => rfl
    | cons q t => cases h
  | cons p ps ih => cases ys with
    | nil => cases h
    | cons q t =>
      have h1 := PyData.int.inj (List.cons.inj h).1
      rw [ih (List.cons.inj h).2, show p = q by omega]
theorem places_nD {n : Nat} : ∀ {ds : List PyData}, (∀ d ∈ ds, isPlaceD n d = true) → ∃ bs : List Nat, ds = nD bs ∧ ∀ q ∈ bs, q < n
  | [], _ => ⟨[], rfl, fun q hq => by cases hq⟩
  | d :: ds, h => by
    obtain ⟨bs, rfl, hb⟩ := places_nD fun d hd => h d (.tail _ hd)
    have h1 := h d (.head _)
    cases d with
    | int i =>
      obtain ⟨a, b⟩ := Bool.and_eq_true_iff.mp (show (decide (0 ≤ i) && decide (i < (n : Int))) = true from h1)
      have a' := of_decide_eq_true a
      have b' := of_decide_eq_true b
      refine ⟨i.toNat :: bs, ?_, fun q hq => ?_⟩
      · show _ = PyData.int (i.toNat : Nat) :: nD bs
        rw [Int.toNat_of_nonneg a']
      · rcases List.mem_cons.mp hq with z | z
        · omega
        · exact hb q z
    | _ => cases h1
theorem shaped_ones (ds : List PyData) (f : PyData → Bool) : SeqAt.shaped (.list ((ds.filter f).map fun _ => .int 1)) = true := by
  have : (ds.filter f).map (fun _ => PyData.int 1) = ((ds.filter f).map fun _ => (1 : Int)).map .int := by rw [List.map_map]; rfl
  rw [this]
  exact shaped_ints _
theorem eqv_ones (ds : List PyData) (f : PyData → Bool) : PyData.eqv (.list ((ds.filter f).map fun _ => .int 1)) (.list []) = ds.all (fun d => !f d) := by
  have : (ds.filter f).map (fun _ => PyData.int 1) = ((ds.filter f).map fun _ => (1 : Int)).map .int := by rw [List.map_map]; rfl
  rw [this, eqvL_nil, Bool.eq_iff_iff, decide_eq_true_iff, List.map_eq_nil_iff, List.filter_eq_nil_iff, List.all_eq_true]
  exact ⟨fun h d hd => by simpa using h d hd, fun h d hd => by simpa using h d hd⟩
theorem nD_iD (bs : List Nat) : nD bs = iD (bs.map fun b : Nat => (b : Int)) := by unfold iD; rw [List.map_map]; rfl
theorem asc_nat {bs : List Nat} : (bs.map fun b : Nat => (b : Int)).Pairwise (· < ·) ↔ bs.Pairwise (· < ·) := by
  rw [List.pairwise_map]
  exact ⟨fun h => List.Pairwise.imp (S := fun a b : Nat => a < b) (fun {a b} (z : (a : Int) < (b : Int)) => by omega) h, fun h => List.Pairwise.imp (S := fun a b : Nat => (a : Int) < (b : Int)) (fun {a b} (z : a < b) => by omega) h⟩
theorem ok_law_is_paper {f : Addr} {fd : FuncData} (F : Fun K "_law_is_paper" "_law_is_paper" s_law_is_paper f fd) (B : Bs mg) (c_law_are_holds : Cal P w K mg base "_law_are_holds" 2 ["touches", "room", "thing"] (S_law_are_holds K)) (c_law_is_place : Cal P w K mg base "_law_is_place" 2 ["touches", "thing"] (S_law_is_place K))
    (c_law_passing : Cal P w K mg base "_law_passing" 2 ["touches", "bars"] (S_law_passing K)) : FnOk P w K mg base CX0 3 f fd ["touches", "room", "thing"] (spL K (S_law_is_paper K)) := by
  refine okL F sc_law_is_paper (fun vs L Q h => ?_) (fun cdv A outer s H E hr => ⟨_, (pss_cons (ps_if (PW.pt (pw_or (pt_not (pt_val (pe_callB (callRK (K := K) (r := rIsi) call_isi) (by rfl) B.isinstance (by decide +kernel) (pa_cons (pv 2) (pa_cons (pe_bltn (v := .ty "tuple") (by rfl) B.tuple (by decide +kernel) rfl) pa_nil))))) (pw_or (pt_cmpR (opRK (K := K) (r := rNeP) (op_neP (hu64 hr))) (pe_callB (callRK (K := K) (r := rLenP) call_lenP) (by rfl) B.len (by decide +kernel) (pa_cons (pv 2) pa_nil)) pe_int (nomark _)) (pw_or (pt_not (pt_val (pe_callB (callRK (K := K) (r := rIsi) call_isi) (by rfl) B.isinstance (by decide +kernel) (pa_cons (pe_ix (ixRK (K := K) (r := rIxP) (ix_P (hu1 hr))) (pv 2) pe_int (fun _ _ => rfl)) (pa_cons (pe_bltn (v := .ty "str") (by rfl) B.str (by decide +kernel) rfl) pa_nil))))) (pw_or1 (pt_cmpR (opRK (K := K) (r := rNeP) (op_neP (hu64 hr))) (pe_ix (ixRK (K := K) (r := rIxP) (ix_P (hu1 hr))) (pv 2) pe_int (fun _ _ => rfl)) pe_str (nomark _))))))) (pss_one (ps_ret pe_bl)) pss_nil)
      (pss_cons (ps_asg (pv 2) (pg_tupK (K := K) (n := 3) rfl (pgs_cons (pg_name (i := 3) sc_law_is_paper.nd rfl (Or.inl rfl)) (pgs_cons (pg_name (i := 4) sc_law_is_paper.nd rfl (Or.inl rfl)) (pgs_cons (pg_name (i := 5) sc_law_is_paper.nd rfl (Or.inl rfl)) pgs_nil)))))
      (pss_cons (ps_if (PW.pt (pw_or (pt_not (pt_val (pe_cal c_law_are_holds (hr.mono (by decide)) (by rfl) (pa_cons (pv 0) (pa_cons (pv 1) (pa_cons (pv 4) pa_nil)))))) (pw_or1 (pt_not (pt_val (pe_callB (callRK (K := K) (r := rIsi) call_isi) (by rfl) B.isinstance (by decide +kernel) (pa_cons (pv 5) (pa_cons (pe_bltn (v := .ty "tuple") (by rfl) B.tuple (by decide +kernel) rfl) pa_nil)))))))) (pss_one (ps_ret pe_bl)) pss_nil)
      (pss_cons (ps_if (PW.pt (pw_or (pt_cmpR (opRK (K := K) (r := rNeP) (op_neP (hu64 hr))) (pe_lc (own := [("bar", 6)]) (g := gName 6) (tt := _) rfl sc_law_is_paper.nd (pi_seqK (K := K) (pv 5)) (blkOk_by (N := n_law_is_paper) (sc := defScope s_law_is_paper) (by decide +kernel)) (fun _ _ _ _ _ => (pg_name (i := 6) sc_law_is_paper.nd rfl (Or.inl rfl))) (fun _ _ _ _ _ => (pts_one (pt_not (pt_val (pe_cal c_law_is_place (hr.mono (by decide)) (by rfl) (pa_cons (pv 0) (pa_cons (pv 6) pa_nil))))))) (fun _ _ _ _ _ => pe_int)) (pe_lst pa_nil) (nomark _)) (pw_or1 (pt_cmpR (opRK (K := K) (r := rNeP) (op_neP (hu64 hr))) (pe_callTy (callRK (K := K) (r := rListP) call_listP) (by rfl) B.list (by decide +kernel) (pa_cons (pv 5) pa_nil)) (pe_srtSetBK rfl (hu100 hr) (by rfl) B.sorted (by rfl) B.set (pv 5)) (nomark _))))) (pss_one (ps_ret pe_bl)) pss_nil)
      (pss_one (ps_ret (pe_cmpR (opRK (K := K) (r := rEqP) (op_eqP (hu64 hr))) (pe_callB (callRK (K := K) (r := rLenP) call_lenP) (by rfl) B.len (by decide +kernel) (pa_cons (pv 4) pa_nil)) (pe_op (opRK (K := K) (r := rAddP) op_addP) (pe_op (opRK (K := K) (r := rMulP) op_mulP) (pe_op op_sub (pv 1) pe_int) (pe_callB (callRK (K := K) (r := rLenP) call_lenP) (by rfl) B.len (by decide +kernel) (pa_cons (pv 5) pa_nil))) (pe_cal c_law_passing (hr.mono (by decide)) (by rfl) (pa_cons (pv 0) (pa_cons (pv 5) pa_nil)))) (nomark _)))))))), fun vs L LQ h => ?_⟩)
  · obtain ⟨x, ts, y, d, k, rfl, _⟩ := h
    rfl
  · obtain ⟨x, ts, y, d, k, rfl, hd, hz, hk, hy, hf, q⟩ := h
    walk_at "norm"
    have len : (iD ts).length = ts.length := List.length_map _
    have hN := holds_len ts
    have no : ∀ {L1 : List As}, Ent K L1 L → (¬ IsPaper ts k d) → RetE K LQ (.bl false) L1 := fun e z => ⟨_, e, q false ⟨fun h => (by cases h), fun h => absurd h z⟩⟩
    walk_at "go"
    refine wc_isi (Dn.dat hy) (kit_tuple d) ⟨_, rfl, ?_⟩
    cases ht : isTupD d with
    | false =>
      refine iteT (iteT ?_)
      walk_at "go"
      exact no Ent.refl fun ⟨ps, bs, e, _⟩ => by rw [e] at ht; cases ht
    | true =>
      obtain ⟨ds, rfl⟩ := isTup_inv ht
      refine iteF ?_
      walk_at "go"
      refine wc_len (Sq.tup hy) ?_
      walk_at "go"
      refine iteR (fun h3 => iteT ?_) fun h3 => ?_
      · walk_at "go"
        refine no Ent.refl fun ⟨ps, bs, e, _⟩ => ?_
        have : ds.length = 3 := by rw [PyData.tuple.inj e]; rfl
        rw [this] at h3
        cases h3
      have h3' : ds.length = 3 := by
        have : decide ((ds.length : Int) = 3) = true := by simpa using h3
        have := of_decide_eq_true this
        omega
      match ds, h3' with
      | [a, b, c], _ =>
        obtain ⟨fb, fc⟩ := hf a b c rfl
        walk_at "go"
        refine W2.fst (w2_at (d := a) (Sq.tup hy) rfl fun va La oa => ?_)
        have ea : Ent K La L := oa.ent
        walk_at "go"
        refine wc_isi (Dn.dat oa.dv) (kit_str a) ⟨_, rfl, ?_⟩
        cases ha : isStrD a with
        | false =>
          refine iteT (iteT ?_)
          walk_at "go"
          refine no ea fun ⟨ps, bs, e, _⟩ => ?_
          have := (List.cons.inj (PyData.tuple.inj e)).1
          rw [this] at ha
          cases ha
        | true =>
          obtain ⟨z, rfl⟩ := isStr_inv ha
          refine iteF ?_
          walk_at "go"
          refine W2.fst (w2_at (d := .str z) (Sq.tup (Ent.dv ea hy)) rfl fun vz Lz oz => ?_)
          obtain ⟨rfl, rfl⟩ := oz
          walk_at "go"
          refine iteR (fun hw => ?_) fun hw => ?_
          · walk_at "go"
            refine no ea fun ⟨ps, bs, e, _⟩ => ?_
            have := PyData.str.inj (List.cons.inj (PyData.tuple.inj e)).1
            rw [this] at hw
            simp at hw
          have hz' : z = "fetched" := by simpa using hw
          subst hz'
          refine ws_next ?_
          refine ws_seq (ws_asgG ?_)
          walk_at "go"
          refine wg_tupO (ds := [.str "fetched", b, c]) (Ent.dv ea hy) rfl fun vs L3 o => ?_
          obtain ⟨va', vb, vc, L4, L5, rfl, q3, q2, q1⟩ := o.three
          obtain ⟨rfl, rfl⟩ := q1
          have hc4 : Dv K L4 vc c := q3.dv
          have e4 : Ent K L4 L := q3.ent.trans ea
          have e5 : Ent K L3 L4 := q2.ent
          have hb5 : Dv K L3 vb b := q2.dv
          have hc5 : Dv K L3 vc c := Ent.dv e5 hc4
          have e5L : Ent K L3 L := e5.trans e4
          walk_at "go"
          refine ⟨x, ts, vb, b, k, rfl, Ent.dv e5L hd, hz, hb5, fb, fun bh hbh => ⟨_, rfl, ?_⟩⟩
          cases bh with
          | false =>
            refine iteT (iteT ?_)
            walk_at "go"
            refine no e5L fun ⟨ps, bs, e, ok⟩ => ?_
            have e2 := (List.cons.inj (List.cons.inj (PyData.tuple.inj e)).2).1
            have := hbh.mpr ⟨ps, e2, ok.hok⟩
            cases this
          | true =>
            obtain ⟨ps, rfl, okh⟩ := hbh.mp rfl
            refine iteF ?_
            walk_at "go"
            refine wc_isi (Dn.dat hc5) (kit_tuple c) ⟨_, rfl, ?_⟩
            cases htc : isTupD c with
            | false =>
              refine iteT ?_
              walk_at "go"
              refine no e5L fun ⟨ps', bs, e, ok⟩ => ?_
              have e2 := (List.cons.inj (List.cons.inj (List.cons.inj (PyData.tuple.inj e)).2).2).1
              rw [e2] at htc
              cases htc
            | true =>
              obtain ⟨cs, rfl⟩ := isTup_inv htc
              have hcs := fc cs rfl
              refine iteF (ws_next ?_)
              walk_at "go"
              refine wp_lcS (b := false) (fun d => !isPlaceD ts.length d) (fun _ => .int 1) (wp_var rfl ?_)
              refine ⟨cs, .inr ⟨rfl, hc5⟩, by rw [sizeLine_eq]; omega, fun d v L2 D acc hdm o => ?_, fun D => ?_⟩
              · refine wg_name ⟨rfl, ?_⟩
                walk_at "go"
                refine ⟨x, ts, v, d, rfl, Ent.dv (o.ent.trans (Ent.drop e5L)) hd, o.dv, _, rfl, rfl, ?_⟩
                refine iteR (fun h => ?_) fun h => ?_
                · exact wp_c ⟨Dv.int, o.ent⟩
                · exact o.ent
              walk_at "go"
              refine wp_lst ?_
              walk_at "go"
              refine ⟨[], Dvs.nil, by decide, fun z => ?_⟩
              refine W2.snd (w2_neQ (Dn.own (.tail _ (.head _))) (Dn.own (.head _)) (shaped_ones cs _) (shaped_ints []) ?_)
              rw [eqv_ones]
              have e7 : Ent K (.ld z [] :: .ld D ((cs.filter fun d => !isPlaceD ts.length d).map fun _ => .int 1) :: L3) L3 := Ent.drop (Ent.drop Ent.refl)
              refine ⟨_, rfl, ?_⟩
              refine iteR (fun hp => iteT ?_) fun hp => ?_
              · walk_at "go"
                refine no (e7.trans e5L) fun ⟨ps', bs, e, ok⟩ => ?_
                have e2 := PyData.tuple.inj (List.cons.inj (List.cons.inj (List.cons.inj (PyData.tuple.inj e)).2).2).1
                subst e2
                have : ((nD bs).all fun d => !!isPlaceD ts.length d) = true := by
                  rw [List.all_eq_true]
                  intro d hd
                  obtain ⟨q, hq, rfl⟩ := List.mem_map.mp hd
                  have := ok.lt q hq
                  show (!!(decide ((0 : Int) ≤ (q : Int)) && decide ((q : Int) < (ts.length : Int)))) = true
                  rw [decide_eq_true (by omega : (0 : Int) ≤ (q : Int)), decide_eq_true (by omega : (q : Int) < (ts.length : Int))]
                  rfl
                rw [this] at hp
                cases hp
              have hpl : ∀ d ∈ cs, isPlaceD ts.length d = true := by
                have : (cs.all fun d => !!isPlaceD ts.length d) = true := by simpa using hp
                intro d hd
                have := List.all_eq_true.mp this d hd
                simpa using this
              obtain ⟨bs, rfl, hbs⟩ := places_nD hpl
              have hbl : bs.length < 500 := by rw [List.length_map] at hcs; exact hcs
              refine Wt.ent e7 ?_
              walk_at "go"
              refine wc_list (Sq.tup hc5) fun l1 => ?_
              refine wp_srtSetIB (wp_var rfl ⟨bs.map fun b : Nat => (b : Int), by rw [show (bs.map fun b : Nat => (b : Int)).map PyData.int = nD bs from (nD_iD bs).symm]; exact Ent.dv (Ent.drop Ent.refl) hc5, by rw [List.length_map]; exact hbl, fun ms l2 hm1 hm2 => ?_⟩)
              rw [nD_iD]
              refine W2.snd (w2_neQ (Dn.own (.tail _ (.head _))) (Dn.own (.head _)) (shaped_ints _) (shaped_ints ms) ?_)
              rw [eqvL_ints]
              have asc : bs.map (fun b : Nat => (b : Int)) = ms ↔ bs.Pairwise (· < ·) := (asc_uniq (fun a h => Int.lt_irrefl a h) (fun a b h1 h2 => by omega) hm1 hm2).trans asc_nat
              refine ⟨_, rfl, ?_⟩
              refine iteR (fun ha => ?_) fun ha => ?_
              · walk_at "go"
                refine no ((Ent.drop (Ent.drop Ent.refl)).trans e5L) fun ⟨ps', bs', e, ok⟩ => ?_
                have e2 := nD_inj (PyData.tuple.inj (List.cons.inj (List.cons.inj (List.cons.inj (PyData.tuple.inj e)).2).2).1)
                subst e2
                rw [decide_eq_true (asc.mpr ok.asc)] at ha
                cases ha
              have hasc : bs.Pairwise (· < ·) := asc.mp (by simpa using ha)
              refine ws_next ?_
              refine Ws.ent (Ent.drop (Ent.drop Ent.refl)) ?_
              walk_at "go"
              refine wc_len (Sq.tup hb5) ?_
              walk_at "go"
              refine wc_len (Sq.tup hc5) ?_
              refine w2_mulI (by simp only [CMul]; omega) ?_
              walk_at "go"
              refine ⟨x, ts, vc, bs, rfl, Ent.dv e5L hd, by omega, hc5, by omega, ?_⟩
              walk_at "go"
              refine ⟨_, e5L, q _ ?_⟩
              rw [List.length_map, List.length_map, decide_eq_true_iff]
              have ec : ((ps.length : Int) = (k + 1 - 1 : Int) * (bs.length : Int) + ((holds ts).countP (bare bs) : Nat)) ↔ ps.length = k * bs.length + (holds ts).countP (bare bs) := by
                rw [Int.add_sub_cancel, ← Int.natCast_mul]
                omega
              rw [ec]
              constructor
              · exact fun h => ⟨ps, bs, rfl, okh, hbs, hasc, h⟩
              · rintro ⟨ps', bs', e, ok⟩
                have e1 := kD_inj (PyData.tuple.inj (List.cons.inj (List.cons.inj (PyData.tuple.inj e)).2).1)
                have e2 := nD_inj (PyData.tuple.inj (List.cons.inj (List.cons.inj (List.cons.inj (PyData.tuple.inj e)).2).2).1)
                subst e1 e2
                exact ok.cost
end
end K84
namespace K84
open PySem PySem.Spec PyProof.Rows L2 Lg
/-! short tactics of my own, under the word walk_at -/
local macro_rules | `(tactic| walk_at "mem") => `(tactic| first | exact List.Mem.head _ | assumption | (refine List.Mem.tail _ ?_; walk_at "mem"))
local macro_rules | `(tactic| walk_at "put") => `(tactic| first | exact Put.here | (apply Put.there; walk_at "put"))
local macro_rules | `(tactic| walk_at "pick") => `(tactic| first | exact Pick.here | (apply Pick.there; walk_at "pick"))
local macro_rules | `(tactic| walk_at "ent") => `(tactic| first | exact Ent.refl | exact Ent.nil | (refine Ent.cons (by walk_at "pick") ?_; walk_at "ent") | (refine Ent.dup (by walk_at "mem") ?_; walk_at "ent") | (refine Ent.drop ?_; walk_at "ent"))
local macro_rules | `(tactic| walk_at "dv") => `(tactic| first | exact Dv.int | exact Dv.bl | exact Dv.str | exact Dv.non | assumption | exact Dv.mem (by walk_at "mem"))
local macro_rules | `(tactic| walk_at "dvs") => `(tactic| first | exact Dvs.nil | (apply Dvs.cons; (focus walk_at "dv"); (focus walk_at "dvs")))
local macro_rules | `(tactic| walk_at "norm") => `(tactic| try dsimp only [cxK, noxK, wishK, blkK, baseK, noxB])
local macro_rules | `(tactic| walk_at "num") => `(tactic| first | decide | omega | (simp only [CMul, CPow, CDivN]; omega) | assumption)
local macro_rules | `(tactic| walk_at "one") => `(tactic| with_reducible first
  | refine wp_var rfl ?_ | refine wp_c ?_ | refine wp_op ?_ | refine wp_cb ?_ | refine wa_cons ?_ | refine wa_nil ?_
  | refine ws_seq ?_ | refine ws_asg ?_ | refine ws_drop ?_ | refine ws_ret ?_ | refine ws_if ?_ | refine ws_par ?_ | refine ws_par3 ?_
  | refine wp_un ?_ | refine wp_chain ?_ | refine wp_if ?_ | refine wp_andV ?_ | refine wp_orV ?_ | refine wp_notV ?_ | refine wp_cal ?_ | refine wp_sl ?_
  | refine wo_none ?_ | refine wo_some ?_
  | refine wt_test ?_ | refine wt_B ?_ | refine wt_yes ?_ | refine wt_and ?_ | refine wt_or ?_ | refine wt_not ?_
  | refine w2_mulI (by walk_at "num") ?_ | refine w2_I (by walk_at "num") ?_
  | refine w2_addI ?_ | refine w2_eqPI ?_ | refine w2_eqPS ?_ | refine w2_nePS ?_ | refine w2_nePI ?_ | refine w2_ltI ?_ | refine w2_I0 ?_ | refine w1_U ?_
  | refine wg_name ?_ | refine wgs_nil ?_ | refine wgs_cons ?_ | refine iteT ?_ | refine iteF ?_ | refine ⟨_, rfl, ?_⟩)
local macro_rules | `(tactic| walk_at "go") => `(tactic| repeat walk_at "one")
local macro_rules | `(tactic| walk_at "len") => `(tactic| (simp only [List.length_cons, List.length_nil]; decide))

abbrev s_law_least : Stmt := topS 38
abbrev n_law_least : List Str := ["touches", "room", "places", "kept", "found", "at", "cell", "far", "one"]
theorem sc_law_least : FnScope n_law_least ["touches", "room"] (defScope s_law_least) := ⟨rfl, rfl, rfl, by decide +kernel, rfl, by decide +kernel, by decide +kernel⟩
section
variable {P : Program} {w : World} {K : PySem.W.Frag} {mg : Str → Option Value} {base : Heap}
def S_law_least (K : PySem.W.Frag) : SpL := fun vs L Q => ∃ b x ts, ∃ room : Nat, vs = [x, .int (room : Int)] ∧ SeqB b K L x (iD ts) ∧ ts.length < 2 ^ 20 ∧ 1 ≤ room ∧ Q (.int (bel ts room : Nat)) L
theorem ok_law_least {f : Addr} {fd : FuncData} (F : Fun K "_law_least" "_law_least" s_law_least f fd) (B : Bs mg) : FnOk P w K mg base CX0 1 f fd ["touches", "room"] (spL K (S_law_least K)) := by
  refine okL F sc_law_least (fun vs L Q h => ?_) (fun cdv A outer s H E hr => ⟨_, (pss_cons (ps_asg (pe_tup (pa_cons pe_dnewK (pa_cons (pe_lst pa_nil) (pa_cons pe_int pa_nil)))) (pg_tupK (K := K) (n := 3) rfl (pgs_cons (pg_name (i := 2) sc_law_least.nd rfl (Or.inr rfl)) (pgs_cons (pg_name (i := 3) sc_law_least.nd rfl (Or.inl rfl)) (pgs_cons (pg_name (i := 4) sc_law_least.nd rfl (Or.inl rfl)) pgs_nil)))))
      (pss_cons (ps_for PassesOwn.never rfl (pi_range3 rfl B.range (pa_cons (pe_op op_sub (pe_callB (callRK (K := K) (r := rLenP) call_lenP) (by rfl) B.len (by decide +kernel) (pa_cons (pv 0) pa_nil)) pe_int) (pa_cons (pe_un un_neg pe_int) (pa_cons (pe_un un_neg pe_int) pa_nil)))) (pg_name (i := 5) sc_law_least.nd rfl (Or.inl rfl)) (pss_one (ps_expr (pe_bm PySem.F.plainAttrs_list PySem.F.slot_list_append PySem.F.type_list_append mt_append (pe_dsetd (pv 2) (pe_ix (ixRK (K := K) (r := rIxP) (ix_P (hu1 hr))) (pv 0) (pv 5) (fun _ _ => rfl)) (pe_lst pa_nil) ⟨rfl, rfl, rfl, rfl⟩) (pa_cons (pv 5) pa_nil)))))
      (pss_cons (ps_for PassesOwn.never rfl (pi_seqK (K := K) (pv 0)) (pg_name (i := 6) sc_law_least.nd rfl (Or.inl rfl)) (pss_cons (ps_expr (pe_bm0 PySem.F.plainAttrs_list PySem.F.slot_list_pop PySem.F.type_list_pop mt_pop (pe_ix (ixRK (K := K) (r := rIxP) (ix_P (hu1 hr))) (pv 2) (pv 6) (fun _ _ => rfl))))
      (pss_one (ps_if (pt_cmpR (opRK (K := K) (r := rNotInP) (op_notInP (hu65 hr))) (pv 6) (pv 3) (by rfl)) (pss_cons (ps_set (i := 4) sc_law_least.nd rfl (.inl rfl) (pe_op (opRK (K := K) (r := rAddP) op_addP) (pv 4) pe_int))
      (pss_cons (ps_if (pt_cmpR (opRK (K := K) (r := rEqP) (op_eqP (hu64 hr))) (pe_callB (callRK (K := K) (r := rLenP) call_lenP) (by rfl) B.len (by decide +kernel) (pa_cons (pv 3) pa_nil)) (pv 1) (nomark _)) (pss_cons (ps_setLc (i := 7) (own := [("one", 8)]) (g := gName 8) (tt := tYes) rfl sc_law_least.nd rfl rfl (sw_true rfl rfl rfl (by decide +kernel)) (pi_seqK (K := K) (pv 3)) (blkOk_by (N := n_law_least) (sc := defScope s_law_least) (by decide +kernel)) (fun _ _ _ _ _ => (pg_name (i := 8) sc_law_least.nd rfl (Or.inl rfl))) (fun _ _ _ _ _ => pts_nil) (fun _ _ _ _ _ => (pe_ix (ixRK (K := K) (r := rIxP) (ix_P (hu1 hr))) (pe_op (opRK (K := K) (r := rAddP) op_addP) (pe_lst (pa_cons (pe_op op_pow pe_int pe_int) pa_nil)) (pe_ix (ixRK (K := K) (r := rIxP) (ix_P (hu1 hr))) (pv 2) (pv 8) (fun _ _ => rfl))) (pe_un un_neg pe_int) (fun _ _ => rfl))))
      (pss_one (ps_expr (pe_bm PySem.F.plainAttrs_list PySem.F.slot_list_pop PySem.F.type_list_pop mt_popAt (pv 3) (pa_cons (pe_bm PySem.F.plainAttrs_list PySem.F.slot_list_index PySem.F.type_list_index mt_index (pv 7) (pa_cons (pe_callB (callRK (K := K) (r := rMax) (call_max1P rfl)) (by rfl) B.max (by decide +kernel) (pa_cons (pv 7) pa_nil)) pa_nil)) pa_nil))))) pss_nil)
      (pss_one (ps_expr (pe_bm PySem.F.plainAttrs_list PySem.F.slot_list_append PySem.F.type_list_append mt_append (pv 3) (pa_cons (pv 6) pa_nil)))))) pss_nil))))
      (pss_one (ps_ret (pv 4)))))), fun vs L LQ h => ?_⟩)
  · obtain ⟨b, x, ts, room, rfl, _⟩ := h
    rfl
  · obtain ⟨b, x, ts, room, rfl, hd, hz, hroom, q⟩ := h
    have len : (iD ts).length = ts.length := List.length_map _
    walk_at "norm"
    refine ws_seq (ws_asgG ?_)
    refine wp_tupP ?_
    walk_at "go"
    refine wp_newKP fun p => ?_
    walk_at "go"
    refine wp_lst ?_
    walk_at "go"
    refine ⟨[], Dvs.nil, by decide, fun kl => ?_⟩
    walk_at "go"
    refine ⟨by walk_at "len", fun tp => ?_⟩
    refine wg_tupP (.head _) rfl ?_
    walk_at "go"
    refine Ws.ent (L' := .pt p (.dK []) :: .ld kl [] :: L) (by walk_at "ent") ?_
    refine ws_for (wi_range3 ?_)
    walk_at "go"
    have hd1 := SeqB.ent (K := K) (Ent.drop (Ent.drop Ent.refl) : Ent K (.pt p (.dK []) :: .ld kl [] :: L) L) hd
    refine wc_len hd1.sq ?_
    walk_at "go"
    rw [len]
    refine ⟨_, _, rfl, by omega, ?_⟩
    rw [show ((ts.length : Int) - 1 - -1).toNat = ts.length by omega]
    refine ⟨fun i σ L' => ∃ o5 es, σ = [some x, some (.int room), some (.ref p), some (.ref kl), some (.int 0), o5, none, none, none] ∧ Ent K L' (.pt p (.dK (dlK es)) :: (dlS es (posD ts (ts.length - i)) ++ .ld kl [] :: L)) ∧
      (es.map (·.1)).Nodup ∧ es.length ≤ i ∧ (∀ c, c ∉ es.map (·.1) → posD ts (ts.length - i) c = []), ?_, ?_, ?_, ?_⟩
    · exact ⟨none, [], rfl, Ent.refl, List.nodup_nil, Nat.le_refl _, fun c _ => posD_none⟩
    · intros; trivial
    · rintro i σ L1 v L2 hi ⟨o5, es, rfl, e, nd, hl, hno⟩ ⟨rfl, rfl⟩
      have hm : ts.length - i = (ts.length - (i + 1)) + 1 := by omega
      generalize hmm : ts.length - (i + 1) = m at *
      rw [hm] at e hno
      have hlt : m < ts.length := by omega
      rw [show ((ts.length : Int) - 1 - (i : Int)) = (m : Int) by omega]
      have hc : ts[m]? = some ts[m] := List.getElem?_eq_getElem hlt
      generalize ts[m] = c at hc
      refine wg_name ?_
      refine Ws.ent e ?_
      refine ws_dapp ?_
      refine wp_var rfl ⟨p, rfl, ⟨_, .head _⟩, ?_⟩
      walk_at "go"
      have hsq : Sq K (.pt p (.dK (dlK es)) :: (dlS es (posD ts (m + 1)) ++ .ld kl [] :: L)) x (iD ts) := (SeqB.ent (Ent.drop (Ent.behind.trans (Ent.drop Ent.refl))) hd).sq
      refine W2.fst (w2_ixI (n := c) hsq (by rw [atI_nat (by rw [len]; exact hlt), List.getElem?_map, hc]; rfl) ?_)
      refine ⟨es, posD ts (m + 1), c, _, rfl, Ent.refl, nd, Nat.lt_of_le_of_lt hl (Nat.lt_of_lt_of_le hi (Nat.le_trans (Nat.le_of_lt hz) (by decide))), hno, fun es' nd' l' k' => wp_var rfl ⟨.int (m : Nat), _, Dv.int, Ent.refl, ?_, ?_⟩⟩
      · exact Nat.lt_of_le_of_lt posD_len (Nat.lt_trans hz (by decide))
      · rw [posD_up hc]
        refine ⟨_, Ent.drop Ent.refl, _, es', rfl, by rw [hmm]; exact Ent.refl, nd', by omega, fun c' hc' => ?_⟩
        rw [hmm]
        have n1 : c' ∉ es.map (·.1) := fun z => hc' ((k' c').mpr (.inl z))
        have n2 : c' ≠ c := fun z => hc' ((k' c').mpr (.inr z))
        rw [posD_other hc n2]
        exact hno c' n1
    · rintro σ L1 ⟨o5, es, rfl, e, nd, hl, hno⟩
      rw [Nat.sub_self] at e hno
      have hkey : ∀ c, c ∈ ts → c ∈ es.map (·.1) := fun c hc => Classical.byContradiction fun z => posD_in hc (hno c z)
      have e1 : Ent K L1 (.ld kl (iD []) :: .pt p (.dK (dlK es)) :: (dlS es (posD ts 0) ++ L)) := e.trans (Ent.trans (Ent.perm (List.Perm.cons _ List.perm_middle)) (Ent.perm (List.Perm.swap _ _ _)))
      have hsq : ∀ {L' : List As} {ds : List PyData} {i : Nat}, Ent K L' (.ld kl ds :: .pt p (.dK (dlK es)) :: (dlS es (posD ts i) ++ L)) → SeqB b K L' x (iD ts) := fun e => SeqB.ent (e.trans (Ent.drop (Ent.drop Ent.behind))) hd
      walk_at "go"
      refine ws_for (wi_seqB (b := b) (wp_var rfl ⟨iD ts, hsq e1, fun i σ L' => ∃ o5 o6 o7, σ = [some x, some (.int room), some (.ref p), some (.ref kl), some (.int (belTo ts room i).2), o5, o6, o7, none] ∧
        Ent K L' (.ld kl (iD (belTo ts room i).1) :: .pt p (.dK (dlK es)) :: (dlS es (posD ts i) ++ L)), ?_, ?_, ?_, ?_⟩))
      · exact ⟨o5, none, none, rfl, e1⟩
      · rintro i σ L' hi ⟨_, _, _, rfl, e2⟩
        exact hsq e2
      · rintro i σ L2 v L3 hi ⟨o5, o6, o7, rfl, e2⟩ ⟨d, ed, od⟩
        obtain ⟨c, hc, rfl⟩ := iD_at ed
        obtain ⟨rfl, rfl⟩ := od
        rw [len] at hi
        refine wg_name ?_
        refine Ws.ent e2 ?_
        have hck := hkey c (List.mem_of_getElem? hc)
        obtain ⟨l, v1, v2⟩ := dl_val hck
        walk_at "go"
        refine wp_bm0 ?_
        walk_at "go"
        refine W2.snd (w2_ixDP (k := .inl c) (.tail _ (.head _)) v1 ?_)
        refine ⟨tyL_ld (.tail _ (.tail _ (dls_mem v2))), ?_⟩
        refine wm_pop (ds := posD ts (i + 1) c) (d := .int i) (L' := .ld kl (iD (belTo ts room i).1) :: .pt p (.dK (dlK es)) :: (dlS es (posD ts (i + 1)) ++ L)) ?_ fun v L'' o => ?_
        · rw [← posD_step hc]
          have hp := dls_put (g := posD ts i) (ys := posD ts (i + 1) c) (R := L) v2 nd
          rw [posD_down hc] at hp
          exact .there (.there hp)
        · obtain ⟨rfl, rfl⟩ := o
          have stepN : ∀ h : c ∈ (belTo ts room i).1, belTo ts room (i + 1) = belTo ts room i := fun h => by
            show belStep ts room _ i = _
            unfold belStep
            rw [hc]
            exact if_pos h
          have stepY : ∀ h : c ∉ (belTo ts room i).1, belTo ts room (i + 1) = ((if (belTo ts room i).1.length = room then (belTo ts room i).1.eraseIdx (imax ((belTo ts room i).1.map (nxt ts (i + 1)))) else (belTo ts room i).1) ++ [c], (belTo ts room i).2 + 1) := fun h => by
            show belStep ts room _ i = _
            unfold belStep
            rw [hc]
            exact if_neg h
          have hlen := belTo_len ts room i
          have hin := belTo_in ts room i
          generalize belTo ts room i = st at *
          obtain ⟨kp, fd⟩ := st
          dsimp only at e2 stepN stepY hlen hin
          walk_at "go"
          refine W2.snd (W2.fst (w2_notInQ (d := .int c) (ds := iD kp) (Dn.dat Dv.int) (Dn.own (.head _)) rfl (shaped_ints kp) ?_))
          rw [any_iD]
          refine ⟨_, rfl, ?_⟩
          refine iteR (fun hn => ?_) fun hn => ?_
          · have hn' : c ∉ kp := by simpa using hn
            have sy := stepY hn'
            have app : ∀ {kp' : List Int} {σ' : L2.St} {L4 : List As} {Q : LK}, kp'.length < sizeLine → Ent K L4 (.ld kl (iD kp') :: .pt p (.dK (dlK es)) :: (dlS es (posD ts (i + 1)) ++ L)) →
                (∀ L5, Ent K L5 (.ld kl (iD (kp' ++ [c])) :: .pt p (.dK (dlK es)) :: (dlS es (posD ts (i + 1)) ++ L)) → Q .non L5) → Wm K rAppend (.ref kl) [.int c] L4 Q := fun {kp' σ' L4 Q} h1 h2 h3 => by
              refine Wm.ent h2 (wm_append (d := .int c) .here Dv.int (by rw [List.length_map]; exact h1) (h3 _ ?_))
              rw [iD, iD, List.map_append]
              exact Ent.refl
            walk_at "go"
            refine wc_len (Sq.own (.head _)) ?_
            walk_at "go"
            rw [List.length_map]
            refine iteR (fun hr2 => ?_) fun hr2 => ?_
            · have hr' : kp.length = room := by have := of_decide_eq_true hr2; dsimp only at this; omega
              walk_at "go"
              refine wp_lc (wi_seqL (wp_var rfl ⟨iD kp, Ls.own (.head _), fun j acc L' => L' = .ld kl (iD kp) :: .pt p (.dK (dlK es)) :: (dlS es (posD ts (i + 1)) ++ L) ∧ acc = iD (((kp.take j).map (nxt ts (i + 1))).map fun k => ((k : Nat) : Int)), ⟨rfl, rfl⟩, ?_, ?_, ?_⟩))
              · rintro j acc L' D hj ⟨rfl, rfl⟩
                exact Ls.own (by walk_at "mem")
              · rintro j acc L' v L4 D hj ⟨rfl, rfl⟩ ⟨d, ed, od⟩
                obtain ⟨c1, hc1, rfl⟩ := iD_at ed
                obtain ⟨rfl, rfl⟩ := od
                obtain ⟨l1, w1, w2⟩ := dl_val (hkey c1 (hin c1 (List.mem_of_getElem? hc1)))
                refine wg_name ⟨rfl, wt_yes (iteT ?_)⟩
                walk_at "go"
                refine wp_lst ?_
                walk_at "go"
                refine ⟨[.int (10 ^ 9)], by walk_at "dvs", by walk_at "len", fun z => ?_⟩
                walk_at "go"
                refine W2.snd (w2_ixDP (k := .inl c1) (by walk_at "mem") w1 ?_)
                refine w2_addL (.head _) (.tail _ (.tail _ (.tail _ (.tail _ (dls_mem w2))))) ?_ fun z2 => ?_
                · have := posD_len (ts := ts) (m := i + 1) (c := c1)
                  have h2 : ts.length + 1 ≤ sizeLine := Nat.le_trans (Nat.succ_le_succ (Nat.le_of_lt hz)) (by decide)
                  rw [List.length_singleton]
                  omega
                · walk_at "go"
                  refine W2.fst (w2_ixI (n := (nxt ts (i + 1) c1 : Nat)) (Sq.own (.head _)) far_last ?_)
                  refine ⟨_, _, Dv.int, Ent.drop (Ent.drop Ent.refl), ?_, rfl, ?_⟩
                  · rw [List.length_map, List.length_map, List.length_map, List.length_take]
                    exact Nat.lt_of_le_of_lt (Nat.min_le_right _ _) (Nat.lt_of_le_of_lt hlen (Nat.lt_trans hi (Nat.lt_trans hz (by decide))))
                  · rw [List.take_add_one, hc1, iD, iD, List.map_append, List.map_append, List.map_append]
                    rfl
              · rintro acc L' D ⟨rfl, rfl⟩
                rw [List.length_map, List.take_length]
                have kne : kp ≠ [] := fun z => by rw [z] at hr'; simp at hr'; omega
                generalize hfar : kp.map (nxt ts (i + 1)) = far at *
                have fne : far ≠ [] := fun z => kne (by rw [z] at hfar; exact List.map_eq_nil_iff.mp hfar)
                have flen : far.length = kp.length := by rw [← hfar, List.length_map]
                have il : imax far < kp.length := by
                  have := imax_at fne
                  rw [← flen]
                  exact (List.getElem?_eq_some_iff.mp this).1
                walk_at "go"
                refine wp_bm ?_
                walk_at "go"
                refine ⟨tyL_ld (by walk_at "mem"), ?_⟩
                walk_at "go"
                refine wp_bm ?_
                walk_at "go"
                refine ⟨tyL_ld (.head _), ?_⟩
                walk_at "go"
                refine wc_max (Ls.own (.head _)) (by rw [List.length_map, flen]; omega) fun mx m1 m2 => ?_
                have em : mx = ((lmax far : Nat) : Int) := by
                  obtain ⟨k, hk, rfl⟩ := List.mem_map.mp m1
                  have a1 := le_lmax hk
                  have a2 := m2 _ (List.mem_map.mpr ⟨_, lmax_mem fne, rfl⟩)
                  omega
                subst em
                walk_at "go"
                refine wm_index (j := imax far) (Ls.own (.head _)) (by rw [List.getElem?_map, imax_at fne]; rfl) (fun m hm e => ?_) ?_
                · rw [List.getElem?_map] at e
                  cases e2 : far[m]? with
                  | none => rw [e2] at e; cases e
                  | some k =>
                    rw [e2] at e
                    refine imax_no hm (e2.trans ?_)
                    have : (k : Int) = ((lmax far : Nat) : Int) := Option.some.inj e
                    exact congrArg some (by omega)
                · walk_at "go"
                  rw [if_pos hr'] at sy
                  have kl2 : kp.length < 2 ^ 20 := by omega
                  refine wm_popAt (d := .int kp[imax far]) (j := imax far) (by walk_at "put") (by omega) (by omega) (seqIndex_nat (by rw [List.length_map]; exact il)) (by rw [List.getElem?_map, List.getElem?_eq_getElem il]; rfl) fun v L'' o => ?_
                  obtain ⟨rfl, rfl⟩ := o
                  walk_at "go"
                  refine wp_bm ?_
                  walk_at "go"
                  refine ⟨tyL_ld (by walk_at "mem"), ?_⟩
                  walk_at "go"
                  refine app (σ' := []) (kp' := kp.eraseIdx (imax far)) ?_ ?_ fun L5 e5 => ?_
                  · exact Nat.lt_of_le_of_lt (by rw [List.length_eraseIdx]; split <;> omega : (kp.eraseIdx (imax far)).length ≤ kp.length) (Nat.lt_trans kl2 (by decide))
                  · rw [iD, iD, ← erase_map]
                    exact Ent.drop Ent.refl
                  · refine ⟨_, Ent.refl, o5, some (.int c), some (.ref D), ?_, ?_⟩
                    · rw [sy]; rfl
                    · rw [sy]; exact e5
            · have hr' : kp.length ≠ room := fun z => by have := of_decide_eq_false hr2; dsimp only at this; omega
              rw [if_neg hr'] at sy
              refine ws_next ?_
              walk_at "go"
              refine wp_bm ?_
              walk_at "go"
              refine ⟨tyL_ld (.head _), ?_⟩
              walk_at "go"
              refine app (σ' := []) (Nat.lt_of_le_of_lt hlen (Nat.lt_trans hi (Nat.lt_trans hz (by decide)))) Ent.refl fun L5 e5 => ?_
              refine ⟨_, Ent.refl, o5, some (.int c), o7, ?_, ?_⟩
              · rw [sy]; rfl
              · rw [sy]; exact e5
          · have hn' : c ∈ kp := by simpa using hn
            have sn := stepN hn'
            refine ws_next ⟨_, Ent.refl, o5, some (.int c), o7, ?_, ?_⟩
            · rw [sn]; rfl
            · rw [sn]; exact Ent.refl
      · rintro σ L2 ⟨o5, o6, o7, rfl, e2⟩
        rw [len] at e2
        walk_at "go"
        rw [len]
        exact ⟨_, e2.trans (Ent.drop (Ent.drop Ent.behind)), q⟩
end
end K84
namespace K84
open PySem PySem.Spec PyProof.Rows L2 Lg
/-! short tactics of my own, under the word walk_at -/
local macro_rules | `(tactic| walk_at "mem") => `(tactic| first | exact List.Mem.head _ | assumption | (refine List.Mem.tail _ ?_; walk_at "mem"))
local macro_rules | `(tactic| walk_at "put") => `(tactic| first | exact Put.here | (apply Put.there; walk_at "put"))
local macro_rules | `(tactic| walk_at "pick") => `(tactic| first | exact Pick.here | (apply Pick.there; walk_at "pick"))
local macro_rules | `(tactic| walk_at "ent") => `(tactic| first | exact Ent.refl | exact Ent.nil | (refine Ent.cons (by walk_at "pick") ?_; walk_at "ent") | (refine Ent.dup (by walk_at "mem") ?_; walk_at "ent") | (refine Ent.drop ?_; walk_at "ent"))
local macro_rules | `(tactic| walk_at "dv") => `(tactic| first | exact Dv.int | exact Dv.bl | exact Dv.str | exact Dv.non | assumption | exact Dv.mem (by walk_at "mem"))
local macro_rules | `(tactic| walk_at "dvs") => `(tactic| first | exact Dvs.nil | (apply Dvs.cons; (focus walk_at "dv"); (focus walk_at "dvs")))
local macro_rules | `(tactic| walk_at "norm") => `(tactic| try dsimp only [cxK, noxK, wishK, blkK, baseK, noxB])
local macro_rules | `(tactic| walk_at "num") => `(tactic| first | decide | omega | (simp only [CMul, CPow, CDivN]; omega) | assumption)
local macro_rules | `(tactic| walk_at "one") => `(tactic| with_reducible first
  | refine wp_var rfl ?_ | refine wp_c ?_ | refine wp_op ?_ | refine wp_cb ?_ | refine wa_cons ?_ | refine wa_nil ?_
  | refine ws_seq ?_ | refine ws_asg ?_ | refine ws_drop ?_ | refine ws_ret ?_ | refine ws_if ?_ | refine ws_par ?_ | refine ws_par3 ?_
  | refine wp_un ?_ | refine wp_chain ?_ | refine wp_if ?_ | refine wp_andV ?_ | refine wp_orV ?_ | refine wp_notV ?_ | refine wp_cal ?_ | refine wp_sl ?_
  | refine wo_none ?_ | refine wo_some ?_
  | refine wt_test ?_ | refine wt_B ?_ | refine wt_yes ?_ | refine wt_and ?_ | refine wt_or ?_ | refine wt_not ?_
  | refine w2_mulI (by walk_at "num") ?_ | refine w2_I (by walk_at "num") ?_
  | refine w2_addI ?_ | refine w2_eqPI ?_ | refine w2_eqPS ?_ | refine w2_nePS ?_ | refine w2_nePI ?_ | refine w2_ltI ?_ | refine w2_I0 ?_ | refine w1_U ?_
  | refine wg_name ?_ | refine wgs_nil ?_ | refine wgs_cons ?_ | refine iteT ?_ | refine iteF ?_ | refine ⟨_, rfl, ?_⟩)
local macro_rules | `(tactic| walk_at "go") => `(tactic| repeat walk_at "one")
local macro_rules | `(tactic| walk_at "len") => `(tactic| (simp only [List.length_cons, List.length_nil]; decide))

/-! ### the defs that may raise -/
section
variable {P : Program} {w : World} {K : PySem.W.Frag} {mg : Str → Option Value} {base : Heap} {C1 C2 D f1 f2 : Addr} {q1 q2 : Str}
def S_check_touchesX (K : PySem.W.Frag) (C1 : Addr) : SpX := fun vs L Q LX => ∃ x d, vs = [x] ∧ Dv K L x d ∧ fits d ∧ (areT d = true → Q .non L) ∧ (areT d = false → ∀ dd, LX (.ref C1) dd (.pt dd (thingD x) :: L))
theorem okX_check_touches {f : Addr} {fd : FuncData} (F : Fun K "check_touches" "check_touches" s_check_touches f fd) (T_BadTouches : PySem.LgXc.ExTxt K mg "BadTouches" q1 C1 D f1) (c_are_touches : Cal P w K mg base "are_touches" 2 ["thing"] (S_are_touches K)) :
    FnOk P w K mg base (L2.CX P w) 3 f fd ["touches"] (spX K (S_check_touchesX K C1)) := by
  refine okX F sc_check_touches (fun vs L Q LX h => ?_) (fun cdv A outer s H E hr => ⟨_, (pss_one (ps_if (pt_not (pt_val (pe_cal c_are_touches (hr.mono (by decide)) (by rfl) (pa_cons (pv 0) pa_nil)))) (pss_one (ps_raiseXK T_BadTouches rfl hr (takes_of rfl rfl rfl rfl) (by rfl) (pa_cons (pv 0) pa_nil))) pss_nil)), fun vs L LQ LX h ux => ?_⟩)
  · obtain ⟨x, d, rfl, _⟩ := h
    rfl
  · obtain ⟨x, d, rfl, hd, hf, q, qx⟩ := h
    walk_at "norm"
    walk_at "go"
    refine ⟨x, d, rfl, hd, hf, _, rfl, ?_⟩
    refine iteR (fun h => ?_) fun h => ?_
    · refine ws_raiseX ux ?_
      walk_at "go"
      exact qx (by simpa using h)
    · exact ws_next ⟨_, Ent.refl, q (by simpa using h)⟩
def isRoom : PyData → Bool
  | .int n => decide (1 ≤ n)
  | _ => false
def S_check_roomX (K : PySem.W.Frag) (C2 : Addr) : SpX := fun vs L Q LX => ∃ x d, vs = [x] ∧ Dv K L x d ∧ isRoom d = false ∧ (∀ dd, LX (.ref C2) dd (.pt dd (thingD x) :: L))
theorem okX_check_room {f : Addr} {fd : FuncData} (F : Fun K "check_room" "check_room" s_check_room f fd) (T_BadRoom : PySem.LgXc.ExTxt K mg "BadRoom" q2 C2 D f2) (c_is_integer : Cal P w K mg base "is_integer" 1 ["thing"] (S_is_integer K)) :
    FnOk P w K mg base (L2.CX P w) 3 f fd ["room"] (spX K (S_check_roomX K C2)) := by
  refine okX F sc_check_room (fun vs L Q LX h => ?_) (fun cdv A outer s H E hr => ⟨_, (pss_one (ps_if (PW.pt (pw_or (pt_not (pt_val (pe_cal c_is_integer (hr.mono (by decide)) (by rfl) (pa_cons (pv 0) pa_nil)))) (pw_or1 (pt_cmpR (opRK (K := K) (r := rLtP) (op_ltP (hu0 hr))) (pv 0) pe_int (nomark _))))) (pss_one (ps_raiseXK T_BadRoom rfl hr (takes_of rfl rfl rfl rfl) (by rfl) (pa_cons (pv 0) pa_nil))) pss_nil)), fun vs L LQ LX h ux => ?_⟩)
  · obtain ⟨x, d, rfl, _⟩ := h
    rfl
  · obtain ⟨x, d, rfl, hd, hr1, qx⟩ := h
    walk_at "norm"
    by_cases hi : ∃ n, d = .int n
    · obtain ⟨n, rfl⟩ := hi
      refine Ws.int hd fun e => ?_
      subst e
      walk_at "go"
      refine ⟨_, .int n, rfl, Dn.dat Dv.int, _, rfl, ?_⟩
      refine iteF ?_
      walk_at "go"
      have h1 : ¬ 1 ≤ n := of_decide_eq_false hr1
      rw [decide_eq_true (by omega)]
      refine iteT ?_
      refine ws_raiseX ux ?_
      walk_at "go"
      exact qx
    · have hn : isIntD d = false := by
        cases d <;> first | rfl | exact (hi ⟨_, rfl⟩).elim
      walk_at "go"
      refine ⟨x, d, rfl, Dn.dat hd, _, rfl, ?_⟩
      rw [hn]
      refine iteT ?_
      refine iteT ?_
      refine ws_raiseX ux ?_
      walk_at "go"
      exact qx
def S_fetch_rowX (K : PySem.W.Frag) (C1 C2 : Addr) : SpX := fun vs L Q LX => ∃ x d y e, vs = [x, y] ∧ Dv K L x d ∧ fits d ∧ Dv K L y e ∧ (areT d = false → ∀ dd, LX (.ref C1) dd (.pt dd (thingD x) :: L)) ∧ (areT d = true → isRoom e = false ∧ ∀ dd, LX (.ref C2) dd (.pt dd (thingD y) :: L))
theorem okX_fetch_row {f : Addr} {fd : FuncData} (F : Fun K "fetch_row" "fetch_row" s_fetch_row f fd) (cX_check_touches : CalX P w K mg base "check_touches" 3 ["touches"] (S_check_touchesX K C1)) (cX_check_room : CalX P w K mg base "check_room" 3 ["room"] (S_check_roomX K C2)) :
    FnOk P w K mg base (L2.CX P w) 4 f fd ["touches", "most"] (spX K (S_fetch_rowX K C1 C2)) := by
  refine okX F sc_fetch_row (fun vs L Q LX h => ?_) (fun cdv A outer s H E hr => ⟨_, (pss_cons (ps_expr (pe_calX cX_check_touches (hr.mono (by decide)) (by rfl) (takes_of rfl rfl rfl rfl) (pa_cons (pv 0) pa_nil)))
      (pss_cons (ps_expr (pe_calX cX_check_room (hr.mono (by decide)) (by rfl) (takes_of rfl rfl rfl rfl) (pa_cons (pv 1) pa_nil)))
      (pss_one ps_never))), fun vs L LQ LX h ux => ?_⟩)
  · obtain ⟨x, d, y, e, rfl, _⟩ := h
    rfl
  · obtain ⟨x, d, y, e, rfl, hd, hf, he, q1, q2⟩ := h
    walk_at "norm"
    refine ws_seq (ws_drop (wp_callX ux ?_))
    walk_at "go"
    refine ⟨x, d, rfl, hd, hf, fun h => ?_, q1⟩
    refine ws_seq (ws_drop (wp_callX ux ?_))
    walk_at "go"
    exact ⟨y, e, rfl, he, (q2 h).1, (q2 h).2⟩
def S_least_roomX (K : PySem.W.Frag) (C1 : Addr) : SpX := fun vs L Q LX => ∃ x d y, vs = [x, y] ∧ Dv K L x d ∧ fits d ∧ areT d = false ∧ (∀ dd, LX (.ref C1) dd (.pt dd (thingD x) :: L))
theorem okX_least_room {f : Addr} {fd : FuncData} (F : Fun K "least_room" "least_room" s_least_room f fd) (cX_check_touches : CalX P w K mg base "check_touches" 3 ["touches"] (S_check_touchesX K C1)) :
    FnOk P w K mg base (L2.CX P w) 4 f fd ["touches", "many"] (spX K (S_least_roomX K C1)) := by
  refine okX F sc_least_room (fun vs L Q LX h => ?_) (fun cdv A outer s H E hr => ⟨_, (pss_cons (ps_expr (pe_calX cX_check_touches (hr.mono (by decide)) (by rfl) (takes_of rfl rfl rfl rfl) (pa_cons (pv 0) pa_nil)))
      (pss_cons ps_never
      (pss_cons ps_never
      (pss_one ps_never)))), fun vs L LQ LX h ux => ?_⟩)
  · obtain ⟨x, d, y, rfl, _⟩ := h
    rfl
  · obtain ⟨x, d, y, rfl, hd, hf, ha, q1⟩ := h
    walk_at "norm"
    refine ws_seq (ws_drop (wp_callX ux ?_))
    walk_at "go"
    exact ⟨x, d, rfl, hd, hf, fun h => (by rw [ha] at h; cases h), fun _ => q1⟩
end
end K84
namespace K84
open PySem PySem.Spec PyProof.Rows L2 Lg
/-! short tactics of my own, under the word walk_at -/
local macro_rules | `(tactic| walk_at "mem") => `(tactic| first | exact List.Mem.head _ | assumption | (refine List.Mem.tail _ ?_; walk_at "mem"))
local macro_rules | `(tactic| walk_at "put") => `(tactic| first | exact Put.here | (apply Put.there; walk_at "put"))
local macro_rules | `(tactic| walk_at "pick") => `(tactic| first | exact Pick.here | (apply Pick.there; walk_at "pick"))
local macro_rules | `(tactic| walk_at "ent") => `(tactic| first | exact Ent.refl | exact Ent.nil | (refine Ent.cons (by walk_at "pick") ?_; walk_at "ent") | (refine Ent.dup (by walk_at "mem") ?_; walk_at "ent") | (refine Ent.drop ?_; walk_at "ent"))
local macro_rules | `(tactic| walk_at "dv") => `(tactic| first | exact Dv.int | exact Dv.bl | exact Dv.str | exact Dv.non | assumption | exact Dv.mem (by walk_at "mem"))
local macro_rules | `(tactic| walk_at "dvs") => `(tactic| first | exact Dvs.nil | (apply Dvs.cons; (focus walk_at "dv"); (focus walk_at "dvs")))
local macro_rules | `(tactic| walk_at "norm") => `(tactic| try dsimp only [cxK, noxK, wishK, blkK, baseK, noxB])
local macro_rules | `(tactic| walk_at "num") => `(tactic| first | decide | omega | (simp only [CMul, CPow, CDivN]; omega) | assumption)
local macro_rules | `(tactic| walk_at "one") => `(tactic| with_reducible first
  | refine wp_var rfl ?_ | refine wp_c ?_ | refine wp_op ?_ | refine wp_cb ?_ | refine wa_cons ?_ | refine wa_nil ?_
  | refine ws_seq ?_ | refine ws_asg ?_ | refine ws_drop ?_ | refine ws_ret ?_ | refine ws_if ?_ | refine ws_par ?_ | refine ws_par3 ?_
  | refine wp_un ?_ | refine wp_chain ?_ | refine wp_if ?_ | refine wp_andV ?_ | refine wp_orV ?_ | refine wp_notV ?_ | refine wp_cal ?_ | refine wp_sl ?_
  | refine wo_none ?_ | refine wo_some ?_
  | refine wt_test ?_ | refine wt_B ?_ | refine wt_yes ?_ | refine wt_and ?_ | refine wt_or ?_ | refine wt_not ?_
  | refine w2_mulI (by walk_at "num") ?_ | refine w2_I (by walk_at "num") ?_
  | refine w2_addI ?_ | refine w2_eqPI ?_ | refine w2_eqPS ?_ | refine w2_nePS ?_ | refine w2_nePI ?_ | refine w2_ltI ?_ | refine w2_I0 ?_ | refine w1_U ?_
  | refine wg_name ?_ | refine wgs_nil ?_ | refine wgs_cons ?_ | refine iteT ?_ | refine iteF ?_ | refine ⟨_, rfl, ?_⟩)
local macro_rules | `(tactic| walk_at "go") => `(tactic| repeat walk_at "one")
local macro_rules | `(tactic| walk_at "len") => `(tactic| (simp only [List.length_cons, List.length_nil]; decide))

end K84
/-! t[::-1], t a tuple; further short rules. -/
namespace Lg
open PySem PySem.Spec PyProof.Rows L2
section
variable {prog : Program} {w : World} {A : Around} {E : Value → Shared → Prop} {s : Shared}
theorem sliceApplied_rev {sl : Addr} {vl vu vs : Value} {n : Nat} {Q : Int × Int × Nat → Shared → Prop} (hs : s.heap.IsSliceOf sl vl vu vs) (pl : IsPart vl none) (pu : IsPart vu none) (ps : IsPart vs (some (-1)))
    (h : Q ((n : Int) - 1, -1, n) s) : wpAny (model prog w) A (Builtin.Slice.sliceApplied (.ref sl) (pure (n : Int))) Q E s := by
  obtain ⟨os, hos, hcs, hds⟩ := id hs
  unfold Builtin.Slice.sliceApplied Builtin.Slice.sliceFields
  refine wpAny_bind (wpAny_bind (wpAny_field hos hds (x := vl) rfl (wpAny_bind (wpAny_field hos hds (x := vu) rfl (wpAny_bind (wpAny_field hos hds (x := vs) rfl (wpAny_pure ?_)))))))
  refine wpAny_bind (HT.slicePart_ ps ?_)
  show wpAny _ _ (if ((-1 : Int) == 0) = true then _ else _) _ _ s
  rw [if_neg (by decide)]
  refine wpAny_bind (HT.slicePart_ pl (wpAny_bind (HT.slicePart_ pu (wpAny_bind (wpAny_pure ?_)))))
  have e1 : Builtin.Slice.sliceAdjust none none (-1) (n : Int) = ((n : Int) - 1, -1) := rfl
  have e2 : Builtin.Slice.slicePlaces ((n : Int) - 1) (-1) (-1) = n := by
    unfold Builtin.Slice.slicePlaces
    rw [if_neg (by decide)]
    split
    · rw [show (- -1 : Int) = 1 from rfl, Int.ediv_one]; omega
    · omega
  show wpAny _ _ (match Builtin.Slice.sliceAdjust none none (-1) (n : Int) with | (lo, hi) => pure (lo, (-1 : Int), Builtin.Slice.slicePlaces lo hi (-1))) _ _ s
  rw [e1]
  show wpAny _ _ (pure ((n : Int) - 1, (-1 : Int), Builtin.Slice.slicePlaces ((n : Int) - 1) (-1) (-1))) _ _ s
  rw [e2]
  exact wpAny_pure h
theorem rev_pick (xs : Array Value) : ((List.range xs.size).filterMap fun (m : Nat) => xs[((xs.size : Int) - 1 + (m : Int) * -1).toNat]?).toArray = xs.toList.reverse.toArray := by
  have e : (fun (m : Nat) => xs[((xs.size : Int) - 1 + (m : Int) * -1).toNat]?) = (fun i => xs[i]?) ∘ fun m => xs.size - 1 - m := by
    funext m
    show _ = xs[xs.size - 1 - m]?
    congr 1
    omega
  rw [e, ← List.filterMap_map, PySem.W.krv_range, List.filterMap_reverse, PySem.W.krv_all]
theorem getItem_tuple_rev {t sl : Addr} {items : Array Value} {vl vu vs : Value} {Q : Value → Shared → Prop} (ht : IsTup s.heap t items) (hs : s.heap.IsSliceOf sl vl vu vs) (pl : IsPart vl none) (pu : IsPart vu none) (ps : IsPart vs (some (-1)))
    (h : Q (.ref s.heap.objs.size) { s with heap := s.heap.push { cls := .type "tuple", data := .seq items.toList.reverse.toArray } }) (hsz : items.size ≤ sizeLine) : wpAny (model prog w) A (getItem (.ref t) (.ref sl)) Q E s := by
  have hk : sizeOk (.seq items.toList.reverse.toArray) := by
    show items.toList.reverse.toArray.size ≤ sizeLine
    rw [List.size_toArray, List.length_reverse, Array.length_toList]
    exact hsz
  obtain ⟨os, hos, hcs, hds⟩ := id hs
  have hTs : s.TypeIs (.ref sl) "slice" := ⟨os, hos, hcs⟩
  unfold getItem
  try with_reducible refine wpAny_holding ?_
  first | refine wpAny_bind (wpAny_pure ?_) | skip
  refine wpAny_bind (wpAny_sequenceKey ht.typeIs (by decide) ?_)
  refine wpAny_bind (wpAny_callSpecial?_slot (name := Str.ofString "__getitem__") ht.typeIs PyProof.Rows.slot_tuple_getitem (wpAny_call_entry PyProof.Rows.slot_tuple_getitem ht.typeIs entry_tuple_getitem ?_ (args_tuple_getitem _ _)))
  show wpAny _ _ (Builtin.Tuple.tupleItemsOf (.ref t) >>= _) _ _ s
  refine wpAny_bind (tupleItemsOf_ ht (wpAny_bind (wpAny_typeOf hTs ?_)))
  rw [if_pos (by decide)]
  refine wpAny_bind (sliceApplied_rev hs pl pu ps ?_)
  have hno : ¬ (((items.size : Int) - 1 == 0 && (-1 : Int) == 1 && items.size == items.size) = true) := by
    rw [show ((-1 : Int) == 1) = false from rfl, Bool.and_false, Bool.false_and]
    decide
  show wpAny _ _ (if ((items.size : Int) - 1 == 0 && (-1 : Int) == 1 && items.size == items.size) = true then _ else _) _ _ s
  rw [if_neg hno, rev_pick]
  first
    | exact wpAny_bind (m := Builtin.Tuple.tupleExact _) (wpAny_newObj_type (wpAny_pure ⟨_, rfl, wpAny_pure h⟩) hk)
    | exact wpAny_bind (wpAny_bind (m := Builtin.Tuple.tupleExact _) (wpAny_newObj_type (wpAny_pure ⟨_, rfl, wpAny_pure h⟩) hk))
    | exact wpAny_bind (m := Builtin.Tuple.tupleExact _) (wpAny_newObj_type (wpAny_bind (wpAny_pure (wpAny_pure ⟨_, rfl, wpAny_pure h⟩))) hk)
    | exact wpAny_bind (wpAny_bind (m := Builtin.Tuple.tupleExact _) (wpAny_newObj_type (wpAny_pure (wpAny_pure ⟨_, rfl, wpAny_pure h⟩)) hk))
end
def tRevA (K : PySem.W.Frag) (te : TE) : TE := fun σ H Q => te σ H fun x H1 => ∃ a xs, x = .ref a ∧ SqT K H1 a xs ∧ ∀ p, H1 p = none → Q (.ref p) (upd H1 p (.tup xs.reverse))
theorem pe_revA {X : Cx} {e : Expr} {te : TE} {k : Nat} {p1 p2 p3 pos : Pos} (he : PE X e te) : PE X (.Subscript e (.Slice none none (some (.UnaryOp .USub (.Constant (.int 1) k p1) p2)) p3) pos) (tRevA X.K te) := by
  refine ⟨fun pins s σ H Q I h => ?_⟩
  refine Subscript_ (thn (he.run pins s σ H _ I h) fun v s1 ⟨x, H1, I1, r1, a, xs, ex, hx, q⟩ => ?_)
  subst ex; cases r1
  have st : PO X (some (.UnaryOp .USub (.Constant (.int 1) k p1) p2)) (tPart (tUn (rU fun i => .int (-i)) (tC (.int 1)))) := po_some (pe_un un_neg pe_int)
  refine wpAny_Slice (thn (po_none.run pins s1 σ H1 (fun o H2 => o = none ∧ H2 = H1) I1 ⟨rfl, rfl⟩) fun vl s2 ⟨l, H2, I2, pl, el, e2⟩ => ?_)
  subst el e2
  refine thn (po_none.run pins s2 σ H2 (fun o H3 => o = none ∧ H3 = H2) I2 ⟨rfl, rfl⟩) fun vu s3 ⟨u, H3, I3, pu, eu, e3⟩ => ?_
  subst eu e3
  refine thn (st.run pins s3 σ H3 (fun o H4 => o = some (-1) ∧ H4 = H3) I3 ⟨1, rfl, -1, rfl, rfl, rfl⟩) fun vs s4 ⟨o, H4, I4, ps, eo, e4⟩ => ?_
  subst eo e4
  have I5 : Inv X pins σ H4 { s4 with heap := s4.heap.push { cls := .type "slice", data := .fields #[vl, vu, vs] } } := I4.kept (t' := s4.toks) fun b ob q => Heap.get?_push_of_some _ q
  obtain ⟨its, r, ht, hz⟩ := I5.tuple hx
  have hl := r.length
  show wpAny (model X.prog X.w) X.A (subscriptTail e (.Slice none none (some (.UnaryOp .USub (.Constant (.int 1) k p1) p2)) p3) (.ref a) (.ref s4.heap.objs.size)) (EP X pins σ Q) X.xe { s4 with heap := s4.heap.push { cls := .type "slice", data := .fields #[vl, vu, vs] } }
  refine tail_any (ops := [.ref a, .ref s4.heap.objs.size]) ht.typeIs (PyProof.Rows.slot_tuple_getitem.lookup) ?_ (by with_unfolding_all rfl)
  refine getItem_tuple_rev ht (Heap.IsSliceOf.new _ vl vu vs) pl pu ps ?_ (by rw [List.size_toArray]; omega)
  refine ⟨.ref _, _, I5.laid (t' := s4.toks) (o := .tup xs.reverse) (fun b ob q => Heap.get?_push_of_some _ q) (Nat.le_refl _) ?_, rfl, q _ (I5.hok.fresh (Nat.le_refl _))⟩
  exact ⟨by rw [List.length_reverse]; exact hz, _, r.reverse, IsTup.new _ _⟩
theorem pe_revAK {X : Cx} {K : PySem.W.Frag} {e : Expr} {te : TE} {k : Nat} {p1 p2 p3 pos : Pos} (he : PE X e te) (h3 : X.K = K := by rfl) : PE X (.Subscript e (.Slice none none (some (.UnaryOp .USub (.Constant (.int 1) k p1) p2)) p3) pos) (tRevA K te) := by
  subst h3
  exact pe_revA he
section
variable {K : PySem.W.Frag} {σ : L2.St} {L L' : List As} {Q : LK} {te : TE} {x y v : V}
theorem wp_revA (h : Wp K te σ L fun x L1 => ∃ ds, Dv K L1 x (.tuple ds) ∧ ∀ v, Q v (.da v (.tuple ds.reverse) :: L1)) : Wp K (tRevA K te) σ L Q := fun H hs Q0 up =>
  h H hs _ fun x H1 L1 h1 ⟨ds, hl, q⟩ => by
    obtain ⟨T, ht⟩ := h1
    cases hl T H1 ht with
    | @tup a xs _ ha hd =>
      exact ⟨a, xs, rfl, SqT.of (ht.sub _ _ ha), fun p hp => up _ _ _ ⟨_, ht.layD hp (.tup upd_same ((Sub.new (ht.sub.non hp)).dps _ _ (dps_rev hd)))⟩ (q _)⟩
/-- a comprehension over enumerate(xs), xs a list -/
theorem wp_lcE {ta : TA} {g : TG} {tt : TT} {vs : List Nat} (f : Nat → PyData → Bool) (e : Nat → PyData → PyData) (h : Wa K ta σ L fun zs L1 => ∃ x ds, zs = [x] ∧ Ls K L1 x ds ∧ ds.length < sizeLine ∧
    (∀ (i : Nat) d v L2 D acc, ds[i]? = some d → L2 = .da v (.tuple [.int i, d]) :: .ld D acc :: L1 → LcTurn K g tt te σ vs v L2 (.ld D acc :: L1) (f i d) (e i d)) ∧
    ∀ D, Q (.ref D) (.ld D (lcD ds f e) :: L1)) : Wp K (tLc (iEnumP K ta) g tt te vs) σ L Q := fun H hs Q0 up =>
  h H hs _ fun zs H1 L1 h1 ⟨x, ds, hz, hd, hl, ht, q⟩ => by
    have w : Wp K (tLc (iEnumP K (tCons (tC x) tNil)) g tt te vs) σ L1 Q := by
      refine wp_lcG ds f e (wi_enumL (wa_cons (wp_c (wa_nil ⟨x, ds, rfl, hd, rfl, hl, fun D acc => hd.ent (Ent.drop Ent.refl), fun i d v L2 D acc hi ⟨d', hd', o⟩ => ?_, fun D => q D⟩))))
      rw [hi] at hd'
      cases hd'
      exact ht i d v L2 D acc hi o
    subst hz
    exact w H1 h1 Q0 up
end
/-! ### names for numbers -/
def nmQ (cs : List Int) : List (Key × PyData) := cs.zipIdx.map fun p => (.inl p.1, .int (7 * (p.2 : Int) + 1))
theorem nm_at {cs : List Int} (nd : cs.Nodup) {i : Nat} {c : Int} (h : cs[i]? = some c) : valD (putAllD (nmQ cs)) (.inl c) = some (.int (7 * (i : Int) + 1)) := by
  rw [putAllD_val]
  have hm : (((.inl c, .int (7 * (i : Int) + 1)) : Key × PyData)) ∈ (nmQ cs).reverse := by
    rw [List.mem_reverse]
    exact List.mem_map.mpr ⟨(c, i), List.mem_zipIdx_iff_getElem?.mpr h, rfl⟩
  have hu : ∀ q ∈ (nmQ cs).reverse, decide (q.1 = (.inl c : Key)) = true → q = (.inl c, .int (7 * (i : Int) + 1)) := fun q hq e => by
    obtain ⟨⟨c', j⟩, hp, rfl⟩ := List.mem_map.mp (List.mem_reverse.mp hq)
    have e' : (Sum.inl c' : Key) = .inl c := of_decide_eq_true e
    have ec : c' = c := Sum.inl.inj e'
    subst ec
    have hj := List.mem_zipIdx_iff_getElem?.mp hp
    have hj' : cs[j]? = some c' := hj
    have hij : i = j := by
      have h1 := (List.getElem?_eq_some_iff.mp h)
      have h2 := (List.getElem?_eq_some_iff.mp hj')
      obtain ⟨l1, e1⟩ := h1
      obtain ⟨l2, e2⟩ := h2
      exact (List.getElem_inj nd).mp (e1.trans e2.symm)
    subst hij
    rfl
  cases hf : (nmQ cs).reverse.find? fun q => decide (q.1 = (.inl c : Key)) with
  | none => exact absurd (List.find?_eq_none.mp hf _ hm) (by simp)
  | some q =>
    have hp := List.find?_some (p := fun q : Key × PyData => decide (q.1 = (.inl c : Key))) hf
    rw [hu q (List.mem_of_find?_eq_some hf) hp]
    rfl
def nmF (cs : List Int) (c : Int) : Int := match valD (putAllD (nmQ cs)) (.inl c) with
  | some (.int i) => i
  | _ => 0
theorem nmF_at {cs : List Int} (nd : cs.Nodup) {c : Int} (h : c ∈ cs) : ∃ i : Nat, cs[i]? = some c ∧ nmF cs c = 7 * (i : Int) + 1 ∧ i < cs.length ∧ valD (putAllD (nmQ cs)) (.inl c) = some (.int (nmF cs c)) := by
  obtain ⟨i, hi, e⟩ := List.getElem_of_mem h
  have h1 : cs[i]? = some c := by rw [List.getElem?_eq_getElem hi, e]
  have h2 := nm_at nd h1
  have h3 : nmF cs c = 7 * (i : Int) + 1 := by unfold nmF; rw [h2]
  exact ⟨i, h1, h3, hi, by rw [h3]; exact h2⟩
theorem nmF_inj {cs : List Int} (nd : cs.Nodup) {a b : Int} (ha : a ∈ cs) (hb : b ∈ cs) (e : nmF cs a = nmF cs b) : a = b := by
  obtain ⟨i, h1, h2, _⟩ := nmF_at nd ha
  obtain ⟨j, h3, h4, _⟩ := nmF_at nd hb
  have : i = j := by omega
  rw [this, h3] at h1
  exact (Option.some.inj h1).symm
end Lg
namespace K84
open PySem PySem.Spec PyProof.Rows L2 Lg
/-! short tactics of my own, under the word walk_at -/
local macro_rules | `(tactic| walk_at "mem") => `(tactic| first | exact List.Mem.head _ | assumption | (refine List.Mem.tail _ ?_; walk_at "mem"))
local macro_rules | `(tactic| walk_at "put") => `(tactic| first | exact Put.here | (apply Put.there; walk_at "put"))
local macro_rules | `(tactic| walk_at "pick") => `(tactic| first | exact Pick.here | (apply Pick.there; walk_at "pick"))
local macro_rules | `(tactic| walk_at "ent") => `(tactic| first | exact Ent.refl | exact Ent.nil | (refine Ent.cons (by walk_at "pick") ?_; walk_at "ent") | (refine Ent.dup (by walk_at "mem") ?_; walk_at "ent") | (refine Ent.drop ?_; walk_at "ent"))
local macro_rules | `(tactic| walk_at "dv") => `(tactic| first | exact Dv.int | exact Dv.bl | exact Dv.str | exact Dv.non | assumption | exact Dv.mem (by walk_at "mem"))
local macro_rules | `(tactic| walk_at "dvs") => `(tactic| first | exact Dvs.nil | (apply Dvs.cons; (focus walk_at "dv"); (focus walk_at "dvs")))
local macro_rules | `(tactic| walk_at "norm") => `(tactic| try dsimp only [cxK, noxK, wishK, blkK, baseK, noxB])
local macro_rules | `(tactic| walk_at "num") => `(tactic| first | decide | omega | (simp only [CMul, CPow, CDivN]; omega) | assumption)
local macro_rules | `(tactic| walk_at "one") => `(tactic| with_reducible first
  | refine wp_var rfl ?_ | refine wp_c ?_ | refine wp_op ?_ | refine wp_cb ?_ | refine wa_cons ?_ | refine wa_nil ?_
  | refine ws_seq ?_ | refine ws_asg ?_ | refine ws_drop ?_ | refine ws_ret ?_ | refine ws_if ?_ | refine ws_par ?_ | refine ws_par3 ?_
  | refine wp_un ?_ | refine wp_chain ?_ | refine wp_if ?_ | refine wp_andV ?_ | refine wp_orV ?_ | refine wp_notV ?_ | refine wp_cal ?_ | refine wp_sl ?_
  | refine wo_none ?_ | refine wo_some ?_
  | refine wt_test ?_ | refine wt_B ?_ | refine wt_yes ?_ | refine wt_and ?_ | refine wt_or ?_ | refine wt_not ?_
  | refine w2_mulI (by walk_at "num") ?_ | refine w2_I (by walk_at "num") ?_
  | refine w2_addI ?_ | refine w2_eqPI ?_ | refine w2_eqPS ?_ | refine w2_nePS ?_ | refine w2_nePI ?_ | refine w2_ltI ?_ | refine w2_I0 ?_ | refine w1_U ?_
  | refine wg_name ?_ | refine wgs_nil ?_ | refine wgs_cons ?_ | refine iteT ?_ | refine iteF ?_ | refine ⟨_, rfl, ?_⟩)
local macro_rules | `(tactic| walk_at "go") => `(tactic| repeat walk_at "one")
local macro_rules | `(tactic| walk_at "len") => `(tactic| (simp only [List.length_cons, List.length_nil]; decide))

section
variable {P : Program} {w : World} {K : PySem.W.Frag} {mg : Str → Option Value} {base : Heap} {C1 C2 : Addr}
def S_leastX (K : PySem.W.Frag) (C1 C2 : Addr) : SpX := fun vs L Q LX => ∃ x d y e, vs = [x, y] ∧ Dv K L x d ∧ fits d ∧ Dv K L y e ∧ (areT d = false → ∀ dd, LX (.ref C1) dd (.pt dd (thingD x) :: L)) ∧ (areT d = true → isRoom e = false ∧ ∀ dd, LX (.ref C2) dd (.pt dd (thingD y) :: L))
theorem okX_least_fetches {f : Addr} {fd : FuncData} (F : Fun K "least_fetches" "least_fetches" s_least_fetches f fd) (cX_check_touches : CalX P w K mg base "check_touches" 3 ["touches"] (S_check_touchesX K C1)) (cX_check_room : CalX P w K mg base "check_room" 3 ["room"] (S_check_roomX K C2)) :
    FnOk P w K mg base (L2.CX P w) 4 f fd ["touches", "room"] (spX K (S_leastX K C1 C2)) := by
  refine okX F sc_least_fetches (fun vs L Q LX h => ?_) (fun cdv A outer s H E hr => ⟨_, (pss_cons (ps_expr (pe_calX cX_check_touches (hr.mono (by decide)) (by rfl) (takes_of rfl rfl rfl rfl) (pa_cons (pv 0) pa_nil)))
      (pss_cons (ps_expr (pe_calX cX_check_room (hr.mono (by decide)) (by rfl) (takes_of rfl rfl rfl rfl) (pa_cons (pv 1) pa_nil)))
      (pss_one ps_never))), fun vs L LQ LX h ux => ?_⟩)
  · obtain ⟨x, d, y, e, rfl, _⟩ := h
    rfl
  · obtain ⟨x, d, y, e, rfl, hd, hf, he, q1, q2⟩ := h
    walk_at "norm"
    refine ws_seq (ws_drop (wp_callX ux ?_))
    walk_at "go"
    refine ⟨x, d, rfl, hd, hf, fun h => ?_, q1⟩
    refine ws_seq (ws_drop (wp_callX ux ?_))
    walk_at "go"
    exact ⟨y, e, rfl, he, (q2 h).1, (q2 h).2⟩
theorem okX_judge_pages {f : Addr} {fd : FuncData} (F : Fun K "judge_pages" "judge_pages" s_judge_pages f fd) (cX_check_touches : CalX P w K mg base "check_touches" 3 ["touches"] (S_check_touchesX K C1)) (cX_check_room : CalX P w K mg base "check_room" 3 ["room"] (S_check_roomX K C2)) :
    FnOk P w K mg base (L2.CX P w) 4 f fd ["touches", "room"] (spX K (S_leastX K C1 C2)) := by
  refine okX F sc_judge_pages (fun vs L Q LX h => ?_) (fun cdv A outer s H E hr => ⟨_, (pss_cons (ps_expr (pe_calX cX_check_touches (hr.mono (by decide)) (by rfl) (takes_of rfl rfl rfl rfl) (pa_cons (pv 0) pa_nil)))
      (pss_cons (ps_expr (pe_calX cX_check_room (hr.mono (by decide)) (by rfl) (takes_of rfl rfl rfl rfl) (pa_cons (pv 1) pa_nil)))
      (pss_one ps_never))), fun vs L LQ LX h ux => ?_⟩)
  · obtain ⟨x, d, y, e, rfl, _⟩ := h
    rfl
  · obtain ⟨x, d, y, e, rfl, hd, hf, he, q1, q2⟩ := h
    walk_at "norm"
    refine ws_seq (ws_drop (wp_callX ux ?_))
    walk_at "go"
    refine ⟨x, d, rfl, hd, hf, fun h => ?_, q1⟩
    refine ws_seq (ws_drop (wp_callX ux ?_))
    walk_at "go"
    exact ⟨y, e, rfl, he, (q2 h).1, (q2 h).2⟩
end
end K84
namespace K84
open PySem PySem.Spec PyProof.Rows L2 Lg
/-! short tactics of my own, under the word walk_at -/
local macro_rules | `(tactic| walk_at "mem") => `(tactic| first | exact List.Mem.head _ | assumption | (refine List.Mem.tail _ ?_; walk_at "mem"))
local macro_rules | `(tactic| walk_at "put") => `(tactic| first | exact Put.here | (apply Put.there; walk_at "put"))
local macro_rules | `(tactic| walk_at "pick") => `(tactic| first | exact Pick.here | (apply Pick.there; walk_at "pick"))
local macro_rules | `(tactic| walk_at "ent") => `(tactic| first | exact Ent.refl | exact Ent.nil | (refine Ent.cons (by walk_at "pick") ?_; walk_at "ent") | (refine Ent.dup (by walk_at "mem") ?_; walk_at "ent") | (refine Ent.drop ?_; walk_at "ent"))
local macro_rules | `(tactic| walk_at "dv") => `(tactic| first | exact Dv.int | exact Dv.bl | exact Dv.str | exact Dv.non | assumption | exact Dv.mem (by walk_at "mem"))
local macro_rules | `(tactic| walk_at "dvs") => `(tactic| first | exact Dvs.nil | (apply Dvs.cons; (focus walk_at "dv"); (focus walk_at "dvs")))
local macro_rules | `(tactic| walk_at "norm") => `(tactic| try dsimp only [cxK, noxK, wishK, blkK, baseK, noxB])
local macro_rules | `(tactic| walk_at "num") => `(tactic| first | decide | omega | (simp only [CMul, CPow, CDivN]; omega) | assumption)
local macro_rules | `(tactic| walk_at "one") => `(tactic| with_reducible first
  | refine wp_var rfl ?_ | refine wp_c ?_ | refine wp_op ?_ | refine wp_cb ?_ | refine wa_cons ?_ | refine wa_nil ?_
  | refine ws_seq ?_ | refine ws_asg ?_ | refine ws_drop ?_ | refine ws_ret ?_ | refine ws_if ?_ | refine ws_par ?_ | refine ws_par3 ?_
  | refine wp_un ?_ | refine wp_chain ?_ | refine wp_if ?_ | refine wp_andV ?_ | refine wp_orV ?_ | refine wp_notV ?_ | refine wp_cal ?_ | refine wp_sl ?_
  | refine wo_none ?_ | refine wo_some ?_
  | refine wt_test ?_ | refine wt_B ?_ | refine wt_yes ?_ | refine wt_and ?_ | refine wt_or ?_ | refine wt_not ?_
  | refine w2_mulI (by walk_at "num") ?_ | refine w2_I (by walk_at "num") ?_
  | refine w2_addI ?_ | refine w2_eqPI ?_ | refine w2_eqPS ?_ | refine w2_nePS ?_ | refine w2_nePI ?_ | refine w2_ltI ?_ | refine w2_I0 ?_ | refine w1_U ?_
  | refine wg_name ?_ | refine wgs_nil ?_ | refine wgs_cons ?_ | refine iteT ?_ | refine iteF ?_ | refine ⟨_, rfl, ?_⟩)
local macro_rules | `(tactic| walk_at "go") => `(tactic| repeat walk_at "one")
local macro_rules | `(tactic| walk_at "len") => `(tactic| (simp only [List.length_cons, List.length_nil]; decide))

theorem shows_ints {base : Heap} {ns : List Int} (hz : ns.length ≤ 500) (hb : ∀ c ∈ ns, 0 ≤ c ∧ c < 2 ^ 50) : Shows base (.tuple (iD ns)) := by
  refine shows_of (fine_ints fun c hc => by have := hb c hc; omega) ?_ ?_ fun z => ?_
  · have := depth_ints ns
    show PyData.depthAll (ns.map .int) + 1 ≤ 64
    omega
  · show 4 + sizeA (iD ns) ≤ _
    rw [size_ints]
    exact Nat.le_trans (by omega : 4 + 1923 * ns.length ≤ 1000000) (by decide)
  · have z' : PyData.hasDictAll (iD ns) = true := z
    rw [hasDict_ints] at z'
    cases z'
theorem shows_two {base : Heap} {m : Int} (h : m.natAbs < 2 ^ 64) : Shows base (.list [.int m, .int m]) := by
  have f1 : fineA (iD [m, m]) = true := fine_ints fun n hn => by
    have : n = m := by simpa using hn
    rw [this]; exact h
  refine shows_of (show Lg.fine (.list [.int m, .int m]) = true from f1) ?_ ?_ fun z => ?_
  · simp only [PyData.depth, PyData.depthAll]; decide
  · show 4 + sizeA (iD [m, m]) ≤ _
    rw [size_ints]
    show 4 + 1923 * 2 ≤ _
    decide
  · have z' : PyData.hasDictAll (iD [m, m]) = true := z
    rw [hasDict_ints] at z'
    cases z'
theorem ltLex_of {ps : List (Nat × Nat)} (nd : ps.Nodup) : (ps.mergeSort leLex).Pairwise ltLex := by
  have tr : ∀ a b c : Nat × Nat, leLex a b = true → leLex b c = true → leLex a c = true := fun a b c h1 h2 => by
    unfold leLex at *
    have h1 := of_decide_eq_true h1
    have h2 := of_decide_eq_true h2
    exact decide_eq_true (by omega)
  have to : ∀ a b : Nat × Nat, (leLex a b || leLex b a) = true := fun a b => by
    unfold leLex
    rw [Bool.or_eq_true, decide_eq_true_iff, decide_eq_true_iff]
    omega
  have hs := List.pairwise_mergeSort tr to ps
  have hn : (ps.mergeSort leLex).Nodup := (List.mergeSort_perm ps leLex).nodup_iff.mpr nd
  refine List.Pairwise.imp ?_ (hs.and hn)
  rintro a b ⟨h1, h2⟩
  have h1 := of_decide_eq_true h1
  have h2' : ¬ (a.1 = b.1 ∧ a.2 = b.2) := fun z => h2 (Prod.ext z.1 z.2)
  unfold ltLex
  omega
theorem kept_ok (ts : List Int) (k : Nat) : HoldsOk ts k (kept ts k) := by
  have nh := holds_nodup ts
  have pm : List.Perm (kept ts k) (keepTo k (holds ts) ts.length) := List.mergeSort_perm _ _
  exact ⟨fun p hp => (keep_in (pm.mem_iff.mp hp)).1, ltLex_of (keep_nodup nh _), (keep_fit nh (holds_ends ts)).perm pm.symm⟩
theorem paper_ok {ts : List Int} {k : Nat} {bs : List Nat} (h : BarsOk ts k bs) : PaperOk ts k (kept ts k) bs :=
  ⟨kept_ok ts k, h.lt, h.asc, by rw [h.cost, kept, List.length_mergeSort]⟩
theorem kept_len (ts : List Int) (k : Nat) (hN : ts.length < 10 ^ 9) : bel ts (k + 1) + (kept ts k).length = ts.length := by
  rw [kept, List.length_mergeSort]
  exact fewest_bel ts k hN
theorem fewP_paper {m : Nat} {ps : List (Nat × Nat)} {bs : List Nat} (h1 : ps.length < m) (h2 : bs.length < m) : fewP m (paperD ps bs) := by
  intro a b c e
  have e1 := PyData.tuple.inj e
  have eb := (List.cons.inj (List.cons.inj e1).2).1
  have ec := (List.cons.inj (List.cons.inj (List.cons.inj e1).2).2).1
  subst eb ec
  refine ⟨fun ds e => ?_, fun ds e => ?_⟩
  · rw [← PyData.tuple.inj e, List.length_map]; exact h1
  · rw [← PyData.tuple.inj e, List.length_map]; exact h2
theorem bars_few {ts : List Int} {k : Nat} {bs : List Nat} (h : BarsOk ts k bs) : bs.length ≤ ts.length := by
  have := nodup_len (xs := bs) (ys := List.range ts.length) (List.Pairwise.imp (fun h => Nat.ne_of_lt h) h.asc) fun q hq => List.mem_range.mpr (h.lt q hq)
  rwa [List.length_range] at this
end K84
/-! Known numbers of fetches. -/
namespace Lg
/-- how many holds can be kept -/
abbrev kc (ts : List Int) (k : Nat) : Nat := (keepTo k (holds ts) ts.length).length
def adjB (h : Nat × Nat) : Bool := decide (h.2 = h.1 + 1)
/-- room one: the holds of neighbours -/
theorem kc_zero (ts : List Int) : kc ts 0 = (holds ts).countP adjB := by
  have nh := holds_nodup ts
  have hE := holds_ends ts
  have up := weak (k := 0) nh (N := ts.length) (fun h hh => Nat.le_of_lt (hE h hh).2) (List.range ts.length)
  have lo := fit_le (k := 0) nh (N := ts.length) hE (K := (holds ts).filter adjB) (nh.sublist List.filter_sublist) (fun x hx => (List.mem_filter.mp hx).1) fun q => by
    refine Nat.le_of_eq (List.countP_eq_zero.mpr fun h hh z => ?_)
    have a := of_decide_eq_true (List.mem_filter.mp hh).2
    have b := cov_lt.mp z
    omega
  have e : (holds ts).countP (bare (List.range ts.length)) = (holds ts).countP adjB := List.countP_congr fun h hh => by
    have hl := hE h hh
    unfold bare adjB
    rw [List.all_eq_true, decide_eq_true_iff]
    constructor
    · intro z
      by_cases q : h.2 = h.1 + 1
      · exact q
      · have := z (h.1 + 1) (List.mem_range.mpr (by omega))
        have c : covB h (h.1 + 1) = true := cov_lt.mpr ⟨by omega, by omega⟩
        rw [c] at this
        cases this
    · intro z q _
      cases c : covB h q with
      | false => rfl
      | true => have := cov_lt.mp c; omega
  rw [← List.countP_eq_length_filter] at lo
  show (keepTo 0 (holds ts) ts.length).length = _
  omega
/-- where the cell is another one than ahead of it -/
def chg (ts : List Int) (i : Nat) : Nat := (List.range i).countP fun j => decide (j = 0 ∨ ts[j - 1]? ≠ ts[j]?)
theorem chg_adj (ts : List Int) : ∀ i, i ≤ ts.length → chg ts i + (holdsTo ts i).countP adjB = i
  | 0, _ => rfl
  | i + 1, hi => by
    have ih := chg_adj ts i (by omega)
    have e1 : chg ts (i + 1) = chg ts i + if i = 0 ∨ ts[i - 1]? ≠ ts[i]? then 1 else 0 := by
      unfold chg
      rw [List.range_succ, List.countP_append, List.countP_singleton]
      simp
    have hc : ts[i]? = some ts[i] := List.getElem?_eq_getElem (by omega)
    generalize ts[i] = c at hc
    have e2 : (holdsTo ts (i + 1)).countP adjB = (holdsTo ts i).countP adjB + if i = 0 ∨ ts[i - 1]? ≠ ts[i]? then 0 else 1 := by
      show (holdsTo ts i ++ holdAt ts i).countP adjB = _
      rw [List.countP_append]
      congr 1
      unfold holdAt
      rw [hc]
      dsimp only
      cases hx : lastIx ts i c with
      | none =>
        have no := lastIx_none hx
        rw [if_pos (by
          by_cases h0 : i = 0
          · exact .inl h0
          · exact .inr (no (i - 1) (by omega)))]
        rfl
      | some b =>
        obtain ⟨b1, b2, b3⟩ := lastIx_some hx
        dsimp only
        rw [List.countP_singleton]
        by_cases hb : b + 1 = i
        · rw [if_pos (by unfold adjB; exact decide_eq_true hb.symm), if_neg]
          rintro (z | z)
          · omega
          · exact z (by rw [← hb, Nat.add_sub_cancel]; exact b2)
        · rw [if_neg (by unfold adjB; exact fun z => hb (of_decide_eq_true z).symm), if_pos (.inr (b3 (i - 1) (by omega) (by omega)))]
    rw [e1, e2]
    split <;> omega
theorem room_one (ts : List Int) : chg ts ts.length + kc ts 0 = ts.length := by
  rw [kc_zero]
  have h := chg_adj ts ts.length (Nat.le_refl _)
  have e : (holds ts).countP adjB = (holdsTo ts ts.length).countP adjB := (List.mergeSort_perm _ _).countP_eq _
  rw [e]
  exact h
/-! ### there and back -/
structure ThereBack (ts : List Int) (n : Nat) : Prop where
  len : ts.length = 2 * n
  go : ∀ j, j < n → ts[j]? = some (j : Int)
  back : ∀ j, n ≤ j → j < 2 * n → ts[j]? = some ((2 * n - 1 - j : Nat) : Int)
theorem tb_holds {ts : List Int} {n : Nat} (T : ThereBack ts n) {h : Nat × Nat} : h ∈ holds ts ↔ h.1 < n ∧ h.2 = 2 * n - 1 - h.1 := by
  rw [mem_holds]
  constructor
  · rintro ⟨c, H⟩
    have hl := H.lt
    have he := H.inside
    rw [T.len] at he
    have hb := H.beg
    have hf := H.fin
    by_cases h1 : h.1 < n
    · rw [T.go _ h1] at hb
      by_cases h2 : h.2 < n
      · rw [T.go _ h2, ← hb] at hf
        have := Option.some.inj hf
        omega
      · rw [T.back _ (by omega) he, ← hb] at hf
        have := Option.some.inj hf
        exact ⟨h1, by omega⟩
    · rw [T.back _ (by omega) (by omega)] at hb
      rw [T.back _ (by omega) he, ← hb] at hf
      have := Option.some.inj hf
      omega
  · rintro ⟨h1, h2⟩
    refine ⟨(h.1 : Int), ⟨by omega, T.go _ h1, ?_, fun j j1 j2 z => ?_⟩⟩
    · rw [T.back _ (by omega) (by omega), h2]
      congr 2
      omega
    · by_cases hj : j < n
      · rw [T.go _ hj] at z
        have := Option.some.inj z
        omega
      · rw [T.back _ (by omega) (by omega)] at z
        have := Option.some.inj z
        omega
theorem kc_back {ts : List Int} {n : Nat} (T : ThereBack ts n) (k : Nat) (hn : 0 < n) : kc ts k = min n (k + 1) := by
  have nh := holds_nodup ts
  have hE := holds_ends ts
  have up1 := weak (k := k) nh (N := ts.length) (fun h hh => Nat.le_of_lt (hE h hh).2) [n - 1]
  have cb : (holds ts).countP (bare [n - 1]) ≤ 1 := by
    rw [List.countP_eq_length_filter]
    have := nodup_len (ys := [(n - 1, n)]) (nh.sublist (List.filter_sublist (p := bare [n - 1]))) fun h hh => by
      obtain ⟨h1, h2⟩ := List.mem_filter.mp hh
      obtain ⟨a, b⟩ := (tb_holds T).mp h1
      have c : covB h (n - 1) = false := by
        unfold bare at h2
        simpa using h2
      have d : ¬ (h.1 < n - 1 ∧ n - 1 < h.2) := fun z => by rw [cov_lt.mpr z] at c; cases c
      have e1 : h.1 = n - 1 := by omega
      rw [List.mem_singleton]
      exact Prod.ext e1 (by show h.2 = n; omega)
    simpa using this
  have up2 : kc ts k ≤ n := by
    have h1 := nodup_len (ys := holds ts) (keep_nodup (k := k) nh ts.length) fun h hh => (keep_in hh).1
    have h2 : (holds ts).length ≤ n := by
      have nd : ((holds ts).map (·.1)).Nodup := by
        unfold List.Nodup
        rw [List.pairwise_map]
        refine nh.imp_of_mem fun {a b} ha hb hab e => hab ?_
        have ha' := (tb_holds T).mp ha
        have hb' := (tb_holds T).mp hb
        exact Prod.ext e (by omega)
      have := nodup_len nd (ys := List.range n) fun x hx => by
        obtain ⟨h, hh, rfl⟩ := List.mem_map.mp hx
        exact List.mem_range.mpr ((tb_holds T).mp hh).1
      rwa [List.length_map, List.length_range] at this
    exact Nat.le_trans h1 h2
  have lo := fit_le (k := k) nh (N := ts.length) hE (K := (List.range (min n (k + 1))).map fun d => (n - 1 - d, n + d)) (by
      unfold List.Nodup
      rw [List.pairwise_map]
      refine (List.nodup_range (n := min n (k + 1))).imp fun {a b} hab e => hab ?_
      have := (Prod.mk.inj e).2
      omega) (fun h hh => by
      obtain ⟨d, hd, rfl⟩ := List.mem_map.mp hh
      have hd' := List.mem_range.mp hd
      exact (tb_holds T).mpr ⟨by dsimp only; omega, by dsimp only; omega⟩) fun q => by
    obtain ⟨m, hm⟩ : ∃ m, min n (k + 1) = m + 1 := ⟨min n (k + 1) - 1, by omega⟩
    rw [hm, List.range_succ_eq_map, List.map_cons, List.countP_cons_of_neg]
    · refine Nat.le_trans List.countP_le_length ?_
      rw [List.length_map, List.length_map, List.length_range]
      omega
    · intro z
      have := cov_lt.mp z
      dsimp only at this
      omega
  rw [List.length_map, List.length_range] at lo
  have up1' : kc ts k ≤ k * 1 + (holds ts).countP (bare [n - 1]) := up1
  show kc ts k = _
  have lo' : min n (k + 1) ≤ kc ts k := lo
  omega
/-! ### a cell between each two others -/
theorem end_uniq {ts : List Int} {h h' : Nat × Nat} (a : h ∈ holds ts) (b : h' ∈ holds ts) (e : h.2 = h'.2) : h = h' := by
  obtain ⟨c, H⟩ := mem_holds.mp a
  obtain ⟨c', H'⟩ := mem_holds.mp b
  have ec : c = c' := Option.some.inj (H.fin.symm.trans ((congrArg (fun i => ts[i]?) e).trans H'.fin))
  have l1 := H.last
  have l2 := H'.last
  rw [e, ec] at l1
  exact Prod.ext (Option.some.inj (l1.symm.trans l2)) e
structure Inter (ts other : List Int) (x : Int) : Prop where
  len : ts.length = 2 * other.length
  ev : ∀ j, j < other.length → ts[2 * j]? = some x
  od : ∀ j, j < other.length → ts[2 * j + 1]? = other[j]?
  ne : x ∉ other
def upH (h : Nat × Nat) : Nat × Nat := (2 * h.1 + 1, 2 * h.2 + 1)
def xH (j : Nat) : Nat × Nat := (2 * j, 2 * j + 2)
theorem in_holds {ts other : List Int} {x : Int} (I : Inter ts other x) {h : Nat × Nat} : h ∈ holds ts ↔ (∃ j, j + 1 < other.length ∧ h = xH j) ∨ ∃ g ∈ holds other, h = upH g := by
  have nx : ∀ {j : Nat} {c : Int}, other[j]? = some c → c ≠ x := fun e z => I.ne (by rw [← z]; exact List.mem_of_getElem? e)
  rw [mem_holds]
  constructor
  · rintro ⟨c, H⟩
    have hl := H.lt
    have he := H.inside
    rw [I.len] at he
    have hb := H.beg
    have hf := H.fin
    obtain ⟨j, hj⟩ : ∃ j, h.1 = 2 * j ∨ h.1 = 2 * j + 1 := ⟨h.1 / 2, by omega⟩
    obtain ⟨i, hi⟩ : ∃ i, h.2 = 2 * i ∨ h.2 = 2 * i + 1 := ⟨h.2 / 2, by omega⟩
    rcases hj with hj | hj <;> rcases hi with hi | hi
    · rw [hj, I.ev _ (by omega)] at hb
      have ij : i = j + 1 := by
        by_cases z : i = j + 1
        · exact z
        · exact absurd (I.ev (j + 1) (by omega)) (by rw [hb]; exact H.no _ (by omega) (by omega))
      exact .inl ⟨j, by omega, Prod.ext hj (by show h.2 = 2 * j + 2; omega)⟩
    · rw [hj, I.ev _ (by omega)] at hb
      rw [hi, I.od _ (by omega), ← hb] at hf
      exact absurd rfl (nx hf)
    · rw [hi, I.ev _ (by omega)] at hf
      rw [hj, I.od _ (by omega), ← hf] at hb
      exact absurd rfl (nx hb)
    · refine .inr ⟨(j, i), mem_holds.mpr ⟨c, ?_⟩, Prod.ext hj hi⟩
      refine ⟨by show j < i; omega, ?_, ?_, fun l l1 l2 => ?_⟩
      · rw [hj, I.od _ (by omega)] at hb; exact hb
      · rw [hi, I.od _ (by omega)] at hf; exact hf
      · have l1' : j < l := l1
        have l2' : l < i := l2
        rw [← I.od l (by omega)]
        exact H.no _ (by omega) (by omega)
  · rintro (⟨j, hj, rfl⟩ | ⟨g, hg, rfl⟩)
    · refine ⟨x, ⟨by show 2 * j < 2 * j + 2; omega, I.ev j (by omega), I.ev (j + 1) hj, fun l l1 l2 z => ?_⟩⟩
      have l1' : 2 * j < l := l1
      have l2' : l < 2 * j + 2 := l2
      have : l = 2 * j + 1 := by omega
      rw [this, I.od j (by omega)] at z
      exact nx z rfl
    · obtain ⟨c, G⟩ := mem_holds.mp hg
      have gl := G.lt
      have gi := G.inside
      refine ⟨c, ⟨by show 2 * g.1 + 1 < 2 * g.2 + 1; omega, (I.od g.1 (by omega)).trans G.beg, (I.od g.2 gi).trans G.fin, fun l l1 l2 z => ?_⟩⟩
      have l1' : 2 * g.1 + 1 < l := l1
      have l2' : l < 2 * g.2 + 1 := l2
      obtain ⟨i, hi⟩ : ∃ i, l = 2 * i ∨ l = 2 * i + 1 := ⟨l / 2, by omega⟩
      rcases hi with hi | hi
      · rw [hi, I.ev i (by omega)] at z
        exact nx G.beg (Option.some.inj z).symm
      · rw [hi, I.od i (by omega)] at z
        exact G.no i (by omega) (by omega) z
theorem upH_inj {a b : Nat × Nat} (e : upH a = upH b) : a = b := by
  have h1 : 2 * a.1 + 1 = 2 * b.1 + 1 := congrArg Prod.fst e
  have h2 : 2 * a.2 + 1 = 2 * b.2 + 1 := congrArg Prod.snd e
  exact Prod.ext (by omega) (by omega)
theorem parts_nd {m : Nat} {Y : List (Nat × Nat)} (nY : Y.Nodup) : ((List.range m).map xH ++ Y.map upH).Nodup := by
  refine List.nodup_append.mpr ⟨?_, ?_, fun a ha b hb e => ?_⟩
  · unfold List.Nodup
    rw [List.pairwise_map]
    refine (List.nodup_range (n := m)).imp fun {a b} hab e => hab ?_
    have h1 : 2 * a = 2 * b := congrArg Prod.fst e
    omega
  · unfold List.Nodup
    rw [List.pairwise_map]
    exact nY.imp fun {a b} hab e => hab (upH_inj e)
  · obtain ⟨j, _, rfl⟩ := List.mem_map.mp ha
    obtain ⟨g, _, rfl⟩ := List.mem_map.mp hb
    have h1 : 2 * j = 2 * g.1 + 1 := congrArg Prod.fst e
    omega
theorem inter_perm {ts other : List Int} {x : Int} (I : Inter ts other x) : List.Perm (holds ts) ((List.range (other.length - 1)).map xH ++ (holds other).map upH) :=
  (List.perm_ext_iff_of_nodup (holds_nodup ts) (parts_nd (holds_nodup other))).mpr fun h => by
    rw [in_holds I, List.mem_append, List.mem_map, List.mem_map]
    refine or_congr ?_ ?_
    · exact ⟨fun ⟨j, h1, e⟩ => ⟨j, List.mem_range.mpr (by omega), e.symm⟩, fun ⟨j, h1, e⟩ => ⟨j, by have := List.mem_range.mp h1; omega, e.symm⟩⟩
    · exact ⟨fun ⟨g, h1, e⟩ => ⟨g, h1, e.symm⟩, fun ⟨g, h1, e⟩ => ⟨g, h1, e.symm⟩⟩
theorem kc_inter {ts other : List Int} {x : Int} (I : Inter ts other x) (k : Nat) (hm : 0 < other.length) : kc ts (k + 1) = (other.length - 1) + kc other k := by
  have nh := holds_nodup ts
  have hE := holds_ends ts
  have nO := holds_nodup other
  have eO := holds_ends other
  have pm := inter_perm I
  refine Nat.le_antisymm ?_ ?_
  · obtain ⟨B0, hB0, eB0⟩ := strong_lt (k := k) nO eO
    generalize hB : (List.range (other.length - 1)).filter (fun q => decide (q ∈ B0)) = B
    have mB : ∀ q, q ∈ B ↔ q < other.length - 1 ∧ q ∈ B0 := fun q => by rw [← hB, List.mem_filter, List.mem_range, decide_eq_true_iff]
    have nB : B.Nodup := by rw [← hB]; exact List.nodup_range.sublist List.filter_sublist
    have lB : B.length ≤ B0.length := nodup_len nB fun q hq => ((mB q).mp hq).2
    have bB : (holds other).countP (bare B) = (holds other).countP (bare B0) := List.countP_congr fun h hh => by
      have := eO h hh
      unfold bare
      rw [List.all_eq_true, List.all_eq_true]
      refine ⟨fun z q hq => ?_, fun z q hq => z q ((mB q).mp hq).2⟩
      by_cases c : q < other.length - 1
      · exact z q ((mB q).mpr ⟨c, hq⟩)
      · cases d : covB h q with
        | false => rfl
        | true => have := cov_lt.mp d; omega
    have up := weak (k := k + 1) nh (N := ts.length) (fun h hh => Nat.le_of_lt (hE h hh).2) (B.map fun q => 2 * q + 1)
    rw [pm.countP_eq, List.countP_append, List.countP_map, List.countP_map, List.length_map] at up
    have c1 : (holds other).countP (bare (B.map fun q => 2 * q + 1) ∘ upH) = (holds other).countP (bare B) := List.countP_congr fun h _ => by
      show bare (B.map fun q => 2 * q + 1) (upH h) = true ↔ _
      unfold bare
      rw [List.all_map]
      have : ∀ q, covB (upH h) (2 * q + 1) = covB h q := fun q => by
        rw [Bool.eq_iff_iff, cov_lt, cov_lt]
        show 2 * h.1 + 1 < 2 * q + 1 ∧ 2 * q + 1 < 2 * h.2 + 1 ↔ _
        omega
      rw [show ((fun q => !covB (upH h) q) ∘ fun q => 2 * q + 1) = fun q => !covB h q from funext fun q => by show (!covB (upH h) (2 * q + 1)) = _; rw [this]]
    have c2 : (List.range (other.length - 1)).countP (bare (B.map fun q => 2 * q + 1) ∘ xH) + B.length ≤ other.length - 1 := by
      have e1 : (List.range (other.length - 1)).countP (bare (B.map fun q => 2 * q + 1) ∘ xH) = (List.range (other.length - 1)).countP (fun j => !decide (j ∈ B)) := List.countP_congr fun j _ => by
        show bare (B.map fun q => 2 * q + 1) (xH j) = true ↔ _
        unfold bare
        rw [List.all_map, List.all_eq_true]
        have : ∀ q, covB (xH j) (2 * q + 1) = true ↔ q = j := fun q => by
          rw [cov_lt]
          show 2 * j < 2 * q + 1 ∧ 2 * q + 1 < 2 * j + 2 ↔ _
          omega
        constructor
        · intro z
          by_cases hj : j ∈ B
          · have y : (!covB (xH j) (2 * j + 1)) = true := z j hj
            rw [(this j).mpr rfl] at y
            cases y
          · simpa using hj
        · intro z q hq
          have hj : j ∉ B := by simpa using z
          show (!covB (xH j) (2 * q + 1)) = true
          cases c : covB (xH j) (2 * q + 1) with
          | false => rfl
          | true => exact absurd ((this q).mp c ▸ hq) hj
      have e2 : B.length ≤ (List.range (other.length - 1)).countP (fun j => decide (j ∈ B)) := by
        rw [List.countP_eq_length_filter]
        exact nodup_len nB fun q hq => List.mem_filter.mpr ⟨List.mem_range.mpr ((mB q).mp hq).1, decide_eq_true hq⟩
      have e3 := List.length_eq_countP_add_countP (fun j => decide (j ∈ B)) (l := List.range (other.length - 1))
      rw [List.length_range] at e3
      have e4 : (List.range (other.length - 1)).countP (fun j => !decide (j ∈ B)) = (List.range (other.length - 1)).countP (fun a => ¬ (decide (a ∈ B) = true)) := List.countP_congr fun j _ => by simp
      omega
    rw [c1, bB] at up
    have mul : (k + 1) * B.length = k * B.length + B.length := Nat.succ_mul k B.length
    have mul2 : k * B.length ≤ k * B0.length := Nat.mul_le_mul_left k lB
    show kc ts (k + 1) ≤ _
    have up' : kc ts (k + 1) ≤ (k + 1) * B.length + ((List.range (other.length - 1)).countP (bare (B.map fun q => 2 * q + 1) ∘ xH) + (holds other).countP (bare B0)) := up
    have eB : kc other k = k * B0.length + (holds other).countP (bare B0) := eB0
    omega
  · have nK := keep_nodup (k := k) nO other.length
    have lo := fit_le (k := k + 1) nh (N := ts.length) hE (K := (List.range (other.length - 1)).map xH ++ (keepTo k (holds other) other.length).map upH) (parts_nd nK) (fun h hh => by
      refine pm.mem_iff.mpr ?_
      rcases List.mem_append.mp hh with z | z
      · exact List.mem_append_left _ z
      · obtain ⟨g, hg, rfl⟩ := List.mem_map.mp z
        exact List.mem_append_right _ (List.mem_map.mpr ⟨g, (keep_in hg).1, rfl⟩)) fun q => by
      rw [List.countP_append, List.countP_map, List.countP_map]
      have fit := keep_fit (k := k) nO eO
      obtain ⟨p, hp⟩ : ∃ p, q = 2 * p ∨ q = 2 * p + 1 := ⟨q / 2, by omega⟩
      rcases hp with rfl | rfl
      · have a1 : (List.range (other.length - 1)).countP ((fun h => covB h (2 * p)) ∘ xH) = 0 := List.countP_eq_zero.mpr fun j _ z => by
          have := cov_lt.mp z
          have h1 : 2 * j < 2 * p := this.1
          have h2 : 2 * p < 2 * j + 2 := this.2
          omega
        have a2 := count3 (p := (fun h => covB h (2 * p)) ∘ upH) (a := fun h => covB h p) (b := fun h => decide (h.2 = p)) (c := fun _ => false) (xs := keepTo k (holds other) other.length) fun h hh => by
          have hl := (eO h (keep_in hh).1).1
          have e1 : ((fun h => covB h (2 * p)) ∘ upH) h = decide (h.1 < p ∧ p ≤ h.2) := by
            rw [Bool.eq_iff_iff, decide_eq_true_iff]
            show covB (upH h) (2 * p) = true ↔ _
            rw [cov_lt]
            show 2 * h.1 + 1 < 2 * p ∧ 2 * p < 2 * h.2 + 1 ↔ _
            omega
          have e2 : covB h p = decide (h.1 < p ∧ p < h.2) := by rw [Bool.eq_iff_iff, decide_eq_true_iff, cov_lt]
          rw [e1, e2]
          by_cases c1 : h.1 < p <;> by_cases c2 : p < h.2 <;> by_cases c3 : h.2 = p <;> simp [c1, c2, c3] <;> omega
        have a3 : (keepTo k (holds other) other.length).countP (fun h => decide (h.2 = p)) ≤ 1 := by
          rw [List.countP_eq_length_filter]
          have nd := nK.sublist (List.filter_sublist (p := fun h => decide (h.2 = p)))
          have al : ∀ a ∈ (keepTo k (holds other) other.length).filter (fun h => decide (h.2 = p)), ∀ b ∈ (keepTo k (holds other) other.length).filter (fun h => decide (h.2 = p)), a = b := fun a ha b hb => by
            obtain ⟨a1, a2⟩ := List.mem_filter.mp ha
            obtain ⟨b1, b2⟩ := List.mem_filter.mp hb
            exact end_uniq (keep_in a1).1 (keep_in b1).1 ((of_decide_eq_true a2).trans (of_decide_eq_true b2).symm)
          generalize (keepTo k (holds other) other.length).filter (fun h => decide (h.2 = p)) = l at nd al
          match l with
          | [] => exact Nat.zero_le _
          | [_] => exact Nat.le_refl _
          | a :: b :: r =>
            have := al a (.head _) b (.tail _ (.head _))
            rw [this] at nd
            exact absurd (.head _) (List.nodup_cons.mp nd).1
        have a4 := fit p
        have a5 : (keepTo k (holds other) other.length).countP (fun _ => false) = 0 := List.countP_eq_zero.mpr fun _ _ z => by cases z
        omega
      · have a1 : (List.range (other.length - 1)).countP ((fun h => covB h (2 * p + 1)) ∘ xH) ≤ 1 := by
          rw [List.countP_eq_length_filter]
          have := nodup_len ((List.nodup_range (n := other.length - 1)).sublist (List.filter_sublist (p := (fun h => covB h (2 * p + 1)) ∘ xH))) (ys := [p]) fun j hj => by
            have z := (List.mem_filter.mp hj).2
            have := cov_lt.mp z
            have h1 : 2 * j < 2 * p + 1 := this.1
            have h2 : 2 * p + 1 < 2 * j + 2 := this.2
            rw [List.mem_singleton]
            omega
          simpa using this
        have a2 : (keepTo k (holds other) other.length).countP ((fun h => covB h (2 * p + 1)) ∘ upH) = (keepTo k (holds other) other.length).countP (fun h => covB h p) := List.countP_congr fun h _ => by
          show covB (upH h) (2 * p + 1) = true ↔ _
          rw [cov_lt, cov_lt]
          show 2 * h.1 + 1 < 2 * p + 1 ∧ 2 * p + 1 < 2 * h.2 + 1 ↔ _
          omega
        have a4 := fit p
        omega
    rw [List.length_append, List.length_map, List.length_map, List.length_range] at lo
    exact lo
end Lg
/-! Long touches and their known fetches. -/
namespace Lg
def rgI (n : Nat) : List Int := (List.range n).map fun i : Nat => (i : Int)
def repI (m : Nat) (xs : List Int) : List Int := (List.replicate m xs).flatten
theorem rgI_len (n : Nat) : (rgI n).length = n := by unfold rgI; rw [List.length_map, List.length_range]
theorem rgI_at {n j : Nat} (h : j < n) : (rgI n)[j]? = some (j : Int) := by
  unfold rgI
  rw [List.getElem?_map, List.getElem?_range h]
  rfl
theorem rgI_mem {n : Nat} {c : Int} : c ∈ rgI n ↔ 0 ≤ c ∧ c < n := by
  unfold rgI
  rw [List.mem_map]
  constructor
  · rintro ⟨i, hi, rfl⟩
    have := List.mem_range.mp hi
    omega
  · rintro ⟨h1, h2⟩
    exact ⟨c.toNat, List.mem_range.mpr (by omega), by omega⟩
theorem rgI_nd (n : Nat) : (rgI n).Nodup := by
  unfold rgI
  refine List.Pairwise.map _ (fun a b (h : a ≠ b) => ?_) List.nodup_range
  omega
theorem repI_succ (m : Nat) (xs : List Int) : repI (m + 1) xs = xs ++ repI m xs := by
  unfold repI
  rw [List.replicate_succ, List.flatten_cons]
theorem repI_len (xs : List Int) : ∀ m, (repI m xs).length = m * xs.length
  | 0 => by simp [repI]
  | m + 1 => by rw [repI_succ, List.length_append, repI_len xs m, Nat.succ_mul, Nat.add_comm]
theorem repI_mem {m : Nat} {xs : List Int} {c : Int} (h : c ∈ repI m xs) : c ∈ xs := by
  unfold repI at h
  obtain ⟨l, hl, hc⟩ := List.mem_flatten.mp h
  rw [(List.mem_replicate.mp hl).2] at hc
  exact hc
theorem mem_repI {m : Nat} {xs : List Int} {c : Int} (hm : 1 ≤ m) (h : c ∈ xs) : c ∈ repI m xs := by
  obtain ⟨k, rfl⟩ : ∃ k, m = k + 1 := ⟨m - 1, by omega⟩
  rw [repI_succ]
  exact List.mem_append_left _ h
theorem repI_at {n : Nat} : ∀ {m j : Nat}, j < m * n → (repI m (rgI n))[j]? = some ((j % n : Nat) : Int)
  | 0, j, h => by rw [Nat.zero_mul] at h; omega
  | m + 1, j, h => by
    rw [repI_succ]
    rw [Nat.succ_mul] at h
    by_cases hj : j < n
    · rw [List.getElem?_append_left (by rw [rgI_len]; exact hj), rgI_at hj, Nat.mod_eq_of_lt hj]
    · rw [List.getElem?_append_right (by rw [rgI_len]; omega), rgI_len, repI_at (by omega)]
      congr 2
      rw [Nat.mod_eq_sub_mod (by omega : n ≤ j)]
/-- n cells in all -/
theorem cells_are {ts : List Int} {n : Nat} (h : ∀ c, c ∈ ts ↔ c ∈ rgI n) : cells ts = n := by
  have := len_same (uniq_nodup ts) (rgI_nd n) (fun k => uniq_mem.trans (h k))
  rw [rgI_len] at this
  exact this
theorem bel_cells {ts : List Int} {k : Nat} (h : cells ts ≤ k + 1) : bel ts (k + 1) = cells ts := by
  unfold bel
  rw [belTo_roomy h ts.length (Nat.le_refl _), List.take_length]
  rfl
theorem bel_roomy {ts : List Int} {r n : Nat} (h : ∀ c, c ∈ ts ↔ c ∈ rgI n) (h1 : 1 ≤ r) (h2 : n ≤ r) : bel ts r = n := by
  have e := cells_are h
  obtain ⟨k, rfl⟩ : ∃ k, r = k + 1 := ⟨r - 1, by omega⟩
  rw [bel_cells (by omega), e]
theorem bel_one {ts : List Int} (h : ts.length < 10 ^ 9) : bel ts 1 = chg ts ts.length := by
  have h1 := fewest_bel ts 0 h
  have h2 := room_one ts
  show bel ts (0 + 1) = _
  have h2' : chg ts ts.length + (keepTo 0 (holds ts) ts.length).length = ts.length := h2
  omega
theorem chg_le (ts : List Int) (i : Nat) : chg ts i ≤ i := by
  unfold chg
  have := List.countP_le_length (p := fun j => decide (j = 0 ∨ ts[j - 1]? ≠ ts[j]?)) (l := List.range i)
  rw [List.length_range] at this
  exact this
theorem chg_all {ts : List Int} (h : ∀ j, j + 1 < ts.length → ts[j]? ≠ ts[j + 1]?) : chg ts ts.length = ts.length := by
  unfold chg
  rw [List.countP_eq_length.mpr fun j hj => ?_, List.length_range]
  have hj := List.mem_range.mp hj
  refine decide_eq_true ?_
  by_cases h0 : j = 0
  · exact .inl h0
  · obtain ⟨i, rfl⟩ : ∃ i, j = i + 1 := ⟨j - 1, by omega⟩
    exact .inr (h i hj)
/-- what is drawn -/
structure LongOk (ts : List Int) (r : Nat) (kn : Option Nat) : Prop where
  one : 1 ≤ r
  few : r ≤ 41
  len : ts.length ≤ 400
  nat : ∀ c ∈ ts, 0 ≤ c ∧ c ≤ 30
  known : ∀ v, kn = some v → v = bel ts (min 40 r)
theorem rep_rg {m n : Nat} (hm : 1 ≤ m) : ∀ c, c ∈ repI m (rgI n) ↔ c ∈ rgI n := fun c => ⟨repI_mem, mem_repI hm⟩
theorem long0 {n m r : Nat} (h1 : 1 ≤ n) (h2 : n ≤ 30) (hm : 1 ≤ m) (hz : m * n ≤ 400) (hr : 1 ≤ r) (hr2 : r ≤ 40) {kn : Option Nat}
    (hk : ∀ v, kn = some v → (n ≤ r ∧ v = n) ∨ (r = 1 ∧ 1 < n ∧ v = n * m)) : LongOk (repI m (rgI n)) r kn := by
  have len : (repI m (rgI n)).length = m * n := by rw [repI_len, rgI_len]
  refine ⟨hr, by omega, by omega, fun c hc => ?_, fun v e => ?_⟩
  · have := rgI_mem.mp (repI_mem hc)
    omega
  · rw [show min 40 r = r by omega]
    rcases hk v e with ⟨a, rfl⟩ | ⟨rfl, a, rfl⟩
    · exact (bel_roomy (rep_rg hm) hr a).symm
    · rw [bel_one (by rw [len]; omega), chg_all, len, Nat.mul_comm]
      intro j hj
      rw [len] at hj
      rw [repI_at (by omega), repI_at hj]
      intro z
      have z := Option.some.inj z
      have z' : j % n = (j + 1) % n := by omega
      have b1 := Nat.mod_lt j (by omega : n > 0)
      by_cases c : j % n + 1 < n
      · have : (j + 1) % n = j % n + 1 := by rw [Nat.add_mod, Nat.mod_eq_of_lt a, Nat.mod_eq_of_lt c]
        omega
      · have e1 : j % n + 1 = n := by omega
        have : (j + 1) % n = 0 := by rw [Nat.add_mod, Nat.mod_eq_of_lt a, e1, Nat.mod_self]
        omega
theorem tb_rg (n : Nat) : ThereBack (rgI n ++ (rgI n).reverse) n := by
  refine ⟨by rw [List.length_append, List.length_reverse, rgI_len]; omega, fun j hj => ?_, fun j h1 h2 => ?_⟩
  · rw [List.getElem?_append_left (by rw [rgI_len]; exact hj), rgI_at hj]
  · rw [List.getElem?_append_right (by rw [rgI_len]; exact h1), rgI_len, List.getElem?_reverse (by rw [rgI_len]; omega), rgI_len, rgI_at (by omega)]
    congr 2
    omega
theorem mem_tb {n : Nat} : ∀ c, c ∈ rgI n ++ (rgI n).reverse ↔ c ∈ rgI n := fun c => by
  rw [List.mem_append, List.mem_reverse]
  exact ⟨fun h => h.elim id id, .inl⟩
theorem long1 {n r : Nat} (h1 : 1 ≤ n) (h2 : n ≤ 30) (hr : 1 ≤ r) (hr2 : r ≤ 40) : LongOk (rgI n ++ (rgI n).reverse) r (some (2 * n - min n r)) := by
  have T := tb_rg n
  refine ⟨hr, by omega, by rw [T.len]; omega, fun c hc => ?_, fun v e => ?_⟩
  · have := rgI_mem.mp ((mem_tb c).mp hc)
    omega
  · rw [show min 40 r = r by omega]
    obtain ⟨k, rfl⟩ : ∃ k, r = k + 1 := ⟨r - 1, by omega⟩
    have a := fewest_bel (rgI n ++ (rgI n).reverse) k (by rw [T.len]; omega)
    have b : (keepTo k (holds (rgI n ++ (rgI n).reverse)) (rgI n ++ (rgI n).reverse).length).length = min n (k + 1) := kc_back T k (by omega)
    rw [b, T.len] at a
    cases e
    omega
theorem long2 {n m r : Nat} (h1 : 1 ≤ n) (h2 : n ≤ 30) (hm : 1 ≤ m) (hz : m * (2 * n) ≤ 400) (hr : 1 ≤ r) (hr2 : r ≤ 40) {kn : Option Nat} (hk : ∀ v, kn = some v → n ≤ r ∧ v = n) : LongOk (repI m (rgI n ++ (rgI n).reverse)) r kn := by
  have T := tb_rg n
  refine ⟨hr, by omega, by rw [repI_len, T.len]; exact hz, fun c hc => ?_, fun v e => ?_⟩
  · have := rgI_mem.mp ((mem_tb c).mp (repI_mem hc))
    omega
  · rw [show min 40 r = r by omega]
    obtain ⟨a, rfl⟩ := hk v e
    exact (bel_roomy (fun c => ⟨fun h => (mem_tb c).mp (repI_mem h), fun h => mem_repI hm ((mem_tb c).mpr h)⟩) hr a).symm
theorem long3 {ts : List Int} {n r : Nat} (h2 : n ≤ 30) (hz : ts.length ≤ 400) (hr : 1 ≤ r) (hr2 : r ≤ 40) (h : ∀ c ∈ ts, 0 ≤ c ∧ c < n) : LongOk ts r none :=
  ⟨hr, by omega, hz, fun c hc => by have := h c hc; omega, fun v e => nomatch e⟩
/-! ### a cell between each two others -/
def btw (x : Int) (os : List Int) : List Int := os.flatMap fun c => [x, c]
theorem btw_cons (x c : Int) (os : List Int) : btw x (c :: os) = x :: c :: btw x os := rfl
theorem btw_len (x : Int) : ∀ os, (btw x os).length = 2 * os.length
  | [] => rfl
  | c :: os => by rw [btw_cons, List.length_cons, List.length_cons, btw_len x os, List.length_cons]; omega
theorem btw_ev (x : Int) : ∀ (os : List Int) (j : Nat), j < os.length → (btw x os)[2 * j]? = some x
  | [], j, h => by simp at h
  | c :: os, 0, h => rfl
  | c :: os, j + 1, h => by
    rw [btw_cons, show 2 * (j + 1) = 2 * j + 1 + 1 by omega, List.getElem?_cons_succ, List.getElem?_cons_succ]
    exact btw_ev x os j (by rw [List.length_cons] at h; omega)
theorem btw_od (x : Int) : ∀ (os : List Int) (j : Nat), j < os.length → (btw x os)[2 * j + 1]? = os[j]?
  | [], j, h => by simp at h
  | c :: os, 0, h => rfl
  | c :: os, j + 1, h => by
    rw [btw_cons, show 2 * (j + 1) + 1 = 2 * j + 1 + 1 + 1 by omega, List.getElem?_cons_succ, List.getElem?_cons_succ, List.getElem?_cons_succ]
    exact btw_od x os j (by rw [List.length_cons] at h; omega)
theorem btw_inter {x : Int} {os : List Int} (h : x ∉ os) : Inter (btw x os) os x := ⟨btw_len x os, btw_ev x os, btw_od x os, h⟩
theorem btw_mem {x c : Int} {os : List Int} (h : c ∈ btw x os) : c = x ∨ c ∈ os := by
  obtain ⟨d, hd, hc⟩ := List.mem_flatMap.mp h
  simp only [List.mem_cons, List.not_mem_nil, or_false] at hc
  rcases hc with rfl | rfl
  · exact .inl rfl
  · exact .inr hd
theorem btw_snoc (x c : Int) (os : List Int) : btw x (os ++ [c]) = btw x os ++ [x, c] := by
  unfold btw
  rw [List.flatMap_append]
  rfl
theorem bel_inter {os : List Int} {x : Int} (hx : x ∉ os) (k : Nat) (hm : 0 < os.length) (hz : os.length ≤ 1000) : bel (btw x os) (k + 2) = bel os (k + 1) + 1 := by
  have I := btw_inter hx
  have a := fewest_bel (btw x os) (k + 1) (by rw [btw_len]; omega)
  have b := fewest_bel os k (by omega)
  have c : (keepTo (k + 1) (holds (btw x os)) (btw x os).length).length = (os.length - 1) + (keepTo k (holds os) os.length).length := kc_inter I k hm
  rw [c, btw_len, show k + 1 + 1 = k + 2 from rfl] at a
  omega
theorem long4 {n m r : Nat} (h1 : 1 ≤ n) (h2 : n ≤ 30) (hm : 1 ≤ m) (hz : m * n ≤ 200) (hr : 1 ≤ r) (hr2 : r ≤ 40) : LongOk (btw n (repI m (rgI n))) (r + 1) (some (bel (repI m (rgI n)) r + 1)) := by
  have len : (repI m (rgI n)).length = m * n := by rw [repI_len, rgI_len]
  have nx : (n : Int) ∉ repI m (rgI n) := fun z => by
    have := rgI_mem.mp (repI_mem z)
    omega
  have pos : 0 < m * n := Nat.mul_pos (by omega) (by omega)
  refine ⟨by omega, by omega, by rw [btw_len, len]; omega, fun c hc => ?_, fun v e => ?_⟩
  · rcases btw_mem hc with rfl | hc
    · omega
    · have := rgI_mem.mp (repI_mem hc)
      omega
  · cases e
    obtain ⟨k, rfl⟩ : ∃ k, r = k + 1 := ⟨r - 1, by omega⟩
    by_cases c : k + 1 ≤ 39
    · rw [show min 40 (k + 1 + 1) = k + 2 by omega, bel_inter nx k (by omega) (by omega)]
    · obtain rfl : k = 39 := by omega
      show bel (repI m (rgI n)) (39 + 1) + 1 = bel (btw n (repI m (rgI n))) (38 + 2)
      rw [bel_inter nx 38 (by omega) (by omega), bel_roomy (rep_rg hm) (by omega) (by omega), bel_roomy (rep_rg hm) (by omega) (by omega)]
def dbl (os : List Int) : List Int := os.flatMap fun c => [c, c]
theorem dbl_snoc (c : Int) (os : List Int) : dbl (os ++ [c]) = dbl os ++ [c, c] := by
  unfold dbl
  rw [List.flatMap_append]
  rfl
theorem dbl_len : ∀ os : List Int, (dbl os).length = 2 * os.length
  | [] => rfl
  | c :: os => by
    show (c :: c :: dbl os).length = _
    rw [List.length_cons, List.length_cons, dbl_len os, List.length_cons]; omega
theorem dbl_mem {c : Int} {os : List Int} (h : c ∈ dbl os) : c ∈ os := by
  obtain ⟨d, hd, hc⟩ := List.mem_flatMap.mp h
  simp only [List.mem_cons, List.not_mem_nil, or_false] at hc
  rcases hc with rfl | rfl <;> exact hd
theorem long5 {n m : Nat} (h2 : n ≤ 30) (hz : m * (2 * n) ≤ 400) : LongOk (repI m (dbl (rgI n))) 1 none :=
  ⟨by omega, by omega, by rw [repI_len, dbl_len, rgI_len]; exact hz, fun c hc => by
    have := rgI_mem.mp (dbl_mem (repI_mem hc))
    omega, fun v e => nomatch e⟩
/-- the changes, counted as zip((-1,) + ts, ts) has them -/
theorem chg_succ {ts : List Int} {i : Nat} : chg ts (i + 1) = chg ts i + if i = 0 ∨ ts[i - 1]? ≠ ts[i]? then 1 else 0 := by
  unfold chg
  rw [List.range_succ, List.countP_append, List.countP_singleton]
  simp
theorem ahead {ts : List Int} {i : Nat} {a b : Int} (hn : ∀ c ∈ ts, 0 ≤ c) (h1 : ((-1 : Int) :: ts)[i]? = some a) (h2 : ts[i]? = some b) : (i = 0 ∨ ts[i - 1]? ≠ ts[i]?) ↔ a ≠ b := by
  cases i with
  | zero =>
    have e : a = -1 := (Option.some.inj h1).symm
    have := hn b (List.mem_of_getElem? h2)
    exact ⟨fun _ => by omega, fun _ => .inl rfl⟩
  | succ i =>
    rw [List.getElem?_cons_succ] at h1
    rw [Nat.add_sub_cancel, h1, h2]
    constructor
    · rintro (z | z)
      · omega
      · exact fun e => z (by rw [e])
    · exact fun z => .inr fun e => z (Option.some.inj e)
/-- the least room with no more than due fetches -/
theorem least_of {ts : List Int} {r : Nat} (hr : 1 ≤ r) (hz : ts.length < 10 ^ 9) : ∃ j, j < r ∧ bel ts (j + 1) ≤ bel ts r ∧ (∀ i, i < j → bel ts r < bel ts (i + 1)) ∧ leastRoom ts (bel ts r : Nat) = some (j + 1) := by
  have M := pgM
  obtain ⟨j, hj, h1, h2⟩ : ∃ j, j < r ∧ bel ts (j + 1) ≤ bel ts r ∧ ∀ i, i < j → bel ts r < bel ts (i + 1) := by
    have P : ∃ j, bel ts (j + 1) ≤ bel ts r := ⟨r - 1, by rw [Nat.sub_add_cancel hr]; exact Nat.le_refl _⟩
    classical
    have ⟨j, a, b⟩ : ∃ j, bel ts (j + 1) ≤ bel ts r ∧ ∀ i, i < j → ¬ bel ts (i + 1) ≤ bel ts r := by
      obtain ⟨n, hn⟩ := P
      induction n using Nat.strongRecOn with
      | _ n ih =>
        by_cases c : ∃ i, i < n ∧ bel ts (i + 1) ≤ bel ts r
        · obtain ⟨i, h1, h2⟩ := c
          exact ih i h1 h2
        · exact ⟨n, hn, fun i hi z => c ⟨i, hi, z⟩⟩
    refine ⟨j, ?_, a, fun i hi => Nat.lt_of_not_le (b i hi)⟩
    refine Classical.byContradiction fun z => ?_
    exact b (r - 1) (by omega) (by rw [Nat.sub_add_cancel hr]; exact Nat.le_refl _)
  refine ⟨j, hj, h1, h2, ?_⟩
  have eqF : ∀ k, fewest ts (k + 1) = (bel ts (k + 1) : Int) := fun k => M.eq ts k hz
  have inR : j < max 1 (cells ts) := by
    refine Classical.byContradiction fun z => ?_
    have lt : bel ts r < bel ts (max 1 (cells ts)) := by
      have := h2 (max 1 (cells ts) - 1) (by omega)
      rwa [Nat.sub_add_cancel (by omega)] at this
    obtain ⟨k, hk⟩ : ∃ k, max 1 (cells ts) = k + 1 := ⟨max 1 (cells ts) - 1, by omega⟩
    rw [hk, bel_cells (by omega)] at lt
    obtain ⟨q, rfl⟩ : ∃ q, r = q + 1 := ⟨r - 1, by omega⟩
    rw [bel_cells (by omega)] at lt
    omega
  unfold leastRoom
  have : (List.range (max 1 (cells ts))).find? (fun k => decide (fewest ts (k + 1) ≤ (bel ts r : Nat))) = some j := by
    rw [List.find?_eq_some_iff_getElem]
    refine ⟨decide_eq_true (by rw [eqF]; omega), j, by rw [List.length_range]; exact inR, List.getElem_range _, fun i hi => ?_⟩
    rw [List.getElem_range, eqF]
    have := h2 i hi
    simp only [Bool.not_eq_true', decide_eq_false_iff_not]
    omega
  rw [this]
  rfl
end Lg
/-! Ledgers: list(range(n)), is True. -/
namespace Lg
open PySem PySem.Spec PyProof.Rows L2
section
variable {K : PySem.W.Frag} {σ : L2.St} {L L' : List As} {Q : LK} {te : TE} {x y : V}
theorem rgV_rgI (n : Nat) : rgV 0 n = (rgI n).map V.int := by
  unfold rgV rgI
  rw [List.map_map, Int.sub_zero, Int.toNat_natCast]
  exact List.map_congr_left fun i _ => by
    show V.int (0 + (i : Int)) = V.int (i : Int)
    rw [Int.zero_add]
theorem wp_listRg (h : Wp K te σ L fun x L1 => ∃ n : Nat, x = .int (n : Int) ∧ n ≤ 16777216 ∧ ∀ p, Q (.ref p) (.ld p ((rgI n).map .int) :: L1)) : Wp K (tLstRg (tRg1 te)) σ L Q := fun H hs Q0 up =>
  h H hs _ fun x H1 L1 h1 ⟨n, e, hn, q⟩ => ⟨n, e, RgOk.of_le (by omega) (by omega) (by omega) (by omega), fun p hp => by
    obtain ⟨T, ht⟩ := id h1
    rw [rgV_rgI]
    exact up _ _ _ ⟨T, ht.lay (x := .ld p ((rgI n).map .int)) hp rfl ⟨_, upd_same, ints_dps _⟩⟩ (q p)⟩
theorem w2_isB {a b : Bool} (q : Q (.bl (decide (a = b))) L) : W2 K rIsB (.bl a) (.bl b) L Q := fun H hs Q0 u => ⟨a, b, rfl, rfl, u _ H L hs q⟩
end
end Lg
namespace K84
open PySem PySem.Spec PyProof.Rows L2 Lg
/-! short tactics of my own, under the word walk_at -/
local macro_rules | `(tactic| walk_at "mem") => `(tactic| first | exact List.Mem.head _ | assumption | (refine List.Mem.tail _ ?_; walk_at "mem"))
local macro_rules | `(tactic| walk_at "put") => `(tactic| first | exact Put.here | (apply Put.there; walk_at "put"))
local macro_rules | `(tactic| walk_at "pick") => `(tactic| first | exact Pick.here | (apply Pick.there; walk_at "pick"))
local macro_rules | `(tactic| walk_at "ent") => `(tactic| first | exact Ent.refl | exact Ent.nil | (refine Ent.cons (by walk_at "pick") ?_; walk_at "ent") | (refine Ent.dup (by walk_at "mem") ?_; walk_at "ent") | (refine Ent.drop ?_; walk_at "ent"))
local macro_rules | `(tactic| walk_at "dv") => `(tactic| first | exact Dv.int | exact Dv.bl | exact Dv.str | exact Dv.non | assumption | exact Dv.mem (by walk_at "mem"))
local macro_rules | `(tactic| walk_at "dvs") => `(tactic| first | exact Dvs.nil | (apply Dvs.cons; (focus walk_at "dv"); (focus walk_at "dvs")))
local macro_rules | `(tactic| walk_at "norm") => `(tactic| try dsimp only [cxK, noxK, wishK, blkK, baseK, noxB])
local macro_rules | `(tactic| walk_at "num") => `(tactic| first | decide | omega | (simp only [CMul, CPow, CDivN]; omega) | assumption)
local macro_rules | `(tactic| walk_at "one") => `(tactic| with_reducible first
  | refine wp_var rfl ?_ | refine wp_c ?_ | refine wp_op ?_ | refine wp_cb ?_ | refine wa_cons ?_ | refine wa_nil ?_
  | refine ws_seq ?_ | refine ws_asg ?_ | refine ws_drop ?_ | refine ws_ret ?_ | refine ws_if ?_ | refine ws_par ?_ | refine ws_par3 ?_
  | refine wp_un ?_ | refine wp_chain ?_ | refine wp_if ?_ | refine wp_andV ?_ | refine wp_orV ?_ | refine wp_notV ?_ | refine wp_cal ?_ | refine wp_sl ?_
  | refine wo_none ?_ | refine wo_some ?_
  | refine wt_test ?_ | refine wt_B ?_ | refine wt_yes ?_ | refine wt_and ?_ | refine wt_or ?_ | refine wt_not ?_
  | refine w2_mulI (by walk_at "num") ?_ | refine w2_I (by walk_at "num") ?_
  | refine w2_addI ?_ | refine w2_eqPI ?_ | refine w2_eqPS ?_ | refine w2_nePS ?_ | refine w2_nePI ?_ | refine w2_ltI ?_ | refine w2_I0 ?_ | refine w1_U ?_
  | refine wg_name ?_ | refine wgs_nil ?_ | refine wgs_cons ?_ | refine iteT ?_ | refine iteF ?_ | refine ⟨_, rfl, ?_⟩)
local macro_rules | `(tactic| walk_at "go") => `(tactic| repeat walk_at "one")
local macro_rules | `(tactic| walk_at "len") => `(tactic| (simp only [List.length_cons, List.length_nil]; decide))

abbrev s_law_long : Stmt := topS 42
abbrev n_law_long : List Str := ["deck", "n", "room", "way", "there", "rounds", "known", "some", "step", "other", "cell", "at"]
theorem sc_law_long : FnScope n_law_long ["deck"] (defScope s_law_long) := ⟨rfl, rfl, rfl, by decide +kernel, rfl, by decide +kernel, by decide +kernel⟩
section
variable {P : Program} {w : World} {K : PySem.W.Frag} {mg : Str → Option Value} {base : Heap}
def S_law_long (K : PySem.W.Frag) : SpL := fun vs L Q => ∃ a n L0, vs = [.ref a] ∧ Deck K L a n L0 ∧ n < 2 ^ 39 ∧ ∀ v ts r kn L', LongOk ts r kn → Deck K L' a (n + 6) (.da v (.tuple [.list (iD ts), .int (r : Nat), optD kn]) :: L0) → Q v L'
theorem iD_rep {m : Nat} {xs : List Int} : (List.replicate m (xs.map PyData.int)).flatten = iD (repI m xs) := by
  unfold repI iD
  rw [List.map_flatten, List.map_replicate]
def strI (m q n : Nat) : List Int := (List.range n).map fun j : Nat => (0 + (j : Int)) * (1 + (q : Int)) % (m : Int)
theorem strI_len {m q n : Nat} : (strI m q n).length = n := by unfold strI; rw [List.length_map, List.length_range]
theorem strI_succ {m q n : Nat} : strI m q (n + 1) = strI m q n ++ [(0 + (n : Int)) * (1 + (q : Int)) % (m : Int)] := by
  unfold strI
  rw [List.range_succ, List.map_append]
  rfl
theorem iD_app {xs ys : List Int} : iD (xs ++ ys) = iD xs ++ iD ys := List.map_append
theorem dv_opt {L : List As} {kn : Option Nat} : Dv K L (optV kn) (optD kn) := by
  cases kn with
  | none => exact Dv.non
  | some v => exact Dv.int
theorem ok_law_long {f : Addr} {fd : FuncData} (F : Fun K "_law_long" "_law_long" s_law_long f fd) (B : Bs mg) (c_law_draw : Cal P w K mg base "_law_draw" 1 ["deck", "many"] (S_law_draw K)) (c_law_pick : Cal P w K mg base "_law_pick" 2 ["deck", "some"] (S_law_pick K))
    (c_law_least : Cal P w K mg base "_law_least" 1 ["touches", "room"] (S_law_least K)) : FnOk P w K mg base CX0 3 f fd ["deck"] (spL K (S_law_long K)) := by
  refine okL F sc_law_long (fun vs L Q h => ?_) (fun cdv A outer s H E hr => ⟨_, (pss_cons (ps_asg (pe_tup (pa_cons (pe_op (opRK (K := K) (r := rAddP) op_addP) pe_int (pe_cal c_law_draw (hr.mono (by decide)) (by rfl) (pa_cons (pv 0) (pa_cons pe_int pa_nil)))) (pa_cons (pe_cal c_law_pick (hr.mono (by decide)) (by rfl) (pa_cons (pv 0) (pa_cons (pe_lst (pa_cons pe_int (pa_cons pe_int (pa_cons pe_int (pa_cons pe_int (pa_cons pe_int (pa_cons pe_int (pa_cons (pe_op (opRK (K := K) (r := rAddP) op_addP) pe_int (pe_cal c_law_draw (hr.mono (by decide)) (by rfl) (pa_cons (pv 0) (pa_cons pe_int pa_nil)))) pa_nil)))))))) pa_nil))) (pa_cons (pe_cal c_law_draw (hr.mono (by decide)) (by rfl) (pa_cons (pv 0) (pa_cons pe_int pa_nil))) pa_nil)))) (pg_tupK (K := K) (n := 3) rfl (pgs_cons (pg_name (i := 1) sc_law_long.nd rfl (Or.inr rfl)) (pgs_cons (pg_name (i := 2) sc_law_long.nd rfl (Or.inl rfl)) (pgs_cons (pg_name (i := 3) sc_law_long.nd rfl (Or.inl rfl)) pgs_nil)))))
      (pss_cons (ps_par (i := 4) (j := 5) (by rfl) sc_law_long.nd rfl rfl (by decide) rfl rfl (pa_cons (pe_listRg rfl (by rfl) B.list (prg_1 (by rfl) B.range (pv 1))) (pa_cons (pe_op (opRK (K := K) (r := rAddP) op_addP) pe_int (pe_cal c_law_draw (hr.mono (by decide)) (by rfl) (pa_cons (pv 0) (pa_cons (pe_op op_fdivN pe_int (pv 1)) pa_nil)))) pa_nil)) (by rfl))
      (pss_cons (ps_if (pt_cmpR (opRK (K := K) (r := rEqP) (op_eqP (hu64 hr))) (pv 3) pe_int (nomark _)) (pss_cons (ps_set (i := 6) sc_law_long.nd rfl (.inl rfl) (pe_ifExp (pt_cmpR op_ge (pv 2) (pv 1) (nomark _)) (pv 1) (pe_ifExp (PW.pt (pw_and (pt_cmpR (opRK (K := K) (r := rEqP) (op_eqP (hu64 hr))) (pv 2) pe_int (nomark _)) (pw_and1 (pt_cmpR op_gt (pv 1) pe_int (nomark _))))) (pe_op (opRK (K := K) (r := rMulP) op_mulP) (pv 1) (pv 5)) pe_non)))
      (pss_one (ps_ret (pe_tup (pa_cons (pe_op (opRK (K := K) (r := rMulP) op_mulP) (pv 4) (pv 5)) (pa_cons (pv 2) (pa_cons (pv 6) pa_nil))))))) pss_nil)
      (pss_cons (ps_if (pt_cmpR (opRK (K := K) (r := rEqP) (op_eqP (hu64 hr))) (pv 3) pe_int (nomark _)) (pss_one (ps_ret (pe_tup (pa_cons (pe_op (opRK (K := K) (r := rAddP) op_addP) (pv 4) (pe_revL (pv 4))) (pa_cons (pv 2) (pa_cons (pe_op op_sub (pe_op (opRK (K := K) (r := rMulP) op_mulP) pe_int (pv 1)) (pe_callB (call_min2P rfl) (by rfl) B.min (by decide +kernel) (pa_cons (pv 1) (pa_cons (pv 2) pa_nil)))) pa_nil)))))) pss_nil)
      (pss_cons (ps_if (pt_cmpR (opRK (K := K) (r := rEqP) (op_eqP (hu64 hr))) (pv 3) pe_int (nomark _)) (pss_cons (ps_set (i := 7) sc_law_long.nd rfl (.inl rfl) (pe_op (opRK (K := K) (r := rMulP) op_mulP) (pe_op (opRK (K := K) (r := rAddP) op_addP) (pv 4) (pe_revL (pv 4))) (pe_callB (call_max2P rfl) (by rfl) B.max (by decide +kernel) (pa_cons pe_int (pa_cons (pe_callB (call_min2P rfl) (by rfl) B.min (by decide +kernel) (pa_cons (pv 5) (pa_cons (pe_op op_fdivN pe_int (pv 1)) pa_nil))) pa_nil)))))
      (pss_one (ps_ret (pe_tup (pa_cons (pv 7) (pa_cons (pv 2) (pa_cons (pe_ifExp (pt_cmpR op_ge (pv 2) (pv 1) (nomark _)) (pv 1) pe_non) pa_nil))))))) pss_nil)
      (pss_cons (ps_if (pt_cmpR (opRK (K := K) (r := rEqP) (op_eqP (hu64 hr))) (pv 3) pe_int (nomark _)) (pss_cons (ps_set (i := 8) sc_law_long.nd rfl (.inr rfl) (pe_op (opRK (K := K) (r := rAddP) op_addP) pe_int (pe_cal c_law_draw (hr.mono (by decide)) (by rfl) (pa_cons (pv 0) (pa_cons pe_int pa_nil)))))
      (pss_one (ps_ret (pe_tup (pa_cons (pe_lc (own := [("at", 11)]) (g := gName 11) (tt := tYes) rfl sc_law_long.nd (pi_range1 rfl B.range (pa_cons (pe_op (opRK (K := K) (r := rMulP) op_mulP) (pv 5) (pv 1)) pa_nil)) (blkOk_by (N := n_law_long) (sc := defScope s_law_long) (by decide +kernel)) (fun _ _ _ _ _ => (pg_name (i := 11) sc_law_long.nd rfl (Or.inl rfl))) (fun _ _ _ _ _ => pts_nil) (fun _ _ _ _ _ => (pe_op op_mod (pe_op (opRK (K := K) (r := rMulP) op_mulP) (pv 11) (pv 8)) (pv 1)))) (pa_cons (pv 2) (pa_cons pe_non pa_nil))))))) pss_nil)
      (pss_cons (ps_if (pt_cmpR (opRK (K := K) (r := rEqP) (op_eqP (hu64 hr))) (pv 3) pe_int (nomark _)) (pss_cons (ps_par (i := 7) (j := 9) (by rfl) sc_law_long.nd rfl rfl (by decide) rfl rfl (pa_cons (pe_lst pa_nil) (pa_cons (pe_op (opRK (K := K) (r := rMulP) op_mulP) (pv 4) (pe_callB (call_max2P rfl) (by rfl) B.max (by decide +kernel) (pa_cons pe_int (pa_cons (pe_callB (call_min2P rfl) (by rfl) B.min (by decide +kernel) (pa_cons (pv 5) (pa_cons (pe_op op_fdivN pe_int (pv 1)) pa_nil))) pa_nil)))) pa_nil)) (by rfl))
      (pss_cons (ps_for PassesOwn.never rfl (pi_seqK (K := K) (pv 9)) (pg_name (i := 10) sc_law_long.nd rfl (Or.inl rfl)) (pss_one (ps_expr (pe_bm PySem.F.plainAttrs_list PySem.F.slot_list_extend PySem.F.type_list_extend mt_extend (pv 7) (pa_cons (pe_lst (pa_cons (pv 1) (pa_cons (pv 10) pa_nil))) pa_nil)))))
      (pss_one (ps_ret (pe_tup (pa_cons (pv 7) (pa_cons (pe_op (opRK (K := K) (r := rAddP) op_addP) (pv 2) pe_int) (pa_cons (pe_op (opRK (K := K) (r := rAddP) op_addP) (pe_cal c_law_least (hr.mono (by decide)) (by rfl) (pa_cons (pv 9) (pa_cons (pv 2) pa_nil))) pe_int) pa_nil)))))))) pss_nil)
      (pss_cons (ps_set (i := 7) sc_law_long.nd rfl (.inl rfl) (pe_lst pa_nil))
      (pss_cons (ps_for PassesOwn.never rfl (pi_seqK (K := K) (pv 4)) (pg_name (i := 10) sc_law_long.nd rfl (Or.inl rfl)) (pss_one (ps_expr (pe_bm PySem.F.plainAttrs_list PySem.F.slot_list_extend PySem.F.type_list_extend mt_extend (pv 7) (pa_cons (pe_lst (pa_cons (pv 10) (pa_cons (pv 10) pa_nil))) pa_nil)))))
      (pss_one (ps_ret (pe_tup (pa_cons (pe_op (opRK (K := K) (r := rMulP) op_mulP) (pv 7) (pe_callB (call_max2P rfl) (by rfl) B.max (by decide +kernel) (pa_cons pe_int (pa_cons (pe_callB (call_min2P rfl) (by rfl) B.min (by decide +kernel) (pa_cons (pv 5) (pa_cons (pe_op op_fdivN pe_int (pv 1)) pa_nil))) pa_nil)))) (pa_cons pe_int (pa_cons pe_non pa_nil))))))))))))))), fun vs L LQ h => ?_⟩)
  · obtain ⟨a, n, L0, rfl, _⟩ := h
    rfl
  · obtain ⟨a, n0, L0, rfl, hD, hn0, q⟩ := h
    walk_at "norm"
    refine ws_seq (ws_asgG ?_)
    refine wp_tupP ?_
    walk_at "go"
    refine ⟨a, _, n0, L0, rfl, by omega, by omega, hD, by omega, fun r1 L1 hr1 hD1 => ?_⟩
    walk_at "go"
    refine wp_lst ?_
    walk_at "go"
    refine ⟨a, _, _, L0, rfl, by omega, by omega, hD1, by omega, fun r2 L2 hr2 hD2 => ?_⟩
    walk_at "go"
    refine ⟨_, by walk_at "dvs", by walk_at "len", fun l1 => ?_⟩
    walk_at "go"
    refine ⟨a, _, _, _, _, rfl, hD2.cons, by omega, Sq.own (.head _), by simp, by walk_at "len", fun d v L4 L5 hd hD3 o => ?_⟩
    have hrm : ∃ r : Nat, 1 ≤ r ∧ r ≤ 40 ∧ d = .int (r : Nat) := by
      simp only [List.mem_cons, List.not_mem_nil, or_false] at hd
      rcases hd with h | h | h | h | h | h | h
      · exact ⟨1, by decide, by decide, h⟩
      · exact ⟨2, by decide, by decide, h⟩
      · exact ⟨3, by decide, by decide, h⟩
      · exact ⟨5, by decide, by decide, h⟩
      · exact ⟨8, by decide, by decide, h⟩
      · exact ⟨40, by decide, by decide, h⟩
      · exact ⟨r2 + 1, by omega, by omega, by rw [h]; congr 1; omega⟩
    obtain ⟨r, hr1, hr40, rfl⟩ := hrm
    obtain ⟨rfl, rfl⟩ := o
    walk_at "go"
    refine ⟨a, _, _, L0, rfl, by omega, by omega, hD3.post (Ent.drop Ent.refl), by omega, fun wy L6 hwy hD4 => ?_⟩
    walk_at "go"
    refine ⟨by walk_at "len", fun tp => ?_⟩
    refine wg_tupP (.head _) rfl ?_
    walk_at "go"
    obtain ⟨m, hm⟩ : ∃ m : Nat, m = r1 + 1 := ⟨_, rfl⟩
    rw [show (1 : Int) + (r1 : Int) = (m : Int) by omega]
    have hm1 : 1 ≤ m := by omega
    have hm30 : m ≤ 30 := by omega
    have hD5 : Deck K (.pt tp (.tup [.int (m : Int), .int (r : Int), .int (wy : Int)]) :: L6) a (n0 + 4) L0 := hD4.cons.post (Ent.drop Ent.refl)
    generalize (As.pt tp (.tup [.int (m : Int), .int (r : Int), .int (wy : Int)]) :: L6) = L7 at hD5
    -- there, rounds
    refine wp_listRg ?_
    walk_at "go"
    refine ⟨by omega, fun th => ?_⟩
    walk_at "go"
    have e400 : Int.fdiv 400 (m : Int) = ((400 / m : Nat) : Int) := by
      rw [Int.fdiv_eq_ediv_of_nonneg _ (by omega)]
      rfl
    have e200 : Int.fdiv 200 (m : Int) = ((200 / m : Nat) : Int) := by
      rw [Int.fdiv_eq_ediv_of_nonneg _ (by omega)]
      rfl
    have d400 : 1 ≤ 400 / m := (Nat.le_div_iff_mul_le (by omega)).mpr (by omega)
    have d200 : 1 ≤ 200 / m := (Nat.le_div_iff_mul_le (by omega)).mpr (by omega)
    have u400 : 400 / m ≤ 400 := Nat.div_le_self _ _
    rw [e400]
    refine ⟨a, _, _, .ld th ((rgI m).map .int) :: L0, rfl, by omega, by omega, hD5.cons, by omega, fun r4 L8 hr4 hD6 => ?_⟩
    walk_at "go"
    obtain ⟨b, hb⟩ : ∃ b : Nat, b = r4 + 1 := ⟨_, rfl⟩
    rw [show (1 : Int) + (r4 : Int) = (b : Int) by omega]
    have hb1 : 1 ≤ b := by omega
    have hbm : b * m ≤ 400 := Nat.le_trans (Nat.mul_le_mul_right m (by omega : b ≤ 400 / m)) (Nat.div_mul_le_self 400 m)
    obtain ⟨c, hc⟩ : ∃ c : Nat, c = max 1 (min b (200 / m)) := ⟨_, rfl⟩
    have hc1 : 1 ≤ c := by omega
    have hcm : c * m ≤ 200 := Nat.le_trans (Nat.mul_le_mul_right m (by omega : c ≤ 200 / m)) (Nat.div_mul_le_self 200 m)
    have hcz : max 1 (min (b : Int) ((200 / m : Nat) : Int)) = (c : Int) := by omega
    refine ⟨_, _, rfl, ?_⟩
    walk_at "go"
    refine iteR (fun h0 => ?_) fun h0 => ?_
    · obtain ⟨g, s0, t0, gs, ok, e9⟩ := hD6
      refine Ws.ent e9 ?_
      generalize hLL : (As.pt a (.dK (deckK g s0 t0)) :: As.ld g (gs.map .int) :: As.ld th ((rgI m).map .int) :: L0) = LL
      refine ws_cut (fun σ' L' => ∃ kn : Option Nat, (∀ v, kn = some v → (m ≤ r ∧ v = m) ∨ (r = 1 ∧ 1 < m ∧ v = m * b)) ∧ σ' = [some (.ref a), some (.int (m : Int)), some (.int (r : Int)), some (.int (wy : Int)), some (.ref th), some (.int (b : Int)), some (optV kn), none, none, none, none, none] ∧ L' = LL) ?_ ?_
      · walk_at "go"
        refine iteR (fun h1 => ?_) fun h1 => ?_
        · have h1' := of_decide_eq_true h1
          walk_at "go"
          exact ⟨some m, fun v e => .inl ⟨by omega, (Option.some.inj e).symm⟩, rfl, rfl⟩
        · walk_at "go"
          refine iteR (fun h2 => ?_) fun h2 => ?_
          · have h2' := of_decide_eq_true h2
            walk_at "go"
            refine iteR (fun h3 => ?_) fun h3 => ?_
            · have h3' := of_decide_eq_true h3
              walk_at "go"
              refine ⟨some (m * b), fun v e => .inr ⟨by omega, by omega, (Option.some.inj e).symm⟩, ?_, rfl⟩
              rw [← Int.natCast_mul]
              rfl
            · walk_at "go"
              exact ⟨none, fun v e => (nomatch e), rfl, rfl⟩
          · walk_at "go"
            exact ⟨none, fun v e => (nomatch e), rfl, rfl⟩
      · rintro σ' L' ⟨kn, hkn, rfl, rfl⟩
        subst hLL
        refine ws_ret (wp_tup ?_)
        walk_at "go"
        refine w2_mulL (by walk_at "mem") (by omega) (by omega) (by rw [Int.toNat_natCast, List.length_map, rgI_len, sizeLine_eq, Nat.mul_comm]; omega) fun p => ?_
        rw [Int.toNat_natCast, iD_rep]
        refine Wa.freeze ?_
        walk_at "go"
        refine ⟨[.list (iD (repI b (rgI m))), .int (r : Nat), optD kn], Dvs.cons (Dv.mem (.head _)) (Dvs.cons Dv.int (Dvs.cons dv_opt Dvs.nil)), by walk_at "len", fun t => ?_⟩
        exact ⟨_, Ent.refl, q _ _ _ _ _ (long0 hm1 hm30 hb1 hbm hr1 hr40 hkn) ((Deck.here ok (by walk_at "ent")).le (by omega))⟩
    refine ws_next ?_
    walk_at "go"
    refine iteR (fun h1 => ?_) fun h1 => ?_
    · obtain ⟨g, s0, t0, gs, ok, e9⟩ := hD6
      refine Ws.ent e9 ?_
      refine ws_ret (wp_tup ?_)
      walk_at "go"
      refine wp_revL ?_
      walk_at "go"
      refine ⟨_, Ls.own (by walk_at "mem"), fun p2 => ?_⟩
      refine w2_addL (ds := (rgI m).map .int) (by walk_at "mem") (.head _) (by rw [List.length_reverse, List.length_map, rgI_len, sizeLine_eq]; omega) fun p => ?_
      rw [← List.map_reverse, ← List.map_append]
      refine Wa.freeze ?_
      walk_at "go"
      refine wc_min2 ?_
      walk_at "go"
      rw [show (2 : Int) * (m : Int) - min (m : Int) (r : Int) = ((2 * m - min m r : Nat) : Int) by omega]
      refine ⟨[.list (iD (rgI m ++ (rgI m).reverse)), .int (r : Nat), optD (some (2 * m - min m r))], Dvs.cons (Dv.mem (.head _)) (Dvs.cons Dv.int (Dvs.cons Dv.int Dvs.nil)), by walk_at "len", fun t => ?_⟩
      exact ⟨_, Ent.refl, q _ _ _ _ _ (long1 hm1 hm30 hr1 hr40) ((Deck.here ok (by walk_at "ent")).le (by omega))⟩
    refine ws_next ?_
    walk_at "go"
    have e2m : (rgI m ++ (rgI m).reverse).length = 2 * m := (tb_rg m).len
    refine iteR (fun h2 => ?_) fun h2 => ?_
    · obtain ⟨g, s0, t0, gs, ok, e9⟩ := hD6
      refine Ws.ent e9 ?_
      walk_at "go"
      refine wp_revL ?_
      walk_at "go"
      refine ⟨_, Ls.own (by walk_at "mem"), fun p2 => ?_⟩
      refine w2_addL (ds := (rgI m).map .int) (by walk_at "mem") (.head _) (by rw [List.length_reverse, List.length_map, rgI_len, sizeLine_eq]; omega) fun p3 => ?_
      rw [← List.map_reverse, ← List.map_append]
      walk_at "go"
      rw [e200]
      refine wc_min2 ?_
      walk_at "go"
      refine wc_max2 ?_
      rw [hcz]
      refine w2_mulL (.head _) (by omega) (by omega) (by rw [Int.toNat_natCast, List.length_map, e2m, sizeLine_eq, show 2 * m * c = 2 * (c * m) by rw [Nat.mul_assoc, Nat.mul_comm m c]]; omega) fun p => ?_
      rw [Int.toNat_natCast, iD_rep]
      walk_at "go"
      have hz2 : c * (2 * m) ≤ 400 := by rw [Nat.mul_left_comm]; omega
      have fin : ∀ {L9 : List As} {kn : Option Nat}, (∀ v, kn = some v → m ≤ r ∧ v = m) → Ent K L9 (.pt a (.dK (deckK g s0 t0)) :: .ld g (gs.map .int) :: .da (.ref p) (.list (iD (repI c (rgI m ++ (rgI m).reverse)))) :: L0) → ∃ ds, Dvs K L9 [.ref p, .int (r : Int), optV kn] ds ∧ [V.ref p, .int (r : Int), optV kn].length ≤ sizeLine ∧ ∀ t, RetE K LQ (.ref t) (.da (.ref t) (.tuple ds) :: L9) := fun hk e =>
        ⟨[.list (iD (repI c (rgI m ++ (rgI m).reverse))), .int (r : Nat), optD _], Dvs.cons (Ent.dv e (Dv.mem (.tail _ (.tail _ (.head _))))) (Dvs.cons Dv.int (Dvs.cons dv_opt Dvs.nil)), by walk_at "len", fun t => ⟨_, Ent.refl, q _ _ _ _ _ (long2 hm1 hm30 hc1 hz2 hr1 hr40 hk) ((Deck.here ok (Ent.trans (Ent.tailE e) (by walk_at "ent"))).le (by omega))⟩⟩
      refine Wp.freeze (wp_tup ?_)
      walk_at "go"
      refine iteR (fun h3 => ?_) fun h3 => ?_
      · have h3' := of_decide_eq_true h3
        walk_at "go"
        exact fin (kn := some m) (fun v e => ⟨by omega, (Option.some.inj e).symm⟩) (by walk_at "ent")
      · walk_at "go"
        exact fin (kn := none) (fun v e => (nomatch e)) (by walk_at "ent")
    refine ws_next ?_
    walk_at "go"
    refine iteR (fun h3 => ?_) fun h3 => ?_
    · walk_at "go"
      refine ⟨a, _, _, _, rfl, by omega, by omega, hD6, by omega, fun r5 L9 hr5 hD7 => ?_⟩
      walk_at "go"
      obtain ⟨g, s0, t0, gs, ok, e9⟩ := hD7
      refine Wp.ent e9 ?_
      refine wp_tup ?_
      walk_at "go"
      refine wp_lc (wi_range1 ?_)
      walk_at "go"
      rw [← Int.natCast_mul]
      generalize hLL : (As.pt a (.dK (deckK g s0 t0)) :: As.ld g (gs.map .int) :: As.ld th ((rgI m).map .int) :: L0) = LL
      refine ⟨by omega, by omega, fun i acc L' => L' = LL ∧ acc = iD (strI m r5 i), ⟨rfl, rfl⟩, fun _ _ _ _ _ _ => trivial, ?_, ?_⟩
      · rintro i acc L' v L2 D hi ⟨rfl, rfl⟩ ⟨rfl, rfl⟩
        rw [Int.toNat_natCast] at hi
        refine wg_name ⟨rfl, wt_yes (iteT ?_)⟩
        walk_at "go"
        refine ⟨_, _, Dv.int, Ent.refl, ?_, rfl, ?_⟩
        · rw [List.length_map, strI_len, sizeLine_eq]; omega
        · rw [strI_succ, iD, iD, List.map_append]
          rfl
      · rintro acc L' D ⟨rfl, rfl⟩
        subst hLL
        rw [Int.toNat_natCast]
        refine Wa.freeze ?_
        walk_at "go"
        refine ⟨[.list (iD (strI m r5 (b * m))), .int (r : Nat), optD none], Dvs.cons (Dv.mem (.head _)) (Dvs.cons Dv.int (Dvs.cons Dv.non Dvs.nil)), by walk_at "len", fun t => ?_⟩
        refine ⟨_, Ent.refl, q _ (strI m r5 (b * m)) r none _ (long3 (n := m) hm30 (by rw [strI_len]; exact hbm) hr1 hr40 fun c hc => ?_) ((Deck.here ok (by walk_at "ent")).le (by omega))⟩
        obtain ⟨j, _, rfl⟩ := List.mem_map.mp hc
        exact ⟨Int.emod_nonneg _ (by omega), Int.emod_lt_of_pos _ (by omega)⟩
    refine ws_next ?_
    walk_at "go"
    obtain ⟨g, s0, t0, gs, ok, e9⟩ := hD6
    refine iteR (fun h4 => ?_) fun h4 => ?_
    · refine Ws.ent e9 ?_
      walk_at "go"
      refine wp_lst ?_
      walk_at "go"
      refine ⟨[], Dvs.nil, by walk_at "len", fun so => ?_⟩
      walk_at "go"
      rw [e200]
      refine wc_min2 ?_
      walk_at "go"
      refine wc_max2 ?_
      rw [hcz]
      refine w2_mulL (ds := (rgI m).map .int) (by walk_at "mem") (by omega) (by omega) (by rw [Int.toNat_natCast, List.length_map, rgI_len, sizeLine_eq, Nat.mul_comm]; omega) fun ot => ?_
      rw [Int.toNat_natCast, iD_rep]
      obtain ⟨os, hos⟩ : ∃ os, os = repI c (rgI m) := ⟨_, rfl⟩
      rw [← hos]
      have los : os.length = c * m := by rw [hos, repI_len, rgI_len]
      walk_at "go"
      refine ⟨_, _, rfl, ?_⟩
      walk_at "go"
      refine ws_for (wi_seqL ?_)
      walk_at "go"
      refine ⟨iD os, Ls.own (.head _), fun i σ L' => ∃ o10, σ = [some (.ref a), some (.int (m : Int)), some (.int (r : Int)), some (.int (wy : Int)), some (.ref th), some (.int (b : Int)), none, some (.ref so), none, some (.ref ot), o10, none] ∧ Ent K L' (.ld so (iD (btw m (os.take i))) :: .ld ot (iD os) :: .pt a (.dK (deckK g s0 t0)) :: .ld g (gs.map .int) :: L0), ?_, ?_, ?_, ?_⟩
      · exact ⟨none, rfl, by walk_at "ent"⟩
      · rintro i σ L' hi ⟨o10, rfl, e⟩
        exact Ls.ent e (Ls.own (.tail _ (.head _)))
      · rintro i σ L9 v L10 hi ⟨o10, rfl, e⟩ ⟨d, ed, od⟩
        obtain ⟨x, hx, rfl⟩ := iD_at ed
        obtain ⟨rfl, rfl⟩ := od
        refine wg_name ?_
        refine Ws.ent e ?_
        walk_at "go"
        refine wp_bm ?_
        walk_at "go"
        refine ⟨tyL_ld (.head _), ?_⟩
        walk_at "go"
        refine wp_lst ?_
        walk_at "go"
        refine ⟨[.int (m : Int), .int x], by walk_at "dvs", by walk_at "len", fun z => ?_⟩
        walk_at "go"
        refine wm_extend (by walk_at "put") (.head _) ?_ ?_
        · rw [List.length_map, btw_len, List.length_take, sizeLine_eq]
          show 2 * min i os.length + 2 ≤ _
          omega
        · refine ⟨_, Ent.refl, some _, rfl, ?_⟩
          rw [List.take_add_one, hx, show os.take i ++ (some x).toList = os.take i ++ [x] from rfl, btw_snoc, iD_app]
          walk_at "ent"
      · rintro σ L9 ⟨o10, rfl, e⟩
        rw [show os.take (iD os).length = os by rw [iD, List.length_map]; exact List.take_length] at e
        refine Ws.ent e ?_
        refine Ws.freeze (ws_ret (wp_tup ?_))
        walk_at "go"
        refine ⟨true, .ref ot, os, r, rfl, .inl ⟨rfl, Ls.own (by walk_at "mem")⟩, by omega, hr1, ?_⟩
        walk_at "go"
        rw [show (r : Int) + 1 = ((r + 1 : Nat) : Int) by omega, show ((bel os r : Nat) : Int) + 1 = ((bel os r + 1 : Nat) : Int) by omega]
        refine ⟨[.list (iD (btw m os)), .int (r + 1 : Nat), optD (some (bel os r + 1))], Dvs.cons (Dv.mem (.head _)) (Dvs.cons Dv.int (Dvs.cons Dv.int Dvs.nil)), by walk_at "len", fun t => ?_⟩
        refine ⟨_, Ent.refl, q _ (btw m os) (r + 1) (some (bel os r + 1)) _ ?_ ((Deck.here ok (by walk_at "ent")).le (by omega))⟩
        rw [hos]
        exact long4 hm1 hm30 hc1 hcm hr1 hr40
    refine ws_next ?_
    refine Ws.ent e9 ?_
    walk_at "go"
    refine wp_lst ?_
    walk_at "go"
    refine ⟨[], Dvs.nil, by walk_at "len", fun so => ?_⟩
    walk_at "go"
    refine ws_for (wi_seqL ?_)
    walk_at "go"
    refine ⟨iD (rgI m), Ls.own (by walk_at "mem"), fun i σ L' => ∃ o10, σ = [some (.ref a), some (.int (m : Int)), some (.int (r : Int)), some (.int (wy : Int)), some (.ref th), some (.int (b : Int)), none, some (.ref so), none, none, o10, none] ∧ Ent K L' (.ld so (iD (dbl ((rgI m).take i))) :: .ld th (iD (rgI m)) :: .pt a (.dK (deckK g s0 t0)) :: .ld g (gs.map .int) :: L0), ?_, ?_, ?_, ?_⟩
    · exact ⟨none, rfl, by walk_at "ent"⟩
    · rintro i σ L' hi ⟨o10, rfl, e⟩
      exact Ls.ent e (Ls.own (.tail _ (.head _)))
    · rintro i σ L9 v L10 hi ⟨o10, rfl, e⟩ ⟨d, ed, od⟩
      obtain ⟨x, hx, rfl⟩ := iD_at ed
      obtain ⟨rfl, rfl⟩ := od
      refine wg_name ?_
      refine Ws.ent e ?_
      walk_at "go"
      refine wp_bm ?_
      walk_at "go"
      refine ⟨tyL_ld (.head _), ?_⟩
      walk_at "go"
      refine wp_lst ?_
      walk_at "go"
      refine ⟨[.int x, .int x], by walk_at "dvs", by walk_at "len", fun z => ?_⟩
      walk_at "go"
      refine wm_extend (by walk_at "put") (.head _) ?_ ?_
      · rw [List.length_map, dbl_len, List.length_take, rgI_len, sizeLine_eq]
        show 2 * min i m + 2 ≤ _
        omega
      · refine ⟨_, Ent.refl, some _, rfl, ?_⟩
        rw [List.take_add_one, hx, show (rgI m).take i ++ (some x).toList = (rgI m).take i ++ [x] from rfl, dbl_snoc, iD_app]
        walk_at "ent"
    · rintro σ L9 ⟨o10, rfl, e⟩
      rw [show (rgI m).take (iD (rgI m)).length = rgI m by rw [iD, List.length_map]; exact List.take_length] at e
      refine Ws.ent e ?_
      refine ws_ret (wp_tup ?_)
      walk_at "go"
      rw [e200]
      refine wc_min2 ?_
      walk_at "go"
      refine wc_max2 ?_
      rw [hcz]
      have hz2 : c * (2 * m) ≤ 400 := by rw [Nat.mul_left_comm]; omega
      refine w2_mulL (.head _) (by omega) (by omega) (by rw [Int.toNat_natCast, List.length_map, dbl_len, rgI_len, sizeLine_eq, Nat.mul_comm]; omega) fun p => ?_
      rw [Int.toNat_natCast, iD_rep]
      refine Wa.freeze ?_
      walk_at "go"
      refine ⟨[.list (iD (repI c (dbl (rgI m)))), .int (1 : Nat), optD none], Dvs.cons (Dv.mem (.head _)) (Dvs.cons Dv.int (Dvs.cons Dv.non Dvs.nil)), by walk_at "len", fun t => ?_⟩
      exact ⟨_, Ent.refl, q _ (repI c (dbl (rgI m))) 1 none _ (long5 hm30 hz2) ((Deck.here ok (by walk_at "ent")).le (by omega))⟩
end
end K84
/-! {k: v for ..} where the keys are tuples. -/
namespace Lg
open PySem PySem.Spec PyProof.Rows L2
section
variable {X : Cx}
/-- the parts of such a comprehension, in its block -/
structure DcParts (X : Cx) (scope : Scope) (kx vx tg : Expr) (ifs : List Expr) (g : TG) (tt : TT) (tk tv : TE) : Prop where
  g : ∀ (s : Shared) (H : Hp) (C : Addr) (cl : List (Str × Addr)) (fp : List Addr), PG (X.blk s H scope (compEnvC scope cl C X.env) fp) tg g
  t : ∀ (s : Shared) (H : Hp) (C : Addr) (cl : List (Str × Addr)) (fp : List Addr), PTs (X.blk s H scope (compEnvC scope cl C X.env) fp) ifs tt
  k : ∀ (s : Shared) (H : Hp) (C : Addr) (cl : List (Str × Addr)) (fp : List Addr), PE (X.blk s H scope (compEnvC scope cl C X.env) fp) kx tk
  v : ∀ (s : Shared) (H : Hp) (C : Addr) (cl : List (Str × Addr)) (fp : List Addr), PE (X.blk s H scope (compEnvC scope cl C X.env) fp) vx tv
def tDcT (wi : TI) (g : TG) (tt : TT) (tk tv : TE) (vs : List Nat) : TE := fun σ H Q => wi σ H fun J H1 => ∀ D, H1 D = none → ∃ W : Nat → Nat → Hp → Prop, (∃ m, W 0 m (upd H1 D (.dT []))) ∧ ∀ i m H, W i m H →
  (J.stop i H ∧ Q (.ref D) H) ∨ (J.go i H ∧ ∃ Nx : Hp → Prop, (∀ H', Nx H' → ∃ m', m' < m ∧ W (i + 1) m' H') ∧ ∀ x H', J.yld i H x H' → g x (wipe σ vs) H' fun σ2 H2 => wipe σ2 vs = wipe σ vs ∧ tt σ2 H2 fun b H3 =>
    if b = true then tk σ2 H3 fun y H4 => tv σ2 H4 fun z H5 => ∃ kvs ks kb, y = .ref kb ∧ H5 kb = some (.tup (ks.map kV)) ∧ H5 D = some (.dT kvs) ∧ kvs.length < sizeLine ∧ Nx (upd H5 D (.dT (putK kvs ks z))) else Nx H3)
theorem d_dictSetT {pins : List (Addr × Obj)} {σ : L2.St} {H : Hp} {s : Shared} {E : Value → Shared → Prop} {D kb : Addr} {kvs : List (List Key × V)} {ks : List Key} {v : V} {r : Value} {Q : Unit → Shared → Prop} (hu : X.A.units + 1 < cLine) (I : Inv X pins σ H s) (hD : H D = some (.dT kvs)) (hk : H kb = some (.tup (ks.map kV)))
    (hz : kvs.length < sizeLine) (rv : RelV v r) (h : ∀ s', Inv X pins σ (upd H D (.dT (putK kvs ks v))) s' → Q () s') : wpAny (model X.prog X.w) X.A (dictSet D (.ref kb) r) Q E s := by
  obtain ⟨z, hd, xs, rel, dd⟩ := dt_of I.hok hD
  have hx : xs.length ≤ sizeLine := by rw [← Paired.length rel]; exact z
  have hl : (putK kvs ks v).length ≤ sizeLine := Nat.le_trans (length_putK kvs ks v) hz
  refine wpAny_dictSet_heap (hsz := hx) (by show X.A.units < cLine; omega) (key_of I.hok hk) dd fun h' dd' hs => h _ ?_
  obtain ⟨o, es, ep, g1, g2, g3, g4, _, g6⟩ := dd'
  refine d_write I (by rw [hD]; exact True.intro) hs ⟨o, g1⟩ ⟨hl, hd, _, (rel.put ks hk rv).keeps fun c ys ec => ?_, o, es, ep, g1, g2, g3, g4, g6⟩
  rw [upd_ne (ne_of ec hD (fun z => nomatch z))]; exact ec
theorem dcT_core {pins : List (Addr × Obj)} {s : Shared} {σ : L2.St} {H : Hp} {Q : VK} {kx vx tg iter : Expr} {ifs : List Expr} {scope : Scope} {own : List (Str × Nat)} {pos pos' : Pos} {wi : TI} {g : TG} {tt : TT} {tk tv : TE} {use : Option (Value → Sem Unit)} {Qf : Value → Shared → Prop}
    (hu : X.A.units + 1 < cLine) (hc : X.calm = true) (hN : X.N.Nodup) (I : Inv X pins σ H s) (hi : PI X tg iter wi) (ok : BlkOk X.N X.env.scope scope own) (pts : DcParts X scope kx vx tg ifs g tt tk tv) (hs : ∀ x, foldedSetIterable iter X.env x = pure x) (h : tDcT wi g tt tk tv (own.map (·.2)) σ H Q)
    (hRR : ∀ D C s' m H', Inv X pins σ H' s' → Q (.ref D) H' → s'.heap.Ns C m → FpOk X pins H' C → compPost (model X.prog X.w) X.A X.xe use Qf (.ref D) C (.ok .next) s') :
    wpAny (model X.prog X.w) X.A (comprehension (.DictComp kx vx [⟨tg, iter, ifs, 0⟩] scope pos) scope X.env pos' newDict false (eval iter X.env) use) Qf X.xe s := by
  have hfree : ∀ y ∈ scope.names, y.2 = .free → ∃ c, X.env.cells.lookup y.1 = some c := fun y hy e => (ok.free y hy e).elim (fun k => I.ok.has _ (.inl k)) fun k => I.ok.has _ (.inr k)
  refine wpAny_comprehension_free (use := use) rfl hs (closure_ok hfree) ok.kind (fun y hy e => by rw [ok.uniq y hy, e]) (thn (hi.run pins s σ H _ I h) fun xv s1 hx => thn hx fun itv s2 h2 => ?_)
  obtain ⟨it, fp, tn, J, H2, e, I2, T, st2, f2, q⟩ := h2
  subst e; refine wpAny_newObj_type (newEnv_comp ?_)
  generalize hD : s2.heap.objs.size = D
  obtain ⟨W, ⟨m0, w0⟩, turn⟩ := q D (I2.hok.fresh (Nat.le_of_eq hD))
  generalize hs3 : ({ s2 with heap := s2.heap.push { cls := .type "dict", data := .dict #[] } } : Shared) = s3
  have h3 : s3.heap = s2.heap.push { cls := .type "dict", data := .dict #[] } := by rw [← hs3]
  have I3 : Inv X pins σ (upd H2 D (.dT [])) s3 := by
    rw [← hs3]
    refine I2.laid (t' := s2.toks) (fun b o e => Heap.get?_push_of_some _ e) (Nat.le_of_eq hD) ?_
    rw [← hD]; exact dt_empty s2.heap I2.big
  have sz : ∀ b ∈ fp, b < s2.heap.objs.size := fun b hb => let ⟨o, e, _⟩ := T.obj _ _ st2 b hb; Heap.lt_size e
  have f3 : ∀ b ∈ fp, FpOk X pins (upd H2 D (.dT [])) b ∧ b < s3.heap.objs.size := fun b hb => by
    refine ⟨⟨?_, (f2 b hb).2⟩, by rw [h3, Heap.size_push]; exact Nat.lt_succ_of_lt (sz b hb)⟩
    rw [upd_ne (by rw [← hD]; exact Nat.ne_of_lt (sz b hb))]; exact (f2 b hb).1
  have st3 : tn 0 s3.heap := T.keep _ _ _ st2 fun b _ o e => by rw [h3]; exact Heap.get?_push_of_some _ e
  have I4 := block_start I3 ok hN f3
  generalize hcl : cellsFrom (s3.heap.objs.size + 1) scope.names (cloFrom X.env.cells scope.names []) = cl at I4
  have pg := pts.g s3 (upd H2 D (.dT [])) s3.heap.objs.size cl fp
  have pt := pts.t s3 (upd H2 D (.dT [])) s3.heap.objs.size cl fp
  have pk := pts.k s3 (upd H2 D (.dT [])) s3.heap.objs.size cl fp
  have pe := pts.v s3 (upd H2 D (.dT [])) s3.heap.objs.size cl fp
  show codeAny _ _ (.compStart (.DictComp kx vx [⟨tg, iter, ifs, 0⟩] scope pos) 0 (.ref it) (.ref D) (compEnvC scope cl s3.heap.objs.size X.env)) (compPost (model X.prog X.w) X.A X.xe use Qf (.ref D) s3.heap.objs.size) { s3 with heap := pushCells (s3.heap.push { cls := .type "dict", data := .dict #[] }) scope.names }
  have nfp : ∀ b ∈ fp, (upd H2 D (.dT [])) b = none := fun b hb => (f3 b hb).1.1
  generalize hce : compEnvC scope cl s3.heap.objs.size X.env = ce at I4 pg pt pk pe ⊢
  have cL : ce.locals = s3.heap.objs.size := by subst hce; rfl
  generalize hH3 : upd H2 D (.dT []) = H3 at I3 I4 pg pt pk pe w0 nfp f3
  generalize hs4 : ({ s3 with heap := pushCells (s3.heap.push { cls := .type "dict", data := .dict #[] }) scope.names } : Shared) = s4 at I4 ⊢
  have st4 : tn 0 s4.heap := T.keep _ _ _ st3 fun b _ o e => by rw [← hs4]; exact pushCells_keeps _ _ _ _ (Heap.get?_push_of_some _ e)
  have stat : ∀ {σ' : L2.St} {H' : Hp} {s' : Shared}, Inv (X.blk s3 H3 scope ce fp) [] σ' H' s' → (∀ b ∈ fp, H' b = none) → ∀ b ∈ fp, FpOk (X.blk s3 H3 scope ce fp) [] H' b := fun {σ' H' s'} I' hn b hb =>
    ⟨hn b hb, (I'.ok.exf b hb).1, I'.ok.exfs b hb, .inl hb, fun x c e => (I'.ok.exf b hb).2 x c e, fun p hp => absurd (show p ∈ ([] : List (Addr × Obj)) ++ [] from hp) (by simp)⟩
  have loop : codeAny (model X.prog X.w) X.A (.compLoop (.DictComp kx vx [⟨tg, iter, ifs, 0⟩] scope pos) 0 (.ref it) (.ref D) ce) (compPost (model X.prog X.w) X.A X.xe use Qf (.ref D) s3.heap.objs.size) s4 := by
    refine compLoop_anyD (fun n s' => ∃ i H', Inv (X.blk s3 H3 scope ce fp) [] (wipe σ (own.map (·.2))) H' s' ∧ tn i s'.heap ∧ (∀ b ∈ fp, H' b = none) ∧ W i n H') ?_ m0 ⟨0, H3, I4, st4, nfp, w0⟩
    rintro n s5 ⟨i, H5, I5, st5, n5, w5⟩
    rcases turn i n H5 w5 with ⟨stop, qq⟩ | ⟨go, Nx, hNx, step⟩
    · refine thnF (T.done (X.blk s3 H3 scope ce fp) rfl rfl rfl hc i [] s5 _ H5 (fun _ _ => False) I5 (stat I5 n5) st5 stop) fun r s6 ⟨hr, I6⟩ => ?_
      subst hr
      have I7 : Inv X pins σ H5 s6 := I3.call' (ch := fp) I6.os I6.base I6.hok I6.bare fun b hb => ⟨(f3 b hb).1.2.2.2.1, (f3 b hb).1.2.1, (f3 b hb).1.2.2.2.2.1, (f3 b hb).1.2.2.2.2.2⟩
      have nC : H5 s3.heap.objs.size = none := by rw [← cL]; exact I6.free
      obtain ⟨m, hn, _⟩ := I6.loc
      have hn' : s6.heap.Ns s3.heap.objs.size m := by rw [← cL]; exact hn
      exact hRR D s3.heap.objs.size s6 m H5 I7 qq hn' (I3.fpOk (Nat.le_refl _) nC)
    · refine thnF (T.item (X.blk s3 H3 scope ce fp) rfl rfl rfl hc i [] s5 _ H5 (fun _ _ => False) I5 (stat I5 n5) st5 go) fun r s6 ⟨u, hr, h6⟩ => ?_
      subst hr
      refine thnF h6 fun _ s7 ⟨x, H7, I7, r7, y7, st7, n7⟩ => ?_
      refine thnF (pg.run _ s7 _ H7 x u _ (I7.pinned (stat I7 n7) (T.obj _ _ st7)) r7 (step x H7 y7)) fun _ s8 ⟨σ8, H8, I8, hw8, q8⟩ => thnF (pt.run _ s8 σ8 H8 _ I8 q8) fun b s9 ⟨H9, I9, q9⟩ => ?_
      have fin : ∀ {s' : Shared} {H' : Hp}, Inv (X.blk s3 H3 scope ce fp) ([] ++ pinsAt fp s7.heap) σ8 H' s' → Nx H' → ∃ m, m < n ∧ ∃ i H', Inv (X.blk s3 H3 scope ce fp) [] (wipe σ (own.map (·.2))) H' s' ∧ tn i s'.heap ∧ (∀ b ∈ fp, H' b = none) ∧ W i m H' := fun {s' H'} J' nx => by
        obtain ⟨m', hm, w'⟩ := hNx H' nx
        have pin' : ∀ b ∈ fp, ∀ o, s7.heap.get? b = some o → s'.heap.get? b = some o ∧ H' b = none := fun b hb o e => let z := J'.pin (b, o) (List.mem_append_right _ (List.mem_append_right _ (mem_pinsAt hb e))); ⟨z.1, z.2.1⟩
        refine ⟨m', hm, i + 1, H', (J'.unpinned (pins := [])).weak (by rw [← hw8, wipe_length]) (fun j v e => ?_), T.keep _ _ _ st7 fun b hb o e => (pin' b hb o e).1, fun b hb => ?_, w'⟩
        · rw [← hw8] at e; exact (wipe_some e).1
        · obtain ⟨o, e, _⟩ := T.obj _ _ st7 b hb; exact (pin' b hb o e).2
      cases b with
      | false => exact fin I9 (by simpa only [Bool.false_eq_true, if_false] using q9)
      | true =>
        simp only [if_true] at q9 ⊢
        refine thnF (pk.run _ s9 σ8 H9 _ I9 q9) fun z s10 ⟨yk, H10, I10, r10, q10⟩ => thnF (pe.run _ s10 σ8 H10 _ I10 q10) fun z2 s11 ⟨yv, H11, I11, r11, kvs, ks, kb, ek, hkb, hD11, hz11, nx⟩ => ?_
        subst ek; cases r10
        exact d_dictSetT (X := X.blk s3 H3 scope ce fp) hu I11 hD11 hkb hz11 r11 fun s12 I12 => fin I12 nx
  exact codeAny_compStart_dict loop (T.self X.A 0 _ _ _ st4 loop)
theorem pe_dcT {kx vx tg iter : Expr} {ifs : List Expr} {scope : Scope} {own : List (Str × Nat)} {pos : Pos} {wi : TI} {g : TG} {tt : TT} {tk tv : TE} (hu : X.A.units + 1 < cLine) (hc : X.calm = true) (hN : X.N.Nodup) (hi : PI X tg iter wi) (ok : BlkOk X.N X.env.scope scope own) (pts : DcParts X scope kx vx tg ifs g tt tk tv)
    (hs : ∀ x, foldedSetIterable iter X.env x = pure x := by intro _; rfl) : PE X (.DictComp kx vx [⟨tg, iter, ifs, 0⟩] scope pos) (tDcT wi g tt tk tv (own.map (·.2))) := by
  refine ⟨fun pins s σ H Q I h => ?_⟩
  rw [arm_eval_DictComp]
  refine dcT_core hu hc hN I hi ok pts hs h fun D C s' m H' I' q hn ⟨f0, f1, f2, f3, f4, f5⟩ => ⟨m, hn, fun h'' sb => ⟨.ref D, H', I'.turned (t' := s'.toks) (fun b o hb e => (sb.2 b hb).trans e) f0 f1 f3 f4 f5, rfl, q⟩⟩
theorem ps_setDcT {i : Nat} {y : Str} {py : Pos} {kx vx tg iter : Expr} {ifs : List Expr} {scope : Scope} {own : List (Str × Nat)} {pos spos : Pos} {wi : TI} {g : TG} {tt : TT} {tk tv : TE} (hu : X.A.units + 1 < cLine) (hc : X.calm = true) (hN : X.N.Nodup) (hy : X.N[i]? = some y) (hyl : X.env.scope.names.lookup y = some .local)
    (hsw : swapsWith (.DictComp kx vx [⟨tg, iter, ifs, 0⟩] scope pos) (some (.Name y py)) spos.line X.env = pure true) (hi : PI X tg iter wi) (ok : BlkOk X.N X.env.scope scope own) (pts : DcParts X scope kx vx tg ifs g tt tk tv)
    (hs : ∀ x, foldedSetIterable iter X.env x = pure x := by intro _; rfl) : PS X (.Assign [.Name y py] (.DictComp kx vx [⟨tg, iter, ifs, 0⟩] scope pos) spos) (tAsg (tDcT wi g tt tk tv (own.map (·.2))) (gName i)) := by
  refine ⟨fun pins s σ H D I h => ?_⟩
  rw [exec_Assign_Name_used _ _ _ _ hsw]
  have h' : tDcT wi g tt tk tv (own.map (·.2)) σ H (fun x H1 => gName i x σ H1 D.nx) := h
  refine wpAny_bind (wpAny_standAt (wpAny_bind ?_))
  show wpAny _ X.A (do let _ ← comprehension (.DictComp kx vx [⟨tg, iter, ifs, 0⟩] scope pos) scope X.env (firstIterPos [⟨tg, iter, ifs, 0⟩] pos) newDict false (eval iter X.env) (some (assign (.Name y py) X.env))) _ _ s
  refine wpAny_bind (thn (dcT_core (Qf := fun _ s' => SP X pins D .next s') hu hc hN I hi ok pts hs h' fun M C s' m H' I' q hn ⟨f0, f1, f2, f3, f4, f5⟩ => ?_) fun _ s' hq => wpAny_pure (wpAny_pure hq))
  show wpAny _ _ (assign (.Name y py) X.env (.ref M)) _ _ _
  refine wpAny_assign_Name (store_ok2 (v := V.ref M) I' hN hy (.inl hyl) rfl (fun s2 I2 ⟨a, sb, ha⟩ => ?_) (.inr hyl))
  have ne : C ≠ a := ha.elim (fun z => by rw [z]; exact f1) fun z e => f4 y a z e.symm
  exact ⟨m, hn.sameBut sb ne, fun h3 sb3 => ⟨_, H', I2.turned (t' := s2.toks) (fun b o hb e => (sb3.2 b hb).trans e) f0 f1 f3 f4 f5, q⟩⟩
end
section
variable {K : PySem.W.Frag} {σ : L2.St} {L L' : List As} {Q : LK} {te tk tv : TE} {x y v : V}
/-- over a walk whose i-th item comes of ds; the i-th key, the i-th value -/
theorem wp_dcT {wi : TI} {g : TG} {vs : List Nat} (ds : List PyData) (q : PyData → KDk) (h : Wi K wi σ L fun L1 n Z Y => n = ds.length ∧ n < sizeLine ∧ (∀ D acc, Z (.dt D acc :: L1)) ∧
    (∀ i d v L2 D acc, ds[i]? = some d → Y i v (.dt D acc :: L1) L2 → Wg K g v (wipe σ vs) L2 fun σ2 L3 => wipe σ2 vs = wipe σ vs ∧ Wp K tk σ2 L3 fun y L4 => Wp K tv σ2 L4 fun z L5 => KeyD L5 y (q d).1 K ∧ Dv K L5 z (q d).2 ∧ Ent K L5 (.dt D acc :: L1)) ∧
    ∀ D, Q (.ref D) (.dt D (putAllD (ds.map q)) :: L1)) : Wp K (tDcT wi g tYes tk tv vs) σ L Q := fun H hs Q0 up => by
  refine h H hs _ fun J H1 L1 n Z Y h1 jo ⟨hn, hz, hZ, ht, qq⟩ D hD => ?_
  obtain ⟨T1, ht1⟩ := h1
  have len : ∀ i, (putAllD ((ds.take i).map q)).length ≤ i := fun i => by
    have key : ∀ (qs acc : List KDk), (qs.foldl (fun acc q => putD acc q.1 q.2) acc).length ≤ acc.length + qs.length := fun qs => by
      induction qs with
      | nil => exact fun acc => Nat.le_refl _
      | cons p qs ih =>
        intro acc
        have h1 := ih (putD acc p.1 p.2)
        have h2 := putD_len' (kvs := acc) (k := p.1) (v := p.2)
        show (List.foldl _ (putD acc p.1 p.2) qs).length ≤ _
        rw [List.length_cons]
        omega
    have := key ((ds.take i).map q) []
    rw [List.length_map, List.length_take] at this
    exact Nat.le_trans this (by rw [List.length_nil]; omega)
  refine ⟨fun i m H => m = n - i ∧ i ≤ n ∧ Hs K H (.dt D (putAllD ((ds.take i).map q)) :: L1), ⟨n, by simp, Nat.zero_le _, ⟨T1, ht1.lay (x := .dt D []) hD rfl ⟨[], upd_same, .nil⟩⟩⟩, ?_⟩
  rintro i m H ⟨rfl, hi, hl⟩
  by_cases hlt : i < n
  · refine .inr ⟨jo.go i H _ hl (hZ _ _) hlt, fun H' => Hs K H' (.dt D (putAllD ((ds.take (i + 1)).map q)) :: L1), fun H' h' => ⟨n - (i + 1), by omega, rfl, hlt, h'⟩, fun x H' y => ?_⟩
    obtain ⟨L', h', y'⟩ := jo.yld i H _ x H' hl (hZ _ _) hlt y
    obtain ⟨d, hd⟩ : ∃ d, ds[i]? = some d := ⟨ds[i]'(by omega), List.getElem?_eq_getElem (by omega)⟩
    have es : putAllD ((ds.take (i + 1)).map q) = putD (putAllD ((ds.take i).map q)) (q d).1 (q d).2 := by
      unfold putAllD
      rw [List.take_add_one, hd, List.map_append, List.foldl_append]
      rfl
    refine ht i d x L' D _ hd y' H' h' _ fun σ2 H2 L2 h2 ⟨ew, w⟩ => ⟨ew, ?_⟩
    have wy : Wt K tYes σ2 L2 (fun b L3 => b = true ∧ L3 = L2) := wt_yes ⟨rfl, rfl⟩
    refine wy H2 h2 _ fun b H3 L3 h3 ⟨hb, hl3⟩ => ?_
    subst hb hl3
    refine iteT (w H3 h3 _ fun y H4 L4 h4 w2 => w2 H4 h4 _ fun z H5 L5 h5 ⟨hk, hv, he⟩ => ?_)
    obtain ⟨T, ht5⟩ := h5
    obtain ⟨b, rfl, hb⟩ := hk T H5 ht5
    have hv5 := hv T H5 ht5
    have ht6 := he T H5 ht5
    obtain ⟨xs, e1, e2⟩ := ht6.ok _ (.head _)
    refine ⟨xs, (q d).1, b, rfl, hb, e1, by rw [kd_len e2]; have := len i; omega, ?_⟩
    rw [es]
    exact ⟨T, ht6.write (y := .dt D _) rfl rfl ⟨_, upd_same, kd_put e2 hv5⟩⟩
  · have e : i = n := by omega
    subst e
    refine .inl ⟨jo.stop i H _ hl (hZ _ _) (Nat.le_refl _), up _ _ _ hl ?_⟩
    rw [hn, List.take_length]
    exact qq D
end
section
variable {K : PySem.W.Frag} {σ : L2.St} {L L' : List As} {Q : LK} {te : TE} {x y v : V}
/-- over zip(t, u), tuples of data -/
theorem wp_lcZ {ta : TA} {g : TG} {vs : List Nat} (e : PyData → PyData → PyData) (h : Wa K ta σ L fun zs L1 => ∃ x y ds es, zs = [x, y] ∧ Dv K L1 x (.tuple ds) ∧ Dv K L1 y (.tuple es) ∧ ds.length < sizeLine ∧
    (∀ (i : Nat) d d' v L2 D acc, ds[i]? = some d → es[i]? = some d' → L2 = .da v (.tuple [d, d']) :: .ld D acc :: L1 → LcTurn K g tYes te σ vs v L2 (.ld D acc :: L1) true (e d d')) ∧
    ∀ D, Q (.ref D) (.ld D (List.zipWith e ds es) :: L1)) : Wp K (tLc (RZ.iZipA K ta) g tYes te vs) σ L Q := fun H hs Q0 up =>
  h H hs _ fun zs H1 L1 h1 ⟨x, y, ds, es, hz, hd, he, hl, ht, q⟩ => by
    have w : Wp K (tLc (RZ.iZipA K (tCons (tC x) (tCons (tC y) tNil))) g tYes te vs) σ L1 Q := by
      refine wp_lcG (List.zipWith (fun d d' => .tuple [d, d']) ds es) (fun _ _ => true) (fun _ t => match t with | .tuple [d, d'] => e d d' | _ => .none) (wi_zipT (wa_cons (wp_c (wa_cons (wp_c (wa_nil ⟨x, y, ds, es, rfl, hd, he, ?_, ?_, fun D acc => ⟨Ent.dv (Ent.drop Ent.refl) hd, Ent.dv (Ent.drop Ent.refl) he⟩, fun i d v L2 D acc hi ⟨d1, d2, h3, h4, h5⟩ => ?_, fun D => ?_⟩))))))
      · rw [List.length_zipWith]
      · omega
      · rw [List.getElem?_zipWith, h3, h4] at hi
        cases hi
        exact ht i d1 d2 v L2 D acc h3 h4 h5
      · have : lcD (List.zipWith (fun d d' => .tuple [d, d']) ds es) (fun _ _ => true) (fun _ t => match t with | .tuple [d, d'] => e d d' | _ => .none) = List.zipWith e ds es := by
          rw [lcD_map, List.map_zipWith]
        rw [this]
        exact q D
    subst hz
    exact w H1 h1 Q0 up
end
theorem chain_pw {α : Type} {r : α → α → Prop} [DecidableRel r] (tr : ∀ a b c, r a b → r b c → r a c) : ∀ {xs : List α}, (List.zipWith (fun a b => decide (r a b)) xs (xs.drop 1)).all id = true ↔ xs.Pairwise r
  | [] => by simp
  | [a] => by simp
  | a :: b :: xs => by
    have ih := chain_pw (r := r) tr (xs := b :: xs)
    rw [show (a :: b :: xs).drop 1 = b :: xs from rfl, List.zipWith_cons_cons, List.all_cons, Bool.and_eq_true, List.pairwise_cons]
    rw [show (b :: xs).drop 1 = xs from rfl] at ih
    rw [ih]
    constructor
    · rintro ⟨h1, h2⟩
      have h1 : r a b := of_decide_eq_true h1
      refine ⟨fun c hc => ?_, h2⟩
      rcases List.mem_cons.mp hc with rfl | hc
      · exact h1
      · exact tr a b c h1 ((List.pairwise_cons.mp h2).1 c hc)
    · rintro ⟨h1, h2⟩
      exact ⟨decide_eq_true (h1 b (.head _)), h2⟩
theorem lexLt_pair (a b c d : Int) : HT.lexLt [a, b] [c, d] = decide (a < c ∨ (a = c ∧ b < d)) := by
  simp only [HT.lexLt]
  by_cases h1 : a < c <;> by_cases h2 : a = c <;> by_cases h3 : b < d <;> simp [h1, h2, h3] <;> omega
instance : DecidableRel ltLex := fun p q => by unfold ltLex; infer_instance
theorem ltLex_tr (a b c : Nat × Nat) (h1 : ltLex a b) (h2 : ltLex b c) : ltLex a c := by unfold ltLex at *; omega
theorem lexLt_p2 (p q : Nat × Nat) : HT.lexLt [(p.1 : Int), (p.2 : Int)] [(q.1 : Int), (q.2 : Int)] = decide (ltLex p q) := by
  rw [lexLt_pair]
  unfold ltLex
  exact decide_eq_decide.mpr (by omega)
end Lg
namespace K84
open PySem PySem.Spec PyProof.Rows L2 Lg
/-! short tactics of my own, under the word walk_at -/
local macro_rules | `(tactic| walk_at "mem") => `(tactic| first | exact List.Mem.head _ | assumption | (refine List.Mem.tail _ ?_; walk_at "mem"))
local macro_rules | `(tactic| walk_at "put") => `(tactic| first | exact Put.here | (apply Put.there; walk_at "put"))
local macro_rules | `(tactic| walk_at "pick") => `(tactic| first | exact Pick.here | (apply Pick.there; walk_at "pick"))
local macro_rules | `(tactic| walk_at "ent") => `(tactic| first | exact Ent.refl | exact Ent.nil | (refine Ent.cons (by walk_at "pick") ?_; walk_at "ent") | (refine Ent.dup (by walk_at "mem") ?_; walk_at "ent") | (refine Ent.drop ?_; walk_at "ent"))
local macro_rules | `(tactic| walk_at "dv") => `(tactic| first | exact Dv.int | exact Dv.bl | exact Dv.str | exact Dv.non | assumption | exact Dv.mem (by walk_at "mem"))
local macro_rules | `(tactic| walk_at "dvs") => `(tactic| first | exact Dvs.nil | (apply Dvs.cons; (focus walk_at "dv"); (focus walk_at "dvs")))
local macro_rules | `(tactic| walk_at "norm") => `(tactic| try dsimp only [cxK, noxK, wishK, blkK, baseK, noxB])
local macro_rules | `(tactic| walk_at "num") => `(tactic| first | decide | omega | (simp only [CMul, CPow, CDivN]; omega) | assumption)
local macro_rules | `(tactic| walk_at "one") => `(tactic| with_reducible first
  | refine wp_var rfl ?_ | refine wp_c ?_ | refine wp_op ?_ | refine wp_cb ?_ | refine wa_cons ?_ | refine wa_nil ?_
  | refine ws_seq ?_ | refine ws_asg ?_ | refine ws_drop ?_ | refine ws_ret ?_ | refine ws_if ?_ | refine ws_par ?_ | refine ws_par3 ?_
  | refine wp_un ?_ | refine wp_chain ?_ | refine wp_if ?_ | refine wp_andV ?_ | refine wp_orV ?_ | refine wp_notV ?_ | refine wp_cal ?_ | refine wp_sl ?_
  | refine wo_none ?_ | refine wo_some ?_
  | refine wt_test ?_ | refine wt_B ?_ | refine wt_yes ?_ | refine wt_and ?_ | refine wt_or ?_ | refine wt_not ?_
  | refine w2_mulI (by walk_at "num") ?_ | refine w2_I (by walk_at "num") ?_
  | refine w2_addI ?_ | refine w2_eqPI ?_ | refine w2_eqPS ?_ | refine w2_nePS ?_ | refine w2_nePI ?_ | refine w2_ltI ?_ | refine w2_I0 ?_ | refine w1_U ?_
  | refine wg_name ?_ | refine wgs_nil ?_ | refine wgs_cons ?_ | refine iteT ?_ | refine iteF ?_ | refine ⟨_, rfl, ?_⟩)
local macro_rules | `(tactic| walk_at "go") => `(tactic| repeat walk_at "one")
local macro_rules | `(tactic| walk_at "len") => `(tactic| (simp only [List.length_cons, List.length_nil]; decide))

abbrev s_is_pair : Stmt := topS 12
abbrev n_is_pair : List Str := ["thing", "one"]
theorem sc_is_pair : FnScope n_is_pair ["thing"] (defScope s_is_pair) := ⟨rfl, rfl, rfl, by decide +kernel, rfl, by decide +kernel, by decide +kernel⟩
section
variable {P : Program} {w : World} {K : PySem.W.Frag} {mg : Str → Option Value} {base : Heap}
def isPairD : PyData → Bool
  | .tuple [.int _, .int _] => true
  | _ => false
theorem isPair_inv {d : PyData} (h : isPairD d = true) : ∃ a b : Int, d = .tuple [.int a, .int b] := by
  unfold isPairD at h
  split at h
  · exact ⟨_, _, rfl⟩
  · cases h
def S_is_pair (K : PySem.W.Frag) : SpL := fun vs L Q => ∃ x d, vs = [x] ∧ Dv K L x d ∧ Q (.bl (isPairD d)) L
theorem ok_is_pair {f : Addr} {fd : FuncData} {tP : Tok} (F : Fun K "is_pair" "is_pair" s_is_pair f fd) (B : Bs mg) (g_PAIR : mg "PAIR" = some (.int 2 tP)) (c_is_integer : Cal P w K mg base "is_integer" 1 ["thing"] (S_is_integer K)) : FnOk P w K mg base CX0 2 f fd ["thing"] (spL K (S_is_pair K)) := by
  refine okL F sc_is_pair (fun vs L Q h => ?_) (fun cdv A outer s H E hr => ⟨_, (pss_one (ps_ret (pe_and (pe_callB (callRK (K := K) (r := rIsi) call_isi) (by rfl) B.isinstance (by decide +kernel) (pa_cons (pv 0) (pa_cons (pe_bltn (v := .ty "tuple") (by rfl) B.tuple (by decide +kernel) rfl) pa_nil))) (pe_and (pe_cmpR (opRK (K := K) (r := rEqP) (op_eqP (hu64 hr))) (pe_callB (callRK (K := K) (r := rLenP) call_lenP) (by rfl) B.len (by decide +kernel) (pa_cons (pv 0) pa_nil)) (pe_glob (v := .int 2) rfl g_PAIR ⟨_, rfl⟩) (nomark _)) (pe_one (pe_callB (callRK (K := K) (r := rAll) (cr_all rfl)) (by rfl) B.all (by decide +kernel) (pa_cons (pe_lc (own := [("one", 1)]) (g := gName 1) (tt := tYes) rfl sc_is_pair.nd (pi_seqK (K := K) (pv 0)) (blkOk_by (N := n_is_pair) (sc := defScope s_is_pair) (by decide +kernel)) (fun _ _ _ _ _ => (pg_name (i := 1) sc_is_pair.nd rfl (Or.inl rfl))) (fun _ _ _ _ _ => pts_nil) (fun _ _ _ _ _ => (pe_cal c_is_integer (hr.mono (by decide)) (by rfl) (pa_cons (pv 1) pa_nil)))) pa_nil))))))), fun vs L LQ h => ?_⟩)
  · obtain ⟨x, d, rfl, _⟩ := h
    rfl
  · obtain ⟨x, d, rfl, hd, q⟩ := h
    walk_at "norm"
    walk_at "go"
    refine wc_isi (Dn.dat hd) (kit_tuple d) ⟨_, rfl, ?_⟩
    cases ht : isTupD d with
    | false =>
      refine iteF ⟨_, Ent.refl, ?_⟩
      have : isPairD d = false := by
        cases hp : isPairD d with
        | false => rfl
        | true => obtain ⟨a, b, rfl⟩ := isPair_inv hp; cases ht
      rw [this] at q
      exact q
    | true =>
      obtain ⟨ds, rfl⟩ := isTup_inv ht
      refine iteT ?_
      walk_at "go"
      refine wc_len (Sq.tup hd) ?_
      walk_at "go"
      refine iteR (fun h2 => ?_) fun h2 => ?_
      · have h2' := of_decide_eq_true h2
        have h2n : ds.length = 2 := by omega
        match ds, h2n with
        | [a, b], _ =>
          walk_at "go"
          refine wp_lcS (b := false) (fun _ => true) (fun d => .bool (isIntD d)) (wp_var rfl ?_)
          refine ⟨[a, b], .inr ⟨rfl, hd⟩, show (2 : Nat) < sizeLine by decide, fun d v L2 D acc hdm o => ?_, fun D => ?_⟩
          · refine wg_name ⟨rfl, wt_yes ⟨rfl, iteT ?_⟩⟩
            walk_at "go"
            exact ⟨v, d, rfl, Dn.dat o.dv, Dv.bl, o.ent⟩
          · walk_at "go"
            refine wc_all (bs := [isIntD a, isIntD b]) (Ls.own (.head _)) ⟨_, Ent.drop Ent.refl, ?_⟩
            have : ([isIntD a, isIntD b].all id) = isPairD (.tuple [a, b]) := by
              cases a <;> cases b <;> rfl
            rw [this]
            exact q
      · refine ⟨_, Ent.refl, ?_⟩
        have : isPairD (.tuple ds) = false := by
          cases hp : isPairD (.tuple ds) with
          | false => rfl
          | true =>
            obtain ⟨a, b, e⟩ := isPair_inv hp
            have := PyData.tuple.inj e
            subst this
            exact absurd rfl (of_decide_eq_false h2)
        rw [this] at q
        exact q
end
abbrev s_are_fitting : Stmt := topS 14
abbrev n_are_fitting : List Str := ["touches", "room", "thing", "known", "place", "hold", "one", "other"]
theorem sc_are_fitting : FnScope n_are_fitting ["touches", "room", "thing"] (defScope s_are_fitting) := ⟨rfl, rfl, rfl, by decide +kernel, rfl, by decide +kernel, by decide +kernel⟩
section
variable {P : Program} {w : World} {K : PySem.W.Frag} {mg : Str → Option Value} {base : Heap}
def S_are_fitting (K : PySem.W.Frag) : SpL := fun vs L Q => ∃ x ts y d, ∃ k : Nat, vs = [x, .int (k + 1 : Int), y] ∧ Dv K L x (.tuple (iD ts)) ∧ ts.length < 2 ^ 20 ∧ Dv K L y d ∧ few (2 ^ 20) d ∧ ∀ b, (b = true ↔ ∃ ps, d = .tuple (kD ps) ∧ HoldsOk ts k ps) → Q (.bl b) L
theorem all_map {α : Type} (f : α → Bool) (ds : List α) : (ds.map f).all id = ds.all f := by rw [List.all_map]; rfl
theorem pairs_kD {ts : List Int} : ∀ {ds : List PyData}, (∀ d ∈ ds, ∃ p ∈ holds ts, d = pD2 p) → ∃ ps, ds = kD ps ∧ ∀ p ∈ ps, p ∈ holds ts
  | [], _ => ⟨[], rfl, fun p hp => by cases hp⟩
  | d :: ds, h => by
    obtain ⟨ps, rfl, hp⟩ := pairs_kD fun d hd => h d (.tail _ hd)
    obtain ⟨p, hp', rfl⟩ := h d (.head _)
    exact ⟨p :: ps, rfl, fun q hq => (List.mem_cons.mp hq).elim (fun z => z ▸ hp') (hp q)⟩
theorem cover_filter (ps : List (Nat × Nat)) (i : Nat) (c : PyData → Bool) (hc : ∀ p ∈ ps, c (pD2 p) = covB p i) : (((kD ps).filter c).map id).length = ps.countP fun h => covB h i := by
  rw [List.map_id, kD, List.filter_map, List.length_map, List.countP_eq_length_filter]
  congr 1
  exact List.filter_congr fun p hp => hc p hp
def ltPD : PyData → PyData → PyData
  | .tuple [.int a, .int b], .tuple [.int a', .int b'] => .bool (HT.lexLt [a, b] [a', b'])
  | _, _ => .none
theorem ok_are_fitting {f : Addr} {fd : FuncData} (F : Fun K "are_fitting" "are_fitting" s_are_fitting f fd) (B : Bs mg) (c_is_pair : Cal P w K mg base "is_pair" 2 ["thing"] (S_is_pair K)) (c_all_holds : Cal P w K mg base "all_holds" 1 ["touches"] (S_all_holds K))
    (c_is_covered : Cal P w K mg base "is_covered" 1 ["hold", "place"] (S_is_covered K)) : FnOk P w K mg base CX0 3 f fd ["touches", "room", "thing"] (spL K (S_are_fitting K)) := by
  refine okL F sc_are_fitting (fun vs L Q h => ?_) (fun cdv A outer s H E hr => ⟨_, (pss_cons (ps_if (PW.pt (pw_or (pt_not (pt_val (pe_callB (callRK (K := K) (r := rIsi) call_isi) (by rfl) B.isinstance (by decide +kernel) (pa_cons (pv 2) (pa_cons (pe_bltn (v := .ty "tuple") (by rfl) B.tuple (by decide +kernel) rfl) pa_nil))))) (pw_or1 (pt_not (pt_val (pe_callB (callRK (K := K) (r := rAll) (cr_all rfl)) (by rfl) B.all (by decide +kernel) (pa_cons (pe_lc (own := [("hold", 5)]) (g := gName 5) (tt := tYes) rfl sc_are_fitting.nd (pi_seqK (K := K) (pv 2)) (blkOk_by (N := n_are_fitting) (sc := defScope s_are_fitting) (by decide +kernel)) (fun _ _ _ _ _ => (pg_name (i := 5) sc_are_fitting.nd rfl (Or.inl rfl))) (fun _ _ _ _ _ => pts_nil) (fun _ _ _ _ _ => (pe_cal c_is_pair (hr.mono (by decide)) (by rfl) (pa_cons (pv 5) pa_nil)))) pa_nil))))))) (pss_one (ps_ret pe_bl)) pss_nil)
      (pss_cons (ps_set (i := 3) sc_are_fitting.nd rfl (.inr rfl) (pe_dcT (own := [("hold", 5)]) (g := gName 5) (tt := tYes) (hu1 hr) rfl sc_are_fitting.nd (pi_seqK (K := K) (pe_cal c_all_holds (hr.mono (by decide)) (by rfl) (pa_cons (pv 0) pa_nil))) (blkOk_by (N := n_are_fitting) (sc := defScope s_are_fitting) (by decide +kernel)) ⟨fun _ _ _ _ _ => (pg_name (i := 5) sc_are_fitting.nd rfl (Or.inl rfl)), fun _ _ _ _ _ => pts_nil, fun _ _ _ _ _ => (pv 5), fun _ _ _ _ _ => pe_bl⟩))
      (pss_cons (ps_if (pt_not (pt_val (pe_callB (callRK (K := K) (r := rAll) (cr_all rfl)) (by rfl) B.all (by decide +kernel) (pa_cons (pe_lc (own := [("hold", 5)]) (g := gName 5) (tt := tYes) rfl sc_are_fitting.nd (pi_seqK (K := K) (pv 2)) (blkOk_by (N := n_are_fitting) (sc := defScope s_are_fitting) (by decide +kernel)) (fun _ _ _ _ _ => (pg_name (i := 5) sc_are_fitting.nd rfl (Or.inl rfl))) (fun _ _ _ _ _ => pts_nil) (fun _ _ _ _ _ => (pe_cmpR (opRK (K := K) (r := rInP) (op_inP (hu65 hr))) (pv 5) (pv 3) (by rfl)))) pa_nil)))) (pss_one (ps_ret pe_bl)) pss_nil)
      (pss_cons (ps_if (pt_not (pt_val (pe_callB (callRK (K := K) (r := rAll) (cr_all rfl)) (by rfl) B.all (by decide +kernel) (pa_cons (pe_lc (own := [("one", 6), ("other", 7)]) (g := _) (tt := tYes) rfl sc_are_fitting.nd (RZ.pi_zipA (by rfl) B.zip (pa_cons (pv 2) (pa_cons (pe_slice (slRK (K := K) (r := rSlP) sl_P) (pv 2) (po_some pe_int) po_none) pa_nil))) (blkOk_by (N := n_are_fitting) (sc := defScope s_are_fitting) (by decide +kernel)) (fun _ _ _ _ _ => (pg_tupK (K := K) (n := 2) rfl (pgs_cons (pg_name (i := 6) sc_are_fitting.nd rfl (Or.inl rfl)) (pgs_cons (pg_name (i := 7) sc_are_fitting.nd rfl (Or.inl rfl)) pgs_nil)))) (fun _ _ _ _ _ => pts_nil) (fun _ _ _ _ _ => (pe_cmpR (opRK (K := K) (r := rLtP) (op_ltP (hu0 hr))) (pv 6) (pv 7) (nomark _)))) pa_nil)))) (pss_one (ps_ret pe_bl)) pss_nil)
      (pss_cons (ps_for PassesOwn.never rfl (pi_range1 rfl B.range (pa_cons (pe_callB (callRK (K := K) (r := rLenP) call_lenP) (by rfl) B.len (by decide +kernel) (pa_cons (pv 0) pa_nil)) pa_nil)) (pg_name (i := 4) sc_are_fitting.nd rfl (Or.inr rfl)) (pss_one (ps_if (pt_cmpR op_gt (pe_callB (callRK (K := K) (r := rLenP) call_lenP) (by rfl) B.len (by decide +kernel) (pa_cons (pe_lc (own := [("hold", 5)]) (g := gName 5) (tt := _) rfl sc_are_fitting.nd (pi_seqK (K := K) (pv 2)) (blkOk_by (N := n_are_fitting) (sc := defScope s_are_fitting) (by decide +kernel)) (fun _ _ _ _ _ => (pg_name (i := 5) sc_are_fitting.nd rfl (Or.inl rfl))) (fun _ _ _ _ _ => (pts_one (pt_val (pe_cal c_is_covered (hr.mono (by decide)) (by rfl) (pa_cons (pv 5) (pa_cons (pv 4) pa_nil)))))) (fun _ _ _ _ _ => (pv 5))) pa_nil)) (pe_op op_sub (pv 1) pe_int) (nomark _)) (pss_one (ps_ret pe_bl)) pss_nil)))
      (pss_one (ps_ret pe_bl))))))), fun vs L LQ h => ?_⟩)
  · obtain ⟨x, ts, y, d, k, rfl, _⟩ := h
    rfl
  · obtain ⟨x, ts, y, d, k, rfl, hd, hz, hy, hf, q⟩ := h
    walk_at "norm"
    have len : (iD ts).length = ts.length := List.length_map _
    have hE := holds_ends ts
    have hN := holds_len ts
    have no : ∀ {L1 : List As}, Ent K L1 L → (¬ ∃ ps, d = .tuple (kD ps) ∧ HoldsOk ts k ps) → RetE K LQ (.bl false) L1 := fun e z => ⟨_, e, q false ⟨fun h => (by cases h), fun h => absurd h z⟩⟩
    walk_at "go"
    refine wc_isi (Dn.dat hy) (kit_tuple d) ⟨_, rfl, ?_⟩
    cases ht : isTupD d with
    | false =>
      refine iteT (iteT ?_)
      walk_at "go"
      exact no Ent.refl fun ⟨ps, e, _⟩ => by rw [e] at ht; cases ht
    | true =>
      obtain ⟨ds, rfl⟩ := isTup_inv ht
      have hdl : ds.length < sizeLine := Nat.lt_trans (hf ds rfl) (by decide)
      refine iteF ?_
      walk_at "go"
      refine wp_lcS (b := false) (fun _ => true) (fun d => .bool (isPairD d)) (wp_var rfl ?_)
      refine ⟨ds, .inr ⟨rfl, hy⟩, hdl, fun d v L2 D acc hdm o => ?_, fun D => ?_⟩
      · refine wg_name ⟨rfl, wt_yes ⟨rfl, iteT ?_⟩⟩
        walk_at "go"
        exact ⟨v, d, rfl, o.dv, Dv.bl, o.ent⟩
      walk_at "go"
      refine wc_all (bs := ds.map isPairD) (by
        have e : (ds.filter fun _ => true).map (fun d => PyData.bool (isPairD d)) = (ds.map isPairD).map .bool := by rw [List.filter_eq_self.mpr fun _ _ => rfl, List.map_map]; rfl
        rw [e]
        exact Ls.own (.head _)) ?_
      rw [all_map]
      refine ⟨_, rfl, ?_⟩
      refine iteR (fun hp => ?_) fun hp => ?_
      · walk_at "go"
        refine no (Ent.drop Ent.refl) fun ⟨ps, e, _⟩ => ?_
        have e2 := PyData.tuple.inj e
        subst e2
        have : ((kD ps).all isPairD) = true := List.all_eq_true.mpr fun d hd => by obtain ⟨p, _, rfl⟩ := List.mem_map.mp hd; rfl
        rw [this] at hp
        cases hp
      have hpairs : ∀ d ∈ ds, isPairD d = true := List.all_eq_true.mp (by simpa using hp)
      refine ws_next ?_
      refine Ws.ent (L' := L) (Ent.drop Ent.refl) ?_
      -- known
      walk_at "go"
      refine wp_dcT (kD (holds ts)) (fun d => match d with | .tuple [.int a, .int b] => ([.inl a, .inl b], .bool true) | _ => ([], .none)) (wi_seqL ?_)
      walk_at "go"
      refine ⟨x, ts, rfl, hd, Nat.lt_trans hz (by decide), fun p0 => ?_⟩
      refine ⟨_, Ls.own (.head _), rfl, by rw [List.length_map, sizeLine_eq]; omega, fun D acc => Ls.own (.tail _ (.head _)), fun i d v L2 D acc hi hyd => ?_, fun kn => ?_⟩
      · obtain ⟨p, hp, rfl⟩ := pD2_at hi
        obtain ⟨d', ed, od⟩ := hyd
        rw [hi] at ed
        cases ed
        refine wg_name ⟨rfl, ?_⟩
        walk_at "go"
        exact ⟨KeyD.of (ks := [.inl (p.1 : Int), .inl (p.2 : Int)]) od.dv, Dv.bl, od.ent⟩
      walk_at "go"
      generalize hqs : ((kD (holds ts)).map fun d => match d with | .tuple [.int a, .int b] => (([.inl a, .inl b], .bool true) : KDk) | _ => ([], .none)) = qs
      have hqs' : (holds ts).map (fun p => ((pkey p, .bool true) : KDk)) = qs := by rw [← hqs, List.map_map]; rfl
      have hkn : ∀ a b : Int, (valD (putAllD qs) [.inl a, .inl b]).isSome = true ↔ ∃ p ∈ holds ts, (p.1 : Int) = a ∧ (p.2 : Int) = b := fun a b => by
        rw [putAllD_there, ← hqs', List.any_map, List.any_eq_true]
        constructor
        · rintro ⟨p, hp, e⟩
          have e' : pkey p = [.inl a, .inl b] := of_decide_eq_true e
          exact ⟨p, hp, Sum.inl.inj (List.cons.inj e').1, Sum.inl.inj (List.cons.inj (List.cons.inj e').2).1⟩
        · rintro ⟨p, hp, rfl, rfl⟩
          exact ⟨p, hp, decide_eq_true rfl⟩
      refine Wp.ent (L' := .dt kn (putAllD qs) :: L) (Ent.tailE (Ent.drop Ent.refl)) ?_
      have eL : ∀ {x : As}, Ent K (x :: .dt kn (putAllD qs) :: L) L := Ent.drop (Ent.drop Ent.refl)
      walk_at "go"
      refine wp_lcS (b := false) (fun _ => true) (fun d => .bool (match d with | .tuple [.int a, .int b] => (valD (putAllD qs) [.inl a, .inl b]).isSome | _ => false)) (wp_var rfl ?_)
      refine ⟨ds, .inr ⟨rfl, Ent.dv (Ent.drop Ent.refl) hy⟩, hdl, fun d v L2 D acc hdm o => ?_, fun D => ?_⟩
      · obtain ⟨a, b, rfl⟩ := isPair_inv (hpairs d hdm)
        obtain rfl : L2 = _ := o
        refine wg_name ⟨rfl, wt_yes ⟨rfl, iteT ?_⟩⟩
        walk_at "go"
        exact W2.fst (w2_inDc (o := valD (putAllD qs) [.inl a, .inl b]) (DAt.t (.tail _ (.tail _ (.head _))) (KeyD.of (ks := [.inl a, .inl b]) (Dv.mem (.head _)))) ⟨Dv.bl, Ent.drop Ent.refl⟩)
      walk_at "go"
      generalize hinF : (fun d : PyData => match d with | .tuple [.int a, .int b] => (valD (putAllD qs) [.inl a, .inl b]).isSome | _ => false) = inF
      refine wc_all (bs := ds.map inF) (by
        have e : (ds.filter fun _ => true).map (fun d => PyData.bool (match d with | .tuple [.int a, .int b] => (valD (putAllD qs) [.inl a, .inl b]).isSome | _ => false)) = (ds.map inF).map .bool := by rw [List.filter_eq_self.mpr fun _ _ => rfl, List.map_map, ← hinF]; rfl
        rw [e]
        exact Ls.own (.head _)) ?_
      rw [all_map]
      refine ⟨_, rfl, ?_⟩
      refine iteR (fun hin => ?_) fun hin => ?_
      · walk_at "go"
        refine no eL fun ⟨ps, e, ok⟩ => ?_
        have e2 := PyData.tuple.inj e
        subst e2
        have : ((kD ps).all inF) = true := List.all_eq_true.mpr fun d hd => by
          obtain ⟨p, hp, rfl⟩ := List.mem_map.mp hd
          rw [← hinF]
          exact (hkn p.1 p.2).mpr ⟨p, ok.sub p hp, rfl, rfl⟩
        rw [this] at hin
        cases hin
      obtain ⟨ps, rfl, hps⟩ : ∃ ps, ds = kD ps ∧ ∀ p ∈ ps, p ∈ holds ts := pairs_kD fun d hd => by
        have h1 := List.all_eq_true.mp (show (ds.all inF) = true by simpa using hin) d hd
        obtain ⟨a, b, rfl⟩ := isPair_inv (hpairs d hd)
        rw [← hinF] at h1
        obtain ⟨p, hp, rfl, rfl⟩ := (hkn a b).mp h1
        exact ⟨p, hp, rfl⟩
      refine ws_next ?_
      refine Ws.ent (L' := L) eL ?_
      -- ascending
      walk_at "go"
      refine wp_lcZ ltPD ?_
      walk_at "go"
      refine wsl_T hy fun v1 => ?_
      rw [cut_one]
      walk_at "go"
      refine ⟨y, v1, kD ps, (kD ps).drop 1, rfl, Ent.dv (Ent.drop Ent.refl) hy, Dv.mem (.head _), hdl, fun i d d' v L2 D acc h1 h2 h3 => ?_, fun D => ?_⟩
      · subst h3
        obtain ⟨p, hp, rfl⟩ := pD2_at h1
        rw [List.getElem?_drop] at h2
        obtain ⟨p', hp', rfl⟩ := pD2_at h2
        refine wg_tupO (Dv.mem (.head _)) rfl fun vs L5 o => ?_
        obtain ⟨u1, u2, L6, rfl, o2, o1⟩ := o.two
        obtain rfl : L6 = _ := o2
        obtain rfl : L5 = _ := o1
        refine wgs_cons (wg_name (wgs_cons (wg_name (wgs_nil ⟨rfl, wt_yes ⟨rfl, iteT ?_⟩⟩))))
        walk_at "go"
        exact w2_ltT (ns := [(p.1 : Int), (p.2 : Int)]) (ms := [(p'.1 : Int), (p'.2 : Int)]) (Dv.mem (.head _)) (Dv.mem (.tail _ (.head _))) ⟨Dv.bl, Ent.drop (Ent.drop (Ent.drop Ent.refl))⟩
      have ez : List.zipWith ltPD (kD ps) ((kD ps).drop 1) = (List.zipWith (fun a b => decide (ltLex a b)) ps (ps.drop 1)).map .bool := by
        rw [kD, ← List.map_drop, List.zipWith_map, List.map_zipWith]
        congr 1
        funext a b
        show PyData.bool (HT.lexLt [(a.1 : Int), (a.2 : Int)] [(b.1 : Int), (b.2 : Int)]) = _
        rw [lexLt_p2]
      rw [ez]
      walk_at "go"
      refine wc_all (Ls.own (.head _)) ?_
      refine ⟨_, rfl, ?_⟩
      have asc := chain_pw (r := ltLex) ltLex_tr (xs := ps)
      refine iteR (fun ha => ?_) fun ha => ?_
      · walk_at "go"
        refine no (Ent.drop (Ent.drop Ent.refl)) fun ⟨ps', e, ok⟩ => ?_
        have e2 := kD_inj (PyData.tuple.inj e)
        subst e2
        rw [asc.mpr ok.asc] at ha
        cases ha
      have hasc : ps.Pairwise ltLex := asc.mp (by simpa using ha)
      refine ws_next ?_
      refine Ws.ent (L' := L) (Ent.drop (Ent.drop Ent.refl)) ?_
      -- room
      have hpE : ∀ p ∈ ps, p.1 < p.2 ∧ p.2 < ts.length := fun p hp => hE p (hps p hp)
      walk_at "go"
      refine ws_for (wi_range1 ?_)
      walk_at "go"
      refine wc_len (Sq.tup hd) ?_
      walk_at "go"
      rw [len]
      refine ⟨by omega, by omega, fun i σ L' => ∃ o4, σ = [some x, some (.int (k + 1 : Int)), some y, some (.ref kn), o4, none, none, none] ∧ Ent K L' L ∧ ∀ j, j < i → ps.countP (fun h => covB h j) ≤ k, ?_, ?_, ?_, ?_⟩
      · exact ⟨_, rfl, Ent.refl, fun j hj => absurd hj (Nat.not_lt_zero _)⟩
      · intros; trivial
      · rintro i σ L1 v L2 hi ⟨o4, rfl, e, hc⟩ ⟨rfl, rfl⟩
        rw [Int.zero_add]
        refine wg_name ?_
        refine Ws.ent e ?_
        walk_at "go"
        refine wp_lcS (b := false) (fun d => match d with | .tuple [.int a, .int b] => decide (a < (i : Int)) && decide ((i : Int) < b) | _ => false) id (wp_var rfl ?_)
        refine ⟨kD ps, .inr ⟨rfl, hy⟩, hdl, fun d v L3 D acc hdm o => ?_, fun D => ?_⟩
        · obtain ⟨p, hp, rfl⟩ := List.mem_map.mp hdm
          refine wg_name ⟨rfl, ?_⟩
          walk_at "go"
          refine ⟨v, p, i, rfl, o.dv, _, rfl, ?_, ?_⟩
          · unfold covB
            show _ = (decide ((p.1 : Int) < (i : Int)) && decide ((i : Int) < (p.2 : Int)))
            congr 1 <;> exact decide_eq_decide.mpr (by omega)
          · refine iteR (fun h => ?_) fun h => ?_
            · exact wp_var rfl ⟨o.dv, o.ent⟩
            · exact o.ent
        · walk_at "go"
          refine wc_len (Sq.own (.head _)) ?_
          walk_at "go"
          rw [cover_filter ps i _ fun p hp => by
            unfold covB
            show (decide ((p.1 : Int) < (i : Int)) && decide ((i : Int) < (p.2 : Int))) = _
            congr 1 <;> exact decide_eq_decide.mpr (by omega)]
          refine iteR (fun hlt => ?_) fun hlt => ?_
          · have hlt' := of_decide_eq_true hlt
            walk_at "go"
            refine no (Ent.drop Ent.refl) fun ⟨ps', e, ok⟩ => ?_
            have e2 := kD_inj (PyData.tuple.inj e)
            subst e2
            have := ok.fit i
            omega
          · have hlt' := of_decide_eq_false hlt
            refine ws_next ⟨_, Ent.refl, _, rfl, Ent.drop Ent.refl, fun j hj => ?_⟩
            by_cases hji : j = i
            · subst hji; omega
            · exact hc j (by omega)
      · rintro σ L1 ⟨o4, rfl, e, hc⟩
        rw [Int.toNat_natCast] at hc
        walk_at "go"
        refine ⟨_, e, q true ⟨fun _ => ⟨ps, rfl, hps, hasc, fun j => ?_⟩, fun _ => rfl⟩⟩
        by_cases hj : j < ts.length
        · exact hc j hj
        · have : ps.countP (fun h => covB h j) = 0 := List.countP_eq_zero.mpr fun h hh z => by
            have := (hpE h hh).2
            have := (cov_lt.mp z).2
            omega
          omega
end
end K84
namespace K84
open PySem PySem.Spec PyProof.Rows L2 Lg
/-! short tactics of my own, under the word walk_at -/
local macro_rules | `(tactic| walk_at "mem") => `(tactic| first | exact List.Mem.head _ | assumption | (refine List.Mem.tail _ ?_; walk_at "mem"))
local macro_rules | `(tactic| walk_at "put") => `(tactic| first | exact Put.here | (apply Put.there; walk_at "put"))
local macro_rules | `(tactic| walk_at "pick") => `(tactic| first | exact Pick.here | (apply Pick.there; walk_at "pick"))
local macro_rules | `(tactic| walk_at "ent") => `(tactic| first | exact Ent.refl | exact Ent.nil | (refine Ent.cons (by walk_at "pick") ?_; walk_at "ent") | (refine Ent.dup (by walk_at "mem") ?_; walk_at "ent") | (refine Ent.drop ?_; walk_at "ent"))
local macro_rules | `(tactic| walk_at "dv") => `(tactic| first | exact Dv.int | exact Dv.bl | exact Dv.str | exact Dv.non | assumption | exact Dv.mem (by walk_at "mem"))
local macro_rules | `(tactic| walk_at "dvs") => `(tactic| first | exact Dvs.nil | (apply Dvs.cons; (focus walk_at "dv"); (focus walk_at "dvs")))
local macro_rules | `(tactic| walk_at "norm") => `(tactic| try dsimp only [cxK, noxK, wishK, blkK, baseK, noxB])
local macro_rules | `(tactic| walk_at "num") => `(tactic| first | decide | omega | (simp only [CMul, CPow, CDivN]; omega) | assumption)
local macro_rules | `(tactic| walk_at "one") => `(tactic| with_reducible first
  | refine wp_var rfl ?_ | refine wp_c ?_ | refine wp_op ?_ | refine wp_cb ?_ | refine wa_cons ?_ | refine wa_nil ?_
  | refine ws_seq ?_ | refine ws_asg ?_ | refine ws_drop ?_ | refine ws_ret ?_ | refine ws_if ?_ | refine ws_par ?_ | refine ws_par3 ?_
  | refine wp_un ?_ | refine wp_chain ?_ | refine wp_if ?_ | refine wp_andV ?_ | refine wp_orV ?_ | refine wp_notV ?_ | refine wp_cal ?_ | refine wp_sl ?_
  | refine wo_none ?_ | refine wo_some ?_
  | refine wt_test ?_ | refine wt_B ?_ | refine wt_yes ?_ | refine wt_and ?_ | refine wt_or ?_ | refine wt_not ?_
  | refine w2_mulI (by walk_at "num") ?_ | refine w2_I (by walk_at "num") ?_
  | refine w2_addI ?_ | refine w2_eqPI ?_ | refine w2_eqPS ?_ | refine w2_nePS ?_ | refine w2_nePI ?_ | refine w2_ltI ?_ | refine w2_I0 ?_ | refine w1_U ?_
  | refine wg_name ?_ | refine wgs_nil ?_ | refine wgs_cons ?_ | refine iteT ?_ | refine iteF ?_ | refine ⟨_, rfl, ?_⟩)
local macro_rules | `(tactic| walk_at "go") => `(tactic| repeat walk_at "one")
local macro_rules | `(tactic| walk_at "len") => `(tactic| (simp only [List.length_cons, List.length_nil]; decide))

abbrev s_are_bars : Stmt := topS 23
abbrev n_are_bars : List Str := ["touches", "thing", "one", "other"]
theorem sc_are_bars : FnScope n_are_bars ["touches", "thing"] (defScope s_are_bars) := ⟨rfl, rfl, rfl, by decide +kernel, rfl, by decide +kernel, by decide +kernel⟩
section
variable {P : Program} {w : World} {K : PySem.W.Frag} {mg : Str → Option Value} {base : Heap}
def S_are_bars (K : PySem.W.Frag) : SpL := fun vs L Q => ∃ x ts y d, vs = [x, y] ∧ Dv K L x (.tuple (iD ts)) ∧ Dv K L y d ∧ few (2 ^ 20) d ∧ ∀ b, (b = true ↔ ∃ bs, d = .tuple (nD bs) ∧ (∀ q ∈ bs, q < ts.length) ∧ bs.Pairwise (· < ·)) → Q (.bl b) L
def ltID : PyData → PyData → PyData
  | .int a, .int b => .bool (decide (a < b))
  | _, _ => .none
theorem ok_are_bars {f : Addr} {fd : FuncData} (F : Fun K "are_bars" "are_bars" s_are_bars f fd) (B : Bs mg) (c_is_integer : Cal P w K mg base "is_integer" 1 ["thing"] (S_is_integer K)) : FnOk P w K mg base CX0 2 f fd ["touches", "thing"] (spL K (S_are_bars K)) := by
  refine okL F sc_are_bars (fun vs L Q h => ?_) (fun cdv A outer s H E hr => ⟨_, (pss_cons (ps_if (PW.pt (pw_or (pt_not (pt_val (pe_callB (callRK (K := K) (r := rIsi) call_isi) (by rfl) B.isinstance (by decide +kernel) (pa_cons (pv 1) (pa_cons (pe_bltn (v := .ty "tuple") (by rfl) B.tuple (by decide +kernel) rfl) pa_nil))))) (pw_or1 (pt_not (pt_val (pe_callB (callRK (K := K) (r := rAll) (cr_all rfl)) (by rfl) B.all (by decide +kernel) (pa_cons (pe_lc (own := [("one", 2)]) (g := gName 2) (tt := tYes) rfl sc_are_bars.nd (pi_seqK (K := K) (pv 1)) (blkOk_by (N := n_are_bars) (sc := defScope s_are_bars) (by decide +kernel)) (fun _ _ _ _ _ => (pg_name (i := 2) sc_are_bars.nd rfl (Or.inl rfl))) (fun _ _ _ _ _ => pts_nil) (fun _ _ _ _ _ => (pe_and (pe_cal c_is_integer (hr.mono (by decide)) (by rfl) (pa_cons (pv 2) pa_nil)) (pe_one (pe_chain op_le (opRK (K := K) (r := rLtP) (op_ltP (hu0 hr))) pe_int (pv 2) (pe_callB (callRK (K := K) (r := rLenP) call_lenP) (by rfl) B.len (by decide +kernel) (pa_cons (pv 0) pa_nil))))))) pa_nil))))))) (pss_one (ps_ret pe_bl)) pss_nil)
      (pss_one (ps_ret (pe_callB (callRK (K := K) (r := rAll) (cr_all rfl)) (by rfl) B.all (by decide +kernel) (pa_cons (pe_lc (own := [("one", 2), ("other", 3)]) (g := _) (tt := tYes) rfl sc_are_bars.nd (RZ.pi_zipA (by rfl) B.zip (pa_cons (pv 1) (pa_cons (pe_slice (slRK (K := K) (r := rSlP) sl_P) (pv 1) (po_some pe_int) po_none) pa_nil))) (blkOk_by (N := n_are_bars) (sc := defScope s_are_bars) (by decide +kernel)) (fun _ _ _ _ _ => (pg_tupK (K := K) (n := 2) rfl (pgs_cons (pg_name (i := 2) sc_are_bars.nd rfl (Or.inl rfl)) (pgs_cons (pg_name (i := 3) sc_are_bars.nd rfl (Or.inl rfl)) pgs_nil)))) (fun _ _ _ _ _ => pts_nil) (fun _ _ _ _ _ => (pe_cmpR (opRK (K := K) (r := rLtP) (op_ltP (hu0 hr))) (pv 2) (pv 3) (nomark _)))) pa_nil))))), fun vs L LQ h => ?_⟩)
  · obtain ⟨x, ts, y, d, rfl, _⟩ := h
    rfl
  · obtain ⟨x, ts, y, d, rfl, hd, hy, hf, q⟩ := h
    walk_at "norm"
    have len : (iD ts).length = ts.length := List.length_map _
    have no : ∀ {L1 : List As}, Ent K L1 L → (¬ ∃ bs, d = .tuple (nD bs) ∧ (∀ q ∈ bs, q < ts.length) ∧ bs.Pairwise (· < ·)) → RetE K LQ (.bl false) L1 := fun e z => ⟨_, e, q false ⟨fun h => (by cases h), fun h => absurd h z⟩⟩
    walk_at "go"
    refine wc_isi (Dn.dat hy) (kit_tuple d) ⟨_, rfl, ?_⟩
    cases ht : isTupD d with
    | false =>
      refine iteT (iteT ?_)
      walk_at "go"
      exact no Ent.refl fun ⟨ps, e, _⟩ => by rw [e] at ht; cases ht
    | true =>
      obtain ⟨ds, rfl⟩ := isTup_inv ht
      have hdl : ds.length < sizeLine := Nat.lt_trans (hf ds rfl) (by decide)
      refine iteF ?_
      walk_at "go"
      refine wp_lcS (b := false) (fun _ => true) (fun d => .bool (isPlaceD ts.length d)) (wp_var rfl ?_)
      refine ⟨ds, .inr ⟨rfl, hy⟩, hdl, fun d v L2 D acc hdm o => ?_, fun D => ?_⟩
      · refine wg_name ⟨rfl, wt_yes ⟨rfl, iteT ?_⟩⟩
        have hx2 : Dv K L2 x (.tuple (iD ts)) := Ent.dv (o.ent.trans (Ent.drop Ent.refl)) hd
        walk_at "go"
        refine ⟨v, d, rfl, Dn.dat o.dv, _, rfl, ?_⟩
        cases d <;> try exact iteF ⟨Dv.bl, o.ent⟩
        rename_i i
        obtain ⟨rfl, rfl⟩ := o
        refine iteT ?_
        walk_at "go"
        refine iteR (fun h => ?_) fun h => ?_
        · walk_at "go"
          refine wc_len (Sq.tup hx2) ?_
          walk_at "go"
          rw [len]
          have e : decide (i < (ts.length : Int)) = isPlaceD ts.length (.int i) := by
            show _ = (decide (0 ≤ i) && decide (i < (ts.length : Int)))
            rw [h, Bool.true_and]
          rw [e]
          exact ⟨Dv.bl, Ent.refl⟩
        · have e : false = isPlaceD ts.length (.int i) := by
            show _ = (decide (0 ≤ i) && decide (i < (ts.length : Int)))
            rw [h, Bool.false_and]
          rw [← e]
          exact ⟨Dv.bl, Ent.refl⟩
      walk_at "go"
      refine wc_all (bs := ds.map (isPlaceD ts.length)) (by
        have e : (ds.filter fun _ => true).map (fun d => PyData.bool (isPlaceD ts.length d)) = (ds.map (isPlaceD ts.length)).map .bool := by rw [List.filter_eq_self.mpr fun _ _ => rfl, List.map_map]; rfl
        rw [e]
        exact Ls.own (.head _)) ?_
      rw [all_map]
      refine ⟨_, rfl, ?_⟩
      refine iteR (fun hp => ?_) fun hp => ?_
      · walk_at "go"
        refine no (Ent.drop Ent.refl) fun ⟨bs, e, hb, _⟩ => ?_
        have e2 := PyData.tuple.inj e
        subst e2
        have : ((nD bs).all (isPlaceD ts.length)) = true := List.all_eq_true.mpr fun d hd => by
          obtain ⟨b, hb', rfl⟩ := List.mem_map.mp hd
          have := hb b hb'
          show (decide ((0 : Int) ≤ (b : Int)) && decide ((b : Int) < (ts.length : Int))) = true
          rw [decide_eq_true (by omega : (0 : Int) ≤ (b : Int)), decide_eq_true (by omega : (b : Int) < (ts.length : Int))]
          rfl
        rw [this] at hp
        cases hp
      obtain ⟨bs, rfl, hbs⟩ := places_nD (List.all_eq_true.mp (show (ds.all (isPlaceD ts.length)) = true by simpa using hp))
      refine ws_next ?_
      refine Ws.ent (L' := L) (Ent.drop Ent.refl) ?_
      walk_at "go"
      refine wp_lcZ ltID ?_
      walk_at "go"
      refine wsl_T hy fun v1 => ?_
      rw [cut_one]
      walk_at "go"
      refine ⟨y, v1, nD bs, (nD bs).drop 1, rfl, Ent.dv (Ent.drop Ent.refl) hy, Dv.mem (.head _), hdl, fun i d d' v L2 D acc h1 h2 h3 => ?_, fun D => ?_⟩
      · subst h3
        obtain ⟨a, ha, rfl⟩ := List.mem_map.mp (List.mem_of_getElem? h1)
        obtain ⟨b, hb, rfl⟩ := List.mem_map.mp (List.mem_of_mem_drop (List.mem_of_getElem? h2))
        refine wg_tupO (Dv.mem (.head _)) rfl fun vs L5 o => ?_
        obtain ⟨u1, u2, L6, rfl, o2, o1⟩ := o.two
        obtain ⟨rfl, rfl⟩ := o2
        obtain ⟨rfl, rfl⟩ := o1
        refine wgs_cons (wg_name (wgs_cons (wg_name (wgs_nil ⟨rfl, wt_yes ⟨rfl, iteT ?_⟩⟩))))
        walk_at "go"
        exact ⟨Dv.bl, Ent.drop Ent.refl⟩
      have ez : List.zipWith ltID (nD bs) ((nD bs).drop 1) = (List.zipWith (fun a b => decide (a < b)) bs (bs.drop 1)).map .bool := by
        rw [nD, ← List.map_drop, List.zipWith_map, List.map_zipWith]
        congr 1
        funext a b
        show PyData.bool (decide ((a : Int) < (b : Int))) = .bool (decide (a < b))
        rw [show decide ((a : Int) < (b : Int)) = decide (a < b) from decide_eq_decide.mpr (by omega)]
      rw [ez]
      walk_at "go"
      refine wc_all (Ls.own (.head _)) ?_
      have asc := chain_pw (r := fun a b : Nat => a < b) (fun a b c => Nat.lt_trans) (xs := bs)
      refine ⟨_, Ent.drop (Ent.drop Ent.refl), q _ ?_⟩
      rw [asc]
      exact ⟨fun h => ⟨bs, rfl, hbs, h⟩, fun ⟨bs', e, _, h⟩ => by have := nD_inj (PyData.tuple.inj e); rw [this]; exact h⟩
end
abbrev s_passing_holds : Stmt := topS 22
abbrev n_passing_holds : List Str := ["touches", "bars", "hold", "bar"]
theorem sc_passing_holds : FnScope n_passing_holds ["touches", "bars"] (defScope s_passing_holds) := ⟨rfl, rfl, rfl, by decide +kernel, rfl, by decide +kernel, by decide +kernel⟩
section
variable {P : Program} {w : World} {K : PySem.W.Frag} {mg : Str → Option Value} {base : Heap}
def S_passing_holds (K : PySem.W.Frag) : SpL := fun vs L Q => ∃ x ts y bs, vs = [x, y] ∧ Dv K L x (.tuple (iD ts)) ∧ ts.length < 2 ^ 20 ∧ Dv K L y (.tuple (nD bs)) ∧ bs.length < 2 ^ 20 ∧ ∀ p, Q (.ref p) (.ld p (kD ((holds ts).filter (bare bs))) :: L)
theorem ok_passing_holds {f : Addr} {fd : FuncData} (F : Fun K "passing_holds" "passing_holds" s_passing_holds f fd) (B : Bs mg) (c_all_holds : Cal P w K mg base "all_holds" 1 ["touches"] (S_all_holds K)) (c_is_covered : Cal P w K mg base "is_covered" 1 ["hold", "place"] (S_is_covered K)) :
    FnOk P w K mg base CX0 2 f fd ["touches", "bars"] (spL K (S_passing_holds K)) := by
  refine okL F sc_passing_holds (fun vs L Q h => ?_) (fun cdv A outer s H E hr => ⟨_, (pss_one (ps_ret (pe_lc (own := [("hold", 2)]) (g := gName 2) (tt := _) rfl sc_passing_holds.nd (pi_seqK (K := K) (pe_cal c_all_holds (hr.mono (by decide)) (by rfl) (pa_cons (pv 0) pa_nil))) (blkOk_by (N := n_passing_holds) (sc := defScope s_passing_holds) (by decide +kernel)) (fun _ _ _ _ _ => (pg_name (i := 2) sc_passing_holds.nd rfl (Or.inr rfl))) (fun _ _ _ _ _ => (pts_one (pt_not (pt_val (pe_callB (callRK (K := K) (r := rAny) (cr_any rfl)) (by rfl) B.any (by decide +kernel) (pa_cons (pe_lc (own := [("bar", 3)]) (g := gName 3) (tt := tYes) rfl sc_passing_holds.nd (pi_seqK (K := K) (pv 1)) (blkOk_by (by rfl)) (fun _ _ _ _ _ => (pg_name (i := 3) sc_passing_holds.nd rfl (Or.inl rfl))) (fun _ _ _ _ _ => pts_nil) (fun _ _ _ _ _ => (pe_cal c_is_covered (hr.mono (by decide)) (by rfl) (pa_cons (pv 2) (pa_cons (pv 3) pa_nil))))) pa_nil)))))) (fun _ _ _ _ _ => (pv 2))))), fun vs L LQ h => ?_⟩)
  · obtain ⟨x, ts, y, bs, rfl, _⟩ := h
    rfl
  · obtain ⟨x, ts, y, bs, rfl, hd, hz, hy, hb, q⟩ := h
    walk_at "norm"
    have hN := holds_len ts
    have hS : ∀ m, m < 2 ^ 20 → m < sizeLine := fun m hm => by rw [sizeLine_eq]; omega
    walk_at "go"
    refine wp_lcS (b := true) (fun d => match d with | .tuple [.int a, .int b] => bs.all fun q => !(decide (a < (q : Int)) && decide ((q : Int) < b)) | _ => false) id ?_
    walk_at "go"
    refine ⟨x, ts, rfl, hd, hS _ hz, fun p0 => ?_⟩
    refine ⟨_, .inl ⟨rfl, Ls.own (.head _)⟩, by rw [List.length_map]; exact hS _ (by omega), fun d v L2 D acc hdm o => ?_, fun D => ?_⟩
    · obtain ⟨p, hp, rfl⟩ := List.mem_map.mp hdm
      have ho := o.dv (K := K)
      have hy2 : Dv K L2 y (.tuple (nD bs)) := Ent.dv (o.ent.trans (Ent.drop (Ent.drop Ent.refl))) hy
      refine wg_name ⟨rfl, ?_⟩
      walk_at "go"
      refine wp_lcS (b := false) (fun _ => true) (fun d => .bool (match d with | .int q => decide ((p.1 : Int) < q) && decide (q < (p.2 : Int)) | _ => false)) (wp_var rfl ?_)
      refine ⟨nD bs, .inr ⟨rfl, hy2⟩, by rw [List.length_map]; exact hS _ hb, fun d2 v2 L3 D2 acc2 hdm2 o2 => ?_, fun D2 => ?_⟩
      · obtain ⟨b, hb', rfl⟩ := List.mem_map.mp hdm2
        obtain ⟨rfl, rfl⟩ := o2
        refine wg_name ⟨rfl, wt_yes ⟨rfl, iteT ?_⟩⟩
        walk_at "go"
        refine ⟨v, p, b, rfl, Ent.dv (Ent.drop Ent.refl) ho, ?_⟩
        have e : covB p b = (decide ((p.1 : Int) < (b : Int)) && decide ((b : Int) < (p.2 : Int))) := by
          unfold covB
          congr 1 <;> exact decide_eq_decide.mpr (by omega)
        rw [e]
        exact ⟨Dv.bl, Ent.refl⟩
      · walk_at "go"
        refine wc_any (bs := bs.map fun q : Nat => decide ((p.1 : Int) < (q : Int)) && decide ((q : Int) < (p.2 : Int))) (by
          have e : ((nD bs).filter fun _ => true).map (fun d => PyData.bool (match d with | .int q => decide ((p.1 : Int) < q) && decide (q < (p.2 : Int)) | _ => false)) = (bs.map fun q : Nat => decide ((p.1 : Int) < (q : Int)) && decide ((q : Int) < (p.2 : Int))).map .bool := by rw [List.filter_eq_self.mpr fun _ _ => rfl, nD, List.map_map, List.map_map]; rfl
          rw [e]
          exact Ls.own (.head _)) ?_
        refine ⟨_, rfl, ?_⟩
        have e2 : (!(bs.map fun q : Nat => decide ((p.1 : Int) < (q : Int)) && decide ((q : Int) < (p.2 : Int))).any id) = bs.all fun q => !(decide ((p.1 : Int) < (q : Int)) && decide ((q : Int) < (p.2 : Int))) := by
          rw [List.any_map, List.not_any_eq_all_not]
          rfl
        rw [e2]
        refine ⟨rfl, ?_⟩
        refine iteR (fun h => ?_) fun h => ?_
        · exact wp_var rfl ⟨Ent.dv (Ent.drop Ent.refl) ho, Ent.drop o.ent⟩
        · exact Ent.drop o.ent
    · have e : ((kD (holds ts)).filter fun d => match d with | .tuple [.int a, .int b] => bs.all fun q => !(decide (a < (q : Int)) && decide ((q : Int) < b)) | _ => false).map id = kD ((holds ts).filter (bare bs)) := by
        rw [List.map_id, kD, List.filter_map]
        congr 1
        refine List.filter_congr fun p _ => ?_
        show (bs.all fun q => !(decide ((p.1 : Int) < (q : Int)) && decide ((q : Int) < (p.2 : Int)))) = bare bs p
        unfold bare
        congr 1
        funext q
        unfold covB
        congr 2 <;> exact decide_eq_decide.mpr (by omega)
      rw [e]
      exact ⟨_, Ent.tailE (Ent.drop Ent.refl), q D⟩
end
abbrev s_pages_holds : Stmt := topS 26
abbrev n_pages_holds : List Str := ["touches", "room", "thing"]
theorem sc_pages_holds : FnScope n_pages_holds ["touches", "room", "thing"] (defScope s_pages_holds) := ⟨rfl, rfl, rfl, by decide +kernel, rfl, by decide +kernel, by decide +kernel⟩
section
variable {P : Program} {w : World} {K : PySem.W.Frag} {mg : Str → Option Value} {base : Heap}
def S_pages_holds (K : PySem.W.Frag) : SpL := fun vs L Q => ∃ x ts y d, ∃ k : Nat, vs = [x, .int (k + 1 : Int), y] ∧ Dv K L x (.tuple (iD ts)) ∧ ts.length < 2 ^ 20 ∧ natD ts ∧ k < 2 ^ 20 ∧ Dv K L y d ∧ fewP (2 ^ 20) d ∧ ∀ b, (b = true ↔ IsPaper ts k d) → Q (.bl b) L
theorem ok_pages_holds {f : Addr} {fd : FuncData} {tF tR : Tok} (F : Fun K "pages_holds" "pages_holds" s_pages_holds f fd) (B : Bs mg) (g_FETCHED : mg "FETCHED" = some (.str "fetched" tF)) (g_PARTS : mg "PARTS" = some (.int 3 tR)) (c_check_touches : Cal P w K mg base "check_touches" 3 ["touches"] (S_check_touches K)) (c_check_room : Cal P w K mg base "check_room" 3 ["room"] (S_check_room K))
    (c_are_fitting : Cal P w K mg base "are_fitting" 3 ["touches", "room", "thing"] (S_are_fitting K)) (c_are_bars : Cal P w K mg base "are_bars" 2 ["touches", "thing"] (S_are_bars K)) (c_passing_holds : Cal P w K mg base "passing_holds" 2 ["touches", "bars"] (S_passing_holds K)) :
    FnOk P w K mg base CX0 4 f fd ["touches", "room", "thing"] (spL K (S_pages_holds K)) := by
  refine okL F sc_pages_holds (fun vs L Q h => ?_) (fun cdv A outer s H E hr => ⟨_, (pss_cons (ps_expr (pe_cal c_check_touches (hr.mono (by decide)) (by rfl) (pa_cons (pv 0) pa_nil)))
      (pss_cons (ps_expr (pe_cal c_check_room (hr.mono (by decide)) (by rfl) (pa_cons (pv 1) pa_nil)))
      (pss_cons (ps_if (PW.pt (pw_or (pt_not (pt_val (pe_callB (callRK (K := K) (r := rIsi) call_isi) (by rfl) B.isinstance (by decide +kernel) (pa_cons (pv 2) (pa_cons (pe_bltn (v := .ty "tuple") (by rfl) B.tuple (by decide +kernel) rfl) pa_nil))))) (pw_or (pt_cmpR (opRK (K := K) (r := rNeP) (op_neP (hu64 hr))) (pe_callB (callRK (K := K) (r := rLenP) call_lenP) (by rfl) B.len (by decide +kernel) (pa_cons (pv 2) pa_nil)) (pe_glob (v := .int 3) rfl g_PARTS ⟨_, rfl⟩) (nomark _)) (pw_or (pt_not (pt_val (pe_callB (callRK (K := K) (r := rIsi) call_isi) (by rfl) B.isinstance (by decide +kernel) (pa_cons (pe_ix (ixRK (K := K) (r := rIxP) (ix_P (hu1 hr))) (pv 2) pe_int (fun _ _ => rfl)) (pa_cons (pe_bltn (v := .ty "str") (by rfl) B.str (by decide +kernel) rfl) pa_nil))))) (pw_or1 (pt_cmpR (opRK (K := K) (r := rNeP) (op_neP (hu64 hr))) (pe_ix (ixRK (K := K) (r := rIxP) (ix_P (hu1 hr))) (pv 2) pe_int (fun _ _ => rfl)) (pe_glob (v := .str "fetched") rfl g_FETCHED ⟨_, rfl⟩) (nomark _))))))) (pss_one (ps_ret pe_bl)) pss_nil)
      (pss_cons (ps_if (PW.pt (pw_or (pt_not (pt_val (pe_cal c_are_fitting (hr.mono (by decide)) (by rfl) (pa_cons (pv 0) (pa_cons (pv 1) (pa_cons (pe_ix (ixRK (K := K) (r := rIxP) (ix_P (hu1 hr))) (pv 2) pe_int (fun _ _ => rfl)) pa_nil)))))) (pw_or1 (pt_not (pt_val (pe_cal c_are_bars (hr.mono (by decide)) (by rfl) (pa_cons (pv 0) (pa_cons (pe_ix (ixRK (K := K) (r := rIxP) (ix_P (hu1 hr))) (pv 2) pe_int (fun _ _ => rfl)) pa_nil)))))))) (pss_one (ps_ret pe_bl)) pss_nil)
      (pss_one (ps_ret (pe_cmpR (opRK (K := K) (r := rEqP) (op_eqP (hu64 hr))) (pe_callB (callRK (K := K) (r := rLenP) call_lenP) (by rfl) B.len (by decide +kernel) (pa_cons (pe_ix (ixRK (K := K) (r := rIxP) (ix_P (hu1 hr))) (pv 2) pe_int (fun _ _ => rfl)) pa_nil)) (pe_op (opRK (K := K) (r := rAddP) op_addP) (pe_op (opRK (K := K) (r := rMulP) op_mulP) (pe_op op_sub (pv 1) pe_int) (pe_callB (callRK (K := K) (r := rLenP) call_lenP) (by rfl) B.len (by decide +kernel) (pa_cons (pe_ix (ixRK (K := K) (r := rIxP) (ix_P (hu1 hr))) (pv 2) pe_int (fun _ _ => rfl)) pa_nil))) (pe_callB (callRK (K := K) (r := rLenP) call_lenP) (by rfl) B.len (by decide +kernel) (pa_cons (pe_cal c_passing_holds (hr.mono (by decide)) (by rfl) (pa_cons (pv 0) (pa_cons (pe_ix (ixRK (K := K) (r := rIxP) (ix_P (hu1 hr))) (pv 2) pe_int (fun _ _ => rfl)) pa_nil))) pa_nil))) (nomark _)))))))), fun vs L LQ h => ?_⟩)
  · obtain ⟨x, ts, y, d, k, rfl, _⟩ := h
    rfl
  · obtain ⟨x, ts, y, d, k, rfl, hd, hz, hnat, hk, hy, hf, q⟩ := h
    walk_at "norm"
    have no : ∀ {L1 : List As}, Ent K L1 L → (¬ IsPaper ts k d) → RetE K LQ (.bl false) L1 := fun e z => ⟨_, e, q false ⟨fun h => (by cases h), fun h => absurd h z⟩⟩
    walk_at "go"
    refine ⟨x, _, rfl, hd, fits_of hz, areT_of hnat, ?_⟩
    walk_at "go"
    refine ⟨_, rfl, by omega, ?_⟩
    walk_at "go"
    refine wc_isi (Dn.dat hy) (kit_tuple d) ⟨_, rfl, ?_⟩
    cases ht : isTupD d with
    | false =>
      refine iteT (iteT ?_)
      walk_at "go"
      exact no Ent.refl fun ⟨ps, bs, e, _⟩ => by rw [e] at ht; cases ht
    | true =>
      obtain ⟨ds, rfl⟩ := isTup_inv ht
      refine iteF ?_
      walk_at "go"
      refine wc_len (Sq.tup hy) ?_
      walk_at "go"
      refine iteR (fun h3 => iteT ?_) fun h3 => ?_
      · walk_at "go"
        refine no Ent.refl fun ⟨ps, bs, e, _⟩ => ?_
        have : ds.length = 3 := by rw [PyData.tuple.inj e]; rfl
        rw [this] at h3
        cases h3
      have h3' : ds.length = 3 := by
        have : decide ((ds.length : Int) = 3) = true := by simpa using h3
        have := of_decide_eq_true this
        omega
      match ds, h3' with
      | [a, b, c], _ =>
        obtain ⟨fb, fc⟩ := hf a b c rfl
        walk_at "go"
        refine W2.fst (w2_at (d := a) (Sq.tup hy) rfl fun va La oa => ?_)
        have ea : Ent K La L := oa.ent
        walk_at "go"
        refine wc_isi (Dn.dat oa.dv) (kit_str a) ⟨_, rfl, ?_⟩
        cases ha : isStrD a with
        | false =>
          refine iteT (iteT ?_)
          walk_at "go"
          refine no ea fun ⟨ps, bs, e, _⟩ => ?_
          have := (List.cons.inj (PyData.tuple.inj e)).1
          rw [this] at ha
          cases ha
        | true =>
          obtain ⟨z, rfl⟩ := isStr_inv ha
          obtain ⟨rfl, rfl⟩ := oa
          refine iteF ?_
          walk_at "go"
          refine W2.fst (w2_at (d := .str z) (Sq.tup hy) rfl fun vz Lz oz => ?_)
          obtain ⟨rfl, rfl⟩ := oz
          walk_at "go"
          refine iteR (fun hw => ?_) fun hw => ?_
          · walk_at "go"
            refine no ea fun ⟨ps, bs, e, _⟩ => ?_
            have := PyData.str.inj (List.cons.inj (PyData.tuple.inj e)).1
            rw [this] at hw
            simp at hw
          have hz' : z = "fetched" := by simpa using hw
          subst hz'
          refine ws_next ?_
          walk_at "go"
          refine W2.fst (w2_at (d := b) (Sq.tup hy) rfl fun vb Lb ob => ?_)
          have eb : Ent K Lb Lz := ob.ent
          walk_at "go"
          refine ⟨x, ts, vb, b, k, rfl, Ent.dv eb hd, hz, ob.dv, fb, fun bh hbh => ⟨_, rfl, ?_⟩⟩
          cases bh with
          | false =>
            refine iteT (iteT ?_)
            walk_at "go"
            refine no eb fun ⟨ps, bs, e, ok⟩ => ?_
            have e2 := (List.cons.inj (List.cons.inj (PyData.tuple.inj e)).2).1
            have := hbh.mpr ⟨ps, e2, ok.hok⟩
            cases this
          | true =>
            obtain ⟨ps, rfl, okh⟩ := hbh.mp rfl
            refine iteF ?_
            refine Wt.ent eb ?_
            walk_at "go"
            refine W2.fst (w2_at (d := c) (Sq.tup hy) rfl fun vc Lc oc => ?_)
            have ec : Ent K Lc Lz := oc.ent
            walk_at "go"
            refine ⟨x, ts, vc, c, rfl, Ent.dv ec hd, oc.dv, fc, fun bc hbc => ⟨_, rfl, ?_⟩⟩
            cases bc with
            | false =>
              refine iteT ?_
              walk_at "go"
              refine no ec fun ⟨ps', bs, e, ok⟩ => ?_
              have e2 := (List.cons.inj (List.cons.inj (List.cons.inj (PyData.tuple.inj e)).2).2).1
              have := hbc.mpr ⟨bs, e2, ok.lt, ok.asc⟩
              cases this
            | true =>
              obtain ⟨bs, rfl, hbs, hasc⟩ := hbc.mp rfl
              refine iteF (ws_next ?_)
              refine Ws.ent ec ?_
              have hbl : bs.length < 2 ^ 20 := by have := fc _ rfl; rwa [List.length_map] at this
              walk_at "go"
              refine W2.fst (w2_at (d := .tuple (kD ps)) (Sq.tup hy) rfl fun v1 L1 o1 => ?_)
              obtain rfl : L1 = _ := o1
              walk_at "go"
              refine wc_len (Sq.tup (Dv.mem (.head _))) ?_
              walk_at "go"
              refine W2.fst (w2_at (d := .tuple (nD bs)) (Sq.tup (Ent.dv (Ent.drop Ent.refl) hy)) rfl fun v2 L2 o2 => ?_)
              obtain rfl : L2 = _ := o2
              walk_at "go"
              refine wc_len (Sq.tup (Dv.mem (.head _))) ?_
              refine w2_mulI (by simp only [CMul]; omega) ?_
              walk_at "go"
              refine W2.fst (w2_at (d := .tuple (nD bs)) (Sq.tup (Ent.dv (Ent.drop (Ent.drop Ent.refl)) hy)) rfl fun v3 L3 o3 => ?_)
              obtain rfl : L3 = _ := o3
              walk_at "go"
              refine ⟨x, ts, v3, bs, rfl, Ent.dv (Ent.drop (Ent.drop (Ent.drop Ent.refl))) hd, hz, Dv.mem (.head _), hbl, fun p3 => ?_⟩
              walk_at "go"
              refine wc_len (Sq.own (.head _)) ?_
              walk_at "go"
              refine ⟨_, Ent.drop (Ent.drop (Ent.drop (Ent.drop Ent.refl))), q _ ?_⟩
              rw [List.length_map, List.length_map, List.length_map, decide_eq_true_iff, ← List.countP_eq_length_filter]
              have ecc : ((ps.length : Int) = (k + 1 - 1 : Int) * (bs.length : Int) + ((holds ts).countP (bare bs) : Nat)) ↔ ps.length = k * bs.length + (holds ts).countP (bare bs) := by
                rw [Int.add_sub_cancel, ← Int.natCast_mul]
                omega
              rw [ecc]
              constructor
              · exact fun h => ⟨ps, bs, rfl, okh, hbs, hasc, h⟩
              · rintro ⟨ps', bs', e, ok⟩
                have e1 := kD_inj (PyData.tuple.inj (List.cons.inj (List.cons.inj (PyData.tuple.inj e)).2).1)
                have e2 := nD_inj (PyData.tuple.inj (List.cons.inj (List.cons.inj (List.cons.inj (PyData.tuple.inj e)).2).2).1)
                subst e1 e2
                exact ok.cost
end
end K84
namespace K84
open PySem PySem.Spec PyProof.Rows L2 Lg
/-! short tactics of my own, under the word walk_at -/
local macro_rules | `(tactic| walk_at "mem") => `(tactic| first | exact List.Mem.head _ | assumption | (refine List.Mem.tail _ ?_; walk_at "mem"))
local macro_rules | `(tactic| walk_at "put") => `(tactic| first | exact Put.here | (apply Put.there; walk_at "put"))
local macro_rules | `(tactic| walk_at "pick") => `(tactic| first | exact Pick.here | (apply Pick.there; walk_at "pick"))
local macro_rules | `(tactic| walk_at "ent") => `(tactic| first | exact Ent.refl | exact Ent.nil | (refine Ent.cons (by walk_at "pick") ?_; walk_at "ent") | (refine Ent.dup (by walk_at "mem") ?_; walk_at "ent") | (refine Ent.drop ?_; walk_at "ent"))
local macro_rules | `(tactic| walk_at "dv") => `(tactic| first | exact Dv.int | exact Dv.bl | exact Dv.str | exact Dv.non | assumption | exact Dv.mem (by walk_at "mem"))
local macro_rules | `(tactic| walk_at "dvs") => `(tactic| first | exact Dvs.nil | (apply Dvs.cons; (focus walk_at "dv"); (focus walk_at "dvs")))
local macro_rules | `(tactic| walk_at "norm") => `(tactic| try dsimp only [cxK, noxK, wishK, blkK, baseK, noxB])
local macro_rules | `(tactic| walk_at "num") => `(tactic| first | decide | omega | (simp only [CMul, CPow, CDivN]; omega) | assumption)
local macro_rules | `(tactic| walk_at "one") => `(tactic| with_reducible first
  | refine wp_var rfl ?_ | refine wp_c ?_ | refine wp_op ?_ | refine wp_cb ?_ | refine wa_cons ?_ | refine wa_nil ?_
  | refine ws_seq ?_ | refine ws_asg ?_ | refine ws_drop ?_ | refine ws_ret ?_ | refine ws_if ?_ | refine ws_par ?_ | refine ws_par3 ?_
  | refine wp_un ?_ | refine wp_chain ?_ | refine wp_if ?_ | refine wp_andV ?_ | refine wp_orV ?_ | refine wp_notV ?_ | refine wp_cal ?_ | refine wp_sl ?_
  | refine wo_none ?_ | refine wo_some ?_
  | refine wt_test ?_ | refine wt_B ?_ | refine wt_yes ?_ | refine wt_and ?_ | refine wt_or ?_ | refine wt_not ?_
  | refine w2_mulI (by walk_at "num") ?_ | refine w2_I (by walk_at "num") ?_
  | refine w2_addI ?_ | refine w2_eqPI ?_ | refine w2_eqPS ?_ | refine w2_nePS ?_ | refine w2_nePI ?_ | refine w2_ltI ?_ | refine w2_I0 ?_ | refine w1_U ?_
  | refine wg_name ?_ | refine wgs_nil ?_ | refine wgs_cons ?_ | refine iteT ?_ | refine iteF ?_ | refine ⟨_, rfl, ?_⟩)
local macro_rules | `(tactic| walk_at "go") => `(tactic| repeat walk_at "one")
local macro_rules | `(tactic| walk_at "len") => `(tactic| (simp only [List.length_cons, List.length_nil]; decide))

abbrev s_law_is_long_right : Stmt := topS 43
abbrev n_law_is_long_right : List Str := ["deck", "touches", "room", "known", "due", "row", "least", "told", "one", "other", "at", "fetches"]
theorem sc_law_is_long_right : FnScope n_law_is_long_right ["deck"] (defScope s_law_is_long_right) := ⟨rfl, rfl, rfl, by decide +kernel, rfl, by decide +kernel, by decide +kernel⟩
section
variable {P : Program} {w : World} {K : PySem.W.Frag} {mg : Str → Option Value} {base : Heap}
theorem out_opt {kn : Option Nat} {v : V} {L L' : List As} (h : OutD (optD kn) v L L') : v = optV kn ∧ L' = L := by cases kn <;> exact h
theorem fewP_big {m n : Nat} {d : PyData} (h : fewP m d) (hm : m ≤ n) : fewP n d := fun a b c e => ⟨fun ds z => Nat.lt_of_lt_of_le ((h a b c e).1 ds z) hm, fun ds z => Nat.lt_of_lt_of_le ((h a b c e).2 ds z) hm⟩
def leastL (ts : List Int) (m i : Nat) : List PyData := ((List.range i).filter fun j => decide (bel ts (j + 1) ≤ m)).map fun j : Nat => PyData.int ((j : Int) + 1)
theorem leastL_succ {ts : List Int} {m i : Nat} : leastL ts m (i + 1) = leastL ts m i ++ if bel ts (i + 1) ≤ m then [.int ((i : Int) + 1)] else [] := by
  unfold leastL
  rw [List.range_succ, List.filter_append, List.map_append]
  congr 1
  by_cases h : bel ts (i + 1) ≤ m
  · rw [if_pos h, List.filter_cons_of_pos (p := fun j => decide (bel ts (j + 1) ≤ m)) (decide_eq_true h)]
    rfl
  · rw [if_neg h, List.filter_cons_of_neg (p := fun j => decide (bel ts (j + 1) ≤ m)) (by simpa using h)]
    rfl
theorem leastL_len (ts : List Int) (m i : Nat) : (leastL ts m i).length ≤ i := by
  unfold leastL
  rw [List.length_map]
  have := List.length_filter_le (fun j => decide (bel ts (j + 1) ≤ m)) (List.range i)
  rwa [List.length_range] at this
theorem leastL_head {ts : List Int} {m r j : Nat} (hj : j < r) (h1 : bel ts (j + 1) ≤ m) (h2 : ∀ i, i < j → m < bel ts (i + 1)) : atI (leastL ts m r) 0 = some (.int ((j : Int) + 1)) := by
  have f : (List.range r).find? (fun j => decide (bel ts (j + 1) ≤ m)) = some j := by
    rw [List.find?_eq_some_iff_getElem]
    refine ⟨decide_eq_true h1, j, by rw [List.length_range]; exact hj, List.getElem_range _, fun i hi => ?_⟩
    rw [List.getElem_range]
    have := h2 i hi
    simp only [Bool.not_eq_true', decide_eq_false_iff_not]
    omega
  rw [← List.head?_filter] at f
  unfold leastL
  cases hl : (List.range r).filter fun j => decide (bel ts (j + 1) ≤ m) with
  | nil => rw [hl] at f; cases f
  | cons y ys =>
    rw [hl] at f
    obtain rfl : y = j := Option.some.inj f
    unfold atI ixN
    simp
def S_law_is_long_right (K : PySem.W.Frag) : SpL := fun vs L Q => ∃ a n L0, vs = [.ref a] ∧ Deck K L a n L0 ∧ n < 2 ^ 38 ∧ ∀ L', Deck K L' a (n + 6) L0 → Q (.bl true) L'
theorem ok_law_is_long_right {f : Addr} {fd : FuncData} (F : Fun K "_law_is_long_right" "_law_is_long_right" s_law_is_long_right f fd) (B : Bs mg) (c_law_long : Cal P w K mg base "_law_long" 3 ["deck"] (S_law_long K)) (c_law_least : Cal P w K mg base "_law_least" 1 ["touches", "room"] (S_law_least K))
    (c_least_fetches : Cal P w K mg base "least_fetches" 4 ["touches", "room"] (S_least_fetches K)) (cw_least_fetches : CalW P w K mg base "least_fetches" 4 "touches" "room" (S_least_fetches K)) (c_fetch_row : Cal P w K mg base "fetch_row" 4 ["touches", "most"] (S_fetch_row K))
    (c_least_room : Cal P w K mg base "least_room" 4 ["touches", "many"] (S_least_room K)) (c_judge_pages : Cal P w K mg base "judge_pages" 4 ["touches", "room"] (S_judge_pages K)) (c_law_is_paper : Cal P w K mg base "_law_is_paper" 3 ["touches", "room", "thing"] (S_law_is_paper K))
    (c_pages_holds : Cal P w K mg base "pages_holds" 4 ["touches", "room", "thing"] (S_pages_holds K)) : FnG P w K mg base 5 f fd ["deck"] (spL K (S_law_is_long_right K)) := by
  refine okG F sc_law_is_long_right (fun vs L Q h => ?_) (fun cdv A outer s H E hr hg => ⟨_, (pss_cons (ps_asg (pe_cal c_law_long (hr.mono (by decide)) (by rfl) (pa_cons (pv 0) pa_nil)) (pg_tupK (K := K) (n := 3) rfl (pgs_cons (pg_name (i := 1) sc_law_is_long_right.nd rfl (Or.inl rfl)) (pgs_cons (pg_name (i := 2) sc_law_is_long_right.nd rfl (Or.inl rfl)) (pgs_cons (pg_name (i := 3) sc_law_is_long_right.nd rfl (Or.inl rfl)) pgs_nil)))))
      (pss_cons (ps_par (i := 1) (j := 2) (by rfl) sc_law_is_long_right.nd rfl rfl (by decide) rfl rfl (pa_cons (pe_callTy (callRK (K := K) (r := rTupleP) call_tupleP) (by rfl) B.tuple (by decide +kernel) (pa_cons (pe_slice (slRK (K := K) (r := rSlP) sl_P) (pv 1) po_none (po_some pe_int)) pa_nil)) (pa_cons (pe_callB (call_min2P rfl) (by rfl) B.min (by decide +kernel) (pa_cons pe_int (pa_cons (pv 2) pa_nil))) pa_nil)) (by rfl))
      (pss_cons (ps_if (pt_cmpR (opRK (K := K) (r := rEqP) (op_eqP (hu64 hr))) (pe_callB (callRK (K := K) (r := rLenP) call_lenP) (by rfl) B.len (by decide +kernel) (pa_cons (pv 1) pa_nil)) pe_int (nomark _)) (pss_one (ps_set (i := 3) sc_law_is_long_right.nd rfl (.inl rfl) pe_non)) pss_nil)
      (pss_cons (ps_set (i := 4) sc_law_is_long_right.nd rfl (.inr rfl) (pe_cal c_law_least (hr.mono (by decide)) (by rfl) (pa_cons (pv 1) (pa_cons (pv 2) pa_nil))))
      (pss_cons (ps_if (PW.pt (pw_or (PW.pt (pw_and (pt_cmpR op_notN1 (pv 3) pe_non (nomark _)) (pw_and1 (pt_cmpR (opRK (K := K) (r := rNeP) (op_neP (hu64 hr))) (pv 3) (pv 4) (nomark _))))) (pw_or1 (PW.pt (pw_and (pt_cmpR (opRK (K := K) (r := rEqP) (op_eqP (hu64 hr))) (pv 2) pe_int (nomark _)) (pw_and1 (pt_cmpR (opRK (K := K) (r := rNeP) (op_neP (hu64 hr))) (pv 4) (pe_callB (callRK (K := K) (r := rLenP) call_lenP) (by rfl) B.len (by decide +kernel) (pa_cons (pe_lc (own := [("one", 8), ("other", 9)]) (g := _) (tt := _) rfl sc_law_is_long_right.nd (RZ.pi_zipA (by rfl) B.zip (pa_cons (pe_op (opRK (K := K) (r := rAddP) op_addP) (pe_tup (pa_cons (pe_un un_neg pe_int) pa_nil)) (pv 1)) (pa_cons (pv 1) pa_nil))) (blkOk_by (N := n_law_is_long_right) (sc := defScope s_law_is_long_right) (by decide +kernel)) (fun _ _ _ _ _ => (pg_tupK (K := K) (n := 2) rfl (pgs_cons (pg_name (i := 8) sc_law_is_long_right.nd rfl (Or.inl rfl)) (pgs_cons (pg_name (i := 9) sc_law_is_long_right.nd rfl (Or.inl rfl)) pgs_nil)))) (fun _ _ _ _ _ => (pts_one (pt_cmpR (opRK (K := K) (r := rNeP) (op_neP (hu64 hr))) (pv 8) (pv 9) (nomark _)))) (fun _ _ _ _ _ => pe_int)) pa_nil)) (nomark _)))))))) (pss_one (ps_ret pe_bl)) pss_nil)
      (pss_cons (ps_if (pt_cmpR (opRK (K := K) (r := rNeP) (op_neP (hu64 hr))) (pe_callB (cr_repr hg (hu100 hr)) (by rfl) B.repr (by decide +kernel) (pa_cons (pe_lst (pa_cons (pe_cal c_least_fetches (hr.mono (by decide)) (by rfl) (pa_cons (pv 1) (pa_cons (pv 2) pa_nil))) (pa_cons (pe_calW cw_least_fetches (hr.mono (by decide)) (by rfl) (pk_cons (pv 2) (pk_cons (pv 1) pk_nil))) pa_nil))) pa_nil)) (pe_callB (cr_repr hg (hu100 hr)) (by rfl) B.repr (by decide +kernel) (pa_cons (pe_lst (pa_cons (pv 4) (pa_cons (pv 4) pa_nil))) pa_nil)) (nomark _)) (pss_one (ps_ret pe_bl)) pss_nil)
      (pss_cons (ps_set (i := 5) sc_law_is_long_right.nd rfl (.inl rfl) (pe_cal c_fetch_row (hr.mono (by decide)) (by rfl) (pa_cons (pv 1) (pa_cons (pv 2) pa_nil))))
      (pss_cons (ps_if (PW.pt (pw_or (pt_not (pt_val (pe_callB (callRK (K := K) (r := rIsi) call_isi) (by rfl) B.isinstance (by decide +kernel) (pa_cons (pv 5) (pa_cons (pe_bltn (v := .ty "tuple") (by rfl) B.tuple (by decide +kernel) rfl) pa_nil))))) (pw_or (pt_cmpR (opRK (K := K) (r := rNeP) (op_neP (hu64 hr))) (pe_callB (callRK (K := K) (r := rLenP) call_lenP) (by rfl) B.len (by decide +kernel) (pa_cons (pv 5) pa_nil)) (pv 2) (nomark _)) (pw_or1 (pt_cmpR (opRK (K := K) (r := rNeP) (op_neP (hu64 hr))) (pe_callB (cr_repr hg (hu100 hr)) (by rfl) B.repr (by decide +kernel) (pa_cons (pe_ix (ixRK (K := K) (r := rIxP) (ix_P (hu1 hr))) (pv 5) (pe_un un_neg pe_int) (fun _ _ => rfl)) pa_nil)) (pe_callB (cr_repr hg (hu100 hr)) (by rfl) B.repr (by decide +kernel) (pa_cons (pv 4) pa_nil)) (nomark _)))))) (pss_one (ps_ret pe_bl)) pss_nil)
      (pss_cons (ps_set (i := 6) sc_law_is_long_right.nd rfl (.inl rfl) (pe_ix (ixRK (K := K) (r := rIxP) (ix_P (hu1 hr))) (pe_lc (own := [("at", 10), ("fetches", 11)]) (g := _) (tt := _) rfl sc_law_is_long_right.nd (pi_enumP (by rfl) B.enumerate (pa_cons (pv 5) pa_nil)) (blkOk_by (N := n_law_is_long_right) (sc := defScope s_law_is_long_right) (by decide +kernel)) (fun _ _ _ _ _ => (pg_tupK (K := K) (n := 2) rfl (pgs_cons (pg_name (i := 10) sc_law_is_long_right.nd rfl (Or.inl rfl)) (pgs_cons (pg_name (i := 11) sc_law_is_long_right.nd rfl (Or.inl rfl)) pgs_nil)))) (fun _ _ _ _ _ => (pts_one (pt_cmpR op_le (pv 11) (pv 4) (nomark _)))) (fun _ _ _ _ _ => (pe_op (opRK (K := K) (r := rAddP) op_addP) (pv 10) pe_int))) pe_int (fun _ _ => rfl)))
      (pss_cons (ps_if (pt_cmpR (opRK (K := K) (r := rNeP) (op_neP (hu64 hr))) (pe_callB (cr_repr hg (hu100 hr)) (by rfl) B.repr (by decide +kernel) (pa_cons (pe_cal c_least_room (hr.mono (by decide)) (by rfl) (pa_cons (pv 1) (pa_cons (pv 4) pa_nil))) pa_nil)) (pe_callB (cr_repr hg (hu100 hr)) (by rfl) B.repr (by decide +kernel) (pa_cons (pv 6) pa_nil)) (nomark _)) (pss_one (ps_ret pe_bl)) pss_nil)
      (pss_cons (ps_set (i := 7) sc_law_is_long_right.nd rfl (.inl rfl) (pe_cal c_judge_pages (hr.mono (by decide)) (by rfl) (pa_cons (pv 1) (pa_cons (pv 2) pa_nil))))
      (pss_cons (ps_if (PW.pt (pw_or (pt_not (pt_val (pe_cal c_law_is_paper (hr.mono (by decide)) (by rfl) (pa_cons (pv 1) (pa_cons (pv 2) (pa_cons (pv 7) pa_nil)))))) (pw_or1 (pt_cmpR (opRK (K := K) (r := rNeP) (op_neP (hu64 hr))) (pe_op op_sub (pe_callB (callRK (K := K) (r := rLenP) call_lenP) (by rfl) B.len (by decide +kernel) (pa_cons (pv 1) pa_nil)) (pe_callB (callRK (K := K) (r := rLenP) call_lenP) (by rfl) B.len (by decide +kernel) (pa_cons (pe_ix (ixRK (K := K) (r := rIxP) (ix_P (hu1 hr))) (pv 7) pe_int (fun _ _ => rfl)) pa_nil))) (pv 4) (nomark _))))) (pss_one (ps_ret pe_bl)) pss_nil)
      (pss_one (ps_ret (pe_cmpR op_isBl (pe_cal c_pages_holds (hr.mono (by decide)) (by rfl) (pa_cons (pv 1) (pa_cons (pv 2) (pa_cons (pv 7) pa_nil)))) pe_bl (nomark _)))))))))))))))), fun vs L LQ h => ?_⟩)
  · obtain ⟨a, n, L0, rfl, _⟩ := h
    rfl
  · obtain ⟨a, n, L0, rfl, hD, hn, q⟩ := h
    walk_at "norm"
    refine ws_seq (ws_asgG ?_)
    walk_at "go"
    refine ⟨a, n, L0, rfl, hD, by omega, fun v ts r0 kn L1 lok hD1 => ?_⟩
    refine wg_tupO (ds := [.list (iD ts), .int (r0 : Nat), optD kn]) (Ent.dv hD1.ent (Dv.mem (.head _))) rfl fun vs L2 o => ?_
    obtain ⟨u1, u2, u3, La, Lb, rfl, q3, q2, q1⟩ := o.three
    obtain ⟨rfl, rfl⟩ := out_opt q3
    obtain ⟨rfl, rfl⟩ := q2
    obtain rfl : L2 = _ := q1
    walk_at "go"
    refine wsl_L (ds := iD ts) (Ls.dat (Dv.mem (.head _))) fun p1 => ?_
    have ecut : cutD (iD ts) none (some (400 : Int)) = iD ts := by
      rw [show (400 : Int) = ((400 : Nat) : Int) from rfl, cut_to, List.take_of_length_le (by rw [List.length_map]; exact lok.len)]
    rw [ecut]
    walk_at "go"
    refine wc_tuple (Ls.own (.head _)) fun x => ?_
    walk_at "go"
    refine wc_min2 ?_
    walk_at "go"
    obtain ⟨k, hk⟩ : ∃ k, min 40 r0 = k + 1 := ⟨min 40 r0 - 1, by have := lok.one; omega⟩
    rw [show min (40 : Int) (r0 : Int) = (k : Int) + 1 by omega]
    refine ⟨_, _, rfl, ?_⟩
    have hD2 : Deck K (.da x (.tuple (iD ts)) :: .ld p1 (iD ts) :: .da u1 (.list (iD ts)) :: Lb) a (n + 6) (.da x (.tuple (iD ts)) :: L0) := Deck.cons (Deck.pre (Ent.drop (Ent.drop Ent.refl)) (hD1.post (Ent.drop Ent.refl)))
    generalize (As.da x (.tuple (iD ts)) :: As.ld p1 (iD ts) :: As.da u1 (.list (iD ts)) :: Lb) = L3 at hD2
    have hd : Dv K L3 x (.tuple (iD ts)) := Ent.dv hD2.ent (Dv.mem (.head _))
    have len : (iD ts).length = ts.length := List.length_map _
    have hz := lok.len
    have hz2 : ts.length < 2 ^ 20 := Nat.lt_of_le_of_lt hz (by decide)
    have hz3 : ts.length < 1000 := Nat.lt_of_le_of_lt hz (by decide)
    have hz9 : ts.length < 10 ^ 9 := Nat.lt_of_le_of_lt hz (by decide)
    have hk40 : k < 40 := by omega
    have hnat : natD ts := fun c hc => (lok.nat c hc).1
    have hkl := kept_len ts k hz9
    have hf : fewest ts (k + 1) = (bel ts (k + 1) : Int) := pgM.eq ts k hz9
    have known := lok.known
    rw [hk] at known
    have ek : (k : Int) + 1 = ((k + 1 : Nat) : Int) := by omega
    obtain ⟨m, hm⟩ : ∃ m, bel ts (k + 1) = m := ⟨_, rfl⟩
    -- known is forgotten where there are 400
    refine ws_cut (fun σ' L' => ∃ kn : Option Nat, (∀ v, kn = some v → v = m) ∧ σ' = [some (.ref a), some x, some (.int (k + 1 : Int)), some (optV kn), none, none, none, none, none, none, none, none] ∧ L' = L3) ?_ ?_
    · walk_at "go"
      refine wc_len (Sq.tup hd) ?_
      walk_at "go"
      refine iteR (fun h => ?_) fun h => ?_
      · walk_at "go"
        exact ⟨none, fun v e => (nomatch e), rfl, rfl⟩
      · exact ws_next ⟨kn, fun v e => (known v e).trans hm, rfl, rfl⟩
    rintro σ' L' ⟨kn2, hkn, rfl, rfl⟩
    refine ws_cut (fun σ' L1 => σ' = [some (.ref a), some x, some (.int (k + 1 : Int)), some (optV kn2), some (.int (m : Int)), none, none, none, none, none, none, none] ∧ L1 = L') ?_ ?_
    · walk_at "go"
      refine ⟨false, x, ts, k + 1, by rw [ek], .inr ⟨rfl, hd⟩, hz2, by omega, ?_⟩
      rw [hm]
      exact ⟨rfl, rfl⟩
    rintro σ' L' ⟨rfl, rfl⟩
    -- known is due; with room one the changes
    have zat : ∀ {i : Nat} {d e : PyData}, (iD ((-1 : Int) :: ts))[i]? = some d → (iD ts)[i]? = some e → ∃ a b : Int, ((-1 : Int) :: ts)[i]? = some a ∧ ts[i]? = some b ∧ d = .int a ∧ e = .int b := fun h1 h2 => by
      obtain ⟨a, ha, rfl⟩ := iD_at h1
      obtain ⟨b, hb, rfl⟩ := iD_at h2
      exact ⟨a, b, ha, hb, rfl, rfl⟩
    refine ws_cut (fun σ' L1 => σ' = [some (.ref a), some x, some (.int (k + 1 : Int)), some (optV kn2), some (.int (m : Int)), none, none, none, none, none, none, none] ∧ Ent K L1 L') ?_ ?_
    · refine ws_if (wt_or (Wt.imp (Q := fun b L1 => b = false ∧ L1 = L') ?_ ?_))
      · cases kn2 with
        | none =>
          walk_at "go"
          refine w2_notN ?_
          refine ⟨false, rfl, ?_⟩
          exact iteF ⟨rfl, rfl⟩
        | some v =>
          obtain rfl := hkn v rfl
          walk_at "go"
          refine w2_notN ?_
          refine ⟨true, rfl, iteT ?_⟩
          walk_at "go"
          refine w2_nePI ?_
          refine ⟨_, rfl, ?_, rfl⟩
          rw [decide_eq_true rfl]
          rfl
      rintro b L1 ⟨rfl, rfl⟩
      refine iteF ?_
      walk_at "go"
      refine iteR (fun h1 => ?_) fun h1 => ?_
      · have h1' := of_decide_eq_true h1
        obtain rfl : k = 0 := by omega
        walk_at "go"
        refine wp_lc (wi_zipT ?_)
        walk_at "go"
        refine wp_tup ?_
        walk_at "go"
        refine ⟨[.int (-1)], Dvs.cons Dv.int Dvs.nil, by walk_at "len", fun t1 => ?_⟩
        walk_at "go"
        refine w2_addT (ds := [.int (-1)]) (es := iD ts) (Dv.mem (.head _)) (Ent.dv (Ent.drop Ent.refl) hd) (by rw [len, sizeLine_eq, List.length_singleton]; omega) fun z => ?_
        walk_at "go"
        generalize hM1 : As.da z (.tuple ([.int (-1)] ++ iD ts)) :: As.da (.ref t1) (.tuple [.int (-1)]) :: L1 = M1
        have b1 : Dv K M1 z (.tuple (iD ((-1 : Int) :: ts))) := by rw [← hM1]; exact Dv.mem (.head _)
        have b3 : Ent K M1 L1 := by rw [← hM1]; exact Ent.drop (Ent.drop Ent.refl)
        have b2 : Dv K M1 x (.tuple (iD ts)) := Ent.dv b3 hd
        refine ⟨z, x, iD ((-1 : Int) :: ts), iD ts, rfl, b1, b2, ?_⟩
        rw [show min (iD ((-1 : Int) :: ts)).length (iD ts).length = ts.length by rw [len, List.length_map, List.length_cons]; omega]
        refine ⟨fun i acc L' => L' = M1 ∧ acc = List.replicate (chg ts i) (.int 1), ⟨rfl, rfl⟩, ?_, ?_, ?_⟩
        · rintro i acc L' D hi ⟨rfl, rfl⟩
          exact ⟨Ent.dv (Ent.drop Ent.refl) b1, Ent.dv (Ent.drop Ent.refl) b2⟩
        · rintro i acc L' v L2 D hi ⟨rfl, rfl⟩ ⟨d, e, h1, h2, rfl⟩
          obtain ⟨p, p', ha, hb, rfl, rfl⟩ := zat h1 h2
          have hch := ahead hnat ha hb
          refine wg_tupO (ds := [.int p, .int p']) (Dv.mem (.head _)) rfl fun vs L3 o => ?_
          obtain ⟨w1, w2, L4, rfl, o2, o1⟩ := o.two
          obtain ⟨rfl, rfl⟩ := o2
          obtain ⟨rfl, rfl⟩ := o1
          walk_at "go"
          refine ⟨rfl, ?_⟩
          walk_at "go"
          refine iteR (fun hne => ?_) fun hne => ?_
          · have hne' : p ≠ p' := by simpa using hne
            walk_at "go"
            refine ⟨.int 1, _, Dv.int, Ent.drop Ent.refl, ?_, rfl, ?_⟩
            · have := chg_le ts i
              rw [List.length_replicate, sizeLine_eq]; omega
            · rw [chg_succ, if_pos (hch.mpr hne'), List.replicate_succ']
          · have hne' : p = p' := by simpa using hne
            refine ⟨_, Ent.drop Ent.refl, rfl, ?_⟩
            rw [chg_succ, if_neg (fun z => hch.mp z hne'), Nat.add_zero]
        · rintro acc L' D ⟨rfl, rfl⟩
          walk_at "go"
          refine wc_len (Sq.own (.head _)) ?_
          rw [List.length_replicate]
          walk_at "go"
          rw [← bel_one hz9, hm, decide_eq_true rfl]
          exact iteF (ws_next ⟨rfl, Ent.drop b3⟩)
      · exact iteF (ws_next ⟨rfl, Ent.refl⟩)
    rintro σ' L4 ⟨rfl, e4⟩
    refine Ws.ent e4 ?_
    have hmz : m ≤ ts.length := by omega
    have hmb : ((m : Nat) : Int).natAbs < 2 ^ 64 := by
      rw [Int.natAbs_natCast]
      exact Nat.lt_of_le_of_lt hmz (Nat.lt_trans hz2 (by decide))
    have sh2 : Shows base (.list [.int (m : Nat), .int (m : Nat)]) := shows_two hmb
    -- told by position and by name
    refine ws_cut (fun σ' L1 => σ' = [some (.ref a), some x, some (.int (k + 1 : Int)), some (optV kn2), some (.int (m : Int)), none, none, none, none, none, none, none] ∧ Ent K L1 L') ?_ ?_
    · refine ws_if ?_
      walk_at "go"
      refine wp_lst ?_
      walk_at "go"
      refine ⟨x, ts, k, rfl, hd, hz2, hnat, ?_⟩
      rw [hf, hm]
      walk_at "go"
      refine wp_calW ?_
      walk_at "go"
      refine ⟨x, ts, k, rfl, hd, hz2, hnat, ?_⟩
      rw [hf, hm]
      walk_at "go"
      refine ⟨_, by walk_at "dvs", by walk_at "len", fun l1 => ?_⟩
      walk_at "go"
      refine wc_repr (Dn.own (.head _)) sh2 ?_
      walk_at "go"
      refine wp_lst ?_
      walk_at "go"
      refine ⟨_, by walk_at "dvs", by walk_at "len", fun l2 => ?_⟩
      walk_at "go"
      refine wc_repr (Dn.own (.head _)) sh2 ?_
      walk_at "go"
      rw [decide_eq_true rfl]
      exact iteF (ws_next ⟨rfl, Ent.drop (Ent.drop Ent.refl)⟩)
    rintro σ' L5 ⟨rfl, e5⟩
    refine Ws.ent e5 ?_
    -- the row
    have erow : rowF ts (k + 1) = dueL ts (k + 1) := row_due pgM hz2
    refine ws_cut (fun σ' L1 => ∃ v, σ' = [some (.ref a), some x, some (.int (k + 1 : Int)), some (optV kn2), some (.int (m : Int)), some v, none, none, none, none, none, none] ∧ L1 = .da v (.tuple (iD (dueL ts (k + 1)))) :: L') ?_ ?_
    · walk_at "go"
      refine ⟨x, ts, k + 1, by rw [ek], by omega, by omega, hd, hz2, hnat, fun v => ?_⟩
      rw [erow]
      exact ⟨v, rfl, rfl⟩
    rintro σ' L6 ⟨vr, rfl, rfl⟩
    have hr6 : Dv K (.da vr (.tuple (iD (dueL ts (k + 1)))) :: L') vr (.tuple (iD (dueL ts (k + 1)))) := Dv.mem (.head _)
    have lrow : (iD (dueL ts (k + 1))).length = k + 1 := by rw [List.length_map, dueL_len]
    generalize hL6 : As.da vr (.tuple (iD (dueL ts (k + 1)))) :: L' = L6 at hr6
    have e6 : Ent K L6 L' := by rw [← hL6]; exact Ent.drop Ent.refl
    refine ws_cut (fun σ' L1 => σ' = [some (.ref a), some x, some (.int (k + 1 : Int)), some (optV kn2), some (.int (m : Int)), some vr, none, none, none, none, none, none] ∧ Ent K L1 L6) ?_ ?_
    · refine ws_if ?_
      walk_at "go"
      refine wc_isi (Dn.dat hr6) (kit_tuple _) ⟨true, rfl, ?_⟩
      refine iteF ?_
      walk_at "go"
      refine wc_len (Sq.tup hr6) ?_
      rw [lrow]
      walk_at "go"
      rw [← ek, decide_eq_true rfl]
      refine iteF ?_
      walk_at "go"
      refine W2.fst (w2_ixI (n := (m : Nat)) (Sq.tup hr6) (by rw [← hm]; exact atI_last (by omega)) ?_)
      walk_at "go"
      refine wc_repr (d := .int (m : Nat)) (Dn.dat Dv.int) (shows_int hmb) ?_
      walk_at "go"
      refine wc_repr (d := .int (m : Nat)) (Dn.dat Dv.int) (shows_int hmb) ?_
      walk_at "go"
      rw [decide_eq_true rfl]
      exact iteF (ws_next ⟨rfl, Ent.refl⟩)
    rintro σ' L7 ⟨rfl, e7⟩
    refine Ws.ent e7 ?_
    -- the least room
    obtain ⟨j, hjk, hj1, hj2, hj3⟩ := least_of (ts := ts) (r := k + 1) (by omega) hz9
    rw [hm] at hj1 hj2 hj3
    refine ws_cut (fun σ' L1 => σ' = [some (.ref a), some x, some (.int (k + 1 : Int)), some (optV kn2), some (.int (m : Int)), some vr, some (.int (j + 1 : Int)), none, none, none, none, none] ∧ Ent K L1 L6) ?_ ?_
    · walk_at "go"
      refine wp_lc (wi_enumT ?_)
      walk_at "go"
      refine ⟨vr, _, rfl, hr6, ?_⟩
      rw [lrow]
      refine ⟨fun i acc L' => L' = L6 ∧ acc = leastL ts m i, ⟨rfl, rfl⟩, ?_, ?_, ?_⟩
      · rintro i acc L' D hi ⟨rfl, rfl⟩
        exact Ent.dv (Ent.drop Ent.refl) hr6
      · rintro i acc L' v L2 D hi ⟨rfl, rfl⟩ h
        obtain ⟨d, hd1, rfl⟩ := h
        obtain ⟨c, hc, rfl⟩ := iD_at hd1
        rw [dueL_at hi] at hc
        obtain rfl := Option.some.inj hc
        refine wg_tupO (ds := [.int (i : Int), .int (bel ts (i + 1) : Int)]) (Dv.mem (.head _)) rfl fun vs L3 o => ?_
        obtain ⟨w1, w2, L4, rfl, o2, o1⟩ := o.two
        obtain ⟨rfl, rfl⟩ := o2
        obtain ⟨rfl, rfl⟩ := o1
        walk_at "go"
        refine ⟨rfl, ?_⟩
        walk_at "go"
        refine iteR (fun hle => ?_) fun hle => ?_
        · have hle' := of_decide_eq_true hle
          walk_at "go"
          refine ⟨_, _, Dv.int, Ent.drop Ent.refl, ?_, rfl, ?_⟩
          · have := leastL_len ts m i
            rw [sizeLine_eq]; omega
          · rw [leastL_succ, if_pos (by omega)]
        · have hle' := of_decide_eq_false hle
          refine ⟨_, Ent.drop Ent.refl, rfl, ?_⟩
          rw [leastL_succ, if_neg (by omega), List.append_nil]
      · rintro acc L' D ⟨rfl, rfl⟩
        walk_at "go"
        refine W2.fst (w2_ixI (n := (j + 1 : Int)) (Sq.own (.head _)) (leastL_head hjk hj1 hj2) ?_)
        exact ⟨rfl, Ent.drop Ent.refl⟩
    rintro σ' L8 ⟨rfl, e8⟩
    refine Ws.ent e8 ?_
    have hd6 : Dv K L6 x (.tuple (iD ts)) := Ent.dv e6 hd
    have hjb : ((j : Int) + 1).natAbs < 2 ^ 64 := by omega
    refine ws_cut (fun σ' L1 => σ' = [some (.ref a), some x, some (.int (k + 1 : Int)), some (optV kn2), some (.int (m : Int)), some vr, some (.int (j + 1 : Int)), none, none, none, none, none] ∧ Ent K L1 L6) ?_ ?_
    · refine ws_if ?_
      walk_at "go"
      refine ⟨x, ts, m, rfl, hd6, hz2, hnat, ?_⟩
      rw [hj3]
      walk_at "go"
      show Wc K (rRepr K base) [.int (j + 1 : Nat)] _ _
      rw [show ((j + 1 : Nat) : Int) = (j : Int) + 1 by omega]
      refine wc_repr (d := .int (j + 1 : Int)) (Dn.dat Dv.int) (shows_int hjb) ?_
      walk_at "go"
      refine wc_repr (d := .int (j + 1 : Int)) (Dn.dat Dv.int) (shows_int hjb) ?_
      walk_at "go"
      rw [decide_eq_true rfl]
      exact iteF (ws_next ⟨rfl, Ent.refl⟩)
    rintro σ' L9 ⟨rfl, e9⟩
    refine Ws.ent e9 ?_
    -- a paper
    walk_at "go"
    refine ⟨x, ts, k, rfl, hd6, hz3, hnat, fun v bs hbs => ?_⟩
    have hv : Dv K (.da v (paperD (kept ts k) bs) :: L6) v (paperD (kept ts k) bs) := Dv.mem (.head _)
    have hbl := bars_few hbs
    generalize hL10 : As.da v (paperD (kept ts k) bs) :: L6 = L10 at hv
    have e10 : Ent K L10 L6 := by rw [← hL10]; exact Ent.drop Ent.refl
    have hd10 : Dv K L10 x (.tuple (iD ts)) := Ent.dv e10 hd6
    have okP := paper_ok hbs
    walk_at "go"
    refine ⟨x, ts, v, _, k, rfl, hd10, hz3, by omega, hv, fewP_paper (by omega) (by omega), fun b hb => ?_⟩
    have : b = true := hb.mpr ⟨_, _, rfl, okP⟩
    subst this
    refine ⟨true, rfl, iteF ?_⟩
    walk_at "go"
    refine wc_len (Sq.tup hd10) ?_
    walk_at "go"
    refine W2.fst (w2_at (d := .tuple (kD (kept ts k))) (Sq.tup hv) rfl fun v3 L11 o => ?_)
    obtain rfl : L11 = _ := o
    walk_at "go"
    refine wc_len (Sq.tup (Dv.mem (.head _))) ?_
    walk_at "go"
    rw [len, show (kD (kept ts k)).length = (kept ts k).length from List.length_map _, show (ts.length : Int) - ((kept ts k).length : Int) = (m : Int) by omega, decide_eq_true rfl]
    refine iteF (ws_next ?_)
    refine Ws.ent (L' := L10) (Ent.drop Ent.refl) ?_
    walk_at "go"
    refine ⟨x, ts, v, _, k, rfl, hd10, hz2, hnat, by omega, hv, fewP_paper (by omega) (by omega), fun b hb => ?_⟩
    have : b = true := hb.mpr ⟨_, _, rfl, okP⟩
    subst this
    walk_at "go"
    refine w2_isB ?_
    rw [decide_eq_true rfl]
    exact ⟨L10, Ent.refl, q _ (Deck.post (Deck.pre (e10.trans e6) hD2) (Ent.drop Ent.refl))⟩
end
end K84
namespace K84
open PySem PySem.Spec PyProof.Rows L2 Lg
/-! short tactics of my own, under the word walk_at -/
local macro_rules | `(tactic| walk_at "mem") => `(tactic| first | exact List.Mem.head _ | assumption | (refine List.Mem.tail _ ?_; walk_at "mem"))
local macro_rules | `(tactic| walk_at "put") => `(tactic| first | exact Put.here | (apply Put.there; walk_at "put"))
local macro_rules | `(tactic| walk_at "pick") => `(tactic| first | exact Pick.here | (apply Pick.there; walk_at "pick"))
local macro_rules | `(tactic| walk_at "ent") => `(tactic| first | exact Ent.refl | exact Ent.nil | (refine Ent.cons (by walk_at "pick") ?_; walk_at "ent") | (refine Ent.dup (by walk_at "mem") ?_; walk_at "ent") | (refine Ent.drop ?_; walk_at "ent"))
local macro_rules | `(tactic| walk_at "dv") => `(tactic| first | exact Dv.int | exact Dv.bl | exact Dv.str | exact Dv.non | assumption | exact Dv.mem (by walk_at "mem"))
local macro_rules | `(tactic| walk_at "dvs") => `(tactic| first | exact Dvs.nil | (apply Dvs.cons; (focus walk_at "dv"); (focus walk_at "dvs")))
local macro_rules | `(tactic| walk_at "norm") => `(tactic| try dsimp only [cxK, noxK, wishK, blkK, baseK, noxB])
local macro_rules | `(tactic| walk_at "num") => `(tactic| first | decide | omega | (simp only [CMul, CPow, CDivN]; omega) | assumption)
local macro_rules | `(tactic| walk_at "one") => `(tactic| with_reducible first
  | refine wp_var rfl ?_ | refine wp_c ?_ | refine wp_op ?_ | refine wp_cb ?_ | refine wa_cons ?_ | refine wa_nil ?_
  | refine ws_seq ?_ | refine ws_asg ?_ | refine ws_drop ?_ | refine ws_ret ?_ | refine ws_if ?_ | refine ws_par ?_ | refine ws_par3 ?_
  | refine wp_un ?_ | refine wp_chain ?_ | refine wp_if ?_ | refine wp_andV ?_ | refine wp_orV ?_ | refine wp_notV ?_ | refine wp_cal ?_ | refine wp_sl ?_
  | refine wo_none ?_ | refine wo_some ?_
  | refine wt_test ?_ | refine wt_B ?_ | refine wt_yes ?_ | refine wt_and ?_ | refine wt_or ?_ | refine wt_not ?_
  | refine w2_mulI (by walk_at "num") ?_ | refine w2_I (by walk_at "num") ?_
  | refine w2_addI ?_ | refine w2_eqPI ?_ | refine w2_eqPS ?_ | refine w2_nePS ?_ | refine w2_nePI ?_ | refine w2_ltI ?_ | refine w2_I0 ?_ | refine w1_U ?_
  | refine wg_name ?_ | refine wgs_nil ?_ | refine wgs_cons ?_ | refine iteT ?_ | refine iteF ?_ | refine ⟨_, rfl, ?_⟩)
local macro_rules | `(tactic| walk_at "go") => `(tactic| repeat walk_at "one")
local macro_rules | `(tactic| walk_at "len") => `(tactic| (simp only [List.length_cons, List.length_nil]; decide))

abbrev s_law : Stmt := topS 44
abbrev n_law : List Str := ["script", "deck"]
theorem sc_law : FnScope n_law ["script"] (defScope s_law) := ⟨rfl, rfl, rfl, by decide +kernel, rfl, by decide +kernel, by decide +kernel⟩
section
variable {P : Program} {w : World} {K : PySem.W.Frag} {mg : Str → Option Value} {base : Heap}
def S_law (K : PySem.W.Frag) (PT : Addr) : SpL := fun vs L Q => ∃ x cs, vs = [x] ∧ (∃ q, L = [.tb PT q, .da x (.list (iD cs))]) ∧ cs.length < sizeLine ∧ ∀ L', Q (.bl true) L'
theorem ok_law {f PT : Addr} {fd : FuncData} (F : Fun K "law" "law" s_law f fd) (B : Bs mg) (c_law_deck : Cal P w K mg base "_law_deck" 1 ["script"] (S_law_deck K)) (c_law_is_long_right : CalG P w K mg base "_law_is_long_right" 5 ["deck"] (S_law_is_long_right K)) : FnG P w K mg base 8 f fd ["script"] (spL K (S_law K PT)) := by
  refine okG F sc_law (fun vs L Q h => ?_) (fun cdv A outer s H E hr hg => ⟨_, (pss_cons (ps_set (i := 1) sc_law.nd rfl (.inl rfl) (pe_cal c_law_deck (hr.mono (by decide)) (by rfl) (pa_cons (pv 0) pa_nil)))
      (pss_one (ps_ret (pe_and (pe_calG c_law_is_long_right hg (hr.mono (by decide)) (by rfl) (pa_cons (pv 1) pa_nil)) (pe_one (pe_calG c_law_is_long_right hg (hr.mono (by decide)) (by rfl) (pa_cons (pv 1) pa_nil))))))), fun vs L LQ h => ?_⟩)
  · obtain ⟨x, cs, rfl, _⟩ := h
    rfl
  · obtain ⟨x, cs, rfl, ⟨qn, rfl⟩, hz, q⟩ := h
    walk_at "norm"
    walk_at "go"
    refine ⟨x, cs, rfl, Ls.dat (Dv.mem (.tail _ (.head _))), hz, fun da L1 hD => ?_⟩
    walk_at "go"
    refine ⟨da, 0, _, rfl, hD, by decide, fun L2 hD2 => ?_⟩
    refine ⟨true, rfl, iteT ?_⟩
    walk_at "go"
    refine ⟨da, _, _, rfl, hD2, by decide, fun L3 hD3 => ?_⟩
    exact ⟨_, Ent.refl, q _⟩
end
end K84
namespace K84
open PySem PySem.Spec PyProof.Rows L2 Lg
def fn : List He.DefD := [
  ⟨("is_integer", none), "is_integer", "is_integer", defArgs s_is_integer, defBody s_is_integer, defScope s_is_integer, [], []⟩,
  ⟨("are_touches", none), "are_touches", "are_touches", defArgs s_are_touches, defBody s_are_touches, defScope s_are_touches, [], []⟩,
  ⟨("check_touches", none), "check_touches", "check_touches", defArgs s_check_touches, defBody s_check_touches, defScope s_check_touches, [], []⟩,
  ⟨("check_room", none), "check_room", "check_room", defArgs s_check_room, defBody s_check_room, defScope s_check_room, [], []⟩,
  ⟨("all_holds", none), "all_holds", "all_holds", defArgs s_all_holds, defBody s_all_holds, defScope s_all_holds, [], []⟩,
  ⟨("is_pair", none), "is_pair", "is_pair", defArgs s_is_pair, defBody s_is_pair, defScope s_is_pair, [], []⟩,
  ⟨("is_covered", none), "is_covered", "is_covered", defArgs s_is_covered, defBody s_is_covered, defScope s_is_covered, [], []⟩,
  ⟨("are_fitting", none), "are_fitting", "are_fitting", defArgs s_are_fitting, defBody s_are_fitting, defScope s_are_fitting, [], []⟩,
  ⟨("last_end", none), "last_end", "last_end", defArgs s_last_end, defBody s_last_end, defScope s_last_end, [], []⟩,
  ⟨("kept_holds", none), "kept_holds", "kept_holds", defArgs s_kept_holds, defBody s_kept_holds, defScope s_kept_holds, [], []⟩,
  ⟨("ends_by_place", none), "ends_by_place", "ends_by_place", defArgs s_ends_by_place, defBody s_ends_by_place, defScope s_ends_by_place, [], []⟩,
  ⟨("best_bars", none), "best_bars", "best_bars", defArgs s_best_bars, defBody s_best_bars, defScope s_best_bars, [], []⟩,
  ⟨("passing_holds", none), "passing_holds", "passing_holds", defArgs s_passing_holds, defBody s_passing_holds, defScope s_passing_holds, [], []⟩,
  ⟨("are_bars", none), "are_bars", "are_bars", defArgs s_are_bars, defBody s_are_bars, defScope s_are_bars, [], []⟩,
  ⟨("fewest_fetches", none), "fewest_fetches", "fewest_fetches", defArgs s_fewest_fetches, defBody s_fewest_fetches, defScope s_fewest_fetches, [], []⟩,
  ⟨("judge_pages", none), "judge_pages", "judge_pages", defArgs s_judge_pages, defBody s_judge_pages, defScope s_judge_pages, [], []⟩,
  ⟨("pages_holds", none), "pages_holds", "pages_holds", defArgs s_pages_holds, defBody s_pages_holds, defScope s_pages_holds, [], []⟩,
  ⟨("least_fetches", none), "least_fetches", "least_fetches", defArgs s_least_fetches, defBody s_least_fetches, defScope s_least_fetches, [], []⟩,
  ⟨("fetch_row", none), "fetch_row", "fetch_row", defArgs s_fetch_row, defBody s_fetch_row, defScope s_fetch_row, [], []⟩,
  ⟨("least_room", none), "least_room", "least_room", defArgs s_least_room, defBody s_least_room, defScope s_least_room, [], []⟩,
  ⟨("_law_deck", none), "_law_deck", "_law_deck", defArgs s_law_deck, defBody s_law_deck, defScope s_law_deck, [], []⟩,
  ⟨("_law_draw", none), "_law_draw", "_law_draw", defArgs s_law_draw, defBody s_law_draw, defScope s_law_draw, [], []⟩,
  ⟨("_law_pick", none), "_law_pick", "_law_pick", defArgs s_law_pick, defBody s_law_pick, defScope s_law_pick, [], []⟩,
  ⟨("_law_all_holds", none), "_law_all_holds", "_law_all_holds", defArgs s_law_all_holds, defBody s_law_all_holds, defScope s_law_all_holds, [], []⟩,
  ⟨("_law_are_fit", none), "_law_are_fit", "_law_are_fit", defArgs s_law_are_fit, defBody s_law_are_fit, defScope s_law_are_fit, [], []⟩,
  ⟨("_law_is_whole", none), "_law_is_whole", "_law_is_whole", defArgs s_law_is_whole, defBody s_law_is_whole, defScope s_law_is_whole, [], []⟩,
  ⟨("_law_are_holds", none), "_law_are_holds", "_law_are_holds", defArgs s_law_are_holds, defBody s_law_are_holds, defScope s_law_are_holds, [], []⟩,
  ⟨("_law_least", none), "_law_least", "_law_least", defArgs s_law_least, defBody s_law_least, defScope s_law_least, [], []⟩,
  ⟨("_law_is_place", none), "_law_is_place", "_law_is_place", defArgs s_law_is_place, defBody s_law_is_place, defScope s_law_is_place, [], []⟩,
  ⟨("_law_passing", none), "_law_passing", "_law_passing", defArgs s_law_passing, defBody s_law_passing, defScope s_law_passing, [], []⟩,
  ⟨("_law_is_paper", none), "_law_is_paper", "_law_is_paper", defArgs s_law_is_paper, defBody s_law_is_paper, defScope s_law_is_paper, [], []⟩,
  ⟨("_law_long", none), "_law_long", "_law_long", defArgs s_law_long, defBody s_law_long, defScope s_law_long, [], []⟩,
  ⟨("_law_is_long_right", none), "_law_is_long_right", "_law_is_long_right", defArgs s_law_is_long_right, defBody s_law_is_long_right, defScope s_law_is_long_right, [], []⟩,
  ⟨("law", none), "law", "law", defArgs s_law, defBody s_law, defScope s_law, [], []⟩,
  ⟨("BadTouches", some "__init__"), "__init__", "BadTouches" ++ ".__init__", (PySem.LgXc.iA ⟨9, 17, 9, 21⟩ ⟨9, 23, 9, 28⟩), (PySem.LgXc.iB ⟨10, 8, 10, 12⟩ ⟨10, 8, 10, 18⟩ ⟨10, 21, 10, 26⟩ ⟨10, 8, 10, 26⟩), PySem.LgXc.iS, [], []⟩,
  ⟨("BadRoom", some "__init__"), "__init__", "BadRoom" ++ ".__init__", (PySem.LgXc.iA ⟨13, 17, 13, 21⟩ ⟨13, 23, 13, 28⟩), (PySem.LgXc.iB ⟨14, 8, 14, 12⟩ ⟨14, 8, 14, 18⟩ ⟨14, 21, 14, 26⟩ ⟨14, 8, 14, 26⟩), PySem.LgXc.iS, [], []⟩]
def fa : List He.Fa := [.glo "is_integer", .glo "are_touches", .glo "check_touches", .glo "check_room", .glo "all_holds", .glo "is_pair", .glo "is_covered", .glo "are_fitting", .glo "last_end", .glo "kept_holds", .glo "ends_by_place", .glo "best_bars", .glo "passing_holds", .glo "are_bars", .glo "fewest_fetches", .glo "judge_pages", .glo "pages_holds", .glo "least_fetches", .glo "fetch_row", .glo "least_room", .glo "_law_deck", .glo "_law_draw", .glo "_law_pick", .glo "_law_all_holds", .glo "_law_are_fit", .glo "_law_is_whole", .glo "_law_are_holds", .glo "_law_least", .glo "_law_is_place", .glo "_law_passing", .glo "_law_is_paper", .glo "_law_long", .glo "_law_is_long_right", .glo "law", .glo "WayError", .glo "BadTouches", .glo "BadRoom"]
def frees : List Str := ["len", "sorted", "any", "all", "tuple", "list", "set", "max", "min", "range", "isinstance", "enumerate", "zip", "int", "str", "dict", "repr", "bool"]
def exK (K : PySem.W.Frag) : Bool := (He.Fa.int "PAIR" 2).ok K && ((He.Fa.int "PARTS" 3).ok K && ((He.Fa.str "FETCHED" "fetched").ok K && (exB K "BadTouches" "WayError" && (exB K "BadRoom" "WayError" && ((frees.all fun x => (He.Fa.free x).ok K) &&
  (decide (PySem.W.exmOne K (.ref (He.ga K "BadTouches")) (.ref (He.ga K "BadTouches")) = some true) && (decide (PySem.W.exmOne K (.ref (He.ga K "BadRoom")) (.ref (He.ga K "BadTouches")) = some false) && (decide (PySem.W.exmOne K (.ref (He.ga K "BadRoom")) (.ref (He.ga K "BadRoom")) = some true) &&
  (decide (PySem.W.kitOne K (.ref (He.ga K "BadTouches")) (.ref (He.ga K "WayError")) = some true) && decide (PySem.W.kitOne K (.ref (He.ga K "BadRoom")) (.ref (He.ga K "WayError")) = some true))))))))))
def tf : List He.Defn := [("_law_is_long_right", none)]
theorem bs_of {K : PySem.W.Frag} {h : Heap} {mg : Str → Option Value} (X : K.In h) (G : h.Ns mainGlobals mg) (q : (frees.all fun x => (He.Fa.free x).ok K) = true) : Bs mg := by
  have f : ∀ x ∈ frees, mg x = none := fun x hx => He.free_ok X G (List.all_eq_true.mp q x hx)
  refine ⟨?_, ?_, ?_, ?_, ?_, ?_, ?_, ?_, ?_, ?_, ?_, ?_, ?_, ?_, ?_, ?_, ?_, ?_⟩ <;> exact f _ (by decide)
theorem facts {P : Program} {w : World} {K : PySem.W.Frag} {h : Heap} {mg : Str → Option Value} {f : Addr} (X : K.In h) (G : h.Ns mainGlobals mg) (hfa : mg ("law" : Str) = some (.ref f)) (c : He.SaysX fa fn [] tf exK w h K) :
    ∃ (fd : FuncData) (c PT : Addr), h.get? PT = some { cls := .none, data := .fields #[] } ∧ K.lookup PT = none ∧ PySem.W.CodeHd h c PT ∧ (∀ (s : Shared) (u : Value), BindsTo s fd ⟨[u], []⟩ [("script", u)]) ∧
      ∀ base : Heap, K.In base → base.Ns mainGlobals mg → LamX.TabB base mg c PT → SysOk base → FnG P w K mg base 8 f fd ["script"] (spL K (S_law K PT)) := by
  obtain ⟨fd_is_integer, D_is_integer⟩ := c.t.d.def_ 0 rfl
  have g_is_integer : mg "is_integer" = some (.ref (He.ga K "is_integer")) := He.glo_ok X G (c.t.d.fact 0 (f := .glo "is_integer") rfl)
  have b_is_integer : Binds K fd_is_integer ["thing"] [] := FunD.bindsN D_is_integer fun _ _ _ _ _ _ us hl => match us, hl with | [_], _ => rfl
  have F_is_integer : Fun K "is_integer" "is_integer" s_is_integer (He.ga K "is_integer") fd_is_integer := fun_of D_is_integer
  obtain ⟨fd_are_touches, D_are_touches⟩ := c.t.d.def_ 1 rfl
  have g_are_touches : mg "are_touches" = some (.ref (He.ga K "are_touches")) := He.glo_ok X G (c.t.d.fact 1 (f := .glo "are_touches") rfl)
  have b_are_touches : Binds K fd_are_touches ["thing"] [] := FunD.bindsN D_are_touches fun _ _ _ _ _ _ us hl => match us, hl with | [_], _ => rfl
  have F_are_touches : Fun K "are_touches" "are_touches" s_are_touches (He.ga K "are_touches") fd_are_touches := fun_of D_are_touches
  obtain ⟨fd_check_touches, D_check_touches⟩ := c.t.d.def_ 2 rfl
  have g_check_touches : mg "check_touches" = some (.ref (He.ga K "check_touches")) := He.glo_ok X G (c.t.d.fact 2 (f := .glo "check_touches") rfl)
  have b_check_touches : Binds K fd_check_touches ["touches"] [] := FunD.bindsN D_check_touches fun _ _ _ _ _ _ us hl => match us, hl with | [_], _ => rfl
  have F_check_touches : Fun K "check_touches" "check_touches" s_check_touches (He.ga K "check_touches") fd_check_touches := fun_of D_check_touches
  obtain ⟨fd_check_room, D_check_room⟩ := c.t.d.def_ 3 rfl
  have g_check_room : mg "check_room" = some (.ref (He.ga K "check_room")) := He.glo_ok X G (c.t.d.fact 3 (f := .glo "check_room") rfl)
  have b_check_room : Binds K fd_check_room ["room"] [] := FunD.bindsN D_check_room fun _ _ _ _ _ _ us hl => match us, hl with | [_], _ => rfl
  have F_check_room : Fun K "check_room" "check_room" s_check_room (He.ga K "check_room") fd_check_room := fun_of D_check_room
  obtain ⟨fd_all_holds, D_all_holds⟩ := c.t.d.def_ 4 rfl
  have g_all_holds : mg "all_holds" = some (.ref (He.ga K "all_holds")) := He.glo_ok X G (c.t.d.fact 4 (f := .glo "all_holds") rfl)
  have b_all_holds : Binds K fd_all_holds ["touches"] [] := FunD.bindsN D_all_holds fun _ _ _ _ _ _ us hl => match us, hl with | [_], _ => rfl
  have F_all_holds : Fun K "all_holds" "all_holds" s_all_holds (He.ga K "all_holds") fd_all_holds := fun_of D_all_holds
  obtain ⟨fd_is_pair, D_is_pair⟩ := c.t.d.def_ 5 rfl
  have g_is_pair : mg "is_pair" = some (.ref (He.ga K "is_pair")) := He.glo_ok X G (c.t.d.fact 5 (f := .glo "is_pair") rfl)
  have b_is_pair : Binds K fd_is_pair ["thing"] [] := FunD.bindsN D_is_pair fun _ _ _ _ _ _ us hl => match us, hl with | [_], _ => rfl
  have F_is_pair : Fun K "is_pair" "is_pair" s_is_pair (He.ga K "is_pair") fd_is_pair := fun_of D_is_pair
  obtain ⟨fd_is_covered, D_is_covered⟩ := c.t.d.def_ 6 rfl
  have g_is_covered : mg "is_covered" = some (.ref (He.ga K "is_covered")) := He.glo_ok X G (c.t.d.fact 6 (f := .glo "is_covered") rfl)
  have b_is_covered : Binds K fd_is_covered ["hold", "place"] [] := FunD.bindsN D_is_covered fun _ _ _ _ _ _ us hl => match us, hl with | [_, _], _ => rfl
  have F_is_covered : Fun K "is_covered" "is_covered" s_is_covered (He.ga K "is_covered") fd_is_covered := fun_of D_is_covered
  obtain ⟨fd_are_fitting, D_are_fitting⟩ := c.t.d.def_ 7 rfl
  have g_are_fitting : mg "are_fitting" = some (.ref (He.ga K "are_fitting")) := He.glo_ok X G (c.t.d.fact 7 (f := .glo "are_fitting") rfl)
  have b_are_fitting : Binds K fd_are_fitting ["touches", "room", "thing"] [] := FunD.bindsN D_are_fitting fun _ _ _ _ _ _ us hl => match us, hl with | [_, _, _], _ => rfl
  have F_are_fitting : Fun K "are_fitting" "are_fitting" s_are_fitting (He.ga K "are_fitting") fd_are_fitting := fun_of D_are_fitting
  obtain ⟨fd_last_end, D_last_end⟩ := c.t.d.def_ 8 rfl
  have g_last_end : mg "last_end" = some (.ref (He.ga K "last_end")) := He.glo_ok X G (c.t.d.fact 8 (f := .glo "last_end") rfl)
  have b_last_end : Binds K fd_last_end ["hold"] [] := FunD.bindsN D_last_end fun _ _ _ _ _ _ us hl => match us, hl with | [_], _ => rfl
  have F_last_end : Fun K "last_end" "last_end" s_last_end (He.ga K "last_end") fd_last_end := fun_of D_last_end
  obtain ⟨fd_kept_holds, D_kept_holds⟩ := c.t.d.def_ 9 rfl
  have g_kept_holds : mg "kept_holds" = some (.ref (He.ga K "kept_holds")) := He.glo_ok X G (c.t.d.fact 9 (f := .glo "kept_holds") rfl)
  have b_kept_holds : Binds K fd_kept_holds ["touches", "room"] [] := FunD.bindsN D_kept_holds fun _ _ _ _ _ _ us hl => match us, hl with | [_, _], _ => rfl
  have F_kept_holds : Fun K "kept_holds" "kept_holds" s_kept_holds (He.ga K "kept_holds") fd_kept_holds := fun_of D_kept_holds
  obtain ⟨fd_ends_by_place, D_ends_by_place⟩ := c.t.d.def_ 10 rfl
  have g_ends_by_place : mg "ends_by_place" = some (.ref (He.ga K "ends_by_place")) := He.glo_ok X G (c.t.d.fact 10 (f := .glo "ends_by_place") rfl)
  have b_ends_by_place : Binds K fd_ends_by_place ["touches"] [] := FunD.bindsN D_ends_by_place fun _ _ _ _ _ _ us hl => match us, hl with | [_], _ => rfl
  have F_ends_by_place : Fun K "ends_by_place" "ends_by_place" s_ends_by_place (He.ga K "ends_by_place") fd_ends_by_place := fun_of D_ends_by_place
  obtain ⟨fd_best_bars, D_best_bars⟩ := c.t.d.def_ 11 rfl
  have g_best_bars : mg "best_bars" = some (.ref (He.ga K "best_bars")) := He.glo_ok X G (c.t.d.fact 11 (f := .glo "best_bars") rfl)
  have b_best_bars : Binds K fd_best_bars ["touches", "room"] [] := FunD.bindsN D_best_bars fun _ _ _ _ _ _ us hl => match us, hl with | [_, _], _ => rfl
  have F_best_bars : Fun K "best_bars" "best_bars" s_best_bars (He.ga K "best_bars") fd_best_bars := fun_of D_best_bars
  obtain ⟨fd_passing_holds, D_passing_holds⟩ := c.t.d.def_ 12 rfl
  have g_passing_holds : mg "passing_holds" = some (.ref (He.ga K "passing_holds")) := He.glo_ok X G (c.t.d.fact 12 (f := .glo "passing_holds") rfl)
  have b_passing_holds : Binds K fd_passing_holds ["touches", "bars"] [] := FunD.bindsN D_passing_holds fun _ _ _ _ _ _ us hl => match us, hl with | [_, _], _ => rfl
  have F_passing_holds : Fun K "passing_holds" "passing_holds" s_passing_holds (He.ga K "passing_holds") fd_passing_holds := fun_of D_passing_holds
  obtain ⟨fd_are_bars, D_are_bars⟩ := c.t.d.def_ 13 rfl
  have g_are_bars : mg "are_bars" = some (.ref (He.ga K "are_bars")) := He.glo_ok X G (c.t.d.fact 13 (f := .glo "are_bars") rfl)
  have b_are_bars : Binds K fd_are_bars ["touches", "thing"] [] := FunD.bindsN D_are_bars fun _ _ _ _ _ _ us hl => match us, hl with | [_, _], _ => rfl
  have F_are_bars : Fun K "are_bars" "are_bars" s_are_bars (He.ga K "are_bars") fd_are_bars := fun_of D_are_bars
  obtain ⟨fd_fewest_fetches, D_fewest_fetches⟩ := c.t.d.def_ 14 rfl
  have g_fewest_fetches : mg "fewest_fetches" = some (.ref (He.ga K "fewest_fetches")) := He.glo_ok X G (c.t.d.fact 14 (f := .glo "fewest_fetches") rfl)
  have b_fewest_fetches : Binds K fd_fewest_fetches ["touches", "room"] [] := FunD.bindsN D_fewest_fetches fun _ _ _ _ _ _ us hl => match us, hl with | [_, _], _ => rfl
  have F_fewest_fetches : Fun K "fewest_fetches" "fewest_fetches" s_fewest_fetches (He.ga K "fewest_fetches") fd_fewest_fetches := fun_of D_fewest_fetches
  obtain ⟨fd_judge_pages, D_judge_pages⟩ := c.t.d.def_ 15 rfl
  have g_judge_pages : mg "judge_pages" = some (.ref (He.ga K "judge_pages")) := He.glo_ok X G (c.t.d.fact 15 (f := .glo "judge_pages") rfl)
  have b_judge_pages : Binds K fd_judge_pages ["touches", "room"] [] := FunD.bindsN D_judge_pages fun _ _ _ _ _ _ us hl => match us, hl with | [_, _], _ => rfl
  have F_judge_pages : Fun K "judge_pages" "judge_pages" s_judge_pages (He.ga K "judge_pages") fd_judge_pages := fun_of D_judge_pages
  obtain ⟨fd_pages_holds, D_pages_holds⟩ := c.t.d.def_ 16 rfl
  have g_pages_holds : mg "pages_holds" = some (.ref (He.ga K "pages_holds")) := He.glo_ok X G (c.t.d.fact 16 (f := .glo "pages_holds") rfl)
  have b_pages_holds : Binds K fd_pages_holds ["touches", "room", "thing"] [] := FunD.bindsN D_pages_holds fun _ _ _ _ _ _ us hl => match us, hl with | [_, _, _], _ => rfl
  have F_pages_holds : Fun K "pages_holds" "pages_holds" s_pages_holds (He.ga K "pages_holds") fd_pages_holds := fun_of D_pages_holds
  obtain ⟨fd_least_fetches, D_least_fetches⟩ := c.t.d.def_ 17 rfl
  have g_least_fetches : mg "least_fetches" = some (.ref (He.ga K "least_fetches")) := He.glo_ok X G (c.t.d.fact 17 (f := .glo "least_fetches") rfl)
  have b_least_fetches : Binds K fd_least_fetches ["touches", "room"] [] := FunD.bindsN D_least_fetches fun _ _ _ _ _ _ us hl => match us, hl with | [_, _], _ => rfl
  have F_least_fetches : Fun K "least_fetches" "least_fetches" s_least_fetches (He.ga K "least_fetches") fd_least_fetches := fun_of D_least_fetches
  obtain ⟨fd_fetch_row, D_fetch_row⟩ := c.t.d.def_ 18 rfl
  have g_fetch_row : mg "fetch_row" = some (.ref (He.ga K "fetch_row")) := He.glo_ok X G (c.t.d.fact 18 (f := .glo "fetch_row") rfl)
  have b_fetch_row : Binds K fd_fetch_row ["touches", "most"] [] := FunD.bindsN D_fetch_row fun _ _ _ _ _ _ us hl => match us, hl with | [_, _], _ => rfl
  have F_fetch_row : Fun K "fetch_row" "fetch_row" s_fetch_row (He.ga K "fetch_row") fd_fetch_row := fun_of D_fetch_row
  obtain ⟨fd_least_room, D_least_room⟩ := c.t.d.def_ 19 rfl
  have g_least_room : mg "least_room" = some (.ref (He.ga K "least_room")) := He.glo_ok X G (c.t.d.fact 19 (f := .glo "least_room") rfl)
  have b_least_room : Binds K fd_least_room ["touches", "many"] [] := FunD.bindsN D_least_room fun _ _ _ _ _ _ us hl => match us, hl with | [_, _], _ => rfl
  have F_least_room : Fun K "least_room" "least_room" s_least_room (He.ga K "least_room") fd_least_room := fun_of D_least_room
  obtain ⟨fd_law_deck, D_law_deck⟩ := c.t.d.def_ 20 rfl
  have g_law_deck : mg "_law_deck" = some (.ref (He.ga K "_law_deck")) := He.glo_ok X G (c.t.d.fact 20 (f := .glo "_law_deck") rfl)
  have b_law_deck : Binds K fd_law_deck ["script"] [] := FunD.bindsN D_law_deck fun _ _ _ _ _ _ us hl => match us, hl with | [_], _ => rfl
  have F_law_deck : Fun K "_law_deck" "_law_deck" s_law_deck (He.ga K "_law_deck") fd_law_deck := fun_of D_law_deck
  obtain ⟨fd_law_draw, D_law_draw⟩ := c.t.d.def_ 21 rfl
  have g_law_draw : mg "_law_draw" = some (.ref (He.ga K "_law_draw")) := He.glo_ok X G (c.t.d.fact 21 (f := .glo "_law_draw") rfl)
  have b_law_draw : Binds K fd_law_draw ["deck", "many"] [] := FunD.bindsN D_law_draw fun _ _ _ _ _ _ us hl => match us, hl with | [_, _], _ => rfl
  have F_law_draw : Fun K "_law_draw" "_law_draw" s_law_draw (He.ga K "_law_draw") fd_law_draw := fun_of D_law_draw
  obtain ⟨fd_law_pick, D_law_pick⟩ := c.t.d.def_ 22 rfl
  have g_law_pick : mg "_law_pick" = some (.ref (He.ga K "_law_pick")) := He.glo_ok X G (c.t.d.fact 22 (f := .glo "_law_pick") rfl)
  have b_law_pick : Binds K fd_law_pick ["deck", "some"] [] := FunD.bindsN D_law_pick fun _ _ _ _ _ _ us hl => match us, hl with | [_, _], _ => rfl
  have F_law_pick : Fun K "_law_pick" "_law_pick" s_law_pick (He.ga K "_law_pick") fd_law_pick := fun_of D_law_pick
  obtain ⟨fd_law_all_holds, D_law_all_holds⟩ := c.t.d.def_ 23 rfl
  have g_law_all_holds : mg "_law_all_holds" = some (.ref (He.ga K "_law_all_holds")) := He.glo_ok X G (c.t.d.fact 23 (f := .glo "_law_all_holds") rfl)
  have b_law_all_holds : Binds K fd_law_all_holds ["touches"] [] := FunD.bindsN D_law_all_holds fun _ _ _ _ _ _ us hl => match us, hl with | [_], _ => rfl
  have F_law_all_holds : Fun K "_law_all_holds" "_law_all_holds" s_law_all_holds (He.ga K "_law_all_holds") fd_law_all_holds := fun_of D_law_all_holds
  obtain ⟨fd_law_are_fit, D_law_are_fit⟩ := c.t.d.def_ 24 rfl
  have g_law_are_fit : mg "_law_are_fit" = some (.ref (He.ga K "_law_are_fit")) := He.glo_ok X G (c.t.d.fact 24 (f := .glo "_law_are_fit") rfl)
  have b_law_are_fit : Binds K fd_law_are_fit ["touches", "room", "holds"] [] := FunD.bindsN D_law_are_fit fun _ _ _ _ _ _ us hl => match us, hl with | [_, _, _], _ => rfl
  have F_law_are_fit : Fun K "_law_are_fit" "_law_are_fit" s_law_are_fit (He.ga K "_law_are_fit") fd_law_are_fit := fun_of D_law_are_fit
  obtain ⟨fd_law_is_whole, D_law_is_whole⟩ := c.t.d.def_ 25 rfl
  have g_law_is_whole : mg "_law_is_whole" = some (.ref (He.ga K "_law_is_whole")) := He.glo_ok X G (c.t.d.fact 25 (f := .glo "_law_is_whole") rfl)
  have b_law_is_whole : Binds K fd_law_is_whole ["thing"] [] := FunD.bindsN D_law_is_whole fun _ _ _ _ _ _ us hl => match us, hl with | [_], _ => rfl
  have F_law_is_whole : Fun K "_law_is_whole" "_law_is_whole" s_law_is_whole (He.ga K "_law_is_whole") fd_law_is_whole := fun_of D_law_is_whole
  obtain ⟨fd_law_are_holds, D_law_are_holds⟩ := c.t.d.def_ 26 rfl
  have g_law_are_holds : mg "_law_are_holds" = some (.ref (He.ga K "_law_are_holds")) := He.glo_ok X G (c.t.d.fact 26 (f := .glo "_law_are_holds") rfl)
  have b_law_are_holds : Binds K fd_law_are_holds ["touches", "room", "thing"] [] := FunD.bindsN D_law_are_holds fun _ _ _ _ _ _ us hl => match us, hl with | [_, _, _], _ => rfl
  have F_law_are_holds : Fun K "_law_are_holds" "_law_are_holds" s_law_are_holds (He.ga K "_law_are_holds") fd_law_are_holds := fun_of D_law_are_holds
  obtain ⟨fd_law_least, D_law_least⟩ := c.t.d.def_ 27 rfl
  have g_law_least : mg "_law_least" = some (.ref (He.ga K "_law_least")) := He.glo_ok X G (c.t.d.fact 27 (f := .glo "_law_least") rfl)
  have b_law_least : Binds K fd_law_least ["touches", "room"] [] := FunD.bindsN D_law_least fun _ _ _ _ _ _ us hl => match us, hl with | [_, _], _ => rfl
  have F_law_least : Fun K "_law_least" "_law_least" s_law_least (He.ga K "_law_least") fd_law_least := fun_of D_law_least
  obtain ⟨fd_law_is_place, D_law_is_place⟩ := c.t.d.def_ 28 rfl
  have g_law_is_place : mg "_law_is_place" = some (.ref (He.ga K "_law_is_place")) := He.glo_ok X G (c.t.d.fact 28 (f := .glo "_law_is_place") rfl)
  have b_law_is_place : Binds K fd_law_is_place ["touches", "thing"] [] := FunD.bindsN D_law_is_place fun _ _ _ _ _ _ us hl => match us, hl with | [_, _], _ => rfl
  have F_law_is_place : Fun K "_law_is_place" "_law_is_place" s_law_is_place (He.ga K "_law_is_place") fd_law_is_place := fun_of D_law_is_place
  obtain ⟨fd_law_passing, D_law_passing⟩ := c.t.d.def_ 29 rfl
  have g_law_passing : mg "_law_passing" = some (.ref (He.ga K "_law_passing")) := He.glo_ok X G (c.t.d.fact 29 (f := .glo "_law_passing") rfl)
  have b_law_passing : Binds K fd_law_passing ["touches", "bars"] [] := FunD.bindsN D_law_passing fun _ _ _ _ _ _ us hl => match us, hl with | [_, _], _ => rfl
  have F_law_passing : Fun K "_law_passing" "_law_passing" s_law_passing (He.ga K "_law_passing") fd_law_passing := fun_of D_law_passing
  obtain ⟨fd_law_is_paper, D_law_is_paper⟩ := c.t.d.def_ 30 rfl
  have g_law_is_paper : mg "_law_is_paper" = some (.ref (He.ga K "_law_is_paper")) := He.glo_ok X G (c.t.d.fact 30 (f := .glo "_law_is_paper") rfl)
  have b_law_is_paper : Binds K fd_law_is_paper ["touches", "room", "thing"] [] := FunD.bindsN D_law_is_paper fun _ _ _ _ _ _ us hl => match us, hl with | [_, _, _], _ => rfl
  have F_law_is_paper : Fun K "_law_is_paper" "_law_is_paper" s_law_is_paper (He.ga K "_law_is_paper") fd_law_is_paper := fun_of D_law_is_paper
  obtain ⟨fd_law_long, D_law_long⟩ := c.t.d.def_ 31 rfl
  have g_law_long : mg "_law_long" = some (.ref (He.ga K "_law_long")) := He.glo_ok X G (c.t.d.fact 31 (f := .glo "_law_long") rfl)
  have b_law_long : Binds K fd_law_long ["deck"] [] := FunD.bindsN D_law_long fun _ _ _ _ _ _ us hl => match us, hl with | [_], _ => rfl
  have F_law_long : Fun K "_law_long" "_law_long" s_law_long (He.ga K "_law_long") fd_law_long := fun_of D_law_long
  obtain ⟨fd_law_is_long_right, D_law_is_long_right⟩ := c.t.d.def_ 32 rfl
  have g_law_is_long_right : mg "_law_is_long_right" = some (.ref (He.ga K "_law_is_long_right")) := He.glo_ok X G (c.t.d.fact 32 (f := .glo "_law_is_long_right") rfl)
  have b_law_is_long_right : Binds K fd_law_is_long_right ["deck"] [] := FunD.bindsN D_law_is_long_right fun _ _ _ _ _ _ us hl => match us, hl with | [_], _ => rfl
  have F_law_is_long_right : Fun K "_law_is_long_right" "_law_is_long_right" s_law_is_long_right (He.ga K "_law_is_long_right") fd_law_is_long_right := fun_of D_law_is_long_right
  obtain ⟨fd_law, D_law⟩ := c.t.d.def_ 33 rfl
  have g_law : mg "law" = some (.ref (He.ga K "law")) := He.glo_ok X G (c.t.d.fact 33 (f := .glo "law") rfl)
  have b_law : Binds K fd_law ["script"] [] := FunD.bindsN D_law fun _ _ _ _ _ _ us hl => match us, hl with | [_], _ => rfl
  have F_law : Fun K "law" "law" s_law (He.ga K "law") fd_law := fun_of D_law
  obtain ⟨fd_BadTouches, D_BadTouches⟩ := c.t.d.def_ 34 rfl
  obtain ⟨fd_BadRoom, D_BadRoom⟩ := c.t.d.def_ 35 rfl
  have g_WayError : mg "WayError" = some (.ref (He.ga K "WayError")) := He.glo_ok X G (c.t.d.fact 34 (f := .glo "WayError") rfl)
  have g_BadTouches : mg "BadTouches" = some (.ref (He.ga K "BadTouches")) := He.glo_ok X G (c.t.d.fact 35 (f := .glo "BadTouches") rfl)
  have g_BadRoom : mg "BadRoom" = some (.ref (He.ga K "BadRoom")) := He.glo_ok X G (c.t.d.fact 36 (f := .glo "BadRoom") rfl)
  have bA := FunD.bindsA (ps := ["script"]) D_law fun _ _ _ _ _ _ us hl => match us, hl with | [_], _ => rfl
  have e := hfa.symm.trans g_law
  cases e
  obtain ⟨xa, ma⟩ := He.ba c.more
  obtain ⟨tA, g_PAIR⟩ := He.int_ok X G xa
  obtain ⟨xb, mb⟩ := He.ba ma
  obtain ⟨tB, g_PARTS⟩ := He.int_ok X G xb
  obtain ⟨x0, m0⟩ := He.ba mb
  obtain ⟨tF, g_FETCHED⟩ := He.str_ok X G x0
  obtain ⟨x1, m1⟩ := He.ba m0
  obtain ⟨x2, m2⟩ := He.ba m1
  obtain ⟨x3, m3⟩ := He.ba m2
  obtain ⟨x4, m4⟩ := He.ba m3
  obtain ⟨x5, m5⟩ := He.ba m4
  obtain ⟨x6, m6⟩ := He.ba m5
  obtain ⟨x7, x8⟩ := He.ba m6
  have B : Bs mg := bs_of X G x3
  have hd := c.hd ("_law_is_long_right", none) (.head _)
  have hout := c.out ("_law_is_long_right", none) (.head _)
  have hemp := c.empty ("_law_is_long_right", none) (.head _)
  obtain ⟨oc, od, kV, doc, pm, an, cdv, ct, osl, rfl, lk, hcd⟩ := F_law_is_long_right.ex
  obtain ⟨cA, rfl⟩ := He.codeIn_ref hcd
  have ec : He.codeOf K ("_law_is_long_right", none) = cA := He.codeOf_eq lk rfl
  refine ⟨_, cA, (He.cT K ("_law_is_long_right", none)).2, hemp, hout, ?_, fun s v => bA s [v] rfl, fun base KB GB TB sys => ?_⟩
  · have := PySem.W.codeHd_of_K X hd
    rw [show (He.cT K ("_law_is_long_right", none)).1 = cA from ec] at this
    exact this
  have c_is_integer : Cal P w K mg base "is_integer" 1 ["thing"] (S_is_integer K) := ⟨_, _, ok_is_integer F_is_integer B, g_is_integer, F_is_integer.kp, b_is_integer⟩
  have c_are_touches : Cal P w K mg base "are_touches" 2 ["thing"] (S_are_touches K) := ⟨_, _, ok_are_touches F_are_touches B c_is_integer, g_are_touches, F_are_touches.kp, b_are_touches⟩
  have c_check_touches : Cal P w K mg base "check_touches" 3 ["touches"] (S_check_touches K) := ⟨_, _, ok_check_touches F_check_touches B c_are_touches, g_check_touches, F_check_touches.kp, b_check_touches⟩
  have c_check_room : Cal P w K mg base "check_room" 3 ["room"] (S_check_room K) := ⟨_, _, ok_check_room F_check_room B c_is_integer, g_check_room, F_check_room.kp, b_check_room⟩
  have c_all_holds : Cal P w K mg base "all_holds" 1 ["touches"] (S_all_holds K) := ⟨_, _, ok_all_holds F_all_holds B, g_all_holds, F_all_holds.kp, b_all_holds⟩
  have c_is_covered : Cal P w K mg base "is_covered" 1 ["hold", "place"] (S_is_covered K) := ⟨_, _, ok_is_covered F_is_covered B, g_is_covered, F_is_covered.kp, b_is_covered⟩
  have c_kept_holds : Cal P w K mg base "kept_holds" 2 ["touches", "room"] (S_kept_holds K) := ⟨_, _, ok_kept_holds F_kept_holds B g_last_end (turns_last_end F_last_end b_last_end) c_all_holds c_is_covered, g_kept_holds, F_kept_holds.kp, b_kept_holds⟩
  have c_ends_by_place : Cal P w K mg base "ends_by_place" 2 ["touches"] (S_ends_by_place K) := ⟨_, _, ok_ends_by_place F_ends_by_place B c_all_holds, g_ends_by_place, F_ends_by_place.kp, b_ends_by_place⟩
  have c_best_bars : Cal P w K mg base "best_bars" 3 ["touches", "room"] (S_best_bars K) := ⟨_, _, ok_best_bars F_best_bars B c_ends_by_place, g_best_bars, F_best_bars.kp, b_best_bars⟩
  have c_is_pair : Cal P w K mg base "is_pair" 2 ["thing"] (S_is_pair K) := ⟨_, _, ok_is_pair F_is_pair B g_PAIR c_is_integer, g_is_pair, F_is_pair.kp, b_is_pair⟩
  have c_are_fitting : Cal P w K mg base "are_fitting" 3 ["touches", "room", "thing"] (S_are_fitting K) := ⟨_, _, ok_are_fitting F_are_fitting B c_is_pair c_all_holds c_is_covered, g_are_fitting, F_are_fitting.kp, b_are_fitting⟩
  have c_are_bars : Cal P w K mg base "are_bars" 2 ["touches", "thing"] (S_are_bars K) := ⟨_, _, ok_are_bars F_are_bars B c_is_integer, g_are_bars, F_are_bars.kp, b_are_bars⟩
  have c_passing_holds : Cal P w K mg base "passing_holds" 2 ["touches", "bars"] (S_passing_holds K) := ⟨_, _, ok_passing_holds F_passing_holds B c_all_holds c_is_covered, g_passing_holds, F_passing_holds.kp, b_passing_holds⟩
  have o_judge_pages := ok_judge_pages (P := P) (w := w) (base := base) F_judge_pages B g_FETCHED c_check_touches c_check_room c_kept_holds c_best_bars
  have o_pages_holds := ok_pages_holds (P := P) (w := w) (base := base) F_pages_holds B g_FETCHED g_PARTS c_check_touches c_check_room c_are_fitting c_are_bars c_passing_holds
  have c_law_deck : Cal P w K mg base "_law_deck" 1 ["script"] (S_law_deck K) := ⟨_, _, ok_law_deck F_law_deck B, g_law_deck, F_law_deck.kp, b_law_deck⟩
  have c_law_draw : Cal P w K mg base "_law_draw" 1 ["deck", "many"] (S_law_draw K) := ⟨_, _, ok_law_draw F_law_draw B, g_law_draw, F_law_draw.kp, b_law_draw⟩
  have c_law_pick : Cal P w K mg base "_law_pick" 2 ["deck", "some"] (S_law_pick K) := ⟨_, _, ok_law_pick F_law_pick B c_law_draw, g_law_pick, F_law_pick.kp, b_law_pick⟩
  have c_law_all_holds : Cal P w K mg base "_law_all_holds" 1 ["touches"] (S_law_all_holds K) := ⟨_, _, ok_law_all_holds F_law_all_holds B, g_law_all_holds, F_law_all_holds.kp, b_law_all_holds⟩
  have c_law_are_fit : Cal P w K mg base "_law_are_fit" 1 ["touches", "room", "holds"] (S_law_are_fit K) := ⟨_, _, ok_law_are_fit F_law_are_fit B, g_law_are_fit, F_law_are_fit.kp, b_law_are_fit⟩
  have c_law_is_whole : Cal P w K mg base "_law_is_whole" 1 ["thing"] (S_is_integer K) := ⟨_, _, ok_law_is_whole F_law_is_whole B, g_law_is_whole, F_law_is_whole.kp, b_law_is_whole⟩
  have c_law_are_holds : Cal P w K mg base "_law_are_holds" 2 ["touches", "room", "thing"] (S_law_are_holds K) := ⟨_, _, ok_law_are_holds F_law_are_holds B c_law_is_whole c_law_all_holds c_law_are_fit, g_law_are_holds, F_law_are_holds.kp, b_law_are_holds⟩
  have c_law_is_place : Cal P w K mg base "_law_is_place" 2 ["touches", "thing"] (S_law_is_place K) := ⟨_, _, ok_law_is_place F_law_is_place B c_law_is_whole, g_law_is_place, F_law_is_place.kp, b_law_is_place⟩
  have c_law_passing : Cal P w K mg base "_law_passing" 2 ["touches", "bars"] (S_law_passing K) := ⟨_, _, ok_law_passing F_law_passing B c_law_all_holds, g_law_passing, F_law_passing.kp, b_law_passing⟩
  have c_law_is_paper : Cal P w K mg base "_law_is_paper" 3 ["touches", "room", "thing"] (S_law_is_paper K) := ⟨_, _, ok_law_is_paper F_law_is_paper B c_law_are_holds c_law_is_place c_law_passing, g_law_is_paper, F_law_is_paper.kp, b_law_is_paper⟩
  have c_fewest_fetches : Cal P w K mg base "fewest_fetches" 3 ["touches", "room"] (S_fewest_fetches K) := ⟨_, _, ok_fewest_fetches F_fewest_fetches B c_kept_holds, g_fewest_fetches, F_fewest_fetches.kp, b_fewest_fetches⟩
  have o_least_fetches := ok_least_fetches (P := P) (w := w) (base := base) F_least_fetches B c_check_touches c_check_room c_fewest_fetches
  have o_fetch_row := ok_fetch_row (P := P) (w := w) (base := base) F_fetch_row B c_check_touches c_check_room c_fewest_fetches
  have o_least_room := ok_least_room (P := P) (w := w) (base := base) F_least_room B c_check_touches c_fewest_fetches
  have kb_least_fetches : KBinds K fd_least_fetches ["touches", "room"] ["room", "touches"] sw2 sw2 := by
    obtain ⟨_, _, _, _, _, _, _, _, _, rfl, _, _⟩ := F_least_fetches.ex
    exact kbinds2 fun _ _ => rfl
  have c_law_least : Cal P w K mg base "_law_least" 1 ["touches", "room"] (S_law_least K) := ⟨_, _, ok_law_least F_law_least B, g_law_least, F_law_least.kp, b_law_least⟩
  have c_law_long : Cal P w K mg base "_law_long" 3 ["deck"] (S_law_long K) := ⟨_, _, ok_law_long F_law_long B c_law_draw c_law_pick c_law_least, g_law_long, F_law_long.kp, b_law_long⟩
  have c_law_is_long_right : CalG P w K mg base "_law_is_long_right" 5 ["deck"] (S_law_is_long_right K) := ⟨_, _, ok_law_is_long_right F_law_is_long_right B c_law_long c_law_least ⟨_, _, o_least_fetches, g_least_fetches, F_least_fetches.kp, b_least_fetches⟩ ⟨_, _, o_least_fetches, g_least_fetches, F_least_fetches.kp, kb_least_fetches⟩
    ⟨_, _, o_fetch_row, g_fetch_row, F_fetch_row.kp, b_fetch_row⟩ ⟨_, _, o_least_room, g_least_room, F_least_room.kp, b_least_room⟩ ⟨_, _, o_judge_pages, g_judge_pages, F_judge_pages.kp, b_judge_pages⟩ c_law_is_paper ⟨_, _, o_pages_holds, g_pages_holds, F_pages_holds.kp, b_pages_holds⟩, g_law_is_long_right, F_law_is_long_right.kp, b_law_is_long_right⟩
  exact ok_law F_law B c_law_deck c_law_is_long_right
end K84
namespace K84
open PySem PySem.Spec PyProof.Rows L2 Lg
abbrev RR : PySem.W.OpenRow := PySem.W.OpenLaw.row PySem.Challenge.rw_reinways_k84_whole_long_touches
abbrev hk : PySem.W.Hook := Lg.hookG 5 fa fn tf exK
def ob (s : PySem.W.SharedT) : He.AlX × Bool := (He.obsX 5 fa fn [] tf exK (HandSHeadRun.getT s), sysB (HandSHeadRun.getT s))
theorem ob_eq (s : PySem.W.SharedT) : ob s = hk.obs s.abs := Lg.obG_eq (HandSHeadRun.getT_eq s)
theorem run (w : World) : HandSHeadRun.RunEq RR (PySem.W.view RR.prog [44]) hk ob 4000 ("is_integer" :: "WayError" :: "BadTouches" :: "BadRoom" :: "PAIR" :: "are_touches" :: "check_touches" :: "check_room" :: "all_holds" :: "is_pair" :: "is_covered" :: "are_fitting" :: "FETCHED" :: "PARTS" :: "last_end" :: "kept_holds" :: "ends_by_place" :: "best_bars" :: "passing_holds" :: "are_bars" :: "fewest_fetches" :: "judge_pages" :: "pages_holds" :: "least_fetches" :: "fetch_row" :: "least_room" :: "_law_deck" :: "_law_draw" :: "_law_pick" :: "_law_all_holds" :: "_law_are_fit" :: "_law_is_whole" :: "_law_are_holds" :: "_law_least" :: "_law_is_place" :: "_law_passing" :: "_law_is_paper" :: "_law_long" :: "_law_is_long_right" :: []) w := by
  intro os
  kernel_rfl
end K84
open PySem PySem.W PySem.Calls PyProof.Rows
theorem K84.holds_of : PySem.Challenge.rw_reinways_k84_whole_long_touches.Holds := by
  w_on; o_law
  refine HandSHeadRun.head_any (r := OpenLaw.row PySem.Challenge.rw_reinways_k84_whole_long_touches) (q := view (OpenLaw.row PySem.Challenge.rw_reinways_k84_whole_long_touches).prog [44]) (H := K84.hk) (ob := K84.ob) (M := 4000) (loose := ("is_integer" :: "WayError" :: "BadTouches" :: "BadRoom" :: "PAIR" :: "are_touches" :: "check_touches" :: "check_room" :: "all_holds" :: "is_pair" :: "is_covered" :: "are_fitting" :: "FETCHED" :: "PARTS" :: "last_end" :: "kept_holds" :: "ends_by_place" :: "best_bars" :: "passing_holds" :: "are_bars" :: "fewest_fetches" :: "judge_pages" :: "pages_holds" :: "least_fetches" :: "fetch_row" :: "least_room" :: "_law_deck" :: "_law_draw" :: "_law_pick" :: "_law_all_holds" :: "_law_are_fit" :: "_law_is_whole" :: "_law_are_holds" :: "_law_least" :: "_law_is_place" :: "_law_passing" :: "_law_is_paper" :: "_law_long" :: "_law_is_long_right" :: [])) (d := HandSHeadRun.topDef (OpenLaw.row PySem.Challenge.rw_reinways_k84_whole_long_touches).prog 44) (kwd := []) K84.ob_eq
    (by kernel_rfl) (fun s => by kernel_rfl) K84.run (by kernel_rfl) (by kernel_rfl) (by kernel_rfl) (by rfl) (by first | assumption | decide +kernel) (by decide +kernel) ⟨rfl, rfl, rfl, rfl, rfl, by decide +kernel⟩ ?hw ?hc
  case hw => w_witness2
  case hc =>
    refine Lg.walk_ofG (l := PySem.Challenge.rw_reinways_k84_whole_long_touches) (n := 63) (k := 8) (x := "script") rfl (by decide) (by kernel_rfl) ⟨rfl, by decide, by decide⟩ ?F
    intro w mg fa h Y G hmg0
    obtain ⟨⟨K, KX, c⟩, hsy⟩ := Y
    have hmg : mg ("law" : PySem.Str) = some (.ref fa) := by
      have e : (HandSHeadRun.topDef (OpenLaw.row PySem.Challenge.rw_reinways_k84_whole_long_touches).prog 44).name = ("law" : PySem.Str) := by kernel_rfl
      rw [← e]
      exact hmg0
    obtain ⟨fd, cA, PT, h1, h2, h3, hb, hF⟩ := K84.facts (P := (PySem.Challenge.rw_reinways_k84_whole_long_touches).prog) (w := w) KX G hmg c
    refine ⟨K, fd, cA, PT, _, KX, h1, h2, h3, hsy, hb, fun H a ns hl hP ne hS => ?_, hF⟩
    exact ⟨_, fun v _ => v = .bl true, Lg.start_hs hP ne hS, ⟨_, ns, rfl, ⟨("law" : PySem.Str), rfl⟩, Nat.lt_of_le_of_lt hl (by decide), fun _ => rfl⟩, fun _ _ _ _ q => q⟩
theorem PySem.Challenge.cw_reinways_k84_whole_long_touches_holds : PySem.Challenge.rw_reinways_k84_whole_long_touches.Holds :=
  K84.holds_of
