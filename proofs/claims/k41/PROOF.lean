import PyProof.Rows.All
import Wide.All
import OpenK.AllK
import Wide.FinOn
import HandS.ForMost
import HandS.Property
import KE.SortData
import HandS.IsInst
import HandS.Conv
import HandS.Style
import HandS.More
import HandS.TupSets
import HandS.Star
import HandS.SetFor
import HandS.Head2
import HandS.HeadHook2
import HandS.EndBits
import PyProof.Rows.RegStrFacts
import PyProof.Rows.ReprOcc
import KE.IntBitsLaws
import PySem.Challenge.RW_cuptalk_k41_large_cups_counted
set_option Elab.async false
set_option linter.all false
set_option maxRecDepth 100000
set_option maxHeartbeats 4000000
/-! VA -/
namespace VI
open PySem L2

/-! ## trees -/
inductive Tr (τ : Type) where
  | nd (g : τ) (ts : List (Tr τ))

namespace Tr
variable {τ υ : Type}
def tag : Tr τ → τ | .nd g _ => g
def kids : Tr τ → List (Tr τ) | .nd _ ts => ts
theorem ind {P : Tr τ → Prop} (h : ∀ g ts, (∀ t ∈ ts, P t) → P (.nd g ts)) : ∀ t, P t := fun t =>
  Tr.rec (motive_1 := P) (motive_2 := fun ts => ∀ t ∈ ts, P t) (fun g ts ih => h g ts ih) (fun _ ht => nomatch ht) (fun _ _ h1 h2 _ ht => (List.mem_cons.mp ht).elim (fun e => e ▸ h1) (h2 _)) t
mutual
def map (f : τ → υ) : Tr τ → Tr υ
  | .nd g ts => .nd (f g) (mapL f ts)
def mapL (f : τ → υ) : List (Tr τ) → List (Tr υ)
  | [] => []
  | t :: ts => map f t :: mapL f ts
end
theorem mapL_eq (f : τ → υ) : ∀ ts : List (Tr τ), mapL f ts = ts.map (map f)
  | [] => rfl
  | t :: ts => by rw [mapL, mapL_eq f ts]; rfl
theorem map_nd (f : τ → υ) (g : τ) (ts : List (Tr τ)) : map f (.nd g ts) = .nd (f g) (ts.map (map f)) := by rw [map, mapL_eq]
def at_ : Tr τ → List Nat → Option (Tr τ)
  | t, [] => some t
  | .nd _ ts, n :: π => (ts[n]?).bind fun t => at_ t π
def put : Tr τ → List Nat → Tr τ → Tr τ
  | _, [], u => u
  | .nd g ts, n :: π, u => match ts[n]? with
    | some t => .nd g (ts.set n (put t π u))
    | none => .nd g ts
theorem at_nil (t : Tr τ) : at_ t [] = some t := by cases t; rfl
theorem at_cons (g : τ) (ts : List (Tr τ)) (n : Nat) (π : List Nat) : at_ (.nd g ts) (n :: π) = (ts[n]?).bind fun t => at_ t π := rfl
theorem put_nil (t u : Tr τ) : put t [] u = u := by cases t; rfl
theorem put_cons {g : τ} {ts : List (Tr τ)} {n : Nat} {t : Tr τ} (h : ts[n]? = some t) (π : List Nat) (u : Tr τ) : put (.nd g ts) (n :: π) u = .nd g (ts.set n (put t π u)) := by
  show (match ts[n]? with | some t => _ | none => _) = _
  rw [h]
theorem at_map (f : τ → υ) : ∀ (π : List Nat) (t : Tr τ), at_ (map f t) π = (at_ t π).map (map f)
  | [], t => by rw [at_nil, at_nil]; rfl
  | n :: π, .nd g ts => by
    rw [map_nd, at_cons, at_cons, List.getElem?_map]
    cases h : ts[n]? with
    | none => rfl
    | some t => exact at_map f π t
theorem put_map (f : τ → υ) : ∀ (π : List Nat) (t u : Tr τ), map f (put t π u) = put (map f t) π (map f u)
  | [], t, u => by rw [put_nil, put_nil]
  | n :: π, .nd g ts, u => by
    rw [map_nd]
    cases h : ts[n]? with
    | none =>
      have h' : (ts.map (map f))[n]? = none := by rw [List.getElem?_map, h]; rfl
      show map f (match ts[n]? with | some t => _ | none => _) = (match (ts.map (map f))[n]? with | some t => _ | none => _)
      rw [h, h']
      exact map_nd f g ts
    | some t =>
      have h' : (ts.map (map f))[n]? = some (map f t) := by rw [List.getElem?_map, h]; rfl
      rw [put_cons h, put_cons h', map_nd, List.map_set, put_map f π t u]
theorem map_map {ω : Type} (f : τ → υ) (g : υ → ω) : ∀ t : Tr τ, map g (map f t) = map (fun x => g (f x)) t :=
  ind fun a ts ih => by
    rw [map_nd, map_nd, map_nd, List.map_map]
    congr 1
    exact List.map_congr_left fun t ht => ih t ht
end Tr

/-! ## data (tags) -/
inductive DT where
  | non | bl (b : Bool) | int (i : Int) | str (s : Str)
  | tup | lst (o : Bool) | dct (o l : Bool) (ks : List Key) | ins (o : Bool) (C : Nat) (ns : List Nat)
abbrev D := Tr DT
abbrev dN : D := .nd .non []
abbrev dB (b : Bool) : D := .nd (.bl b) []
abbrev dI (i : Int) : D := .nd (.int i) []
abbrev dS (s : Str) : D := .nd (.str s) []
abbrev dT (xs : List D) : D := .nd .tup xs
abbrev dL (o : Bool) (xs : List D) : D := .nd (.lst o) xs
abbrev dD (o : Bool) (ks : List Key) (xs : List D) : D := .nd (.dct o false ks) xs
abbrev dO (o : Bool) (C : Nat) (ns : List Nat) (xs : List D) : D := .nd (.ins o C ns) xs

def DT.sh : DT → Bool
  | .lst o => !o
  | .dct o _ _ => !o
  | .ins o _ _ => !o
  | _ => true
def isSh (d : D) : Bool := d.tag.sh
def DT.fz : DT → DT
  | .lst _ => .lst false
  | .dct _ l ks => .dct false l ks
  | .ins _ C ns => .ins false C ns
  | g => g
def fz : D → D := Tr.map DT.fz

/-! ## annotated data -/
inductive TT' where
  | non | bl (b : Bool) | int (i : Int) | str (s : Str)
  | tup (a : Addr) | lst (a : Addr) (o : Bool) | dct (a : Addr) (o : Bool) (ks : List Key) (lk : Option Obj) | ins (a dx : Addr) (o : Bool) (C : Nat) (ns : List Nat)
abbrev T := Tr TT'
def TT'.er : TT' → DT
  | .non => .non
  | .bl b => .bl b
  | .int i => .int i
  | .str s => .str s
  | .tup _ => .tup
  | .lst _ o => .lst o
  | .dct _ o ks lk => .dct o lk.isSome ks
  | .ins _ _ o C ns => .ins o C ns
def TT'.val : TT' → V
  | .non => .non
  | .bl b => .bl b
  | .int i => .int i
  | .str s => .str s
  | .tup a => .ref a
  | .lst a _ => .ref a
  | .dct a _ _ _ => .ref a
  | .ins a _ _ _ _ => .ref a
def TT'.fz : TT' → TT'
  | .lst a _ => .lst a false
  | .dct a _ ks lk => .dct a false ks lk
  | .ins a dx _ C ns => .ins a dx false C ns
  | g => g
def er : T → D := Tr.map TT'.er
def val (t : T) : V := t.tag.val
def tfz : T → T := Tr.map TT'.fz
def vals (ts : List T) : List V := ts.map val
theorem fz_er (g : TT') : g.fz.er = g.er.fz := by cases g <;> rfl
theorem er_tfz (t : T) : er (tfz t) = fz (er t) := by
  unfold er tfz fz
  rw [Tr.map_map, Tr.map_map]
  congr 1
  funext g
  exact fz_er g
theorem val_tfz (t : T) : val (tfz t) = val t := by
  cases t with
  | nd g ts =>
    show (Tr.map TT'.fz (Tr.nd g ts)).tag.val = g.val
    rw [Tr.map_nd]
    cases g <;> rfl
theorem er_nd (g : TT') (ts : List T) : er (.nd g ts) = .nd g.er (ts.map er) := Tr.map_nd _ _ _

/-- the written part, where the classes stand, the names of attributes by number -/
structure Wo where
  K : PySem.W.Frag
  ca : Nat → Addr
  nm : Nat → Str
  inj : ∀ a b, nm a = nm b → a = b
abbrev Cell := Addr × HO
def lockd (lk : Option Obj) (o : HO) : HO := match lk with
  | none => o
  | some ob => .frz ob o
/-- the own cells of a node -/
def own (W : Wo) (g : TT') (vs : List V) : List Cell := match g with
  | .lst a true => [(a, .lst vs)]
  | .dct a true ks lk => [(a, lockd lk (.dK (ks.zip vs)))]
  | .ins a dx true C ns => [(a, .ins (W.ca C) dx ((ns.map W.nm).zip vs)), (dx, .own a)]
  | _ => []
mutual
def cells (W : Wo) : T → List Cell
  | .nd g ts => own W g (ts.map val) ++ cellsL W ts
def cellsL (W : Wo) : List T → List Cell
  | [] => []
  | t :: ts => cells W t ++ cellsL W ts
end
theorem cells_nd (W : Wo) (g : TT') (ts : List T) : cells W (.nd g ts) = own W g (vals ts) ++ cellsL W ts := by rw [cells]; rfl
theorem cellsL_append (W : Wo) : ∀ (xs ys : List T), cellsL W (xs ++ ys) = cellsL W xs ++ cellsL W ys
  | [], ys => rfl
  | x :: xs, ys => by
    show cellsL W (x :: (xs ++ ys)) = _
    rw [cellsL, cellsL, cellsL_append W xs ys, List.append_assoc]
theorem cellsL_nil_iff (W : Wo) : ∀ {xs : List T}, cellsL W xs = [] ↔ ∀ x ∈ xs, cells W x = []
  | [] => by simp [cellsL]
  | x :: xs => by rw [cellsL, List.append_eq_nil_iff, cellsL_nil_iff W (xs := xs)]; simp

/-- what is true of a node that is shared: its object in B -/
def TagOk (W : Wo) (B : Hp) (g : TT') (ts : List T) : Prop := match g with
  | .non => ts = []
  | .bl _ => ts = []
  | .int _ => ts = []
  | .str _ => ts = []
  | .tup a => SqT W.K B a (vals ts) ∧ cellsL W ts = []
  | .lst a false => SqL W.K B a (vals ts) ∧ cellsL W ts = []
  | .lst _ true => True
  | .dct a false ks _ => Rd B a (.dK (ks.zip (vals ts))) ∧ cellsL W ts = [] ∧ ks.length = ts.length
  | .dct _ true ks _ => ks.length = ts.length ∧ ks.Nodup
  | .ins a dx false C ns => B a = some (.ins (W.ca C) dx ((ns.map W.nm).zip (vals ts))) ∧ cellsL W ts = [] ∧ ns.length = ts.length
  | .ins _ _ true _ ns => ns.length = ts.length
inductive Ok (W : Wo) (B : Hp) : T → Prop
  | mk {g : TT'} {ts : List T} : TagOk W B g ts → (∀ t ∈ ts, Ok W B t) → Ok W B (.nd g ts)

section
variable {W : Wo} {B B' : Hp}
def Ext (B B' : Hp) : Prop := ∀ a o, B a = some o → B' a = some o
theorem Ext.refl (B : Hp) : Ext B B := fun _ _ h => h
theorem Ext.trans {A B C : Hp} (h : Ext A B) (g : Ext B C) : Ext A C := fun a o e => g a o (h a o e)
theorem Ext.rd {a : Addr} {u : HO} (e : Ext B B') (h : Rd B a u) : Rd B' a u := h.elim (fun h => .inl (e _ _ h)) fun ⟨o, h⟩ => .inr ⟨o, e _ _ h⟩
theorem Ext.l {a : Addr} {xs : List V} (e : Ext B B') (h : SqL W.K B a xs) : SqL W.K B' a xs := h.elim (fun h => .inl (e.rd h)) .inr
theorem Ext.t {a : Addr} {xs : List V} (e : Ext B B') (h : SqT W.K B a xs) : SqT W.K B' a xs := h.elim (fun h => .inl (e.rd h)) .inr
theorem Ok.tag {g : TT'} {ts : List T} (h : Ok W B (.nd g ts)) : TagOk W B g ts := by cases h; assumption
theorem Ok.kids {g : TT'} {ts : List T} (h : Ok W B (.nd g ts)) : ∀ t ∈ ts, Ok W B t := by cases h; assumption
theorem TagOk.mono (e : Ext B B') {g : TT'} {ts : List T} (h : TagOk W B g ts) : TagOk W B' g ts := by
  cases g with
  | tup a => exact ⟨e.t h.1, h.2⟩
  | lst a o => cases o with
    | true => exact h
    | false => exact ⟨e.l h.1, h.2⟩
  | dct a o ks lk => cases o with
    | true => exact h
    | false => exact ⟨e.rd h.1, h.2⟩
  | ins a dx o C ns => cases o with
    | true => exact h
    | false => exact ⟨e _ _ h.1, h.2⟩
  | _ => exact h
theorem Ok.mono (e : Ext B B') : ∀ {t : T}, Ok W B t → Ok W B' t := fun {t} =>
  Tr.ind (P := fun t => Ok W B t → Ok W B' t) (fun g ts ih h => .mk (h.tag.mono e) fun t ht => ih t ht (h.kids t ht)) t

/-- shared nodes own nothing -/
theorem sh_cells {g : TT'} {ts : List T} (h : Ok W B (.nd g ts)) (hs : g.er.sh = true) : cells W (.nd g ts) = [] := by
  rw [cells_nd]
  have q := h.tag
  cases g with
  | tup a => rw [q.2]; rfl
  | lst a o => cases o with
    | true => cases hs
    | false => rw [q.2]; rfl
  | dct a o ks lk => cases o with
    | true => cases hs
    | false => rw [q.2.1]; rfl
  | ins a dx o C ns => cases o with
    | true => cases hs
    | false => rw [q.2.1]; rfl
  | _ => rw [show ts = [] from q]; rfl
theorem Ok.shc {t : T} (h : Ok W B t) (hs : isSh (er t) = true) : cells W t = [] := by
  cases t with
  | nd g ts => rw [er_nd] at hs; exact sh_cells h hs

/-- freezing: the cells of t in B' -/
theorem vals_tfz (ts : List T) : vals (ts.map tfz) = vals ts := by
  unfold vals; rw [List.map_map]; exact List.map_congr_left fun t _ => val_tfz t
theorem cells_tfz : ∀ t : T, Ok W B t → cells W (tfz t) = [] :=
  Tr.ind fun g ts ih h => by
    show cells W (Tr.map _ _) = []
    rw [Tr.map_nd, cells_nd]
    have h1 : cellsL W (ts.map (Tr.map TT'.fz)) = [] := (cellsL_nil_iff W).mpr fun x hx => by
      obtain ⟨t, ht, rfl⟩ := List.mem_map.mp hx
      exact ih t ht (h.kids t ht)
    rw [h1]
    cases g <;> rfl
theorem mem_cellsL {t : T} {c : Cell} : ∀ {ts : List T}, t ∈ ts → c ∈ cells W t → c ∈ cellsL W ts
  | x :: xs, ht, hc => by
    rw [cellsL]
    rcases List.mem_cons.mp ht with e | ht
    · subst e; exact List.mem_append_left _ hc
    · exact List.mem_append_right _ (mem_cellsL ht hc)
theorem freeze_ok (e : Ext B B') : ∀ t : T, Ok W B t → (∀ c ∈ cells W t, B' c.1 = some c.2) → Ok W B' (tfz t) :=
  Tr.ind fun g ts ih h hc => by
    have hc' : ∀ t ∈ ts, ∀ c ∈ cells W t, B' c.1 = some c.2 := fun t ht c hm => hc c (by rw [cells_nd]; exact List.mem_append_right _ (mem_cellsL ht hm))
    have ho : ∀ c ∈ own W g (vals ts), B' c.1 = some c.2 := fun c hm => hc c (by rw [cells_nd]; exact List.mem_append_left _ hm)
    have hk : ∀ t ∈ ts.map (Tr.map TT'.fz), Ok W B' t := fun x hx => by
      obtain ⟨t, ht, rfl⟩ := List.mem_map.mp hx
      exact ih t ht (h.kids t ht) (hc' t ht)
    have hn : cellsL W (ts.map (Tr.map TT'.fz)) = [] := (cellsL_nil_iff W).mpr fun x hx => by
      obtain ⟨t, ht, rfl⟩ := List.mem_map.mp hx
      exact cells_tfz t (h.kids t ht)
    have hv : vals (ts.map (Tr.map TT'.fz)) = vals ts := vals_tfz ts
    show Ok W B' (Tr.map _ _)
    rw [Tr.map_nd]
    refine .mk ?_ hk
    have q := h.tag.mono e
    cases g with
    | tup a => exact ⟨by rw [hv]; exact q.1, hn⟩
    | lst a o =>
      refine ⟨?_, hn⟩
      rw [hv]
      cases o with
      | true => exact SqL.of (ho (a, .lst (vals ts)) (by simp [own]))
      | false => exact q.1
    | dct a o ks lk =>
      have hl : ks.length = ts.length := by cases o with
        | true => exact q.1
        | false => exact q.2.2
      refine ⟨?_, hn, by rw [List.length_map]; exact hl⟩
      rw [hv]
      cases o with
      | true =>
        have := ho (a, lockd lk (.dK (ks.zip (vals ts)))) (by simp [own])
        cases lk with
        | none => exact .inl this
        | some ob => exact .inr ⟨ob, this⟩
      | false => exact q.1
    | ins a dx o C ns =>
      have hl : ns.length = ts.length := by cases o with
        | true => exact q
        | false => exact q.2.2
      refine ⟨?_, hn, by rw [List.length_map]; exact hl⟩
      rw [hv]
      cases o with
      | true => exact ho (a, .ins (W.ca C) dx ((ns.map W.nm).zip (vals ts))) (by simp [own])
      | false => exact q.1
    | non => rw [show ts = [] from q]; rfl
    | bl _ => rw [show ts = [] from q]; rfl
    | int _ => rw [show ts = [] from q]; rfl
    | str _ => rw [show ts = [] from q]; rfl
end

/-! ## the heap: B shared, L owned -/
structure Good (B H : Hp) (L : List Cell) : Prop where
  ext : Ext B H
  own : ∀ c ∈ L, H c.1 = some c.2
  off : ∀ c ∈ L, B c.1 = none
  nd : (L.map (·.1)).Nodup
section
variable {B H : Hp} {L M : List Cell}
theorem Good.perm (g : Good B H L) (p : L.Perm M) : Good B H M :=
  ⟨g.ext, fun c hc => g.own c (p.mem_iff.mpr hc), fun c hc => g.off c (p.mem_iff.mpr hc), (p.map _).nodup_iff.mp g.nd⟩
theorem Good.drop (g : Good B H (L ++ M)) : Good B H M :=
  ⟨g.ext, fun c hc => g.own c (List.mem_append_right _ hc), fun c hc => g.off c (List.mem_append_right _ hc), by
    have := g.nd; rw [List.map_append] at this; exact (List.nodup_append.mp this).2.1⟩
/-- L's cells become shared -/
theorem Good.share (g : Good B H (L ++ M)) : ∃ B', Ext B B' ∧ (∀ c ∈ L, B' c.1 = some c.2) ∧ Good B' H M := by
  have nd := g.nd
  rw [List.map_append] at nd
  obtain ⟨n1, n2, n3⟩ := List.nodup_append.mp nd
  refine ⟨fun a => if a ∈ L.map (·.1) then H a else B a, fun a o e => ?_, fun c hc => ?_, fun a o e => ?_, fun c hc => g.own c (List.mem_append_right _ hc), fun c hc => ?_, n2⟩
  · have : a ∉ L.map (·.1) := fun hm => by
      obtain ⟨c, hc, rfl⟩ := List.mem_map.mp hm
      have := g.off c (List.mem_append_left _ hc)
      rw [e] at this; cases this
    show (if _ then _ else _) = _
    rw [if_neg this]; exact e
  · show (if _ then _ else _) = _
    rw [if_pos (List.mem_map.mpr ⟨c, hc, rfl⟩)]
    exact g.own c (List.mem_append_left _ hc)
  · have e : (if a ∈ L.map (·.1) then H a else B a) = some o := e
    split at e
    · exact e
    · exact g.ext a o e
  · show (if _ then _ else _) = _
    rw [if_neg fun hm => n3 _ hm _ (List.mem_map.mpr ⟨c, hc, rfl⟩) rfl]
    exact g.off c (List.mem_append_right _ hc)
/-- a new owned object -/
theorem Good.new (g : Good B H L) {p : Addr} {o : HO} (hp : H p = none) : Good B (upd H p o) ((p, o) :: L) := by
  have nb : B p = none := by
    cases e : B p with
    | none => rfl
    | some u => rw [g.ext p u e] at hp; cases hp
  have nl : ∀ c ∈ L, c.1 ≠ p := fun c hc e => by
    have := g.own c hc
    rw [e, hp] at this; cases this
  refine ⟨fun a u e => ?_, fun c hc => ?_, fun c hc => ?_, ?_⟩
  · rw [upd_ne (fun z => by rw [z, nb] at e; cases e)]; exact g.ext a u e
  · rcases List.mem_cons.mp hc with rfl | hc
    · exact upd_same
    · rw [upd_ne (nl c hc)]; exact g.own c hc
  · rcases List.mem_cons.mp hc with rfl | hc
    · exact nb
    · exact g.off c hc
  · rw [List.map_cons, List.nodup_cons]
    refine ⟨fun hm => ?_, g.nd⟩
    obtain ⟨c, hc, e⟩ := List.mem_map.mp hm
    exact nl c hc e
/-- an owned object changes -/
theorem Good.wr {p : Addr} {o o' : HO} (g : Good B H ((p, o) :: L)) : Good B (upd H p o') ((p, o') :: L) := by
  have nd := g.nd
  rw [List.map_cons, List.nodup_cons] at nd
  have nl : ∀ c ∈ L, c.1 ≠ p := fun c hc e => nd.1 (List.mem_map.mpr ⟨c, hc, e⟩)
  have nb := g.off _ List.mem_cons_self
  refine ⟨fun a u e => ?_, fun c hc => ?_, fun c hc => ?_, ?_⟩
  · rw [upd_ne (fun z => by rw [z] at e; rw [show B p = none from nb] at e; cases e)]; exact g.ext a u e
  · rcases List.mem_cons.mp hc with rfl | hc
    · exact upd_same
    · rw [upd_ne (nl c hc)]; exact g.own c (List.mem_cons_of_mem _ hc)
  · rcases List.mem_cons.mp hc with rfl | hc
    · exact nb
    · exact g.off c (List.mem_cons_of_mem _ hc)
  · rw [List.map_cons, List.nodup_cons]; exact nd
/-- an object that is not told of -/
theorem Good.any {H' : Hp} (g : Good B H L) (k : ∀ a o, H a = some o → H' a = some o) : Good B H' L :=
  ⟨fun a o e => k a o (g.ext a o e), fun c hc => k _ _ (g.own c hc), g.off, g.nd⟩
end
end VI
/-! VB -/
namespace VI
open PySem L2

/-! ## what is to be read in a heap -/
def RTag (W : Wo) (H : Hp) (g : TT') (ts : List T) : Prop := match g with
  | .non => ts = []
  | .bl _ => ts = []
  | .int _ => ts = []
  | .str _ => ts = []
  | .tup a => SqT W.K H a (vals ts)
  | .lst a _ => SqL W.K H a (vals ts)
  | .dct a _ ks _ => Rd H a (.dK (ks.zip (vals ts))) ∧ ks.length = ts.length
  | .ins a dx _ C ns => H a = some (.ins (W.ca C) dx ((ns.map W.nm).zip (vals ts))) ∧ ns.length = ts.length
inductive Rb (W : Wo) (H : Hp) : T → Prop
  | mk {g : TT'} {ts : List T} : RTag W H g ts → (∀ t ∈ ts, Rb W H t) → Rb W H (.nd g ts)
section
variable {W : Wo} {B H H' : Hp}
theorem Rb.tag {g : TT'} {ts : List T} (h : Rb W H (.nd g ts)) : RTag W H g ts := by cases h; assumption
theorem Rb.kids {g : TT'} {ts : List T} (h : Rb W H (.nd g ts)) : ∀ t ∈ ts, Rb W H t := by cases h; assumption
theorem Ok.rb (e : Ext B H) : ∀ t : T, Ok W B t → (∀ c ∈ cells W t, H c.1 = some c.2) → Rb W H t :=
  Tr.ind fun g ts ih h hc => by
    have hc' : ∀ t ∈ ts, ∀ c ∈ cells W t, H c.1 = some c.2 := fun t ht c hm => hc c (by rw [cells_nd]; exact List.mem_append_right _ (mem_cellsL ht hm))
    have ho : ∀ c ∈ own W g (vals ts), H c.1 = some c.2 := fun c hm => hc c (by rw [cells_nd]; exact List.mem_append_left _ hm)
    refine .mk ?_ fun t ht => ih t ht (h.kids t ht) (hc' t ht)
    have q := h.tag.mono e
    cases g with
    | tup a => exact q.1
    | lst a o => cases o with
      | true => exact SqL.of (ho (a, .lst (vals ts)) (by simp [own]))
      | false => exact q.1
    | dct a o ks lk => cases o with
      | true =>
        refine ⟨?_, q.1⟩
        have := ho (a, lockd lk (.dK (ks.zip (vals ts)))) (by simp [own])
        cases lk with
        | none => exact .inl this
        | some ob => exact .inr ⟨ob, this⟩
      | false => exact ⟨q.1, q.2.2⟩
    | ins a dx o C ns => cases o with
      | true => exact ⟨ho (a, .ins (W.ca C) dx ((ns.map W.nm).zip (vals ts))) (by simp [own]), q⟩
      | false => exact ⟨q.1, q.2.2⟩
    | _ => exact q
end

/-! ## plain data: what == and repr speak of -/
mutual
def toP : D → Option PyData
  | .nd .non _ => some .none
  | .nd (.bl b) _ => some (.bool b)
  | .nd (.int i) _ => some (.int i)
  | .nd (.str s) _ => some (.str s)
  | .nd .tup ts => (toPL ts).map .tuple
  | .nd (.lst _) ts => (toPL ts).map .list
  | .nd (.dct _ _ _) _ => none
  | .nd (.ins _ _ _) _ => none
def toPL : List D → Option (List PyData)
  | [] => some []
  | t :: ts => (toP t).bind fun p => (toPL ts).map fun ps => p :: ps
end
theorem toPL_some : ∀ {ds : List D} {ps : List PyData}, toPL ds = some ps → ds.length = ps.length ∧ ∀ (i : Nat) d, ds[i]? = some d → ∃ p, ps[i]? = some p ∧ toP d = some p
  | [], ps, h => by cases h; exact ⟨rfl, fun i d e => by simp at e⟩
  | t :: ts, ps, h => by
    rw [toPL] at h
    cases ht : toP t with
    | none => rw [ht] at h; cases h
    | some p =>
      rw [ht] at h
      cases hl : toPL ts with
      | none => rw [hl] at h; cases h
      | some qs =>
        rw [hl] at h
        cases h
        obtain ⟨l, f⟩ := toPL_some hl
        refine ⟨by simp [l], fun i d e => ?_⟩
        cases i with
        | zero => simp at e; subst e; exact ⟨p, rfl, ht⟩
        | succ i => simpa using f i d (by simpa using e)
theorem Rb.dp {W : Wo} {H : Hp} : ∀ t : T, Rb W H t → ∀ p, toP (er t) = some p → Dp W.K H (val t) p :=
  Tr.ind fun g ts ih h p hp => by
    have kidsL : ∀ (us : List T) (ps : List PyData), (∀ u ∈ us, u ∈ ts) → toPL (us.map er) = some ps → DpAll W.K H (us.map val) ps := by
      intro us
      induction us with
      | nil => intro ps _ e; cases e; exact .nil
      | cons u us ihu =>
        intro ps hm e
        rw [List.map_cons, toPL] at e
        cases hu : toP (er u) with
        | none => rw [hu] at e; cases e
        | some q =>
          rw [hu] at e
          cases hl : toPL (us.map er) with
          | none => rw [hl] at e; cases e
          | some qs =>
            rw [hl] at e
            cases e
            have mu := hm u List.mem_cons_self
            exact .cons (ih u mu (h.kids u mu) q hu) (ihu qs (fun x hx => hm x (List.mem_cons_of_mem _ hx)) hl)
    have q := h.tag
    rw [er_nd] at hp
    cases g with
    | non => rw [show ts = [] from q] at hp ⊢; cases hp; exact .non
    | bl b => rw [show ts = [] from q] at hp ⊢; cases hp; exact .bl b
    | int b => rw [show ts = [] from q] at hp ⊢; cases hp; exact .int b
    | str b => rw [show ts = [] from q] at hp ⊢; cases hp; exact .str b
    | tup a =>
      have hp : (toPL (ts.map er)).map PyData.tuple = some p := by rw [← hp]; show _ = toP (.nd .tup _); rw [toP]
      cases hl : toPL (ts.map er) with
      | none => rw [hl] at hp; cases hp
      | some qs =>
        rw [hl] at hp
        cases hp
        exact .tup q (kidsL ts qs (fun _ h => h) hl)
    | lst a o =>
      have hp : (toPL (ts.map er)).map PyData.list = some p := by rw [← hp]; show _ = toP (.nd (.lst o) _); rw [toP]
      cases hl : toPL (ts.map er) with
      | none => rw [hl] at hp; cases hp
      | some qs =>
        rw [hl] at hp
        cases hp
        exact .lst q (kidsL ts qs (fun _ h => h) hl)
    | dct a o ks lk => exact absurd hp (by show ¬ toP (.nd (.dct _ _ _) _) = _; rw [toP]; exact fun z => nomatch z)
    | ins a dx o C ns => exact absurd hp (by show ¬ toP (.nd (.ins _ _ _) _) = _; rw [toP]; exact fun z => nomatch z)

/-! ## contexts -/
inductive Ent (α : Type) where
  | own (d : α)
  | al (j : Nat) (π : List Nat)
abbrev Ctx := List (Option (Ent D))
abbrev CtxT := List (Option (Ent T))
def erE : Option (Ent T) → Option (Ent D)
  | some (.own t) => some (.own (er t))
  | some (.al j π) => some (.al j π)
  | none => none
def erC (Ts : CtxT) : Ctx := Ts.map erE
def cellsE (W : Wo) : Option (Ent T) → List Cell
  | some (.own t) => cells W t
  | _ => []
def cellsC (W : Wo) : CtxT → List Cell
  | [] => []
  | e :: es => cellsE W e ++ cellsC W es

def getE (Γ : Ctx) (j : Nat) (π : List Nat) : Option D := match Γ[j]? with
  | some (some (.own d)) => d.at_ π
  | _ => none
def putE (Γ : Ctx) (j : Nat) (π : List Nat) (d : D) : Ctx := match Γ[j]? with
  | some (some (.own d0)) => Γ.set j (some (.own (d0.put π d)))
  | _ => Γ
def below (π ρ : List Nat) : Bool := π.isPrefixOf ρ && (π.length < ρ.length)
/-- aliases to what lies below a place are forgotten -/
def killE {α : Type} (j : Nat) (π : List Nat) : Option (Ent α) → Option (Ent α)
  | some (.al i ρ) => if i = j ∧ below π ρ = true then none else some (.al i ρ)
  | some (.own d) => some (.own d)
  | none => none
def kill {α : Type} (Γ : List (Option (Ent α))) (j : Nat) (π : List Nat) : List (Option (Ent α)) := Γ.map (killE j π)
/-- all aliases to a slot are forgotten -/
def killAE {α : Type} (j : Nat) : Option (Ent α) → Option (Ent α)
  | some (.al i ρ) => if i = j then none else some (.al i ρ)
  | some (.own d) => some (.own d)
  | none => none
def killAll {α : Type} (Γ : List (Option (Ent α))) (j : Nat) : List (Option (Ent α)) := Γ.map (killAE j)

structure At (W : Wo) (B : Hp) (Ts : CtxT) (F : List Cell) (σ : St) (H : Hp) : Prop where
  len : Ts.length = σ.length
  ok : ∀ (i : Nat) (t : T), Ts[i]? = some (some (.own t)) → Ok W B t ∧ σ[i]? = some (some (val t))
  al : ∀ (i j : Nat) (π : List Nat), Ts[i]? = some (some (.al j π)) → ∃ t u, Ts[j]? = some (some (.own t)) ∧ t.at_ π = some u ∧ σ[i]? = some (some (val u))
  good : Good B H (cellsC W Ts ++ F)
section
variable {W : Wo} {B B' H H' : Hp} {Ts : CtxT} {F F' : List Cell} {σ : St}
theorem erC_get {Ts : CtxT} {j : Nat} {d : D} (h : (erC Ts)[j]? = some (some (.own d))) : ∃ t, Ts[j]? = some (some (.own t)) ∧ er t = d := by
  unfold erC at h
  rw [List.getElem?_map] at h
  cases e : Ts[j]? with
  | none => rw [e] at h; cases h
  | some x =>
    rw [e] at h
    cases x with
    | none => cases h
    | some x => cases x with
      | own t => cases h; exact ⟨t, rfl, rfl⟩
      | al j π => cases h
theorem erC_al {Ts : CtxT} {j i : Nat} {π : List Nat} (h : (erC Ts)[j]? = some (some (.al i π))) : Ts[j]? = some (some (.al i π)) := by
  unfold erC at h
  rw [List.getElem?_map] at h
  cases e : Ts[j]? with
  | none => rw [e] at h; cases h
  | some x =>
    rw [e] at h
    cases x with
    | none => cases h
    | some x => cases x with
      | own t => cases h
      | al j π => cases h; rfl
theorem at_ok {t u : T} : ∀ {π : List Nat}, t.at_ π = some u → Ok W B t → Ok W B u := fun {π} h o => by
  induction π generalizing t with
  | nil => rw [Tr.at_nil] at h; cases h; exact o
  | cons n π ih =>
    cases t with
    | nd g ts =>
      rw [Tr.at_cons] at h
      cases e : ts[n]? with
      | none => rw [e] at h; cases h
      | some t => rw [e] at h; exact ih h (o.kids t (List.mem_of_getElem? e))
theorem at_cells {t u : T} {c : Cell} : ∀ {π : List Nat}, t.at_ π = some u → c ∈ cells W u → c ∈ cells W t := fun {π} h hc => by
  induction π generalizing t with
  | nil => rw [Tr.at_nil] at h; cases h; exact hc
  | cons n π ih =>
    cases t with
    | nd g ts =>
      rw [Tr.at_cons] at h
      cases e : ts[n]? with
      | none => rw [e] at h; cases h
      | some t => rw [e] at h; rw [cells_nd]; exact List.mem_append_right _ (mem_cellsL (List.mem_of_getElem? e) (ih h))
theorem mem_cellsC {t : T} {c : Cell} : ∀ {Ts : CtxT} {j : Nat}, Ts[j]? = some (some (.own t)) → c ∈ cells W t → c ∈ cellsC W Ts
  | [], _, h, _ => by simp at h
  | e :: es, 0, h, hc => by
    simp at h; subst h
    rw [cellsC]; exact List.mem_append_left _ hc
  | e :: es, j + 1, h, hc => by
    rw [cellsC]; exact List.mem_append_right _ (mem_cellsC (j := j) (by simpa using h) hc)
/-- a slot's cells, taken out -/
theorem cellsC_set {x : Option (Ent T)} : ∀ {Ts : CtxT} {j : Nat} {y : Option (Ent T)}, Ts[j]? = some y → (cellsE W x ++ cellsC W Ts).Perm (cellsE W y ++ cellsC W (Ts.set j x))
  | [], _, _, h => by simp at h
  | e :: es, 0, y, h => by
    simp at h; subst h
    show (cellsE W x ++ (cellsE W e ++ cellsC W es)).Perm (cellsE W e ++ (cellsE W x ++ cellsC W es))
    rw [← List.append_assoc, ← List.append_assoc]
    exact List.perm_append_comm.append_right _
  | e :: es, j + 1, y, h => by
    have ih := cellsC_set (x := x) (Ts := es) (j := j) (y := y) (by simpa using h)
    show (cellsE W x ++ (cellsE W e ++ cellsC W es)).Perm (cellsE W y ++ (cellsE W e ++ cellsC W (es.set j x)))
    have a : (cellsE W x ++ (cellsE W e ++ cellsC W es)).Perm (cellsE W e ++ (cellsE W x ++ cellsC W es)) := by
      rw [← List.append_assoc, ← List.append_assoc]; exact List.perm_append_comm.append_right _
    have b : (cellsE W e ++ (cellsE W y ++ cellsC W (es.set j x))).Perm (cellsE W y ++ (cellsE W e ++ cellsC W (es.set j x))) := by
      rw [← List.append_assoc, ← List.append_assoc]; exact List.perm_append_comm.append_right _
    exact (a.trans (ih.append_left _)).trans b
theorem At.mono (a : At W B Ts F σ H) (e : Ext B B') (g : Good B' H' (cellsC W Ts ++ F')) : At W B' Ts F' σ H' :=
  ⟨a.len, fun i t h => ⟨(a.ok i t h).1.mono e, (a.ok i t h).2⟩, a.al, g⟩
theorem At.heap (a : At W B Ts F σ H) (g : Good B H' (cellsC W Ts ++ F')) : At W B Ts F' σ H' := ⟨a.len, a.ok, a.al, g⟩
theorem At.drop {c : List Cell} (a : At W B Ts (c ++ F) σ H) : At W B Ts F σ H :=
  a.heap ((a.good.perm (by rw [← List.append_assoc]; exact (List.perm_append_comm.append_right F).trans (by rw [List.append_assoc]))).drop)
theorem At.perm (a : At W B Ts F σ H) (p : F.Perm F') : At W B Ts F' σ H := a.heap (a.good.perm (p.append_left _))
/-- the readable part -/
theorem At.rb (a : At W B Ts F σ H) {u : T} (o : Ok W B u) (hc : ∀ c ∈ cells W u, c ∈ cellsC W Ts ++ F) : Rb W H u := o.rb a.good.ext _ fun c hm => a.good.own c (hc c hm)
theorem At.place (a : At W B Ts F σ H) {j : Nat} {t u : T} {π : List Nat} (h : Ts[j]? = some (some (.own t))) (hu : t.at_ π = some u) : Ok W B u ∧ ∀ c ∈ cells W u, c ∈ cellsC W Ts ++ F :=
  ⟨at_ok hu (a.ok j t h).1, fun c hc => List.mem_append_left _ (mem_cellsC h (at_cells hu hc))⟩
end

/-! ## what an expression comes to -/
section
variable (W : Wo)
/-- a value of its own (or a shared one); q: nothing has changed -/
def EJ (t : TE) (Γ Γ' : Ctx) (q : Bool) (d : D) : Prop := ∀ (B : Hp) (Ts : CtxT) (F : List Cell) (σ : St) (H : Hp), At W B Ts F σ H → erC Ts = Γ → ∀ Q : VK,
  (∀ (B' : Hp) (Ts' : CtxT) (u : T) (H' : Hp), Ext B B' → At W B' Ts' (cells W u ++ F) σ H' → erC Ts' = Γ' → Ok W B' u → er u = d → (q = true → Ts' = Ts) → Q (val u) H') → t σ H Q
/-- a place -/
def PJ (t : TE) (Γ : Ctx) (j : Nat) (π : List Nat) (d : D) : Prop := ∀ (B : Hp) (Ts : CtxT) (F : List Cell) (σ : St) (H : Hp), At W B Ts F σ H → erC Ts = Γ → ∀ Q : VK,
  (∀ (B' : Hp) (H' : Hp) (t0 u : T), Ext B B' → At W B' Ts F σ H' → Ts[j]? = some (some (.own t0)) → t0.at_ π = some u → er u = d → Q (val u) H') → t σ H Q
/-- a test -/
def TJ (t : TT) (Γ Γ' : Ctx) (q : Bool) (b : Bool) : Prop := ∀ (B : Hp) (Ts : CtxT) (F : List Cell) (σ : St) (H : Hp), At W B Ts F σ H → erC Ts = Γ → ∀ Q : Bool → Hp → Prop,
  (∀ (B' : Hp) (Ts' : CtxT) (H' : Hp), Ext B B' → At W B' Ts' F σ H' → erC Ts' = Γ' → (q = true → Ts' = Ts) → Q b H') → t σ H Q
inductive BR where
  | pl (j : Nat) (π : List Nat) (d : D)
  | vl (d : D) (Γ : Ctx) (q : Bool)
def BJ (t : TE) (Γ : Ctx) : BR → Prop
  | .pl j π d => PJ W t Γ j π d
  | .vl d Γ' q => EJ W t Γ Γ' q d
end

/-! ## the canonical readings -/
section
variable (X : Cx)
def wE (e : Expr) : TE := fun σ H Q => ∀ (pins : List (Addr × Obj)) (s : Shared), Inv X pins σ H s → wpAny (model X.prog X.w) X.A (eval e X.env) (EP X pins σ Q) X.xe s
def wT (e : Expr) : TT := fun σ H Q => ∀ (pins : List (Addr × Obj)) (s : Shared), Inv X pins σ H s → wpAny (model X.prog X.w) X.A (isTrue e X.env (eval e X.env)) (TP X pins σ Q) X.xe s
def wA (es : List Expr) : TA := fun σ H Q => ∀ (pos : Pos) (pins : List (Addr × Obj)) (s : Shared), Inv X pins σ H s → wpAny (model X.prog X.w) X.A (spliced (backTo pos (starEach es X.env))) (AP X pins σ Q) X.xe s
def wS (st : Stmt) : TS := fun D σ H => ∀ (pins : List (Addr × Obj)) (s : Shared), Inv X pins σ H s → wpAny (model X.prog X.w) X.A (exec st X.env) (SP X pins D) X.xe s
def wSs (st : List Stmt) : TS := fun D σ H => ∀ (pins : List (Addr × Obj)) (s : Shared), Inv X pins σ H s → wpAny (model X.prog X.w) X.A (execs st X.env) (SP X pins D) X.xe s
end
section
variable {X : Cx} {e : Expr} {es : List Expr} {st : Stmt} {sts : List Stmt} {t : TE} {tt : TT} {ta : TA} {ts : TS}
theorem pe_w : PE X e (wE X e) := ⟨fun pins s _ _ _ I h => h pins s I⟩
theorem pt_w : PT X e (wT X e) := ⟨fun pins s _ _ _ I h => h pins s I⟩
theorem pa_w : PA X es (wA X es) := ⟨fun pos pins s _ _ _ I h => h pos pins s I⟩
theorem ps_w : PS X st (wS X st) := ⟨fun pins s _ _ _ I h => h pins s I⟩
theorem pss_w : PSs X sts (wSs X sts) := ⟨fun pins s _ _ _ I h => h pins s I⟩
theorem wE_of (h : PE X e t) {σ : St} {H : Hp} {Q : VK} (q : t σ H Q) : wE X e σ H Q := fun pins s I => h.run pins s σ H Q I q
theorem wT_of (h : PT X e tt) {σ : St} {H : Hp} {Q : Bool → Hp → Prop} (q : tt σ H Q) : wT X e σ H Q := fun pins s I => h.run pins s σ H Q I q
theorem wA_of (h : PA X es ta) {σ : St} {H : Hp} {Q : List V → Hp → Prop} (q : ta σ H Q) : wA X es σ H Q := fun pos pins s I => h.run pos pins s σ H Q I q
theorem wS_of (h : PS X st ts) {σ : St} {H : Hp} {D : Ends} (q : ts D σ H) : wS X st D σ H := fun pins s I => h.run pins s σ H D I q
theorem wSs_of (h : PSs X sts ts) {σ : St} {H : Hp} {D : Ends} (q : ts D σ H) : wSs X sts D σ H := fun pins s I => h.run pins s σ H D I q
theorem EJ.lift {W : Wo} {Γ Γ' : Ctx} {q : Bool} {d : D} (h : EJ W t Γ Γ' q d) (p : PE X e t) : EJ W (wE X e) Γ Γ' q d := fun B Ts F σ H a g Q k => wE_of p (h B Ts F σ H a g Q k)
theorem PJ.lift {W : Wo} {Γ : Ctx} {j : Nat} {π : List Nat} {d : D} (h : PJ W t Γ j π d) (p : PE X e t) : PJ W (wE X e) Γ j π d := fun B Ts F σ H a g Q k => wE_of p (h B Ts F σ H a g Q k)
theorem TJ.lift {W : Wo} {Γ Γ' : Ctx} {q b : Bool} (h : TJ W tt Γ Γ' q b) (p : PT X e tt) : TJ W (wT X e) Γ Γ' q b := fun B Ts F σ H a g Q k => wT_of p (h B Ts F σ H a g Q k)
end
end VI
/-! VC -/
noncomputable section
namespace VI
open PySem L2

/-! ## the short syntax -/
inductive Ty where
  | int | bool | str | list | tuple | dict | cls (c : Nat)
  deriving DecidableEq
inductive Op where
  | bin (o : Operator) | cmp (o : CmpOp) | neg
  | len | abs | max | min | list | sorted | sortedset | lenset | listrange | repr | all | int | sum | isi (t : Ty)
  | rev | step2
  | slo | shi | slh
inductive Tg where
  | nm (i : Nat)
  | tp (is : List Nat)
inductive C where
  | k (d : D)
  | v (i : Nat)
  | g (x : Nat)
  | op (o : Op) (es : List C)
  | chn (o1 o2 : CmpOp) (a b c : C)
  | and (a b : C) | or (a b : C) | not (a : C)
  | ife (c a b : C)
  | tup (es : List C) | lst (es : List C) | star (e : C)
  | dct0
  | att (e : C) (f : Nat)
  | idx (e i : C)
  | call (f : Nat) (es : List C)
  | make (c : Nat) (es : List C)
  | callK (f : Nat) (es : List C) (perm : List Nat)
  | makeK (c : Nat) (es : List C) (perm : List Nat)
  | mth (e : C) (m : Nat) (es : List C)
  | slc (e : C) (lo hi : List C)
  | frz (e : C)
  | rng (es : List C) | enm (e : C) | zip (a b : C)
  | lc (own : List Nat) (tg : Tg) (it : C) (ifs : List C) (elt : C)
  | bad
inductive TgS where
  | nm (i : Nat)
  | tp (is : List Nat)
  | att (e : C) (f : Nat)
  | sub (e i : C)
inductive CS where
  | ex (e : C)
  | asg (t : TgS) (e : C)
  | asgs (is : List Nat) (es : List C)
  | aug (t : TgS) (o : Operator) (e : C)
  | ite (c : C) (a b : List CS)
  | for_ (tg : Tg) (it : C) (body : List CS)
  | whl (c : C) (body : List CS)
  | ret (e : C) | retN | pass | brk | cnt
  | bad

/-! ## the static part -/
structure Prg where
  /-- a method of a class, or a property: the number of the def -/
  mth : Nat → Nat → Option Nat
  prp : Nat → Nat → Option Nat
  ini : Nat → Option Nat
  con : Nat → Option D
  /-- a class without an attribute of this name -/
  isf : Nat → Nat → Bool
  /-- __len__ 0, __eq__ 1, __add__ 2, __contains__ 3 -/
  dnd : Nat → Nat → Option Nat
  sub : Nat → Nat → Bool
abbrev Cl := Nat → List D → Option (D × List D)

/-! ## operations on data -/
theorem lim_ex : ∃ n : Nat, n = 16777216 := ⟨_, rfl⟩
noncomputable def lim : Nat := Classical.choose lim_ex
theorem lim_val : lim = 16777216 := Classical.choose_spec lim_ex
def small64 (i : Int) : Bool := decide (-(2 ^ 64) < i) && decide (i < 2 ^ 64)
def allSh (ds : List D) : Bool := ds.all isSh
def atD (ds : List D) (i : Int) : Option D := atI ds i
def cutD (ds : List D) (lo hi : Option Int) : List D := (ds.drop (HT.sIx ds.length 0 lo)).take (HT.sIx ds.length ds.length hi - HT.sIx ds.length 0 lo)
def sizeOf? (d : D) : Option Nat := match d with
  | .nd .tup ts => some ts.length
  | .nd (.lst _) ts => some ts.length
  | .nd (.dct _ _ _) ts => some ts.length
  | .nd (.str s) _ => if s.length ≤ lim then some s.length else none
  | _ => none
def optI : D → Option (Option Int)
  | .nd .non _ => some none
  | .nd (.int i) _ => some (some i)
  | _ => none
def binD (o : Operator) (x y : D) : Option D := match o, x, y with
  | .Add, .nd (.int a) _, .nd (.int b) _ => some (dI (a + b))
  | .Sub, .nd (.int a) _, .nd (.int b) _ => some (dI (a - b))
  | .Mult, .nd (.int a) _, .nd (.int b) _ => if small64 a || small64 b then some (dI (a * b)) else none
  | .FloorDiv, .nd (.int a) _, .nd (.int b) _ => if b ≠ 0 ∧ b.natAbs < 1073741824 then some (dI (a.fdiv b)) else none
  | .Mod, .nd (.int a) _, .nd (.int b) _ => if b ≠ 0 then some (dI (a.fmod b)) else none
  | .Pow, .nd (.int a) _, .nd (.int b) _ => if 0 ≤ b ∧ (Builtin.Int.intBits a : Int) * b ≤ 2 ^ 27 then some (dI (a ^ b.toNat)) else none
  | .Add, .nd (.lst _) xs, .nd (.lst _) ys => if allSh xs && allSh ys && decide (xs.length + ys.length ≤ lim) then some (dL true (xs ++ ys)) else none
  | .Mult, .nd (.lst _) xs, .nd (.int k) _ => if allSh xs = true ∧ -(2 ^ 63) ≤ k ∧ k < 2 ^ 63 ∧ xs.length * k.toNat ≤ lim then some (dL true (List.replicate k.toNat xs).flatten) else none
  | _, _, _ => none
def isNon : D → Bool
  | .nd .non _ => true
  | _ => false
def cmpD (o : CmpOp) (x y : D) : Option D := match o, x, y with
  | .Lt, .nd (.int a) _, .nd (.int b) _ => some (dB (decide (a < b)))
  | .LtE, .nd (.int a) _, .nd (.int b) _ => some (dB (decide (a ≤ b)))
  | .Gt, .nd (.int a) _, .nd (.int b) _ => some (dB (decide (b < a)))
  | .GtE, .nd (.int a) _, .nd (.int b) _ => some (dB (decide (b ≤ a)))
  | .Is, x, .nd .non _ => some (dB (isNon x))
  | .IsNot, x, .nd .non _ => some (dB (!isNon x))
  | .Eq, x, y => (toP x).bind fun p => (toP y).bind fun q => if SeqAt.shaped p && SeqAt.shaped q then some (dB (PyData.eqv p q)) else none
  | .NotEq, x, y => (toP x).bind fun p => (toP y).bind fun q => if SeqAt.shaped p && SeqAt.shaped q then some (dB (!PyData.eqv p q)) else none
  | _, _, _ => none
def alikeAllB (ps : List PyData) : Bool := ps.all fun p => ps.all fun q => PySem.W.alike p q
def isTup1 : PyData → Bool
  | .tuple (_ :: _) => true
  | _ => false
def noTup : PyData → Bool
  | .none => false
  | .tuple _ => false
  | _ => true
def sortOk (ps : List PyData) : Bool := alikeAllB ps && (ps.all isTup1 || ps.all noTup) && ps.all (fun p => decide (p.depth ≤ 60)) && decide (ps.length ≤ lim)
def gP (d : D) : PyData := (toP d).getD .none
def leD : D → D → Bool := PySem.W.dataLe false gP
def sortD (ds : List D) : Option (List D) := (toPL ds).bind fun ps => if sortOk ps && allSh ds then some (ds.mergeSort leD) else none
def seqOf : D → Option (List D)
  | .nd .tup ts => some ts
  | .nd (.lst _) ts => some ts
  | _ => none
/-- each item once, the first one is kept -/
def onceD : List D → List PyData → List D
  | [], _ => []
  | d :: ds, seen => if seen.any (PyData.eqv (gP d)) then onceD ds seen else d :: onceD ds (gP d :: seen)
def keyD : Key → D
  | .inl i => dI i
  | .inr s => dS s
def boolsOf : List D → Option (List Bool)
  | [] => some []
  | .nd (.bl b) _ :: ds => (boolsOf ds).map fun bs => b :: bs
  | _ :: _ => none
def tyOf : D → Option Ty
  | .nd .non _ => none
  | .nd (.bl _) _ => some .bool
  | .nd (.int _) _ => some .int
  | .nd (.str _) _ => some .str
  | .nd .tup _ => some .tuple
  | .nd (.lst _) _ => some .list
  | .nd (.dct _ _ _) _ => some .dict
  | .nd (.ins _ c _) _ => some (.cls c)
def isiD (Φ : Prg) (x : D) (t : Ty) : Bool := match tyOf x, t with
  | some .bool, .int => true
  | some (.cls c), .cls c' => Φ.sub c c'
  | some a, b => decide (a = b)
  | none, _ => false
def slcD (x : D) (lo hi : Option Int) : Option D := match x with
  | .nd (.lst _) ts => if allSh ts then some (dL true (cutD ts lo hi)) else none
  | _ => none
def opD (Φ : Prg) (o : Op) (ds : List D) : Option D := match o, ds with
  | .bin o, [x, y] => binD o x y
  | .cmp o, [x, y] => cmpD o x y
  | .neg, [.nd (.int a) _] => some (dI (-a))
  | .len, [x] => (sizeOf? x).map fun n => dI (n : Int)
  | .abs, [.nd (.int a) _] => some (dI (if a < 0 then -a else a))
  | .max, [.nd (.int a) _, .nd (.int b) _] => some (dI (if b > a then b else a))
  | .min, [.nd (.int a) _, .nd (.int b) _] => some (dI (if b < a then b else a))
  | .int, [.nd (.int a) _] => some (dI a)
  | .int, [.nd (.bl b) _] => some (dI (if b then 1 else 0))
  | .list, [x] => (seqOf x).bind fun xs => if allSh xs then some (dL true xs) else none
  | .sorted, [.nd (.dct _ _ ks) ts] => if ks.length ≤ ts.length then (sortD (ks.map keyD)).map (dL true) else none
  | .sorted, [.nd (.lst _) xs] => (sortD xs).map (dL true)
  | .sortedset, [.nd (.lst _) []] => some (dL true [])
  | .repr, [x] => (toP x).bind fun p => if p.showable && decide (p.shown.length ≤ lim) && decide (p.depth ≤ 60) then some (dS p.shown) else none
  | .all, [.nd (.lst _) xs] => (boolsOf xs).map fun bs => dB (bs.all id)
  | .isi t, [x] => some (dB (isiD Φ x t))
  | .rev, [.nd (.lst _) xs] => if allSh xs then some (dL true xs.reverse) else none
  | .slo, [x, .nd (.int a) _] => slcD x (some a) none
  | .shi, [x, .nd (.int b) _] => slcD x none (some b)
  | .slh, [x, .nd (.int a) _, .nd (.int b) _] => slcD x (some a) (some b)
  | .listrange, [.nd (.int n) _] => if -(2 ^ 62) ≤ n ∧ n ≤ lim then some (dL true ((List.range n.toNat).map fun (i : Nat) => dI (i : Int))) else none
  | _, _ => none
/-- an item: its place among the kids -/
def ixOf (x i : D) : Option Nat := match x, i with
  | .nd .tup ts, .nd (.int k) _ => (ixN ts.length k).bind fun n => if n < ts.length then some n else none
  | .nd (.lst _) ts, .nd (.int k) _ => (ixN ts.length k).bind fun n => if n < ts.length then some n else none
  | .nd (.dct _ _ ks) ts, .nd (.int k) _ => (ks.findIdx? fun q => decide (q = .inl k)).bind fun n => if n < ts.length then some n else none
  | _, _ => none

/-! ## methods of lists and dicts: by numbers of names -/
/-- reading ones -/
def rdM (m : Nat) (x : D) (ds : List D) : Option D := match m, x, ds with
  | 4, .nd (.dct _ _ ks) ts, [.nd (.int k) _] => match ks.findIdx? fun q => decide (q = .inl k) with
    | some n => (ts[n]?).bind fun t => if isSh t then some t else none
    | none => some dN
  | 4, .nd (.dct _ _ ks) ts, [.nd (.int k) _, d] => match ks.findIdx? fun q => decide (q = .inl k) with
    | some n => (ts[n]?).bind fun t => if isSh t then some t else none
    | none => if isSh d then some d else none
  | _, _, _ => none
def intsOf : List D → Option (List Int)
  | [] => some []
  | .nd (.int i) _ :: r => (intsOf r).map fun ns => i :: ns
  | _ :: _ => none
def cntM (m : Nat) (x : D) (ds : List D) : Option D := match m, x, ds with
  | 8, .nd (.lst _) xs, [.nd (.int k) _] => (intsOf xs).map fun ns => dI ((ns.count k : Nat) : Int)
  | _, _, _ => none
/-- changing ones: the value, the receiver behind it -/
def muM (m : Nat) (x : D) (ds : List D) : Option (D × D) := match m, x, ds with
  | 0, .nd (.lst true) ts, [d] => if ts.length < lim then some (dN, dL true (ts ++ [d])) else none
  | 1, .nd (.lst true) ts, [] => some (dN, dL true [])
  | 2, .nd (.lst true) ts, [.nd (.int k) _] => (seqIndex? k ts.length).bind fun n => (ts[n]?).bind fun t => if -(2 ^ 63) ≤ k ∧ k < 2 ^ 63 then some (t, dL true (ts.eraseIdx n)) else none
  | 2, .nd (.lst true) ts, [] => (ts[ts.length - 1]?).map fun t => (t, dL true ts.dropLast)
  | _, _, _ => none

/-! ## places -/
inductive Rd' where
  | pl (j : Nat) (π : List Nat)
  | vl (d : D)
def res (Γ : Ctx) : Rd' → Option D
  | .pl j π => getE Γ j π
  | .vl d => some d
def resL (Γ : Ctx) : List Rd' → Option (List D)
  | [] => some []
  | r :: rs => (res Γ r).bind fun d => (resL Γ rs).map fun ds => d :: ds
def apart2 (j : Nat) (π : List Nat) : List Rd' → Bool
  | [] => true
  | .pl i ρ :: rs => (decide (i ≠ j) || (!π.isPrefixOf ρ && !ρ.isPrefixOf π)) && apart2 j π rs
  | .vl _ :: rs => apart2 j π rs
def apart : List Rd' → Bool
  | [] => true
  | .pl j π :: rs => apart2 j π rs && apart rs
  | .vl _ :: rs => apart rs
def wrB (Γ : Ctx) : List Rd' → List D → Ctx
  | .pl j π :: rs, o :: os => kill (putE (wrB Γ rs os) j π o) j π
  | .vl _ :: rs, _ :: os => wrB Γ rs os
  | _, _ => Γ
def live (Γ : Ctx) : List Rd' → Bool
  | [] => true
  | .pl j π :: rs => (match getE Γ j π with
    | some d => !isSh d
    | none => false) && live Γ rs
  | .vl _ :: rs => live Γ rs
def free (Γ : Ctx) (rs : List Rd') : Bool := apart rs && live Γ rs
def noPl : List Rd' → Bool
  | [] => true
  | .pl _ _ :: _ => false
  | .vl _ :: rs => noPl rs
def fldIx (d : D) (f : Nat) : Option Nat := match d with
  | .nd (.ins _ _ ns) ts => (ns.findIdx? fun x => x == f).bind fun n => if n < ts.length then some n else none
  | _ => none
def isL : D → Bool
  | .nd (.lst _) _ => true
  | _ => false
def isDct : D → Bool
  | .nd (.dct _ _ _) _ => true
  | _ => false
def clsOf : D → Option Nat
  | .nd (.ins _ c _) _ => some c
  | _ => none
def forgE {α : Type} (is : List Nat) (k : Nat) : Option (Ent α) → Option (Ent α)
  | none => none
  | some (.own d) => if is.contains k then none else some (.own d)
  | some (.al j π) => if is.contains k || is.contains j then none else some (.al j π)
def forget {α : Type} (Γ : List (Option (Ent α))) (is : List Nat) : List (Option (Ent α)) := Γ.mapIdx (forgE is)
def clean (Γ : Ctx) (is : List Nat) : Bool := is.all fun i => match Γ[i]? with
  | some (some _) => false
  | _ => true
/-- what is walked: may it change, must it stand still, is it a dict (locked) -/
inductive Wk where
  | free | still
  | lock (j : Nat) (π : List Nat) (l : D)
/-- an item of a walk -/
inductive Itm where
  | one (e : Ent D)
  | two (a b : Ent D)
def setE (Γ : Ctx) (i : Nat) (e : Ent D) : Ctx := (killAll Γ i).set i (some e)
def notAl (i : Nat) : Ent D → Bool
  | .al j _ => j != i
  | .own d => isSh d
def asgI (tg : Tg) (x : Itm) (Γ : Ctx) : Option Ctx := match tg, x with
  | .nm i, .one e => if i < Γ.length ∧ notAl i e = true then some (setE Γ i e) else none
  | .tp [i, j], .two a b => if i < Γ.length ∧ j < Γ.length ∧ i ≠ j ∧ notAl i a = true ∧ notAl j b = true ∧ notAl i b = true then some (setE (setE Γ i a) j b) else none
  | .tp [i, j], .one (.own (.nd .tup [a, b])) => if i < Γ.length ∧ j < Γ.length ∧ i ≠ j then some (setE (setE Γ i (.own a)) j (.own b)) else none
  | _, _ => none
def tgs : Tg → List Nat
  | .nm i => [i]
  | .tp is => is
def tgOk (own : List Nat) (tg : Tg) : Bool := (tgs tg).all fun i => own.contains i
def settle (Γ : Ctx) : BR → D × Ctx × Bool
  | .pl j π d => if isSh d then (d, Γ, true) else (fz d, putE Γ j π (fz d), false)
  | .vl d Γ' q => (d, Γ', q)
def truth : D → Option Bool
  | .nd (.bl b) _ => some b
  | _ => none
/-- the turns of a comprehension -/
def lcRun (own : List Nat) (tg : Tg) (test : Ctx → Option (Bool × Ctx × Bool)) (elt : Ctx → Option (D × Ctx × Bool)) : List Itm → List D → Ctx → Bool → Option (List D × Ctx × Bool)
  | [], acc, Γ, q => some (acc, Γ, q)
  | x :: xs, acc, Γ, q => (asgI tg x Γ).bind fun Γ1 => (test Γ1).bind fun (b, Γ2, q2) =>
    if b then (elt Γ2).bind fun (d, Γ3, q3) => if acc.length < lim then lcRun own tg test elt xs (acc ++ [d]) (forget Γ3 own) (q && q2 && q3) else none
    else lcRun own tg test elt xs acc (forget Γ2 own) (q && q2)
def rngOf : List D → Option (List D)
  | [.nd (.int n) _] => if n < 2 ^ 62 ∧ -(2 ^ 62) ≤ n then some ((List.range n.toNat).map fun (i : Nat) => dI (0 + (i : Int))) else none
  | [.nd (.int a) _, .nd (.int b) _] => if a < 2 ^ 62 ∧ -(2 ^ 62) ≤ a ∧ b < 2 ^ 62 ∧ -(2 ^ 62) ≤ b then some ((List.range (b - a).toNat).map fun (i : Nat) => dI (a + (i : Int))) else none
  | [.nd (.int a) _, .nd (.int b) _, .nd (.int c) _] => if c ≠ 0 ∧ c.natAbs < 1073741824 ∧ Builtin.Range.small a b c = true ∧ 0 ≤ Builtin.Range.rangeSize a b c then some ((List.range (Builtin.Range.rangeSize a b c).toNat).map fun (i : Nat) => dI (a + (i : Int) * c)) else none
  | _ => none
/-- a list or a tuple, walked -/
def itvR (Γ : Ctx) : BR → Option (List Itm × Ctx × Bool × Wk)
  | .pl j π (.nd (.lst _) ts) => some ((ts.mapIdx fun k x => .one (if isSh x then .own x else .al j (π ++ [k]))), Γ, true, .still)
  | .vl (.nd (.lst o) ts) Γ' q => if allSh ts then some (ts.map fun x => .one (.own x), Γ', q, .free) else none
  | .vl (.nd .tup ts) Γ' q => some (ts.map fun x => .one (.own x), Γ', q, .free)
  | _ => none
def enmR (Γ : Ctx) : BR → Option (List Itm × Ctx × Bool × Wk)
  | .pl j π (.nd (.lst _) ts) => some ((ts.mapIdx fun k x => .two (.own (dI (k : Int))) (if isSh x then .own x else .al j (π ++ [k]))), Γ, true, .still)
  | .vl (.nd (.lst o) ts) Γ' q => if allSh ts then some ((ts.mapIdx fun k x => .two (.own (dI (k : Int))) (.own x)), Γ', q, .free) else none
  | _ => none
/-- a dict of one's own -/
def dctAt (Γ : Ctx) : C → Option (Nat × List Key × List D)
  | .v i => match Γ[i]? with
    | some (some (.own (.nd (.dct true false ks) ts))) => some (i, ks, ts)
    | _ => none
  | _ => none
/-- the subclass question by types -/
def subO (Φ : Prg) (x : Option Ty) (c : Nat) : Bool := match x with
  | some (.cls c') => Φ.sub c' c
  | _ => false
def swL {α : Type} (b : Bool) (xs : List α) : List α := if b then xs.reverse else xs
/-- an operator of a class: its def, and whether the right one is asked first -/
def dspD (Φ : Prg) (o : Op) (ds : List D) : Option (Nat × Bool) := match o, ds with
  | .len, [x] => (clsOf x).bind fun c => (Φ.dnd c 0).map fun f => (f, false)
  | .cmp .Eq, [x, y] => (clsOf x).bind fun c => match clsOf y with
    | some c' => if c' ≠ c ∧ Φ.sub c' c = true then (Φ.dnd c 1).bind fun _ => (Φ.dnd c' 1).map fun f => (f, true) else (Φ.dnd c 1).map fun f => (f, false)
    | none => (Φ.dnd c 1).map fun f => (f, false)
  | .bin .Add, [x, y] => (clsOf x).bind fun c => if clsOf y = some c then (Φ.dnd c 2).map fun f => (f, false) else none
  | _, _ => none
def dspQ (o : Op) (r : D) : Option D := match o, r with
  | .len, .nd (.int n) _ => if 0 ≤ n ∧ n < 2 ^ 63 then some (dI n) else none
  | .cmp _, .nd (.bl b) _ => some (dB b)
  | .bin _, r => some r
  | _, _ => none
/-- the items by turns: each one's place among those that are left -/
def permL {α : Type} : List Nat → List α → Option (List α)
  | [], [] => some []
  | [], _ :: _ => none
  | i :: is, xs => (xs[i]?).bind fun x => (permL is (xs.eraseIdx i)).map fun r => x :: r
/-! sealed: the kernel is not to look into these -/
theorem opX_ex : ∃ f : Prg → Op → List D → Option D, f = opD := ⟨_, rfl⟩
def opX : Prg → Op → List D → Option D := Classical.choose opX_ex
theorem opX_eq : opX = opD := Classical.choose_spec opX_ex
theorem rngX_ex : ∃ f : List D → Option (List D), f = rngOf := ⟨_, rfl⟩
def rngX : List D → Option (List D) := Classical.choose rngX_ex
theorem rngX_eq : rngX = rngOf := Classical.choose_spec rngX_ex
theorem muX_ex : ∃ f : Nat → D → List D → Option (D × D), f = muM := ⟨_, rfl⟩
def muX : Nat → D → List D → Option (D × D) := Classical.choose muX_ex
theorem muX_eq : muX = muM := Classical.choose_spec muX_ex
section
variable (Φ : Prg) (cl : Cl)
mutual
def evB : Nat → C → Ctx → Option BR
  | 0, _, _ => none
  | z + 1, .k d, Γ => some (.vl d Γ true)
  | z + 1, .v i, Γ => match Γ[i]? with
    | some (some (.own d)) => if isSh d then some (.vl d Γ true) else some (.pl i [] d)
    | some (some (.al j π)) => (getE Γ j π).bind fun d => if isSh d then some (.vl d Γ true) else some (.pl j π d)
    | _ => none
  | z + 1, .g x, Γ => (Φ.con x).map fun d => .vl d Γ true
  | z + 1, .op o es, Γ => (evAs z es Γ).bind fun (rs, Γ', q) => (resL Γ' rs).bind fun ds => match opX Φ o ds with
    | some d => some (.vl d Γ' q)
    | none => (dspD Φ o ds).bind fun (key, sw) => if free Γ' (swL sw rs) then (cl key (swL sw ds)).bind fun (r, outs) => (dspQ o r).map fun d => .vl d (wrB Γ' (swL sw rs) outs) (q && noPl (swL sw rs)) else none
  | z + 1, .slc e lo hi, Γ => (evAs z [e] Γ).bind fun (rs, Γ', q) => if !q then none else (evAs z lo Γ').bind fun (rl, _, q1) => (evAs z hi Γ').bind fun (rh, _, q2) => if !(q1 && q2) then none else
    match rs, rl, rh with
    | [r], [], [] => (res Γ' r).bind fun d => (slcD d none none).map fun d => .vl d Γ' true
    | [r], [.vl (.nd (.int a) _)], [] => (res Γ' r).bind fun d => (slcD d (some a) none).map fun d => .vl d Γ' true
    | [r], [], [.vl (.nd (.int b) _)] => (res Γ' r).bind fun d => (slcD d none (some b)).map fun d => .vl d Γ' true
    | [r], [.vl (.nd (.int a) _)], [.vl (.nd (.int b) _)] => (res Γ' r).bind fun d => (slcD d (some a) (some b)).map fun d => .vl d Γ' true
    | _, _, _ => none
  | z + 1, .not a, Γ => (evT z a Γ).map fun (b, Γ', q) => .vl (dB (!b)) Γ' q
  | z + 1, .and a b, Γ => (evT z a Γ).bind fun (x, Γ1, q1) => if x then (evT z b Γ1).map fun (y, Γ2, q2) => .vl (dB y) Γ2 (q1 && q2) else some (.vl (dB false) Γ1 q1)
  | z + 1, .or a b, Γ => (evT z a Γ).bind fun (x, Γ1, q1) => if x then some (.vl (dB true) Γ1 q1) else (evT z b Γ1).map fun (y, Γ2, q2) => .vl (dB y) Γ2 (q1 && q2)
  | z + 1, .ife c a b, Γ => (evT z c Γ).bind fun (x, Γ1, q1) => if x then (evB z a Γ1).map fun r => let (d, Γ2, q2) := settle Γ1 r; .vl d Γ2 (q1 && q2) else (evB z b Γ1).map fun r => let (d, Γ2, q2) := settle Γ1 r; .vl d Γ2 (q1 && q2)
  | z + 1, .tup es, Γ => (evDs z es Γ).bind fun (ds, Γ', q) => if allSh ds && decide (ds.length ≤ lim) then some (.vl (dT ds) Γ' q) else none
  | z + 1, .lst es, Γ => (evDs z es Γ).bind fun (ds, Γ', q) => if decide (ds.length ≤ lim) then some (.vl (dL true ds) Γ' q) else none
  | z + 1, .dct0, Γ => some (.vl (dD true [] []) Γ true)
  | z + 1, .att e f, Γ => (evB z e Γ).bind fun r => match r with
    | .pl j π d => (clsOf d).bind fun c => match Φ.prp c f with
      | some key => if live Γ [.pl j π] then (cl key [d]).bind fun (r, outs) => if outs.length = 1 then some (.vl r (wrB Γ [.pl j π] outs) false) else none else none
      | none => if Φ.isf c f then (fldIx d f).bind fun n => ((d.kids)[n]?).map fun x => if isSh x then .vl x Γ true else .pl j (π ++ [n]) x else none
    | .vl d Γ' q => (clsOf d).bind fun c => match Φ.prp c f with
      | some key => (cl key [d]).bind fun (r, outs) => if outs.length = 1 then some (.vl r Γ' q) else none
      | none => if Φ.isf c f then (fldIx d f).bind fun n => ((d.kids)[n]?).map fun x => .vl x Γ' q else none
  | z + 1, .idx e i, Γ => (evAs z [e, i] Γ).bind fun (rs, Γ', q) => match rs with
    | [.pl j π, .vl k] => (getE Γ' j π).bind fun d => (ixOf d k).bind fun n => ((d.kids)[n]?).bind fun x => if isSh x then some (.vl x Γ' q) else if q then some (.pl j (π ++ [n]) x) else none
    | [.vl d, .vl k] => (ixOf d k).bind fun n => ((d.kids)[n]?).map fun x => .vl x Γ' q
    | _ => none
  | z + 1, .call f es, Γ => (evAs z es Γ).bind fun (rs, Γ', q) => (resL Γ' rs).bind fun ds => if free Γ' rs then (cl f ds).bind fun (r, outs) => some (.vl r (wrB Γ' rs outs) (q && noPl rs)) else none
  | z + 1, .callK f es perm, Γ => (evAs z es Γ).bind fun (rs0, Γ', q) => (permL perm rs0).bind fun rs => (resL Γ' rs).bind fun ds => if free Γ' rs = true then (cl f ds).bind fun (r, outs) => some (.vl r (wrB Γ' rs outs) (q && noPl rs)) else none
  | z + 1, .makeK c es perm, Γ => (evAs z es Γ).bind fun (rs0, Γ', q) => (permL perm rs0).bind fun rs => (resL Γ' rs).bind fun ds => if free Γ' rs = true then (Φ.ini c).bind fun f => (cl f (dO true c [] [] :: ds)).bind fun (r, outs) => match outs with
    | self :: outs => if isNon r then some (.vl self (wrB Γ' rs outs) (q && noPl rs)) else none
    | _ => none else none
  | z + 1, .make c es, Γ => (evAs z es Γ).bind fun (rs, Γ', q) => (resL Γ' rs).bind fun ds => if free Γ' rs then (Φ.ini c).bind fun f => (cl f (dO true c [] [] :: ds)).bind fun (r, outs) => match outs with
    | self :: outs => if isNon r then some (.vl self (wrB Γ' rs outs) (q && noPl rs)) else none
    | _ => none else none
  | z + 1, .mth e m es, Γ => (evB z e Γ).bind fun r0 => match r0 with
    | .pl j π d0 => (evAs z es Γ).bind fun (rs, Γ', q) => if !(q || decide (π = [])) then none else (getE Γ' j π).bind fun d => (resL Γ' rs).bind fun ds => match clsOf d0 with
      | some c => if free Γ' (.pl j π :: rs) then (Φ.mth c m).bind fun key => if fldIx d0 m = none then (cl key (d :: ds)).bind fun (r, outs) => some (.vl r (wrB Γ' (.pl j π :: rs) outs) false) else none else none
      | none => match (if isDct d0 then rdM m d ds else if isL d0 then cntM m d ds else none) with
        | some x => some (.vl x Γ' q)
        | none => if isL d0 && (noPl rs && live Γ' [.pl j π]) then (muX m d ds).map fun (x, d') => .vl x (kill (putE Γ' j π d') j π) false else none
    | .vl d Γ1 q1 => (evAs z es Γ1).bind fun (rs, Γ', q) => (resL Γ' rs).bind fun ds => match clsOf d with
      | some c => if free Γ' rs then (Φ.mth c m).bind fun key => if fldIx d m = none then (cl key (d :: ds)).bind fun (r, outs) => match outs with
        | _ :: outs => some (.vl r (wrB Γ' rs outs) (q1 && q && noPl rs))
        | _ => none else none else none
      | none => (rdM m d ds).map fun x => .vl x Γ' (q1 && q)
  | z + 1, .lc own tg it ifs elt, Γ => if tgOk own tg then (evI z it Γ).bind fun (xs, Γ1, q1, pl) => match pl with
    | .free => (lcRun own tg (fun Γ => evTs z ifs Γ) (fun Γ => (evB z elt Γ).map (settle Γ)) xs [] (forget Γ1 own) true).bind fun (ds, Γ2, q2) => some (.vl (dL true ds) Γ2 (q1 && q2 && clean Γ1 own))
    | .still => (lcRun own tg (fun Γ => evTs z ifs Γ) (fun Γ => (evB z elt Γ).map (settle Γ)) xs [] (forget Γ1 own) true).bind fun (ds, Γ2, q2) => if q2 && clean Γ1 own then some (.vl (dL true ds) Γ1 q1) else none
    | .lock j π l => if own.contains j then none else (lcRun own tg (fun Γ => evTs z ifs Γ) (fun Γ => (evB z elt Γ).map (settle Γ)) xs [] (forget (putE Γ1 j π l) own) true).bind fun (ds, Γ2, q2) => if q2 && clean Γ1 own then some (.vl (dL true ds) Γ1 q1) else none
  else none
  | z + 1, .chn o1 o2 a b c, Γ => (evAs z [a, b] Γ).bind fun (rs, Γ1, q1) => (resL Γ1 rs).bind fun ds => match ds with
    | [x, .nd (.int j) k] => (cmpD o1 x (.nd (.int j) k)).bind fun r => (truth r).bind fun t => if t then (evAs z [c] Γ1).bind fun (rs2, Γ2, q2) => (resL Γ2 rs2).bind fun es => match es with
        | [y] => (cmpD o2 (.nd (.int j) k) y).map fun r => .vl r Γ2 (q1 && q2)
        | _ => none
      else some (.vl (dB false) Γ1 q1)
    | _ => none
  | z + 1, .frz e, Γ => (evB z e Γ).map fun r => .vl (settle Γ r).1 (settle Γ r).2.1 (settle Γ r).2.2
  | z + 1, .star _, _ => none
  | z + 1, .rng _, _ => none
  | z + 1, .enm _, _ => none
  | z + 1, .zip _ _, _ => none
  | z + 1, .bad, _ => none
/-- tests -/
def evT : Nat → C → Ctx → Option (Bool × Ctx × Bool)
  | 0, _, _ => none
  | z + 1, e, Γ => (evB z e Γ).bind fun r => match r with
    | .vl d Γ' q => (truth d).map fun b => (b, Γ', q)
    | .pl _ _ _ => none
def evTs : Nat → List C → Ctx → Option (Bool × Ctx × Bool)
  | 0, _, _ => none
  | z + 1, [], Γ => some (true, Γ, true)
  | z + 1, [c], Γ => evT z c Γ
  | z + 1, _, _ => none
/-- arguments and operands: places stay places -/
def evAs : Nat → List C → Ctx → Option (List Rd' × Ctx × Bool)
  | 0, _, _ => none
  | z + 1, [], Γ => some ([], Γ, true)
  | z + 1, e :: es, Γ => (evB z e Γ).bind fun r => match r with
    | .pl j π _ => (evAs z es Γ).bind fun (rs, Γ', q) => if q || decide (π = []) then some (.pl j π :: rs, Γ', q) else none
    | .vl d Γ1 q1 => (evAs z es Γ1).map fun (rs, Γ', q) => (.vl d :: rs, Γ', q1 && q)
/-- the items of a display -/
def evDs : Nat → List C → Ctx → Option (List D × Ctx × Bool)
  | 0, _, _ => none
  | z + 1, [], Γ => some ([], Γ, true)
  | z + 1, .star e :: es, Γ => (evAs z [e] Γ).bind fun (rs, Γ1, q1) => match rs with
    | [r] => (res Γ1 r).bind fun d => (seqOf d).bind fun xs => if allSh xs then (evDs z es Γ1).map fun (ds, Γ', q) => (xs ++ ds, Γ', q1 && q) else none
    | _ => none
  | z + 1, e :: es, Γ => (evB z e Γ).bind fun r => let (d, Γ1, q1) := settle Γ r; (evDs z es Γ1).map fun (ds, Γ', q) => (d :: ds, Γ', q1 && q)
/-- what is walked: the items, and whether they are those of a place that must stand still -/
def evI : Nat → C → Ctx → Option (List Itm × Ctx × Bool × Wk)
  | 0, _, _ => none
  | z + 1, .rng es, Γ => (evAs z es Γ).bind fun (rs, Γ', q) => (resL Γ' rs).bind fun ds => (rngX ds).map fun xs => (xs.map fun d => .one (.own d), Γ', q, .free)
  | z + 1, .enm e, Γ => (evB z e Γ).bind (enmR Γ)
  | z + 1, e, Γ => match dctAt Γ e with
    | some (i, ks, ts) => some (ks.map fun k => .one (.own (keyD k)), Γ, true, .lock i [] (.nd (.dct true true ks) ts))
    | none => (evB z e Γ).bind (itvR Γ)
end
end
end VI
/-! VD -/
noncomputable section
namespace VI
open PySem L2

inductive Out where
  | nx (Γ : Ctx) (w : List Nat)
  | rt (d : D) (Γ : Ctx) (w : List Nat)
  | bk (Γ : Ctx) (w : List Nat)
  | ct (Γ : Ctx) (w : List Nat)
def Out.add (w : List Nat) : Out → Out
  | .nx Γ w' => .nx Γ (w ++ w')
  | .rt d Γ w' => .rt d Γ (w ++ w')
  | .bk Γ w' => .bk Γ (w ++ w')
  | .ct Γ w' => .ct Γ (w ++ w')
/-- slot j's thing goes to slot i, j stands for it -/
def mvE (Γ : Ctx) (i j : Nat) (d : D) : Ctx := setE (setE ((killAll Γ j).set j none) i (.own d)) j (.al i [])
def setL (Γ : Ctx) : List Nat → List D → Option Ctx
  | [], [] => some Γ
  | i :: is, d :: ds => if i < Γ.length ∧ i ∉ is then setL (setE Γ i (.own d)) is ds else none
  | _, _ => none
/-- o[i] = d, o.f = d: the node -/
def setIx (x k d : D) : Option D := match x, k with
  | .nd (.lst true) ts, .nd (.int i) _ => (ixN ts.length i).bind fun n => if n < ts.length then some (dL true (ts.set n d)) else none
  | .nd (.dct true false ks) ts, .nd (.int i) _ => if ks.length < lim then (match ks.findIdx? fun q => decide (q = .inl i) with
    | some n => some (dD true ks (ts.set n d))
    | none => some (dD true (ks ++ [.inl i]) (ts ++ [d]))) else none
  | _, _ => none
def setFd (x : D) (f : Nat) (d : D) : Option D := match x with
  | .nd (.ins true C ns) ts => if ns.length < 900 then (match ns.findIdx? fun y => y == f with
    | some n => some (dO true C ns (ts.set n d))
    | none => some (dO true C (ns ++ [f]) (ts ++ [d]))) else none
  | _ => none
def setFdΦ (Φ : Prg) (x : D) (f : Nat) (d : D) : Option D := (clsOf x).bind fun c => if Φ.isf c f then setFd x f d else none
def augD (o : Operator) (x y : D) : Option D := match o, x, y with
  | .Add, .nd (.int a) _, .nd (.int b) _ => some (dI (a + b))
  | .Sub, .nd (.int a) _, .nd (.int b) _ => some (dI (a - b))
  | .Mult, .nd (.int a) _, .nd (.int b) _ => if small64 a || small64 b then some (dI (a * b)) else none
  | _, _, _ => none
theorem augX_ex : ∃ f : Operator → D → D → Option D, f = augD := ⟨_, rfl⟩
def augX : Operator → D → D → Option D := Classical.choose augX_ex
theorem augX_eq : augX = augD := Classical.choose_spec augX_ex
/-- a while's turns -/
def whRun (test : Ctx → Option (Bool × Ctx × Bool)) (body : Ctx → Option Out) : Nat → Ctx → Option Out
  | 0, _ => none
  | n + 1, Γ => (test Γ).bind fun (b, Γ1, _) => if b then (body Γ1).bind fun o => match o with
      | .nx Γ2 w => (whRun test body n Γ2).map (Out.add w)
      | .ct Γ2 w => (whRun test body n Γ2).map (Out.add w)
      | .bk Γ2 w => some (.nx Γ2 w)
      | .rt d Γ2 w => some (.rt d Γ2 w)
    else some (.nx Γ1 [])
/-- a for's turns over items of its own -/
def foRun (tg : Tg) (body : Ctx → Option Out) : List Itm → Ctx → Option Out
  | [], Γ => some (.nx Γ [])
  | x :: xs, Γ => (asgI tg x Γ).bind fun Γ1 => (body Γ1).bind fun o => match o with
      | .nx Γ2 w => (foRun tg body xs Γ2).map (Out.add (tgs tg ++ w))
      | .ct Γ2 w => (foRun tg body xs Γ2).map (Out.add (tgs tg ++ w))
      | .bk Γ2 w => some (.nx Γ2 (tgs tg ++ w))
      | .rt d Γ2 w => some (.rt d Γ2 (tgs tg ++ w))
/-- the list that a name stands for -/
def varL (Γ : Ctx) (i : Nat) : Option (Nat × List Nat × List D) := match Γ[i]? with
  | some (some (.own (.nd (.lst true) ts))) => some (i, [], ts)
  | some (some (.al j π)) => match getE Γ j π with
    | some (.nd (.lst true) ts) => some (j, π, ts)
    | _ => none
  | _ => none
def pItm (en : Bool) (j : Nat) (π : List Nat) (k : Nat) (x : D) : Itm :=
  if en then .two (.own (dI (k : Int))) (if isSh x then .own x else .al j (π ++ [k])) else .one (if isSh x then .own x else .al j (π ++ [k]))
/-- over the list of slot i, as it stands at each turn (its length stays) -/
def fpRun (tg : Tg) (en : Bool) (i : Nat) (body : Ctx → Option Out) : Nat → Nat → Ctx → Option Out
  | 0, k, Γ => (varL Γ i).bind fun (_, _, ts) => if ts.length = k then some (.nx Γ []) else none
  | r + 1, k, Γ => (varL Γ i).bind fun (j, π, ts) => if ts.length = k + (r + 1) then (ts[k]?).bind fun x =>
      (asgI tg (pItm en j π k x) Γ).bind fun Γ1 => (body Γ1).bind fun o => match o with
        | .nx Γ2 w => if i ∈ tgs tg ++ w then none else (fpRun tg en i body r (k + 1) Γ2).map (Out.add (tgs tg ++ w))
        | .ct Γ2 w => if i ∈ tgs tg ++ w then none else (fpRun tg en i body r (k + 1) Γ2).map (Out.add (tgs tg ++ w))
        | .bk Γ2 w => some (.nx Γ2 (tgs tg ++ w))
        | .rt d Γ2 w => some (.rt d Γ2 (tgs tg ++ w))
    else none
def itVar : C → Option (Bool × Nat)
  | .v i => some (false, i)
  | .enm (.v i) => some (true, i)
  | _ => none

def wfuel : Nat := 1000000
section
variable (Φ : Prg) (cl : Cl) (np : Nat)
mutual
def rn : Nat → CS → Ctx → Option Out
  | 0, _, _ => none
  | z + 1, .ex e, Γ => (evB Φ cl z e Γ).map fun r => match r with
    | .vl _ Γ' _ => .nx Γ' []
    | .pl _ _ _ => .nx Γ []
  | z + 1, .asg (.nm i) e, Γ => (evB Φ cl z e Γ).bind fun r => match r with
    | .vl d Γ' _ => if i < Γ'.length then some (.nx (setE Γ' i (.own d)) [i]) else none
    | .pl j π d => if i < Γ.length ∧ j ≠ i then (if π = [] ∧ np ≤ j then (getE Γ j []).map fun d0 => .nx (mvE Γ i j d0) [i] else some (.nx (setE Γ i (.al j π)) [i])) else none
  | z + 1, .asg (.tp is) e, Γ => (evB Φ cl z e Γ).bind fun r => match r with
    | .vl (.nd .tup ds) Γ' _ => (setL Γ' is ds).map fun Γ2 => .nx Γ2 is
    | _ => none
  | z + 1, .asg (.att e f) e2, Γ => (evB Φ cl z e2 Γ).bind fun r => (evB Φ cl z e (settle Γ r).2.1).bind fun r2 => match r2 with
    | .pl j π x => (setFdΦ Φ x f (settle Γ r).1).map fun x' => .nx (kill (putE (settle Γ r).2.1 j π x') j π) []
    | .vl _ _ _ => none
  | z + 1, .asg (.sub e i) e2, Γ => (evB Φ cl z e2 Γ).bind fun r => (evAs Φ cl z [e, i] (settle Γ r).2.1).bind fun (rs, Γ2, q) => match rs with
    | [.pl j π, .vl k] => if live Γ2 [.pl j π] then (getE Γ2 j π).bind fun x => (setIx x k (settle Γ r).1).map fun x' => .nx (kill (putE Γ2 j π x') j π) [] else none
    | _ => none
  | z + 1, .asgs is es, Γ => (evDs Φ cl z es Γ).bind fun (ds, Γ', _) => (setL Γ' is ds).map fun Γ2 => .nx Γ2 is
  | z + 1, .aug (.nm i) o e, Γ => match Γ[i]? with
    | some (some (.own x)) => (evB Φ cl z e Γ).bind fun r => match r with
      | .vl y Γ' _ => (augX o x y).bind fun d => if i < Γ'.length then some (.nx (setE Γ' i (.own d)) [i]) else none
      | .pl _ _ _ => none
    | _ => none
  | z + 1, .aug _ _ _, _ => none
  | z + 1, .ite c a b, Γ => (evT Φ cl z c Γ).bind fun (x, Γ1, _) => if x then rnSs z a Γ1 else rnSs z b Γ1
  | z + 1, .whl c body, Γ => whRun (evT Φ cl z c) (rnSs z body) wfuel Γ
  | z + 1, .for_ tg it body, Γ => match (itVar it).bind fun (en, i) => (varL Γ i).map fun (_, _, ts) => (en, i, ts.length) with
    | some (en, i, n) => fpRun tg en i (rnSs z body) n 0 Γ
    | none => (evI Φ cl z it Γ).bind fun (xs, Γ1, _, wk) => match wk with
      | .free => foRun tg (rnSs z body) xs Γ1
      | _ => none
  | z + 1, .ret (.v i), Γ => match Γ[i]? with
    | some (some (.own d)) => if np ≤ i ∧ isSh d = false then some (.rt d ((killAll Γ i).set i none) []) else (evB Φ cl z (.v i) Γ).map fun r => .rt (settle Γ r).1 (settle Γ r).2.1 []
    | _ => (evB Φ cl z (.v i) Γ).map fun r => .rt (settle Γ r).1 (settle Γ r).2.1 []
  | z + 1, .ret e, Γ => (evB Φ cl z e Γ).map fun r => .rt (settle Γ r).1 (settle Γ r).2.1 []
  | z + 1, .retN, Γ => some (.rt dN Γ [])
  | z + 1, .pass, Γ => some (.nx Γ [])
  | z + 1, .brk, Γ => some (.bk Γ [])
  | z + 1, .cnt, Γ => some (.ct Γ [])
  | z + 1, .bad, _ => none
def rnSs : Nat → List CS → Ctx → Option Out
  | 0, _, _ => none
  | _ + 1, [], Γ => some (.nx Γ [])
  | z + 1, s :: ss, Γ => (rn z s Γ).bind fun o => match o with
    | .nx Γ1 w => (rnSs z ss Γ1).map (Out.add w)
    | o => some o
end
end

/-- a def: parameters, names, body -/
structure Fd where
  np : Nat
  nn : Nat
  body : List CS
def outsOf (w : List Nat) (Γ : Ctx) : Nat → List D → Option (List D)
  | _, [] => some []
  | i, d :: ds => (outsOf w Γ (i + 1) ds).bind fun os => if isSh d then some (d :: os) else match Γ[i]? with
    | some (some (.own d')) => if i ∈ w then none else some (d' :: os)
    | _ => none
def dfuel : Nat := 60
def runF (Φ : Prg) (cl : Cl) (F : Fd) (ds : List D) : Option (D × List D) :=
  if ds.length = F.np ∧ F.np ≤ F.nn then (rnSs Φ cl F.np dfuel F.body (ds.map (fun d => some (.own d)) ++ List.replicate (F.nn - F.np) none)).bind fun o => match o with
    | .nx Γ w => (outsOf w Γ 0 ds).map fun os => (dN, os)
    | .rt d Γ w => (outsOf w Γ 0 ds).map fun os => (d, os)
    | _ => none
  else none
def callN (Φ : Prg) (Tb : Nat → Option Fd) : Nat → Cl
  | 0 => fun _ _ => none
  | n + 1 => fun f ds => (Tb f).bind fun F => runF Φ (callN Φ Tb n) F ds
end VI
/-! VE -/
namespace VI
open PySem L2

theorem pswap {α : Type} (a b c : List α) : (a ++ (b ++ c)).Perm (b ++ (a ++ c)) := by
  have e1 : a ++ (b ++ c) = (a ++ b) ++ c := (List.append_assoc _ _ _).symm
  have e2 : b ++ (a ++ c) = (b ++ a) ++ c := (List.append_assoc _ _ _).symm
  rw [e1, e2]
  exact List.perm_append_comm.append_right _
/-! ## arguments -/
def ArgOk (W : Wo) (B : Hp) (Ts : CtxT) (σ : St) (r : Rd') (v : V) (c : List Cell) : Prop := match r with
  | .vl d => ∃ u, Ok W B u ∧ er u = d ∧ v = val u ∧ c = cells W u
  | .pl j π => c = [] ∧ ∀ d, getE (erC Ts) j π = some d → ∃ t0 u, Ts[j]? = some (some (.own t0)) ∧ t0.at_ π = some u ∧ er u = d ∧ v = val u
inductive ArgsOk (W : Wo) (B : Hp) (Ts : CtxT) (σ : St) : List Rd' → List V → List Cell → Prop
  | nil : ArgsOk W B Ts σ [] [] []
  | cons {r rs v vs c cs} : ArgOk W B Ts σ r v c → ArgsOk W B Ts σ rs vs cs → ArgsOk W B Ts σ (r :: rs) (v :: vs) (c ++ cs)
/-- the arguments: temporaries in c0 -/
def AJ (W : Wo) (t : TA) (Γ : Ctx) (rs : List Rd') (Γ' : Ctx) (q : Bool) : Prop := ∀ (B : Hp) (Ts : CtxT) (F : List Cell) (σ : St) (H : Hp), At W B Ts F σ H → erC Ts = Γ → ∀ Q : List V → Hp → Prop,
  (∀ (B' : Hp) (Ts' : CtxT) (c0 : List Cell) (vs : List V) (H' : Hp), Ext B B' → At W B' Ts' (c0 ++ F) σ H' → erC Ts' = Γ' → (q = true → Ts' = Ts) → ArgsOk W B' Ts' σ rs vs c0 → Q vs H') → t σ H Q
section
variable {W : Wo} {B B' H H' : Hp} {Ts Ts' : CtxT} {F F' : List Cell} {σ : St} {Γ Γ' : Ctx}
theorem getE_of {j : Nat} {π : List Nat} {t0 u : T} (h : Ts[j]? = some (some (.own t0))) (hu : t0.at_ π = some u) : getE (erC Ts) j π = some (er u) := by
  have : (erC Ts)[j]? = some (some (.own (er t0))) := by unfold erC; rw [List.getElem?_map, h]; rfl
  unfold getE
  rw [this]
  show (er t0).at_ π = _
  unfold er
  rw [Tr.at_map, hu]
  rfl
theorem getE_some {j : Nat} {π : List Nat} {d : D} (h : getE (erC Ts) j π = some d) : ∃ t0 u, Ts[j]? = some (some (.own t0)) ∧ t0.at_ π = some u ∧ er u = d := by
  unfold getE at h
  cases e : (erC Ts)[j]? with
  | none => rw [e] at h; cases h
  | some x =>
    rw [e] at h
    cases x with
    | none => cases h
    | some x => cases x with
      | al i ρ => cases h
      | own d0 =>
        obtain ⟨t0, ht, rfl⟩ := erC_get e
        have h : (er t0).at_ π = some d := h
        unfold er at h
        rw [Tr.at_map] at h
        cases hu : t0.at_ π with
        | none => rw [hu] at h; cases h
        | some u => rw [hu] at h; cases h; exact ⟨t0, u, ht, hu, rfl⟩
theorem ArgOk.mono (e : Ext B B') {r : Rd'} {v : V} {c : List Cell} (h : ArgOk W B Ts σ r v c) : ArgOk W B' Ts σ r v c := by
  cases r with
  | vl d => obtain ⟨u, o, h⟩ := h; exact ⟨u, o.mono e, h⟩
  | pl j π => exact h
theorem ArgsOk.mono (e : Ext B B') {rs : List Rd'} {vs : List V} {c : List Cell} (h : ArgsOk W B Ts σ rs vs c) : ArgsOk W B' Ts σ rs vs c := by
  induction h with
  | nil => exact .nil
  | cons a _ ih => exact .cons (a.mono e) ih
theorem ArgsOk.len {rs : List Rd'} {vs : List V} {c : List Cell} (h : ArgsOk W B Ts σ rs vs c) : rs.length = vs.length := by
  induction h with
  | nil => rfl
  | cons _ _ ih => simp [ih]
/-- what they stand for -/
theorem ArgsOk.us : ∀ {rs : List Rd'} {vs : List V} {c : List Cell} {ds : List D}, ArgsOk W B Ts σ rs vs c → resL (erC Ts) rs = some ds → (∀ (i : Nat) t, Ts[i]? = some (some (.own t)) → Ok W B t) →
    ∃ us : List T, us.map er = ds ∧ vs = vals us ∧ (∀ u ∈ us, Ok W B u) ∧ (∀ u ∈ us, ∀ x ∈ cells W u, x ∈ cellsC W Ts ++ c)
  | [], _, _, ds, .nil, h, _ => by cases h; exact ⟨[], rfl, rfl, fun _ h => absurd h (by simp), fun _ h => absurd h (by simp)⟩
  | r :: rs, _, _, ds, .cons (v := v1) (c := c1) (cs := cs) a as, h, ok => by
    rw [resL] at h
    cases e1 : res (erC Ts) r with
    | none => rw [e1] at h; cases h
    | some d =>
      rw [e1] at h
      cases e2 : resL (erC Ts) rs with
      | none => rw [e2] at h; cases h
      | some ds' =>
        rw [e2] at h
        cases h
        obtain ⟨us, h1, h2, h3, h4⟩ := ArgsOk.us as e2 ok
        have step : ∃ u, er u = d ∧ v1 = val u ∧ Ok W B u ∧ ∀ x ∈ cells W u, x ∈ cellsC W Ts ++ c1 := by
          cases r with
          | vl d0 =>
            obtain ⟨u, o, e, ev, ec⟩ := a
            have : d0 = d := Option.some.inj e1
            exact ⟨u, e.trans this, ev, o, fun x hx => List.mem_append_right _ (by rw [ec]; exact hx)⟩
          | pl j π =>
            obtain ⟨ec, a⟩ := a
            obtain ⟨t0, u, ht, hu, e, ev⟩ := a d e1
            exact ⟨u, e, ev, at_ok hu (ok j t0 ht), fun x hx => List.mem_append_left _ (mem_cellsC ht (at_cells hu hx))⟩
        obtain ⟨u, g1, g2, g3, g4⟩ := step
        refine ⟨u :: us, by rw [List.map_cons, g1, h1], by rw [g2, h2]; rfl, fun x hx => ?_, fun x hx y hy => ?_⟩
        · rcases List.mem_cons.mp hx with e | hx
          · rw [e]; exact g3
          · exact h3 x hx
        · rcases List.mem_cons.mp hx with e | hx
          · subst e
            rcases List.mem_append.mp (g4 y hy) with z | z
            · exact List.mem_append_left _ z
            · exact List.mem_append_right _ (List.mem_append_left _ z)
          · rcases List.mem_append.mp (h4 x hx y hy) with z | z
            · exact List.mem_append_left _ z
            · exact List.mem_append_right _ (List.mem_append_right _ z)
end

/-! ## readings of lists -/
section
variable (X : Cx)
def aT : List Expr → TA
  | [] => tNil
  | e :: es => tCons (wE X e) (aT es)
end
def notStar : Expr → Bool
  | .Starred _ _ => false
  | _ => true
theorem starEach_cons {e : Expr} {es : List Expr} {env : Env} (h : notStar e = true) : starEach (e :: es) env = (false, eval e env) :: starEach es env := by
  cases e <;> first | rfl | cases h
theorem pa_aT {X : Cx} : ∀ {es : List Expr}, (∀ e ∈ es, notStar e = true) → PA X es (aT X es)
  | [], _ => pa_nil
  | e :: es, h => pa_cons pe_w (pa_aT fun x hx => h x (List.mem_cons_of_mem _ hx)) (starEach_cons (h e List.mem_cons_self))
theorem noStar_any {env : Env} {pos : Pos} : ∀ {es : List Expr}, (∀ e ∈ es, notStar e = true) → (backTo pos (starEach es env)).any (·.1) = false
  | [], _ => rfl
  | e :: es, h => by
    rw [starEach_cons (h e List.mem_cons_self)]
    show (false || (backTo pos (starEach es env)).any (·.1)) = false
    rw [noStar_any fun x hx => h x (List.mem_cons_of_mem _ hx)]
    rfl

/-! ## operations that read: ON -/
def ON (W : Wo) (r : List V → Hp → VK → Prop) (ds : List D) (d : D) : Prop := ∀ (B H : Hp) (L : List Cell) (us : List T), Good B H L → (∀ u ∈ us, Ok W B u) → (∀ u ∈ us, Rb W H u) → us.map er = ds → ∀ Q : VK,
  (∀ (u : T) (H' : Hp), Good B H' (cells W u ++ L) → Ok W B u → er u = d → Q (val u) H') → r (vals us) H Q
def on2 (r : R2) : List V → Hp → VK → Prop := fun vs H Q => match vs with
  | [x, y] => r x y H Q
  | _ => False
def on1 (r : V → Hp → VK → Prop) : List V → Hp → VK → Prop := fun vs H Q => match vs with
  | [x] => r x H Q
  | _ => False
section
variable {W : Wo} {Γ Γ' : Ctx} {q : Bool} {rs : List Rd'} {ds : List D} {d : D} {ta : TA} {r : List V → Hp → VK → Prop}
/-- temporaries go -/
theorem At.drop2 {B H : Hp} {Ts : CtxT} {F c0 c : List Cell} {σ : St} (a : At W B Ts (c0 ++ F) σ H) {H' : Hp} (g : Good B H' (c ++ (cellsC W Ts ++ (c0 ++ F)))) : At W B Ts (c ++ F) σ H' := by
  refine (a.heap (F' := c0 ++ (c ++ F)) (g.perm ?_)).drop
  exact (pswap c (cellsC W Ts) (c0 ++ F)).trans ((pswap c c0 F).append_left _)
theorem AJ.on (h : AJ W ta Γ rs Γ' q) (hr : resL Γ' rs = some ds) (ho : ON W r ds d) : EJ W (fun σ H Q => ta σ H fun vs H1 => r vs H1 Q) Γ Γ' q d := by
  intro B Ts F σ H a g Q k
  refine h B Ts F σ H a g _ fun B' Ts' c0 vs H' e a' g' q' ar => ?_
  subst g'
  obtain ⟨us, h1, h2, h3, h4⟩ := ar.us hr fun i t ht => (a'.ok i t ht).1
  subst h2
  refine ho B' H' _ us a'.good h3 (fun u hu => a'.rb (h3 u hu) fun x hx => ?_) h1 Q fun u H'' g2 o e2 => ?_
  · rcases List.mem_append.mp (h4 u hu x hx) with z | z
    · exact List.mem_append_left _ z
    · exact List.mem_append_right _ (List.mem_append_left _ z)
  · exact k B' Ts' u H'' e (a'.drop2 g2) rfl o e2 q'
/-- arguments, one after another -/
theorem AJ.nil : AJ W tNil Γ [] Γ true := fun B Ts F σ H a g Q k => k B Ts [] [] H (Ext.refl _) a g (fun _ => rfl) .nil
theorem AJ.consV {te : TE} {Γ1 : Ctx} {q1 : Bool} (h : EJ W te Γ Γ1 q1 d) (hs : AJ W ta Γ1 rs Γ' q) : AJ W (tCons te ta) Γ (.vl d :: rs) Γ' (q1 && q) := by
  intro B Ts F σ H a g Q k
  refine h B Ts F σ H a g _ fun B1 Ts1 u H1 e1 a1 g1 o1 eu q1' => ?_
  refine hs B1 Ts1 (cells W u ++ F) σ H1 a1 g1 _ fun B2 Ts2 c0 vs H2 e2 a2 g2 q2' ar => ?_
  refine k B2 Ts2 (cells W u ++ c0) _ H2 (e1.trans e2) (a2.perm ?_) g2 (fun z => ?_) (.cons ⟨u, o1.mono e2, eu, rfl, rfl⟩ ar)
  · rw [List.append_assoc]; exact pswap _ _ _
  · rw [Bool.and_eq_true] at z
    exact (q2' z.2).trans (q1' z.1)
theorem AJ.consP {te : TE} {j : Nat} {π : List Nat} (h : PJ W te Γ j π d) (hs : AJ W ta Γ rs Γ' q) (hq : (q || decide (π = [])) = true) : AJ W (tCons te ta) Γ (.pl j π :: rs) Γ' q := by
  intro B Ts F σ H a g Q k
  refine h B Ts F σ H a g _ fun B1 H1 t0 u e1 a1 ht hu eu => ?_
  refine hs B1 Ts F σ H1 a1 g _ fun B2 Ts2 c0 vs H2 e2 a2 g2 q2' ar => ?_
  refine k B2 Ts2 ([] ++ c0) _ H2 (e1.trans e2) a2 g2 q2' (.cons ⟨rfl, fun d' hd => ?_⟩ ar)
  obtain ⟨t1, u1, h1, h2, h3⟩ := getE_some hd
  refine ⟨t1, u1, h1, h2, h3, ?_⟩
  rcases Bool.or_eq_true_iff.mp hq with z | z
  · rw [q2' z] at h1
    rw [ht] at h1
    cases h1
    rw [hu] at h2
    cases h2
    rfl
  · have z : π = [] := of_decide_eq_true z
    subst z
    rw [Tr.at_nil] at hu h2
    cases hu
    cases h2
    have x1 := (a1.ok j t0 ht).2
    have x2 := (a2.ok j t1 h1).2
    rw [x1] at x2
    exact Option.some.inj (Option.some.inj x2)
end
/-- reading one thing, whatever it is: the value and its tree -/
theorem BJ.arg {W : Wo} {te : TE} {Γ : Ctx} {r : BR} (h : BJ W te Γ r) : AJ W (tCons te tNil) Γ (match r with | .pl j π _ => [.pl j π] | .vl d _ _ => [.vl d]) (match r with | .pl _ _ _ => Γ | .vl _ Γ' _ => Γ') (match r with | .pl _ _ _ => true | .vl _ _ q => q) := by
  cases r with
  | pl j π d => exact AJ.consP h AJ.nil rfl
  | vl d Γ' q =>
    have := AJ.consV (W := W) h (AJ.nil (Γ := Γ'))
    rw [Bool.and_true] at this
    exact this
/-- a place is frozen -/
theorem put_fz_er (t0 u : T) (π : List Nat) : er (t0.put π (tfz u)) = (er t0).put π (fz (er u)) := by
  unfold er
  rw [Tr.put_map]
  congr 1
  exact er_tfz u
end VI
/-! VF -/
namespace VI
open PySem L2 PyProof.Rows

/-- the static part of the annotated world -/
structure Sg where
  ca : Nat → Addr
  nm : Nat → Str
  inj : ∀ a b, nm a = nm b → a = b
def Sg.wo (S : Sg) (K : PySem.W.Frag) : Wo := ⟨K, S.ca, S.nm, S.inj⟩

/-! ## canonical operations -/
section
variable (X : Cx)
def cO (f : Value → Value → Sem Value) : R2 := fun x y H Q => ∀ (pins : List (Addr × Obj)) (s : Shared) (σ : L2.St) (v u : Value), Inv X pins σ H s → RelV x v → RelV y u → wpAny (model X.prog X.w) X.A (f v u) (EP X pins σ Q) X.xe s
def cU (f : Value → Sem Value) : V → Hp → VK → Prop := fun x H Q => ∀ (pins : List (Addr × Obj)) (s : Shared) (σ : L2.St) (v : Value), Inv X pins σ H s → RelV x v → wpAny (model X.prog X.w) X.A (f v) (EP X pins σ Q) X.xe s
def cC (f : Value) : List V → Hp → VK → Prop := fun xs H Q => ∀ (pins : List (Addr × Obj)) (s : Shared) (σ : L2.St) (us : List Value), Inv X pins σ H s → Vals xs us → wpAny (model X.prog X.w) X.A (call f us) (EP X pins σ Q) X.xe s
end
section
variable {X : Cx} {f : Value → Value → Sem Value} {g : Value} {r : R2} {rc : List V → Hp → VK → Prop}
theorem or_cO : OpR X f (cO X f) := fun pins s σ H x y v u Q I rx ry h => h pins s σ v u I rx ry
theorem ur_cU {f : Value → Sem Value} : UnR X f (cU X f) := fun pins s σ H x v Q I rx h => h pins s σ v I rx
theorem cr_cC : CallR X g (cC X g) := fun pins s σ H xs us Q I rx h => h pins s σ us I rx
theorem cO_of (h : OpR X f r) {x y : V} {H : Hp} {Q : VK} (q : r x y H Q) : cO X f x y H Q := fun pins s σ v u I rx ry => h pins s σ H x y v u Q I rx ry q
theorem cU_of {f : Value → Sem Value} {r : V → Hp → VK → Prop} (h : UnR X f r) {x : V} {H : Hp} {Q : VK} (q : r x H Q) : cU X f x H Q := fun pins s σ v I rx => h pins s σ H x v Q I rx q
theorem cC_of (h : CallR X g rc) {xs : List V} {H : Hp} {Q : VK} (q : rc xs H Q) : cC X g xs H Q := fun pins s σ us I rx => h pins s σ H xs us Q I rx q
end

/-! ## trees by what they stand for -/
section
variable {W : Wo} {B H : Hp}
theorem er_inv {u : T} {g : DT} {k : List D} (h : er u = .nd g k) : ∃ g' ts, u = .nd g' ts ∧ g'.er = g ∧ ts.map er = k := by
  cases u with
  | nd g' ts =>
    rw [er_nd] at h
    injection h with h1 h2
    exact ⟨g', ts, rfl, h1, h2⟩
theorem er_int {u : T} {i : Int} {k : List D} (h : er u = .nd (.int i) k) : val u = .int i := by
  obtain ⟨g, ts, rfl, e, _⟩ := er_inv h
  cases g <;> cases e
  rfl
theorem er_bl {u : T} {i : Bool} {k : List D} (h : er u = .nd (.bl i) k) : val u = .bl i := by
  obtain ⟨g, ts, rfl, e, _⟩ := er_inv h
  cases g <;> cases e
  rfl
theorem er_str {u : T} {i : Str} {k : List D} (h : er u = .nd (.str i) k) : val u = .str i := by
  obtain ⟨g, ts, rfl, e, _⟩ := er_inv h
  cases g <;> cases e
  rfl
theorem er_non {u : T} {k : List D} (h : er u = .nd .non k) : val u = .non := by
  obtain ⟨g, ts, rfl, e, _⟩ := er_inv h
  cases g <;> cases e
  rfl
theorem er_tup {u : T} {k : List D} (h : er u = .nd .tup k) : ∃ a ts, u = .nd (.tup a) ts ∧ ts.map er = k := by
  obtain ⟨g, ts, rfl, e, hk⟩ := er_inv h
  cases g <;> cases e
  exact ⟨_, ts, rfl, hk⟩
theorem er_lst {u : T} {o : Bool} {k : List D} (h : er u = .nd (.lst o) k) : ∃ a ts, u = .nd (.lst a o) ts ∧ ts.map er = k := by
  obtain ⟨g, ts, rfl, e, hk⟩ := er_inv h
  cases g <;> cases e
  exact ⟨_, ts, rfl, hk⟩
theorem er_dct {u : T} {o l : Bool} {ks : List Key} {k : List D} (h : er u = .nd (.dct o l ks) k) : ∃ a lk ts, u = .nd (.dct a o ks lk) ts ∧ lk.isSome = l ∧ ts.map er = k := by
  obtain ⟨g, ts, rfl, e, hk⟩ := er_inv h
  cases g <;> cases e
  exact ⟨_, _, ts, rfl, rfl, hk⟩
theorem er_ins {u : T} {o : Bool} {c : Nat} {ns : List Nat} {k : List D} (h : er u = .nd (.ins o c ns) k) : ∃ a dx ts, u = .nd (.ins a dx o c ns) ts ∧ ts.map er = k := by
  obtain ⟨g, ts, rfl, e, hk⟩ := er_inv h
  cases g <;> cases e
  exact ⟨_, _, ts, rfl, hk⟩
def tI (i : Int) : T := .nd (.int i) []
def tB' (b : Bool) : T := .nd (.bl b) []
def tS (s : Str) : T := .nd (.str s) []
def tN' : T := .nd .non []
theorem ok_int (i : Int) : Ok W B (tI i) := .mk rfl fun _ h => absurd h (by simp)
theorem ok_bl (i : Bool) : Ok W B (tB' i) := .mk rfl fun _ h => absurd h (by simp)
theorem ok_str (i : Str) : Ok W B (tS i) := .mk rfl fun _ h => absurd h (by simp)
theorem ok_non : Ok W B tN' := .mk rfl fun _ h => absurd h (by simp)
theorem c_int (i : Int) : cells W (tI i) = [] := by unfold tI; rw [cells_nd]; rfl
theorem c_bl (i : Bool) : cells W (tB' i) = [] := by unfold tB'; rw [cells_nd]; rfl
theorem c_str (i : Str) : cells W (tS i) = [] := by unfold tS; rw [cells_nd]; rfl
theorem c_non : cells W tN' = [] := by unfold tN'; rw [cells_nd]; rfl
theorem e_int (i : Int) : er (tI i) = dI i := by unfold tI; rw [er_nd]; rfl
theorem e_bl (i : Bool) : er (tB' i) = dB i := by unfold tB'; rw [er_nd]; rfl
theorem e_str (i : Str) : er (tS i) = dS i := by unfold tS; rw [er_nd]; rfl
theorem e_non : er tN' = dN := by unfold tN'; rw [er_nd]; rfl

/-- a list of shared things, newly laid -/
theorem Good.newL {L : List Cell} (g : Good B H L) {p : Addr} (hp : H p = none) {ts : List T} (ok : ∀ t ∈ ts, Ok W B t) (hs : cellsL W ts = []) :
    Good B (upd H p (.lst (vals ts))) (cells W (.nd (.lst p true) ts) ++ L) ∧ Ok W B (.nd (.lst p true) ts) := by
  refine ⟨?_, .mk True.intro ok⟩
  rw [cells_nd, hs, List.append_nil]
  exact g.new hp
theorem shL {ts : List T} (ok : ∀ t ∈ ts, Ok W B t) (h : allSh (ts.map er) = true) : cellsL W ts = [] := (cellsL_nil_iff W).mpr fun t ht => (ok t ht).shc (by
  unfold allSh at h
  rw [List.all_eq_true] at h
  exact h _ (List.mem_map.mpr ⟨t, ht, rfl⟩))
end

theorem map_one {us : List T} {x : D} (h : us.map er = [x]) : ∃ u, us = [u] ∧ er u = x := by
  match us, h with
  | [], h => cases h
  | [u], h => injection h with h _; exact ⟨u, rfl, h⟩
  | _ :: _ :: _, h => cases h
theorem map_two {us : List T} {x y : D} (h : us.map er = [x, y]) : ∃ u v, us = [u, v] ∧ er u = x ∧ er v = y := by
  match us, h with
  | [], h => cases h
  | [_], h => cases h
  | [u, v], h => injection h with h1 h; injection h with h2 _; exact ⟨u, v, rfl, h1, h2⟩
  | _ :: _ :: _ :: _, h => cases h
/-! ## arithmetic, comparisons -/
section
variable {S : Sg} {X : Cx} {ds : List D} {d : D}
/-- two ints to an atom -/
theorem on_ii {r : R2} {a b : Int} {k1 k2 : List D} {t : T} (hc : cells (S.wo X.K) t = []) (ho : ∀ B, Ok (S.wo X.K) B t) (he : er t = d) (h : ∀ H (Q : VK), Q (val t) H → r (.int a) (.int b) H Q) : ON (S.wo X.K) (on2 r) [.nd (.int a) k1, .nd (.int b) k2] d := by
  intro B H L us g ok rb e Q k
  obtain ⟨u1, u2, rfl, e1, e2⟩ := map_two e
  show r (val u1) (val u2) H Q
  rw [er_int e1, er_int e2]
  exact h H Q (k t H (by rw [hc]; exact g) (ho B) he)
theorem Inv.lst_any {pins : List (Addr × Obj)} {σ : L2.St} {H : Hp} {s : Shared} {a : Addr} {xs : List V} (I : Inv X pins σ H s) (h : SqL X.K H a xs) : ∃ its : List Value, Vals xs its ∧ s.heap.IsList a its.toArray ∧ xs.length ≤ sizeLine :=
  let ⟨its, r, p, z⟩ := I.list h
  ⟨its, r, p.isList, z⟩
/-- list + list, wherever they stand -/
def rCatS (K : PySem.W.Frag) : R2 := fun x y H Q => ∃ l b xs zs, x = .ref l ∧ y = .ref b ∧ SqL K H l xs ∧ SqL K H b zs ∧ xs.length + zs.length ≤ sizeLine ∧ ∀ p, H p = none → Q (.ref p) (upd H p (.lst (xs ++ zs)))
theorem op_catS : OpR X (binaryOp .Add) (rCatS X.K) := by
  intro pins s σ H x y v u Q I rx ry h
  obtain ⟨l, b, xs, zs, rfl, rfl, hH, hB, hz, q⟩ := h
  cases rx
  cases ry
  obtain ⟨its, r, hl, z1⟩ := Inv.lst_any I hH
  obtain ⟨its2, r2, hb, z2⟩ := Inv.lst_any I hB
  have l1 := r.length
  have l2 := r2.length
  obtain ⟨⟨cls, dd, data, sl⟩, ho, hc, n, hd⟩ := id hl
  obtain ⟨⟨cls2, dd2, data2, sl2⟩, ho2, hc2, n2, hd2⟩ := id hb
  simp only at hc hd hc2 hd2
  subst hc hd hc2 hd2
  have e : its.toArray ++ its2.toArray = (its ++ its2).toArray := by simp
  refine PySem.concat_meets ⟨_, ho, rfl⟩ ⟨_, ho2, rfl⟩ PySem.noFill_list_add PySem.seq_list_add PySem.F.slot_list_add PySem.F.entry_list_add (PySem.F.args_list_add_2 _ _) (PyProof.Rows.list_addW l b its.toArray its2.toArray n n2 dd dd2 sl sl2 (by simp; omega)) ⟨ho, ho2, ?_⟩
  rw [e]
  exact ⟨.ref _, _, I.lnew (t' := s.toks) (r.append r2) (by rw [List.length_append]; omega), rfl, q _ I.fresh⟩

theorem op_powB : OpR X (binaryOp .Pow) (rI (fun i j => 0 ≤ j ∧ (Builtin.Int.intBits i : Int) * j ≤ 2 ^ 27) fun i j => .int (i ^ j.toNat)) := opI fun _ _ _ _ _ _ _ hc q => PyProof.Rows.pow_int hc.1 hc.2 q
theorem rmul_listW (a : Int) (t : Tok) (l : Addr) (items : Array Value) (n : Nat) (dd : Option Addr) (sl : Array (Option Value)) :
    Meets (Builtin.«int.__rmul__» ⟨[.int a t, .ref l], []⟩) (fun _ R s => s.heap.get? l = some { cls := .type "list", dict := dd, data := .seq items n, slots := sl } ∧ R (.ok (.ret Value.notImplemented)) s) :=
  .of_wp fun prog w A R s h => by
    obtain ⟨hp, g, d, tk, os⟩ := s
    obtain ⟨hl, h⟩ := h
    wp_walk
    exact ⟨_, rfl, h⟩
theorem mul_listW (l : Addr) (items : Array Value) (n : Nat) (dd : Option Addr) (sl : Array (Option Value)) (x : Int) (u : Tok) (hc0 : ¬(!Builtin.List.listFitsIndex x) = true) (hc1 : ¬items.size * x.toNat > (2 ^ 63 - 1) / 8) (hc2 : ¬Builtin.List.listTooLong (items.size * x.toNat) = true) (hsz : items.size * x.toNat ≤ sizeLine) :
    Meets (Builtin.«list.__mul__» ⟨[.ref l, .int x u], []⟩) (fun _ R s => s.heap.get? l = some { cls := .type "list", dict := dd, data := .seq items n, slots := sl } ∧ R (.ok (.ret (Value.ref s.heap.objs.size))) { s with heap := s.heap.push { cls := Value.type "list", data := Data.seq (List.foldl (fun x1 x2 => x1 ++ x2) #[] (List.replicate (if items.isEmpty = true then 0 else x.toNat) items)) }, toks := s.toks }) :=
  .of_wp fun prog w A R s h => by
    obtain ⟨hp, g, d, tk, os⟩ := s
    obtain ⟨hl, h⟩ := h
    have hsz := PySem.AutoListH.joined_fits hc2
    wp_walk; refine wpAny_ite_false (decide_eq_false (Nat.not_lt.mpr hsz)) ?_; wp_walk; exact ⟨_, rfl, h⟩
/-- a list over and over -/
def rRepS (K : PySem.W.Frag) : R2 := fun x y H Q => ∃ l k xs, x = .ref l ∧ y = .int k ∧ SqL K H l xs ∧ -(2 ^ 63) ≤ k ∧ k < 2 ^ 63 ∧ xs.length * k.toNat ≤ sizeLine ∧ ∀ p, H p = none → Q (.ref p) (upd H p (.lst (List.replicate k.toNat xs).flatten))
theorem op_repS : OpR X (binaryOp .Mult) (rRepS X.K) := by
  intro pins s σ H x y v u Q I rx ry h
  obtain ⟨l, k, xs, rfl, rfl, hH, h1, h2, hz, q⟩ := h
  cases rx
  obtain ⟨t, rfl⟩ := ry
  obtain ⟨its, r, hl, _⟩ := Inv.lst_any I hH
  obtain ⟨⟨cls, dd, data, sl⟩, ho, hc, n, hd⟩ := id hl
  simp only at hc hd
  subst hc hd
  have l1 := r.length
  have hlen : its.toArray.size * k.toNat ≤ sizeLine := by rw [List.size_toArray, ← l1]; exact hz
  have hcap : ¬ its.toArray.size * k.toNat > (2 ^ 63 - 1) / 8 := by
    have : (sizeLine : Nat) ≤ (2 ^ 63 - 1) / 8 := by decide
    omega
  have hfit : ¬ (!Builtin.List.listFitsIndex k) = true := by
    rw [fitsIndex_both h1 h2]
    exact Bool.false_ne_true
  have hlong : ¬ Builtin.List.listTooLong (its.toArray.size * k.toNat) = true := by
    rw [notLongL hlen]
    exact Bool.false_ne_true
  have hnew : List.foldl (fun x1 x2 => x1 ++ x2) #[] (List.replicate (if its.toArray.isEmpty = true then 0 else k.toNat) its.toArray) = (List.replicate k.toNat its).flatten.toArray := by
    have f0 : ∀ m : Nat, List.foldl (fun x1 x2 => x1 ++ x2) #[] (List.replicate m its.toArray) = (List.replicate m its).flatten.toArray := fun m => by
      have := foldl_rep its m []
      rw [List.nil_append] at this
      exact this
    rw [f0]
    cases its with
    | nil => simp
    | cons a r' => rw [if_neg (by simp)]
  refine wpAny_binaryOp_repeat_ref (T := "list") (U := "int") (by decide) ⟨_, ho, rfl⟩ (fun s' => typeIs_int s' k t) noFill_list_mul F.fills_int_mul F.slot_int_rmul repeat_list F.slot_int_index.lookup
    (call_meets F.slot_int_rmul (typeIs_int s k t) F.entry_int_rmul (F.args_int_rmul_2 _ _) (rmul_listW k t l its.toArray n dd sl)
      ⟨ho, rfl, ⟨_, ho, rfl⟩, call_meets F.slot_list_mul ⟨_, ho, rfl⟩ F.entry_list_mul (F.args_list_mul_2 _ _) (mul_listW l its.toArray n dd sl k t hfit hcap hlong hlen) ⟨ho, ?_⟩⟩)
  rw [hnew]
  exact ⟨.ref _, _, I.lnew (t' := s.toks) (r.rep k.toNat) (by rw [PyProof.Rows.lm_len_rep_flat, Nat.mul_comm]; exact hz), rfl, q _ I.fresh⟩
theorem rep_mem {α : Type} {x : α} {xs : List α} : ∀ {n : Nat}, x ∈ (List.replicate n xs).flatten → x ∈ xs := by
  intro n h
  obtain ⟨l, h1, h2⟩ := List.mem_flatten.mp h
  rw [(List.mem_replicate.mp h1).2] at h2
  exact h2
theorem rep_map {α β : Type} (g : α → β) (xs : List α) (n : Nat) : (List.replicate n xs).flatten.map g = (List.replicate n (xs.map g)).flatten := by
  rw [List.map_flatten, List.map_replicate]
theorem small_iff {i : Int} (h : small64 i = true) : -(2 ^ 64) < i ∧ i < 2 ^ 64 := by
  unfold small64 at h
  rw [Bool.and_eq_true, decide_eq_true_eq, decide_eq_true_eq] at h
  exact h
theorem natAbs_small {i : Int} (h : -(2 ^ 64) < i ∧ i < 2 ^ 64) : i.natAbs < 2 ^ 64 := by omega
theorem lim_eq : lim = sizeLine := by rw [sizeLine_eq, lim_val]

theorem bin_on {o : Operator} {x y : D} (h : binD o x y = some d) : ON (S.wo X.K) (on2 (cO X (binaryOp o))) [x, y] d := by
  unfold binD at h
  split at h
  · cases h; exact on_ii (t := tI _) (c_int _) (fun _ => ok_int _) (e_int _) fun H Q q => cO_of op_add ⟨_, _, rfl, rfl, q⟩
  · cases h; exact on_ii (t := tI _) (c_int _) (fun _ => ok_int _) (e_int _) fun H Q q => cO_of op_sub ⟨_, _, rfl, rfl, q⟩
  · split at h
    · rename_i hs
      cases h
      refine on_ii (t := tI _) (c_int _) (fun _ => ok_int _) (e_int _) fun H Q q => cO_of op_mul ⟨_, _, rfl, rfl, ?_, q⟩
      rcases Bool.or_eq_true_iff.mp hs with z | z
      · exact .inl (small_iff z)
      · exact .inr (small_iff z)
    · cases h
  · split at h
    · rename_i hs
      cases h
      exact on_ii (t := tI _) (c_int _) (fun _ => ok_int _) (e_int _) fun H Q q => cO_of op_fdivN ⟨_, _, rfl, rfl, hs, q⟩
    · cases h
  · split at h
    · rename_i hs
      cases h
      exact on_ii (t := tI _) (c_int _) (fun _ => ok_int _) (e_int _) fun H Q q => cO_of op_modN ⟨_, _, rfl, rfl, hs, q⟩
    · cases h
  · split at h
    · rename_i hs
      cases h
      exact on_ii (t := tI _) (c_int _) (fun _ => ok_int _) (e_int _) fun H Q q => cO_of op_powB ⟨_, _, rfl, rfl, hs, q⟩
    · cases h
  · split at h
    · rename_i xs _ ys hs
      cases h
      rw [Bool.and_eq_true, Bool.and_eq_true, decide_eq_true_eq] at hs
      obtain ⟨⟨s1, s2⟩, s3⟩ := hs
      intro B H L us g ok rb e Q k
      obtain ⟨u1, u2, rfl, e1, e2⟩ := map_two e
      obtain ⟨a, ts, rfl, h1⟩ := er_lst e1
      obtain ⟨b, ts2, rfl, h2⟩ := er_lst e2
      have okA : ∀ t ∈ ts ++ ts2, Ok (S.wo X.K) B t := fun t ht => (List.mem_append.mp ht).elim (fun z => (ok _ List.mem_cons_self).kids t z) fun z => (ok _ (List.mem_cons_of_mem _ List.mem_cons_self)).kids t z
      have hsh : cellsL (S.wo X.K) (ts ++ ts2) = [] := by
        rw [cellsL_append, shL (fun t ht => okA t (List.mem_append_left _ ht)) (by rw [h1]; exact s1), shL (fun t ht => okA t (List.mem_append_right _ ht)) (by rw [h2]; exact s2)]
        rfl
      have l1 : xs.length = ts.length := by rw [← h1, List.length_map]
      have l2 : ys.length = ts2.length := by rw [← h2, List.length_map]
      refine cO_of op_catS ⟨a, b, vals ts, vals ts2, rfl, rfl, (rb _ List.mem_cons_self).tag, (rb _ (List.mem_cons_of_mem _ List.mem_cons_self)).tag, by unfold vals; rw [List.length_map, List.length_map, ← lim_eq]; omega, fun p hp => ?_⟩
      have ev : vals ts ++ vals ts2 = vals (ts ++ ts2) := by unfold vals; rw [List.map_append]
      rw [ev]
      obtain ⟨g', o'⟩ := g.newL hp okA hsh
      exact k (.nd (.lst p true) (ts ++ ts2)) _ g' o' (by rw [er_nd, List.map_append, h1, h2]; rfl)
    · cases h
  · split at h
    · rename_i xs kk _ hs
      cases h
      obtain ⟨s1, s2, s3, s4⟩ := hs
      intro B H L us g ok rb e Q k
      obtain ⟨u1, u2, rfl, e1, e2⟩ := map_two e
      obtain ⟨a, ts, rfl, h1⟩ := er_lst e1
      have okA : ∀ t ∈ (List.replicate kk.toNat ts).flatten, Ok (S.wo X.K) B t := fun t ht => (ok _ List.mem_cons_self).kids t (rep_mem ht)
      have l1 : xs.length = ts.length := by rw [← h1, List.length_map]
      have hsh : cellsL (S.wo X.K) (List.replicate kk.toNat ts).flatten = [] := shL okA (by
        rw [rep_map, h1]
        unfold allSh at s1 ⊢
        rw [List.all_eq_true] at s1 ⊢
        exact fun z hz => s1 z (rep_mem hz))
      refine cO_of op_repS ⟨a, kk, vals ts, rfl, er_int e2, (rb _ List.mem_cons_self).tag, s2, s3, by unfold vals; rw [List.length_map, ← lim_eq, ← l1]; exact s4, fun p hp => ?_⟩
      have ev : (List.replicate kk.toNat (vals ts)).flatten = vals (List.replicate kk.toNat ts).flatten := by unfold vals; rw [rep_map]
      rw [ev]
      obtain ⟨g', o'⟩ := g.newL hp okA hsh
      exact k (.nd (.lst p true) (List.replicate kk.toNat ts).flatten) _ g' o' (by rw [er_nd, rep_map, h1]; rfl)
    · cases h
  · cases h

theorem on_xy {r : R2} {x y : D} {t : T} (hc : cells (S.wo X.K) t = []) (ho : ∀ B, Ok (S.wo X.K) B t) (he : er t = d)
    (h : ∀ (H : Hp) (u1 u2 : T) (Q : VK), Rb (S.wo X.K) H u1 → Rb (S.wo X.K) H u2 → er u1 = x → er u2 = y → Q (val t) H → r (val u1) (val u2) H Q) : ON (S.wo X.K) (on2 r) [x, y] d := by
  intro B H L us g ok rb e Q k
  obtain ⟨u1, u2, rfl, e1, e2⟩ := map_two e
  exact h H u1 u2 Q (rb _ List.mem_cons_self) (rb _ (List.mem_cons_of_mem _ List.mem_cons_self)) e1 e2 (k t H (by rw [hc]; exact g) (ho B) he)
theorem isNon_iff (u : T) : isNon (er u) = decide (val u = .non) := by
  cases u with
  | nd g ts =>
    rw [er_nd]
    cases g <;> rfl
theorem cmp_on (hu : X.A.units + 64 < cLine) {o : CmpOp} {x y : D} (h : cmpD o x y = some d) : ON (S.wo X.K) (on2 (cO X (compareOp o))) [x, y] d := by
  unfold cmpD at h
  split at h
  · cases h; exact on_ii (t := tB' _) (c_bl _) (fun _ => ok_bl _) (e_bl _) fun H Q q => cO_of op_lt ⟨_, _, rfl, rfl, q⟩
  · cases h; exact on_ii (t := tB' _) (c_bl _) (fun _ => ok_bl _) (e_bl _) fun H Q q => cO_of op_le ⟨_, _, rfl, rfl, q⟩
  · cases h; exact on_ii (t := tB' _) (c_bl _) (fun _ => ok_bl _) (e_bl _) fun H Q q => cO_of op_gt ⟨_, _, rfl, rfl, q⟩
  · cases h; exact on_ii (t := tB' _) (c_bl _) (fun _ => ok_bl _) (e_bl _) fun H Q q => cO_of op_ge ⟨_, _, rfl, rfl, q⟩
  · cases h
    refine on_xy (t := tB' _) (c_bl _) (fun _ => ok_bl _) (e_bl _) fun H u1 u2 Q r1 r2 e1 e2 q => cO_of op_isN ⟨er_non e2, ?_⟩
    rw [← isNon_iff, e1]
    exact q
  · cases h
    refine on_xy (t := tB' _) (c_bl _) (fun _ => ok_bl _) (e_bl _) fun H u1 u2 Q r1 r2 e1 e2 q => cO_of op_notN ⟨er_non e2, ?_⟩
    rw [← isNon_iff, e1]
    exact q
  · cases hp : toP x with
    | none => rw [hp] at h; cases h
    | some p =>
      rw [hp] at h
      cases hq : toP y with
      | none => rw [hq] at h; cases h
      | some p' =>
        rw [hq] at h
        have h : (if (SeqAt.shaped p && SeqAt.shaped p') = true then some (dB (PyData.eqv p p')) else none) = some d := h
        split at h
        · rename_i hs
          cases h
          rw [Bool.and_eq_true] at hs
          exact on_xy (t := tB' _) (c_bl _) (fun _ => ok_bl _) (e_bl _) fun H u1 u2 Q r1 r2 e1 e2 q => cO_of (op_eqD hu) ⟨p, p', r1.dp _ p (by rw [e1]; exact hp), r2.dp _ p' (by rw [e2]; exact hq), hs.1, hs.2, q⟩
        · cases h
  · cases hp : toP x with
    | none => rw [hp] at h; cases h
    | some p =>
      rw [hp] at h
      cases hq : toP y with
      | none => rw [hq] at h; cases h
      | some p' =>
        rw [hq] at h
        have h : (if (SeqAt.shaped p && SeqAt.shaped p') = true then some (dB (!PyData.eqv p p')) else none) = some d := h
        split at h
        · rename_i hs
          cases h
          rw [Bool.and_eq_true] at hs
          exact on_xy (t := tB' _) (c_bl _) (fun _ => ok_bl _) (e_bl _) fun H u1 u2 Q r1 r2 e1 e2 q => cO_of (op_neD hu) ⟨p, p', r1.dp _ p (by rw [e1]; exact hp), r2.dp _ p' (by rw [e2]; exact hq), hs.1, hs.2, q⟩
        · cases h
  · cases h
end
end VI
/-! VG -/
namespace VI
open PySem L2

/-! ## defs that raise nothing, called where no repr runs -/
abbrev Spg := List V → Hp → VK → Prop
def GoodEnd (outer : List Env) (P : Program) (w : World) (H : Hp) (s : Shared) (Q : VK) (r : Result) (s' : Shared) : Prop :=
  ∃ u, r = .ok (.ret u) ∧ CE outer P w H s Q u s'
structure FnG (P : Program) (w : World) (K : PySem.W.Frag) (mg : Str → Option Value) (base : Heap) (k : Nat) (f : Addr) (fd : FuncData) (ps : List Str) (sp : Spg) : Prop where
  go : ∀ (A : Around) (l : List Env) (s : Shared) (H : Hp) (args : Args) (us : List Value) (vs : List V) (Q : VK), Room k A → A.guards = some [] → Env0 P w K mg base A l s H →
    BindsTo s fd args (ps.zip us) → Vals vs us → vs.length = ps.length → sp vs H Q → codeAny (model P w) A (.call (.ref f) args) (GoodEnd l P w H s Q) s
theorem FnG.up {P : Program} {w : World} {K : PySem.W.Frag} {mg : Str → Option Value} {base : Heap} {j k : Nat} {f : Addr} {fd : FuncData} {ps : List Str} {sp : Spg} (F : FnG P w K mg base j f fd ps sp) (h : j ≤ k) : FnG P w K mg base k f fd ps sp :=
  ⟨fun A l s H args us vs Q hr => F.go A l s H args us vs Q (hr.mono h)⟩

/-- how arguments come to the parameters -/
def BindsG (K : PySem.W.Frag) (fd : FuncData) (ps : List Str) : Prop := ∀ (s : Shared) (us : List Value), K.In s.heap → us.length = ps.length → BindsTo s fd ⟨us, []⟩ (ps.zip us)
section
variable {X : Cx} {k : Nat} {f C : Addr} {fd : FuncData} {ps : List Str} {sp : Spg} {x m : Str} {p pos apos : Pos} {o e : Expr} {es : List Expr}

theorem go_fn {pins : List (Addr × Obj)} {σ : L2.St} {H : Hp} {s : Shared} {Q : VK} {us : List Value} {vs : List V} {args : Args} (F : FnG X.prog X.w X.K X.mg X.base k f fd ps sp) (hr : Room k X.A) (hg : X.A.guards = some [])
    (I : Inv X pins σ H s) (hb : BindsTo s fd args (ps.zip us)) (r : Vals vs us) (hl : vs.length = ps.length) (h : sp vs H Q) :
    codeAny (model X.prog X.w) X.A (.call (.ref f) args) (fun r s' => ∃ u, r = .ok (.ret u) ∧ EP X pins σ Q u s') s :=
  codeAny_mono (F.go X.A X.stack s H args us vs Q hr hg I.env0 hb r hl h) fun r s' ⟨u, e, q⟩ => ⟨u, e, I.after q⟩
/-- a call by positions -/
theorem run_g {pins : List (Addr × Obj)} {σ : L2.St} {H : Hp} {s : Shared} {Q : VK} {us : List Value} {vs : List V} (F : FnG X.prog X.w X.K X.mg X.base k f fd ps sp) (hr : Room k X.A) (hg : X.A.guards = some []) (hb : BindsG X.K fd ps)
    (I : Inv X pins σ H s) (r : Vals vs us) (hl : vs.length = ps.length) (h : sp vs H Q) : wpAny (model X.prog X.w) X.A (call (.ref f) us) (EP X pins σ Q) X.xe s := by
  refine wpAny_call (codeAny_mono (go_fn F hr hg I (hb s us I.kIn (by rw [← r.length]; exact hl)) r hl h) fun r s' hq => ?_)
  obtain ⟨u, rfl, q⟩ := hq
  exact q

theorem nil_or {es : List Expr} : es = [] ∨ ∃ e r, es = e :: r := by cases es with
  | nil => exact .inl rfl
  | cons e r => exact .inr ⟨e, r, rfl⟩
/-- f(..) -/
theorem pe_g (F : FnG X.prog X.w X.K X.mg X.base k f fd ps sp) (hr : Room k X.A) (hg : X.A.guards = some []) (hb : BindsG X.K fd ps) (gl : Gl X x) (hm : X.mg x = some (.ref f)) (hk : PySem.W.keepIn X.K (.ref f) = true)
    (ns : ∀ e ∈ es, notStar e = true) (hdb : (x == ("__debug__" : Str)) = false) : PE X (.Call (.Name x p) es [] pos) (fun σ H Q => aT X es σ H fun vs H1 => vs.length = ps.length ∧ sp vs H1 Q) := by
  refine ⟨fun pins s σ H Q I h => wpAny_Call_Name_kw (ld_glob I gl hm ?_ hdb)⟩
  rcases nil_or (es := es) with rfl | ⟨e, r, rfl⟩
  · exact PySem.W.callWith_K0 I.kIn hk (run_g (us := []) F hr hg hb I .nil h.1 h.2)
  · exact PySem.W.callWith_K (h₀ := X.base) I.ok.mod.kin hk (thn ((pa_aT ns).run pos pins s σ H _ I h) fun us s1 ⟨vs, H1, I1, rv, q⟩ => ⟨I1.kIn, run_g F hr hg hb I1 rv q.1 q.2⟩)
      (starEach_cons (ns _ List.mem_cons_self)) (noStar_any fun z hz => ns z (List.mem_cons_of_mem _ hz))

/-- what stands ahead of a dot and is no super() -/
def plainBase : Expr → Bool
  | .Call (.Name _ _) [] [] _ => false
  | _ => true
theorem base_eq (h : plainBase o = true) (a : Str) (env : Env) (w : Sem Value) : attributeBase o a env w = w := by
  cases o with
  | Call g as kws pos =>
    cases g with
    | Name id pn =>
      cases as with
      | nil => cases kws with
        | nil => cases h
        | cons _ _ => rfl
      | cons _ _ => rfl
    | _ => rfl
  | _ => rfl

theorem noStar_all {env : Env} {pos : Pos} : ∀ {es : List Expr}, (∀ e ∈ es, notStar e = true) → (backTo pos (starEach es env)).all (fun z => !z.1) = true
  | [], _ => rfl
  | e :: es, h => by
    rw [starEach_cons (h e List.mem_cons_self)]
    show (!false && (backTo pos (starEach es env)).all (fun z => !z.1)) = true
    rw [noStar_all fun z hz => h z (List.mem_cons_of_mem _ hz)]
    rfl
def plOf (o : Expr) (env : Env) : Sem Bool := do return (← importBound o env).getD true
theorem meth_eq {env : Env} (hp : plainBase o = true) (ns : ∀ e ∈ es, notStar e = true) (hf : es.length < 30) (hl : (apos.endLine == pos.line) = true) :
    eval (.Call (.Attribute o m apos) es [] pos) env = (do
      let ov ← eval o env
      standAt apos.atName
      let (g, first) ← holding [ov] (getMethod ov m (plOf o env))
      callWith pos g first (backTo pos (starEach es env)) (backToKw pos (keywordEach [] env))) := by
  have few : methodCallForm (es.length + ([] : List Keyword).length) (backTo pos (starEach es env)) (backToKw pos (keywordEach [] env)) = true := by
    unfold methodCallForm
    rw [noStar_all ns]
    show (true && true && decide (es.length + 0 + 0 < 30)) = true
    rw [decide_eq_true (show es.length + 0 + 0 < 30 from hf)]
    rfl
  have hpos : methodCallPos true o env apos pos = pure pos := by
    unfold methodCallPos
    rw [hl]
    rfl
  rw [arm_eval_Call, base_eq hp]
  unfold methodCall
  rw [few, hpos]
  rfl
theorem pe_mg (F : FnG X.prog X.w X.K X.mg X.base k f fd ps sp) (hr : Room k X.A) (hg : X.A.guards = some []) (hb : BindsG X.K fd ps) (c : Cls X.K C) (hm : Meth X.K C m f) (ns : ∀ e ∈ es, notStar e = true) (hp : plainBase o = true)
    (hf : es.length < 30) (hline : (apos.endLine == pos.line) = true) : PE X (.Call (.Attribute o m apos) es [] pos) (fun σ H Q => wE X o σ H fun x H1 => ∃ a dx fs, x = .ref a ∧ H1 a = some (.ins C dx fs) ∧ fs.lookup m = none ∧ aT X es σ H1 fun vs H2 => (x :: vs).length = ps.length ∧ sp (x :: vs) H2 Q) := by
  refine ⟨fun pins s σ H Q I h => ?_⟩
  refine PySem.W.methodCall_KW (pl := plOf o X.env) (thn (pe_w.run pins s σ H _ I h) fun u s1 ⟨v, H1, I1, rx, a, dx, fs, ex, ea, l, q⟩ => ?_) (meth_eq hp ns hf hline)
  subst ex
  cases (show u = Value.ref a from rx)
  refine getmeth_ok I1 ea c hm l ?_
  rcases nil_or (es := es) with rfl | ⟨e, r, rfl⟩
  · exact PySem.W.callWith_K0 (first := [.ref a]) I1.kIn hm.kp (run_g (us := [.ref a]) (vs := [.ref a]) F hr hg hb I1 (.cons rfl .nil) q.1 q.2)
  · exact PySem.W.callWith_K (first := [.ref a]) (h₀ := X.base) I.ok.mod.kin hm.kp (thn ((pa_aT ns).run pos pins s1 σ H1 _ I1 q) fun us s2 ⟨vs, H2, I2, rv, q2⟩ =>
      ⟨I2.kIn, run_g (us := .ref a :: us) (vs := .ref a :: vs) F hr hg hb I2 (.cons rfl rv) q2.1 q2.2⟩) (starEach_cons (ns _ List.mem_cons_self)) (noStar_any fun z hz => ns z (List.mem_cons_of_mem _ hz))

/-- C(..) -/
theorem pe_kg (M : Mk X.K C f) (F : FnG X.prog X.w X.K X.mg X.base k f fd ps sp) (hr : Room (k + 1) X.A) (hg : X.A.guards = some []) (hb : BindsG X.K fd ps) (gl : Gl X x) (hm : X.mg x = some (.ref C))
    (ns : ∀ e ∈ es, notStar e = true) (hdb : (x == ("__debug__" : Str)) = false) :
    PE X (.Call (.Name x p) es [] pos) (fun σ H Q => aT X es σ H fun vs H1 => ∀ a dx, H1 a = none → H1 dx = none → dx ≠ a → (V.ref a :: vs).length = ps.length ∧
      sp (.ref a :: vs) (upd (upd H1 dx (.own a)) a (.ins C dx [])) (fun v H2 => v = .non ∧ Q (.ref a) H2)) := by
  refine ⟨fun pins s σ H Q I h => wpAny_Call_Name_kw (ld_glob I gl hm ?_ hdb)⟩
  have core : ∀ (us : List Value) (vs : List V) (s1 : Shared) (H1 : Hp), Inv X pins σ H1 s1 → Vals vs us →
      (∀ a dx, H1 a = none → H1 dx = none → dx ≠ a → (V.ref a :: vs).length = ps.length ∧ sp (.ref a :: vs) (upd (upd H1 dx (.own a)) a (.ins C dx [])) (fun v H2 => v = .non ∧ Q (.ref a) H2)) →
      wpAny (model X.prog X.w) X.A (call (.ref C) us) (EP X pins σ Q) X.xe s1 := by
    intro us vs s1 H1 I1 rv hq
    obtain ⟨hl, hq⟩ := hq (s1.heap.objs.size + 1) s1.heap.objs.size (I1.hok.fresh (Nat.le_succ _)) (I1.hok.fresh (Nat.le_refl _)) (Nat.ne_of_lt (Nat.lt_succ_self _))
    have I2 := Inv.made (C := C) I1
    have rv2 : Vals (V.ref (s1.heap.objs.size + 1) :: vs) (Value.ref (s1.heap.objs.size + 1) :: us) := .cons rfl rv
    have hz : (Value.ref (s1.heap.objs.size + 1) :: us).length = ps.length := by rw [← rv2.length]; exact hl
    refine wpAny_call (make_map (f := f) I1.kIn M.makes M.init (beq_iff_eq.mp M.fn) (codeAny_mono
      (F.go (X.A.under (.builtin "type.__call__" ⟨.ref C :: us, []⟩)) X.stack _ _ ⟨Value.ref (s1.heap.objs.size + 1) :: us, []⟩ _ _ (fun v H2 => v = .non ∧ Q (.ref (s1.heap.objs.size + 1)) H2)
        (hr.make C us []) (by rw [show (X.A.under (.builtin "type.__call__" ⟨.ref C :: us, []⟩)).guards = X.A.guards from rfl]; exact hg) (I2.env0.make C us []) (hb _ _ I2.kIn hz) rv2 hl hq) fun r s' hq' => ?_))
    obtain ⟨u, rfl, q⟩ := hq'
    obtain ⟨v, H', I3, rw', ev, q3⟩ := I2.after q
    subst ev
    exact ⟨rw', ⟨.ref (s1.heap.objs.size + 1), H', I3, rfl, q3⟩⟩
  rcases nil_or (es := es) with rfl | ⟨e, r, rfl⟩
  · exact PySem.W.callWith_K0 I.kIn M.kp (core [] [] s H I .nil h)
  · exact PySem.W.callWith_K (h₀ := X.base) I.ok.mod.kin M.kp (thn ((pa_aT ns).run pos pins s σ H _ I h) fun us s1 ⟨vs, H1, I1, rv, q⟩ => ⟨I1.kIn, core us vs s1 H1 I1 rv q⟩)
      (starEach_cons (ns _ List.mem_cons_self)) (noStar_any fun z hz => ns z (List.mem_cons_of_mem _ hz))

/-- e.f, a property -/
theorem pe_pg {q : Addr} (c : Cls X.K C) (hp : PropOf X.K C m q f) (F : FnG X.prog X.w X.K X.mg X.base k f fd ps sp) (hr : Room (k + 1) X.A) (hg : X.A.guards = some []) (hb : BindsG X.K fd ps) (hpl : plainBase o = true) :
    PE X (.Attribute o m pos) (fun σ H Q => wE X o σ H fun x H1 => ∃ a dx fs, x = .ref a ∧ H1 a = some (.ins C dx fs) ∧ ps.length = 1 ∧ sp [x] H1 Q) := by
  refine ⟨fun pins s σ H Q I h => ?_⟩
  refine attr_of (base_eq hpl _ _ _) (thn (pe_w.run pins s σ H _ I h) fun u s1 ⟨x, H1, I1, rx, a, dx, fs, ex, ea, hl, qq⟩ => ?_)
  subst ex
  cases (show u = Value.ref a from rx)
  obtain ⟨mA, O, _, _, _, _⟩ := ins_get I1.hok ea
  obtain ⟨od, J, _⟩ := O.look
  obtain ⟨rest, hrec⟩ := hp.rec_
  have I2 := I1.tok (s1.toks + 1)
  have hc : (PySem.W.clsIn X.K C).isSome = true := by
    obtain ⟨cd, hc, _⟩ := PySem.W.any_some c.hd
    exact hc ▸ rfl
  refine PySem.W.get_bind I1.kIn J (PySem.W.plainGet_of (c.get m)).1 (PySem.W.findObj_data hc hp.at_ hp.get hp.tak) (PySem.W.plainGet_of (c.get m)).2 (wpAny_call (PySem.W.prop_get (s := { s1 with toks := s1.toks + 1 }) I1.kIn hrec
    (codeAny_mono (F.go X.A.in1 X.stack { s1 with toks := s1.toks + 1 } H1 ⟨[.ref a], []⟩ [.ref a] [.ref a] Q hr.in1 hg I2.env0.in1 (hb _ _ I2.kIn hl.symm) (.cons rfl .nil) hl.symm qq) fun r s' hq => ?_)))
  obtain ⟨u, rfl, q3⟩ := hq
  obtain ⟨v, H', I3, rv, q4⟩ := I2.after q3
  show wpAny _ _ (handedOut u) _ _ _
  rw [PySem.W.handedOut_of (handed_of rv)]
  exact wpAny_pure ⟨v, H', I3, rv, q4⟩
end

/-! ## a def keeps its promise by its body -/
/-- the frame: nothing is raised -/
def cxG (P : Program) (w : World) (K : PySem.W.Frag) (mg : Str → Option Value) (base : Heap) (N : List Str) (qual : Str) (sc : Scope) (f : Addr) (cd : Value) (A : Around) (l : List Env) (s : Shared) (H : Hp) : Cx :=
  (cxOf (fun _ _ _ _ _ _ => False) P w K mg base N qual sc f cd A l s H (fun _ _ _ => False)).nox
theorem fng_of {P : Program} {w : World} {K : PySem.W.Frag} {mg : Str → Option Value} {base : Heap} {k : Nat} {x qual : Str} {st : Stmt} {f : Addr} {fd : FuncData} {N ps : List Str} {sp : Spg} (F : Fun K x qual st f fd) (S : FnScope N ps (defScope st))
    (body : ∀ (cdv : Value) (A : Around) (l : List Env) (s : Shared) (H : Hp) (vs : List V) (Q : VK), Room k (A.deeper (PyProof.Rows.envOfC qual (defScope st) s.heap.objs.size f cdv)) → A.guards = some [] → vs.length = ps.length → sp vs H Q →
      wSs (cxG P w K mg base N qual (defScope st) f cdv A l s H) (defBody st) { nx := fun _ H' => Q .non H', rt := Q } (start N vs) H) : FnG P w K mg base (k + 1) f fd ps sp := by
  obtain ⟨oc, od, kV, doc, pm, an, cdv, ct, osl, rfl, lk, hcd⟩ := F.ex
  refine ⟨fun A l s H args us vs Q hr hg e0 hb r hl hsp => ?_⟩
  have KX : K.In s.heap := e0.mod.kin.keeps fun b o e => (e0.bs b o e).1
  have lim : s.heap.NoLimit := e0.mod.nolimit.keeps fun b o e => (e0.bs b o e).1
  have kinds : ∀ y ∈ ps.zip us, (defScope st).names.lookup y.1 = some .local ∨ ((defScope st).names.lookup y.1 = some .cell ∧ ((cellsFrom (s.heap.objs.size + 1) (defScope st).names []).lookup y.1).isSome = true) :=
    fun ⟨n, v⟩ hy => (S.par n (List.of_mem_zip hy).1).imp id fun z => ⟨z, PySem.W.cellsFrom_some _ _ _ (.inl z)⟩
  refine codeAny_call_function hr.depth (KX _ _ lk) rfl S.co S.gen rfl (PySem.W.codeRec_of KX hcd) (hb _ _ _ _ (wpAny_newFunctionEnv_cells S.kind kinds fun env he s1 z => ?_))
  subst he
  refine ⟨lim.keeps z.toInCall.keep, codeAny_func ?_⟩
  have I := (inv_start (CX := fun _ _ _ _ _ _ => False) (E := fun _ _ _ => False) (mg := mg) (base := base) (cd := cdv) (f := f) (qual := qual) S hr.hd e0 hl r z).wish (fun _ _ => False)
  refine wpAny_mono (body cdv A l s H vs Q (hr.deeper _) hg hl hsp [] s1 I) (fun fl s' hs => ?_) fun _ _ z => False.elim z
  have fin : ∀ {σ' : L2.St} {H' : Hp} {v : V} {u : Value}, Inv (cxG P w K mg base N qual (defScope st) f cdv A l s H) [] σ' H' s' → RelV v u → Q v H' → GoodEnd l P w H s Q (.ok (.ret u)) s' :=
    fun J rv q => ⟨_, rfl, _, _, J.os, J.bare, J.base, J.hok, rv, q⟩
  cases fl with
  | ret u => obtain ⟨v, σ', H', J, rv, q⟩ := hs; exact fin J rv q
  | next => obtain ⟨σ', H', J, q⟩ := hs; exact fin (v := V.non) (u := Value.none) J rfl q
  | brk => obtain ⟨_, _, _, q⟩ := hs; exact q.elim
  | cont => obtain ⟨_, _, _, q⟩ := hs; exact q.elim
end VI
/-! VH -/
namespace VI
open PySem L2

/-! ## paths -/
namespace Tr
variable {τ : Type}
theorem at_append : ∀ (π ρ : List Nat) (t : Tr τ), at_ t (π ++ ρ) = (at_ t π).bind fun u => at_ u ρ
  | [], ρ, t => by rw [at_nil]; rfl
  | n :: π, ρ, .nd g ts => by
    rw [List.cons_append, at_cons, at_cons]
    cases ts[n]? with
    | none => rfl
    | some t => exact at_append π ρ t
theorem put_at : ∀ (π : List Nat) (t u v : Tr τ), at_ t π = some u → at_ (put t π v) π = some v
  | [], t, u, v, _ => by rw [put_nil, at_nil]
  | n :: π, .nd g ts, u, v, h => by
    rw [at_cons] at h
    cases e : ts[n]? with
    | none => rw [e] at h; cases h
    | some t =>
      rw [e] at h
      rw [put_cons e, at_cons, List.getElem?_set_self (by
        rcases List.getElem?_eq_some_iff.mp e with ⟨l, _⟩; exact l)]
      exact put_at π t u v h
theorem put_off : ∀ (π ρ : List Nat) (t v : Tr τ), ¬ π <+: ρ → ¬ ρ <+: π → at_ (put t π v) ρ = at_ t ρ
  | [], ρ, t, v, h, _ => absurd (List.nil_prefix) h
  | n :: π, [], t, v, _, h => absurd (List.nil_prefix) h
  | n :: π, m :: ρ, .nd g ts, v, h1, h2 => by
    cases e : ts[n]? with
    | none =>
      show at_ (match ts[n]? with | some t => _ | none => _) _ = _
      rw [e]
    | some t =>
      rw [put_cons e, at_cons, at_cons]
      by_cases hm : n = m
      · subst hm
        rw [List.getElem?_set_self (by rcases List.getElem?_eq_some_iff.mp e with ⟨l, _⟩; exact l), e]
        refine put_off π ρ t v (fun z => h1 ?_) (fun z => h2 ?_)
        · exact (List.cons_prefix_cons).mpr ⟨rfl, z⟩
        · exact (List.cons_prefix_cons).mpr ⟨rfl, z⟩
      · rw [List.getElem?_set_ne hm]
theorem put_up : ∀ (ρ : List Nat) (n : Nat) (π : List Nat) (t v x : Tr τ), at_ t ρ = some x → at_ (put t (ρ ++ n :: π) v) ρ = some (put x (n :: π) v)
  | [], n, π, t, v, x, h => by rw [at_nil] at h; cases h; rw [List.nil_append, at_nil]
  | m :: ρ, n, π, .nd g ts, v, x, h => by
    rw [at_cons] at h
    cases e : ts[m]? with
    | none => rw [e] at h; cases h
    | some t =>
      rw [e] at h
      rw [List.cons_append, put_cons e, at_cons, List.getElem?_set_self (by rcases List.getElem?_eq_some_iff.mp e with ⟨l, _⟩; exact l)]
      exact put_up ρ n π t v x h
theorem put_tag : ∀ (n : Nat) (π : List Nat) (t v : Tr τ), (put t (n :: π) v).tag = t.tag
  | n, π, .nd g ts, v => by
    show (match ts[n]? with | some t => Tr.nd g (ts.set n (put t π v)) | none => Tr.nd g ts).tag = g
    cases ts[n]? <;> rfl
end Tr
theorem prefix_split {π ρ : List Nat} (h : ρ <+: π) : ρ = π ∨ ∃ n τ, π = ρ ++ n :: τ := by
  obtain ⟨r, rfl⟩ := h
  cases r with
  | nil => exact .inl (List.append_nil _).symm
  | cons n τ => exact .inr ⟨n, τ, rfl⟩
theorem val_put (n : Nat) (π : List Nat) (t v : T) : val (t.put (n :: π) v) = val t := by unfold val; rw [Tr.put_tag]

/-! ## the cells about a place -/
theorem cellsL_set (W : Wo) {x : T} : ∀ {ts : List T} {n : Nat} {y : T}, ts[n]? = some y → ∀ {c d : List Cell}, (cells W y).Perm (c ++ d) → ∃ R : List Cell, (cellsL W ts).Perm (c ++ R) ∧ ∀ (y' : T) (c' : List Cell), (cells W y').Perm (c' ++ d) → (cellsL W (ts.set n y')).Perm (c' ++ R)
  | [], _, _, h, _, _, _ => by simp at h
  | t :: ts, 0, y, h, c, d, p => by
    simp at h
    subst h
    refine ⟨d ++ cellsL W ts, ?_, fun y' c' p' => ?_⟩
    · rw [cellsL, ← List.append_assoc]; exact p.append_right _
    · show (cellsL W (y' :: ts)).Perm _
      rw [cellsL, ← List.append_assoc]; exact p'.append_right _
  | t :: ts, n + 1, y, h, c, d, p => by
    obtain ⟨R, h1, h2⟩ := cellsL_set W (x := x) (ts := ts) (n := n) (by simpa using h) p
    refine ⟨cells W t ++ R, ?_, fun y' c' p' => ?_⟩
    · rw [cellsL]; exact (h1.append_left _).trans (pswap _ _ _)
    · show (cellsL W (t :: ts.set n y')).Perm _
      rw [cellsL]; exact ((h2 y' c' p').append_left _).trans (pswap _ _ _)
theorem vals_set {ts : List T} {n : Nat} {t t' : T} (h : ts[n]? = some t) (hv : val t' = val t) : vals (ts.set n t') = vals ts := by
  unfold vals
  rw [List.map_set, hv]
  obtain ⟨l, e⟩ := List.getElem?_eq_some_iff.mp h
  refine List.ext_getElem? fun i => ?_
  by_cases hi : n = i
  · subst hi
    rw [List.getElem?_set_self (by simpa using l), List.getElem?_map, h]
    rfl
  · rw [List.getElem?_set_ne hi]
theorem val_put' (π : List Nat) {t u v : T} (h : t.at_ π = some u) (hv : val v = val u) : val (t.put π v) = val t := by
  cases π with
  | nil => rw [Tr.at_nil] at h; cases h; rw [Tr.put_nil]; exact hv
  | cons n π => exact val_put n π t v
theorem cells_put (W : Wo) : ∀ (π : List Nat) (t u : T), t.at_ π = some u → ∃ R : List Cell, (cells W t).Perm (cells W u ++ R) ∧ ∀ u' : T, val u' = val u → (cells W (t.put π u')).Perm (cells W u' ++ R)
  | [], t, u, h => by
    rw [Tr.at_nil] at h
    cases h
    exact ⟨[], by rw [List.append_nil], fun u' _ => by rw [Tr.put_nil, List.append_nil]⟩
  | n :: π, .nd g ts, u, h => by
    rw [Tr.at_cons] at h
    cases e : ts[n]? with
    | none => rw [e] at h; cases h
    | some t =>
      rw [e] at h
      have h : t.at_ π = some u := h
      obtain ⟨R, h1, h2⟩ := cells_put W π t u h
      obtain ⟨R', g1, g2⟩ := cellsL_set W (x := t) e h1
      refine ⟨own W g (vals ts) ++ R', ?_, fun u' hv => ?_⟩
      · rw [cells_nd]; exact (g1.append_left _).trans (pswap _ _ _)
      · rw [Tr.put_cons e, cells_nd, vals_set e (val_put' π h hv)]
        exact ((g2 _ _ (h2 u' hv)).append_left _).trans (pswap _ _ _)

section
variable {W : Wo} {B B' H H' : Hp}
/-- what owns something stands among owned ones -/
theorem own_of {u : T} (h : Ok W B u) (hs : isSh (er u) = false) : cells W u ≠ [] := by
  cases u with
  | nd g ts =>
    rw [cells_nd]
    rw [er_nd] at hs
    intro z
    rw [List.append_eq_nil_iff] at z
    cases g with
    | lst a o => cases o with
      | true => exact absurd z.1 (by simp [own])
      | false => cases hs
    | dct a o ks lk => cases o with
      | true => exact absurd z.1 (by simp [own])
      | false => cases hs
    | ins a dx o C ns => cases o with
      | true => exact absurd z.1 (by simp [own])
      | false => cases hs
    | _ => cases hs
theorem kids_own {ts : List T} {n : Nat} {t u : T} {π : List Nat} (e : ts[n]? = some t) (h : t.at_ π = some u) (hu : cells W u ≠ []) : cellsL W ts ≠ [] := by
  intro z
  have z := (cellsL_nil_iff W).mp z t (List.mem_of_getElem? e)
  obtain ⟨R, p, _⟩ := cells_put W π t u h
  rw [z] at p
  have := p.symm.eq_nil
  rw [List.append_eq_nil_iff] at this
  exact hu this.1
theorem put_ok (x : Ext B B') : ∀ (π : List Nat) (t u u' : T), Ok W B t → t.at_ π = some u → cells W u ≠ [] → Ok W B' u' → val u' = val u → Ok W B' (t.put π u')
  | [], t, u, u', _, h, _, o', _ => by rw [Tr.put_nil]; exact o'
  | n :: π, .nd g ts, u, u', o, h, hu, o', hv => by
    rw [Tr.at_cons] at h
    cases e : ts[n]? with
    | none => rw [e] at h; cases h
    | some t =>
      rw [e] at h
      have h : t.at_ π = some u := h
      have hne := kids_own e h hu
      rw [Tr.put_cons e]
      refine .mk ?_ fun y hy => ?_
      · have q := o.tag.mono x
        cases g with
        | tup a => exact absurd q.2 hne
        | lst a ow => cases ow with
          | true => exact True.intro
          | false => exact absurd q.2 hne
        | dct a ow ks lk => cases ow with
          | true => exact ⟨by rw [List.length_set]; exact q.1, q.2⟩
          | false => exact absurd q.2.1 hne
        | ins a dx ow C ns => cases ow with
          | true => show ns.length = _; rw [List.length_set]; exact q
          | false => exact absurd q.2.1 hne
        | non => rw [show ts = [] from q] at e; simp at e
        | bl _ => rw [show ts = [] from q] at e; simp at e
        | int _ => rw [show ts = [] from q] at e; simp at e
        | str _ => rw [show ts = [] from q] at e; simp at e
      · rcases List.mem_or_eq_of_mem_set hy with hy | rfl
        · exact (o.kids y hy).mono x
        · exact put_ok x π t u u' (o.kids t (List.mem_of_getElem? e)) h hu o' hv

/-! ## the context without its heap -/
structure AtS (W : Wo) (B : Hp) (Ts : CtxT) (σ : St) : Prop where
  len : Ts.length = σ.length
  ok : ∀ (i : Nat) (t : T), Ts[i]? = some (some (.own t)) → Ok W B t ∧ σ[i]? = some (some (val t))
  al : ∀ (i j : Nat) (π : List Nat), Ts[i]? = some (some (.al j π)) → ∃ t u, Ts[j]? = some (some (.own t)) ∧ t.at_ π = some u ∧ σ[i]? = some (some (val u))
variable {Ts : CtxT} {F F' : List Cell} {σ : St}
theorem At.s (a : At W B Ts F σ H) : AtS W B Ts σ := ⟨a.len, a.ok, a.al⟩
theorem AtS.at (a : AtS W B Ts σ) (g : Good B H (cellsC W Ts ++ F)) : At W B Ts F σ H := ⟨a.len, a.ok, a.al, g⟩
theorem AtS.mono (a : AtS W B Ts σ) (x : Ext B B') : AtS W B' Ts σ := ⟨a.len, fun i t h => ⟨(a.ok i t h).1.mono x, (a.ok i t h).2⟩, a.al⟩
def putT (Ts : CtxT) (j : Nat) (π : List Nat) (u : T) : CtxT := match Ts[j]? with
  | some (some (.own t0)) => Ts.set j (some (.own (t0.put π u)))
  | _ => Ts
theorem putT_eq {j : Nat} {π : List Nat} {u t0 : T} (h : Ts[j]? = some (some (.own t0))) : putT Ts j π u = Ts.set j (some (.own (t0.put π u))) := by
  unfold putT; rw [h]
theorem erC_length : (erC Ts).length = Ts.length := by unfold erC; exact List.length_map _
theorem erC_at {j : Nat} : (erC Ts)[j]? = (Ts[j]?).map erE := by unfold erC; rw [List.getElem?_map]
theorem erC_putT {j : Nat} {π : List Nat} {u : T} : erC (putT Ts j π u) = putE (erC Ts) j π (er u) := by
  unfold putT putE
  rw [erC_at]
  cases e : Ts[j]? with
  | none => rfl
  | some x =>
    cases x with
    | none => rfl
    | some x => cases x with
      | al i ρ => rfl
      | own t0 =>
        show erC (Ts.set j _) = (erC Ts).set j _
        unfold erC
        rw [List.map_set]
        congr 2
        show some (Ent.own (er (t0.put π u))) = some (Ent.own ((er t0).put π (er u)))
        unfold er
        rw [Tr.put_map]
theorem erC_kill {j : Nat} {π : List Nat} : erC (kill Ts j π) = kill (erC Ts) j π := by
  unfold erC kill
  rw [List.map_map, List.map_map]
  refine List.map_congr_left fun x _ => ?_
  cases x with
  | none => rfl
  | some x => cases x with
    | own t => rfl
    | al i ρ =>
      show erE (if _ then _ else _) = (if _ then _ else _)
      by_cases h : i = j ∧ below π ρ = true
      · rw [if_pos h, if_pos h]; rfl
      · rw [if_neg h, if_neg h]; rfl
theorem kill_at {j i : Nat} {π : List Nat} : (kill Ts j π)[i]? = (Ts[i]?).map (killE j π) := by unfold kill; rw [List.getElem?_map]
theorem killE_al {j k : Nat} {π ρ : List Nat} : killE j π (some (.al k ρ) : Option (Ent T)) = if k = j ∧ below π ρ = true then none else some (.al k ρ) := rfl
theorem killE_own {j : Nat} {π : List Nat} {x : Option (Ent T)} {t : T} : killE j π x = some (.own t) ↔ x = some (.own t) := by
  cases x with
  | none => exact ⟨fun h => (nomatch h), fun h => (nomatch h)⟩
  | some x => cases x with
    | own t => exact Iff.rfl
    | al k ρ =>
      rw [killE_al]
      by_cases h : k = j ∧ below π ρ = true
      · rw [if_pos h]; exact ⟨fun h => (nomatch h), fun h => (nomatch h)⟩
      · rw [if_neg h]
theorem kill_own {j i : Nat} {π : List Nat} {t : T} : (kill Ts j π)[i]? = some (some (.own t)) ↔ Ts[i]? = some (some (.own t)) := by
  rw [kill_at]
  cases Ts[i]? with
  | none => exact ⟨fun h => (nomatch h), fun h => (nomatch h)⟩
  | some x => rw [Option.map_some, Option.some_inj, Option.some_inj]; exact killE_own
theorem kill_al {j i k : Nat} {π ρ : List Nat} (h : (kill Ts j π)[i]? = some (some (.al k ρ))) : Ts[i]? = some (some (.al k ρ)) ∧ ¬ (k = j ∧ below π ρ = true) := by
  rw [kill_at] at h
  cases e : Ts[i]? with
  | none => rw [e] at h; cases h
  | some x =>
    rw [e, Option.map_some, Option.some_inj] at h
    cases x with
    | none => cases h
    | some x => cases x with
      | own t => cases h
      | al k' ρ' =>
        rw [killE_al] at h
        by_cases hn : k' = j ∧ below π ρ' = true
        · rw [if_pos hn] at h; cases h
        · rw [if_neg hn] at h; cases h; exact ⟨rfl, hn⟩
theorem cellsC_kill {j : Nat} {π : List Nat} : ∀ {Ts : CtxT}, cellsC W (kill Ts j π) = cellsC W Ts
  | [] => rfl
  | e :: es => by
    have ih := cellsC_kill (j := j) (π := π) (Ts := es)
    show cellsE W _ ++ cellsC W (kill es j π) = cellsE W e ++ cellsC W es
    rw [ih]
    congr 1
    cases e with
    | none => rfl
    | some e => cases e with
      | own t => rfl
      | al k ρ =>
        show cellsE W (if _ then _ else _) = _
        split <;> rfl
theorem AtS.kill {j : Nat} {π : List Nat} (a : AtS W B Ts σ) : AtS W B (kill Ts j π) σ := by
  refine ⟨by unfold VI.kill; rw [List.length_map]; exact a.len, fun i t h => a.ok i t (kill_own.mp h), fun i k ρ h => ?_⟩
  obtain ⟨h, _⟩ := kill_al h
  obtain ⟨t, u, h1, h2, h3⟩ := a.al i k ρ h
  exact ⟨t, u, kill_own.mpr h1, h2, h3⟩
/-- a place changes: aliases to what lies below it must stand -/
theorem AtS.put0 {j : Nat} {π : List Nat} {t0 u u' : T} (a : AtS W B Ts σ) (x : Ext B B') (hj : Ts[j]? = some (some (.own t0))) (hu : t0.at_ π = some u) (hc : cells W u ≠ []) (o : Ok W B' u') (hv : val u' = val u)
    (hal : ∀ (i : Nat) (ρ : List Nat), Ts[i]? = some (some (.al j (π ++ ρ))) → ∀ y, u.at_ ρ = some y → ∃ y', u'.at_ ρ = some y' ∧ val y' = val y) : AtS W B' (putT Ts j π u') σ := by
  rw [putT_eq hj]
  obtain ⟨lj, _⟩ := List.getElem?_eq_some_iff.mp hj
  refine ⟨by rw [List.length_set]; exact a.len, fun i t h => ?_, fun i k ρ h => ?_⟩
  · by_cases hi : j = i
    · subst hi
      rw [List.getElem?_set_self lj] at h
      cases h
      refine ⟨put_ok x π t0 u u' (a.ok j t0 hj).1 hu hc o hv, ?_⟩
      rw [val_put' π hu hv]
      exact (a.ok j t0 hj).2
    · rw [List.getElem?_set_ne hi] at h
      exact ⟨(a.ok i t h).1.mono x, (a.ok i t h).2⟩
  · have hi : j ≠ i := fun hi => by subst hi; rw [List.getElem?_set_self lj] at h; cases h
    rw [List.getElem?_set_ne hi] at h
    obtain ⟨t, y, h1, h2, h3⟩ := a.al i k ρ h
    by_cases hk : j = k
    · subst hk
      rw [hj] at h1
      cases h1
      refine ⟨t0.put π u', ?_⟩
      have : ∃ y', (t0.put π u').at_ ρ = some y' ∧ val y' = val y := by
        by_cases p1 : π <+: ρ
        · obtain ⟨τ, rfl⟩ := p1
          rw [Tr.at_append, hu] at h2
          obtain ⟨y', e1, e2⟩ := hal i τ h y h2
          exact ⟨y', by rw [Tr.at_append, Tr.put_at π t0 u u' hu]; exact e1, e2⟩
        · by_cases p2 : ρ <+: π
          · rcases prefix_split p2 with rfl | ⟨n, τ, rfl⟩
            · exact absurd List.prefix_rfl p1
            · exact ⟨_, Tr.put_up ρ n τ t0 u' y h2, val_put n τ y u'⟩
          · exact ⟨y, by rw [Tr.put_off π ρ t0 u' p1 p2]; exact h2, rfl⟩
      obtain ⟨y', e1, e2⟩ := this
      exact ⟨y', List.getElem?_set_self lj, e1, by rw [e2]; exact h3⟩
    · exact ⟨t, y, by rw [List.getElem?_set_ne hk]; exact h1, h2, h3⟩
theorem below_iff {π ρ : List Nat} : below π ρ = true ↔ ∃ n τ, ρ = π ++ n :: τ := by
  unfold below
  rw [Bool.and_eq_true, List.isPrefixOf_iff_prefix, decide_eq_true_eq]
  constructor
  · rintro ⟨h, l⟩
    rcases prefix_split h with rfl | h
    · exact absurd l (Nat.lt_irrefl _)
    · exact h
  · rintro ⟨n, τ, rfl⟩
    exact ⟨List.prefix_append _ _, by simp⟩
/-- a place changes; aliases to what lies below it are forgotten -/
theorem AtS.put {j : Nat} {π : List Nat} {t0 u u' : T} (a : AtS W B Ts σ) (x : Ext B B') (hj : Ts[j]? = some (some (.own t0))) (hu : t0.at_ π = some u) (hc : cells W u ≠ []) (o : Ok W B' u') (hv : val u' = val u) : AtS W B' (VI.kill (putT Ts j π u') j π) σ := by
  have b := (a.kill (j := j) (π := π)).put0 x (kill_own.mpr hj) hu hc o hv fun i ρ h y hy => by
    obtain ⟨h, hn⟩ := kill_al h
    cases ρ with
    | nil => rw [Tr.at_nil] at hy; cases hy; exact ⟨u', Tr.at_nil _, hv⟩
    | cons n τ => exact absurd ⟨rfl, below_iff.mpr ⟨n, τ, rfl⟩⟩ hn
  have e : putT (VI.kill Ts j π) j π u' = VI.kill (putT Ts j π u') j π := by
    rw [putT_eq hj, putT_eq (kill_own.mpr hj)]
    unfold VI.kill
    rw [List.map_set]
    rfl
  rw [← e]
  exact b
theorem cellsC_put {j : Nat} {π : List Nat} {t0 u : T} (hj : Ts[j]? = some (some (.own t0))) (hu : t0.at_ π = some u) : ∃ R : List Cell, (cellsC W Ts).Perm (cells W u ++ R) ∧ ∀ u' : T, val u' = val u → (cellsC W (putT Ts j π u')).Perm (cells W u' ++ R) := by
  obtain ⟨R, h1, h2⟩ := cells_put W π t0 u hu
  have h3 := cellsC_set (W := W) (x := none) hj
  have h3 : (cellsC W Ts).Perm (cells W t0 ++ cellsC W (Ts.set j none)) := h3
  refine ⟨R ++ cellsC W (Ts.set j none), ?_, fun u' hv => ?_⟩
  · rw [← List.append_assoc]
    exact h3.trans (h1.append_right _)
  · rw [putT_eq hj]
    have lj : j < Ts.length := (List.getElem?_eq_some_iff.mp hj).1
    have h4 := cellsC_set (W := W) (x := none) (Ts := Ts.set j (some (.own (t0.put π u')))) (j := j) (List.getElem?_set_self lj)
    rw [List.set_set] at h4
    have h4 : (cellsC W (Ts.set j (some (.own (t0.put π u'))))).Perm (cells W (t0.put π u') ++ cellsC W (Ts.set j none)) := h4
    rw [← List.append_assoc]
    exact h4.trans ((h2 u' hv).append_right _)
end
end VI
/-! VI -/
namespace VI
open PySem L2

/-! ## several places at once -/
def wrT (Ts : CtxT) : List Rd' → List T → CtxT
  | .pl j π :: rs, u :: us => kill (putT (wrT Ts rs us) j π u) j π
  | .vl _ :: rs, _ :: us => wrT Ts rs us
  | _, _ => Ts
theorem erC_wrT {Ts : CtxT} : ∀ (rs : List Rd') (us : List T), erC (wrT Ts rs us) = wrB (erC Ts) rs (us.map er)
  | [], _ => rfl
  | .pl j π :: rs, [] => rfl
  | .vl _ :: rs, [] => rfl
  | .pl j π :: rs, u :: us => by
    show erC (kill (putT (wrT Ts rs us) j π u) j π) = kill (putE (wrB (erC Ts) rs (us.map er)) j π (er u)) j π
    rw [erC_kill, erC_putT, erC_wrT rs us]
  | .vl _ :: rs, u :: us => erC_wrT rs us
theorem wrT_no {Ts : CtxT} : ∀ (rs : List Rd') (us : List T), noPl rs = true → wrT Ts rs us = Ts
  | [], _, _ => rfl
  | .pl j π :: rs, _, h => by cases h
  | .vl _ :: rs, [], _ => rfl
  | .vl _ :: rs, u :: us, h => wrT_no rs us h
def Res (Ts : CtxT) (j : Nat) (π : List Nat) (u : T) : Prop := ∃ t0, Ts[j]? = some (some (.own t0)) ∧ t0.at_ π = some u
theorem Res.kill {Ts : CtxT} {j i : Nat} {π ρ : List Nat} {u : T} (h : Res Ts j π u) : Res (VI.kill Ts i ρ) j π u :=
  let ⟨t0, h1, h2⟩ := h
  ⟨t0, kill_own.mpr h1, h2⟩
theorem Res.put {Ts : CtxT} {j i : Nat} {π ρ : List Nat} {u v : T} (h : Res Ts j π u) (ha : (decide (i ≠ j) || (!π.isPrefixOf ρ && !ρ.isPrefixOf π)) = true) : Res (putT Ts i ρ v) j π u := by
  obtain ⟨t0, h1, h2⟩ := h
  cases e : Ts[i]? with
  | none => exact ⟨t0, by unfold putT; rw [e]; exact h1, h2⟩
  | some x =>
    cases x with
    | none => exact ⟨t0, by unfold putT; rw [e]; exact h1, h2⟩
    | some x => cases x with
      | al k τ => exact ⟨t0, by unfold putT; rw [e]; exact h1, h2⟩
      | own t1 =>
        rw [putT_eq e]
        by_cases hij : i = j
        · subst hij
          rw [e] at h1
          cases h1
          rcases Bool.or_eq_true_iff.mp ha with z | z
          · exact absurd rfl (of_decide_eq_true z)
          · rw [Bool.and_eq_true, Bool.not_eq_true', Bool.not_eq_true'] at z
            refine ⟨_, List.getElem?_set_self (List.getElem?_eq_some_iff.mp e).1, ?_⟩
            rw [Tr.put_off ρ π t0 v (fun p => ?_) (fun p => ?_)]
            · exact h2
            · rw [List.isPrefixOf_iff_prefix.mpr p] at z; cases z.2
            · rw [List.isPrefixOf_iff_prefix.mpr p] at z; cases z.1
        · exact ⟨t0, by rw [List.getElem?_set_ne hij]; exact h1, h2⟩
theorem Res.wr {Ts : CtxT} {j : Nat} {π : List Nat} {u : T} (h : Res Ts j π u) : ∀ (rs : List Rd') (us : List T), apart2 j π rs = true → Res (wrT Ts rs us) j π u
  | [], _, _ => h
  | .pl i ρ :: rs, [], _ => h
  | .vl _ :: rs, [], _ => h
  | .pl i ρ :: rs, v :: us, ha => by
    rw [apart2, Bool.and_eq_true] at ha
    exact ((Res.wr h rs us ha.2).put ha.1).kill
  | .vl _ :: rs, v :: us, ha => Res.wr h rs us ha
section
variable (W : Wo)
def ResA (Ts : CtxT) : List Rd' → List T → Prop
  | [], [] => True
  | .pl j π :: rs, u :: us => Res Ts j π u ∧ cells W u ≠ [] ∧ ResA Ts rs us
  | .vl _ :: rs, _ :: us => ResA Ts rs us
  | _, _ => False
def pcells : List Rd' → List T → List Cell
  | .pl _ _ :: rs, u :: us => cells W u ++ pcells rs us
  | .vl _ :: rs, _ :: us => pcells rs us
  | _, _ => []
def tcells : List Rd' → List T → List Cell
  | .pl _ _ :: rs, _ :: us => tcells rs us
  | .vl _ :: rs, u :: us => cells W u ++ tcells rs us
  | _, _ => []
end
section
variable {W : Wo} {B B' H H' : Hp} {Ts : CtxT} {F : List Cell} {σ : St}
theorem cells_fz0 : ∀ t : T, cells W (tfz t) = [] := Tr.ind fun g ts ih => by
  show cells W (Tr.map _ _) = []
  rw [Tr.map_nd, cells_nd]
  have h1 : cellsL W (ts.map (Tr.map TT'.fz)) = [] := (cellsL_nil_iff W).mpr fun x hx => by
    obtain ⟨t, ht, rfl⟩ := List.mem_map.mp hx
    exact ih t ht
  rw [h1]
  cases g <;> rfl
theorem pcells_fz : ∀ (rs : List Rd') (us : List T), pcells W rs (us.map tfz) = []
  | [], _ => rfl
  | .pl _ _ :: rs, [] => rfl
  | .vl _ :: rs, [] => rfl
  | .pl _ _ :: rs, u :: us => by
    show cells W (tfz u) ++ pcells W rs (us.map tfz) = []
    rw [cells_fz0, pcells_fz rs us]; rfl
  | .vl _ :: rs, u :: us => pcells_fz rs us
theorem ResA.len : ∀ {rs : List Rd'} {us : List T}, ResA W Ts rs us → rs.length = us.length
  | [], [], _ => rfl
  | .pl j π :: rs, u :: us, h => by rw [List.length_cons, List.length_cons, ResA.len h.2.2]
  | .vl _ :: rs, _ :: us, h => by rw [List.length_cons, List.length_cons, ResA.len (rs := rs) h]
theorem cells_pt : ∀ {rs : List Rd'} {us : List T}, rs.length = us.length → (cellsL W us).Perm (pcells W rs us ++ tcells W rs us)
  | [], [], _ => .nil
  | .pl j π :: rs, u :: us, h => by
    show (cells W u ++ cellsL W us).Perm ((cells W u ++ pcells W rs us) ++ tcells W rs us)
    rw [List.append_assoc]
    exact (cells_pt (by simpa using h)).append_left _
  | .vl _ :: rs, u :: us, h => by
    show (cells W u ++ cellsL W us).Perm (pcells W rs us ++ (cells W u ++ tcells W rs us))
    exact ((cells_pt (rs := rs) (by simpa using h)).append_left _).trans (pswap _ _ _)
  | [], _ :: _, h => by cases h
  | .pl _ _ :: _, [], h => by cases h
  | .vl _ :: _, [], h => by cases h
theorem wr_cells : ∀ (rs : List Rd') (us : List T), apart rs = true → ResA W Ts rs us → ∃ R : List Cell, (cellsC W Ts).Perm (pcells W rs us ++ R) ∧ ∀ us' : List T, vals us' = vals us → (cellsC W (wrT Ts rs us')).Perm (pcells W rs us' ++ R)
  | [], [], _, _ => ⟨cellsC W Ts, .refl _, fun us' h => by cases us' with | nil => exact .refl _ | cons _ _ => cases h⟩
  | .pl j π :: rs, u :: us, ha, h => by
    rw [apart, Bool.and_eq_true] at ha
    obtain ⟨hr, hne, ht⟩ := h
    obtain ⟨R0, p1, p2⟩ := wr_cells rs us ha.2 ht
    obtain ⟨t0, z1, z2⟩ := hr.wr rs (us.map tfz) ha.1
    obtain ⟨R, q1, _⟩ := cellsC_put (W := W) z1 z2
    have e0 : R0.Perm (cells W u ++ R) := by
      have := p2 (us.map tfz) (vals_tfz us)
      rw [pcells_fz] at this
      exact this.symm.trans q1
    refine ⟨R, ?_, fun us' hv => ?_⟩
    · show (cellsC W Ts).Perm ((cells W u ++ pcells W rs us) ++ R)
      rw [List.append_assoc]
      exact (p1.trans (e0.append_left _)).trans (pswap _ _ _)
    · cases us' with
      | nil => cases hv
      | cons u' us' =>
        injection hv with hv1 hv2
        obtain ⟨t1, y1, y2⟩ := hr.wr rs us' ha.1
        obtain ⟨R2, g1, g2⟩ := cellsC_put (W := W) y1 y2
        have e1 : (cells W u ++ R2).Perm (cells W u ++ (pcells W rs us' ++ R)) := (g1.symm.trans ((p2 us' hv2).trans (e0.append_left _))).trans (pswap _ _ _)
        have e2 : R2.Perm (pcells W rs us' ++ R) := (List.perm_append_left_iff _).mp e1
        show (cellsC W (kill (putT (wrT Ts rs us') j π u') j π)).Perm ((cells W u' ++ pcells W rs us') ++ R)
        rw [cellsC_kill, List.append_assoc]
        exact (g2 u' hv1).trans (e2.append_left _)
  | .vl _ :: rs, u :: us, ha, h => by
    obtain ⟨R, p1, p2⟩ := wr_cells rs us ha h
    refine ⟨R, p1, fun us' hv => ?_⟩
    cases us' with
    | nil => cases hv
    | cons u' us' => injection hv with _ hv; exact p2 us' hv
theorem wr_ats (x : Ext B B') (a : AtS W B Ts σ) : ∀ (rs : List Rd') (us us' : List T), apart rs = true → ResA W Ts rs us → vals us' = vals us → (∀ u ∈ us', Ok W B' u) → AtS W B' (wrT Ts rs us') σ
  | [], _, _, _, _, _, _ => a.mono x
  | .pl j π :: rs, u :: us, u' :: us', ha, h, hv, ho => by
    rw [apart, Bool.and_eq_true] at ha
    injection hv with hv1 hv2
    have ih := wr_ats x a rs us us' ha.2 h.2.2 hv2 fun y hy => ho y (List.mem_cons_of_mem _ hy)
    obtain ⟨t0, z1, z2⟩ := h.1.wr rs us' ha.1
    exact ih.put (Ext.refl _) z1 z2 h.2.1 (ho u' List.mem_cons_self) hv1
  | .vl _ :: rs, u :: us, u' :: us', ha, h, hv, ho => by
    injection hv with _ hv2
    exact wr_ats x a rs us us' ha h hv2 fun y hy => ho y (List.mem_cons_of_mem _ hy)
  | .pl _ _ :: _, [], _, _, h, _, _ => h.elim
  | .vl _ :: _, [], _, _, h, _, _ => h.elim
  | .pl _ _ :: _, _ :: _, [], _, _, hv, _ => by cases hv
  | .vl _ :: _, _ :: _, [], _, _, hv, _ => by cases hv

/-- arguments that are places stand for what is there -/
theorem ArgsOk.res : ∀ {rs : List Rd'} {vs : List V} {c : List Cell} {ds : List D}, ArgsOk W B Ts σ rs vs c → resL (erC Ts) rs = some ds → live (erC Ts) rs = true → (∀ (i : Nat) t, Ts[i]? = some (some (.own t)) → Ok W B t) →
    ∃ us : List T, us.map er = ds ∧ vs = vals us ∧ (∀ u ∈ us, Ok W B u) ∧ ResA W Ts rs us ∧ c = tcells W rs us
  | [], _, _, ds, .nil, h, _, _ => by cases h; exact ⟨[], rfl, rfl, fun _ h => absurd h (by simp), True.intro, rfl⟩
  | r :: rs, _, _, ds, .cons (v := v1) (c := c1) (cs := cs) a as, h, hl, ok => by
    rw [resL] at h
    cases e1 : VI.res (erC Ts) r with
    | none => rw [e1] at h; cases h
    | some d =>
      rw [e1] at h
      cases e2 : resL (erC Ts) rs with
      | none => rw [e2] at h; cases h
      | some ds' =>
        rw [e2] at h
        cases h
        cases r with
        | vl d0 =>
          obtain ⟨us, h1, h2, h3, h4, h5⟩ := ArgsOk.res as e2 hl ok
          obtain ⟨u, o, e, ev, ec⟩ := a
          have : d0 = d := Option.some.inj e1
          refine ⟨u :: us, by rw [List.map_cons, e, h1, this], by rw [ev, h2]; rfl, fun y hy => ?_, h4, by rw [ec, h5]; rfl⟩
          rcases List.mem_cons.mp hy with z | z
          · rw [z]; exact o
          · exact h3 y z
        | pl j π =>
          have e1 : getE (erC Ts) j π = some d := e1
          rw [live, e1, Bool.and_eq_true] at hl
          obtain ⟨us, h1, h2, h3, h4, h5⟩ := ArgsOk.res as e2 hl.2 ok
          obtain ⟨ec, a⟩ := a
          obtain ⟨t0, u, ht, hu, e, ev⟩ := a d e1
          have o := at_ok hu (ok j t0 ht)
          have hs : isSh (er u) = false := by rw [e]; simpa using hl.1
          refine ⟨u :: us, by rw [List.map_cons, e, h1], by rw [ev, h2]; rfl, fun y hy => ?_, ⟨⟨t0, ht, hu⟩, own_of o hs, h4⟩, by rw [ec, h5]; rfl⟩
          rcases List.mem_cons.mp hy with z | z
          · rw [z]; exact o
          · exact h3 y z

/-! ## calls -/
def spV (W : Wo) (cl : Cl) (f : Nat) : Spg := fun vs H Q => ∃ (B : Hp) (L : List Cell) (us : List T) (d : D) (outs : List D), vs = vals us ∧ (∀ u ∈ us, Ok W B u) ∧ Good B H (cellsL W us ++ L) ∧ cl f (us.map er) = some (d, outs) ∧
  ∀ (B' H' : Hp) (u : T) (us' : List T), Ext B B' → Good B' H' (cells W u ++ (cellsL W us' ++ L)) → Ok W B' u → (∀ x ∈ us', Ok W B' x) → er u = d → us'.map er = outs → vals us' = vals us → Q (val u) H'
variable {Γ Γ' : Ctx} {q : Bool} {rs : List Rd'} {ds outs : List D} {d : D} {ta : TA} {cl : Cl} {f : Nat}
/-- a call within a context -/
theorem call_ctx {vs : List V} {c0 : List Cell} (a : At W B Ts (c0 ++ F) σ H) (ar : ArgsOk W B Ts σ rs vs c0) (hr : resL (erC Ts) rs = some ds) (hf : free (erC Ts) rs = true) (hc : cl f ds = some (d, outs)) {Q : VK}
    (k : ∀ (B' : Hp) (Ts' : CtxT) (u : T) (us' : List T) (H' : Hp), Ext B B' → Ts' = wrT Ts rs us' → At W B' Ts' (cells W u ++ F) σ H' → erC Ts' = wrB (erC Ts) rs outs → Ok W B' u → er u = d → Q (val u) H') : spV W cl f vs H Q := by
  unfold free at hf
  rw [Bool.and_eq_true] at hf
  obtain ⟨us, h1, h2, h3, h4, h5⟩ := ar.res hr hf.2 fun i t ht => (a.ok i t ht).1
  subst h1 h2 h5
  obtain ⟨R, p1, p2⟩ := wr_cells rs us hf.1 h4
  have len := h4.len
  refine ⟨B, R ++ F, us, d, outs, rfl, h3, a.good.perm ?_, hc, fun B' H' u us' x g o os e1 e2 e3 => ?_⟩
  · have s1 : (cellsC W Ts ++ (tcells W rs us ++ F)).Perm (pcells W rs us ++ (R ++ (tcells W rs us ++ F))) := by
      have := p1.append_right (tcells W rs us ++ F)
      rw [List.append_assoc] at this
      exact this
    refine s1.trans (((pswap R (tcells W rs us) F).append_left _).trans ?_)
    rw [← List.append_assoc]
    exact (cells_pt len).symm.append_right _
  · refine k B' (wrT Ts rs us') u us' H' x rfl ((wr_ats x a.s rs us us' hf.1 h4 e3 os).at ?_) (by rw [erC_wrT, e2]) o e1
    have len' : rs.length = us'.length := by
      have := congrArg List.length e3
      unfold vals at this
      rw [List.length_map, List.length_map] at this
      rw [len, this]
    refine (g.perm (M := tcells W rs us' ++ (cellsC W (wrT Ts rs us') ++ (cells W u ++ F))) ?_).drop
    have s1 := (p2 us' e3)
    have s2 : (cells W u ++ (cellsL W us' ++ (R ++ F))).Perm (cells W u ++ ((pcells W rs us' ++ tcells W rs us') ++ (R ++ F))) := ((cells_pt len').append_right _).append_left _
    refine s2.trans ?_
    rw [List.append_assoc]
    refine ((pswap (cells W u) (pcells W rs us') _)).trans ?_
    have s3 : (tcells W rs us' ++ (cellsC W (wrT Ts rs us') ++ (cells W u ++ F))).Perm (tcells W rs us' ++ ((pcells W rs us' ++ R) ++ (cells W u ++ F))) := (s1.append_right _).append_left _
    refine List.Perm.trans ?_ s3.symm
    rw [List.append_assoc]
    refine List.Perm.trans ?_ (pswap (pcells W rs us') (tcells W rs us') _)
    refine List.Perm.append_left _ ?_
    refine (pswap (cells W u) (tcells W rs us') _).trans (List.Perm.append_left _ (pswap (cells W u) R F))
theorem AJ.call (h : AJ W ta Γ rs Γ' q) (hr : resL Γ' rs = some ds) (hf : free Γ' rs = true) (hc : cl f ds = some (d, outs)) : EJ W (fun σ H Q => ta σ H fun vs H1 => spV W cl f vs H1 Q) Γ (wrB Γ' rs outs) (q && noPl rs) d := by
  intro B Ts F σ H a g Q k
  refine h B Ts F σ H a g _ fun B' Ts' c0 vs H' e a' g' q' ar => ?_
  subst g'
  refine call_ctx a' ar hr hf hc fun B2 Ts2 u us' H2 x e1 a2 g2 o eu => k B2 Ts2 u H2 (e.trans x) a2 g2 o eu fun z => ?_
  rw [Bool.and_eq_true] at z
  rw [e1, wrT_no rs us' z.2]
  exact q' z.1
/-- the first argument is looked at -/
def tConsC (K : V → Hp → Prop) (te : TE) (ta : TA) : TA := fun σ H Q => te σ H fun x H1 => K x H1 ∧ ta σ H1 fun xs H2 => Q (x :: xs) H2
theorem AJ.consVC {K : V → Hp → Prop} {te : TE} {Γ1 : Ctx} {q1 : Bool} (h : EJ W te Γ Γ1 q1 d) (hk : ∀ (H : Hp) (u : T), Rb W H u → er u = d → K (val u) H) (hs : AJ W ta Γ1 rs Γ' q) : AJ W (tConsC K te ta) Γ (.vl d :: rs) Γ' (q1 && q) := by
  intro B Ts F σ H a g Q k
  refine h B Ts F σ H a g _ fun B1 Ts1 u H1 e1 a1 g1 o1 eu q1' => ⟨hk H1 u (a1.rb o1 fun c hc => List.mem_append_right _ (List.mem_append_left _ hc)) eu, ?_⟩
  refine hs B1 Ts1 (cells W u ++ F) σ H1 a1 g1 _ fun B2 Ts2 c0 vs H2 e2 a2 g2 q2' ar => ?_
  refine k B2 Ts2 (cells W u ++ c0) _ H2 (e1.trans e2) (a2.perm ?_) g2 (fun z => ?_) (.cons ⟨u, o1.mono e2, eu, rfl, rfl⟩ ar)
  · rw [List.append_assoc]; exact pswap _ _ _
  · rw [Bool.and_eq_true] at z
    exact (q2' z.2).trans (q1' z.1)
theorem AJ.consPC {K : V → Hp → Prop} {te : TE} {j : Nat} {π : List Nat} (h : PJ W te Γ j π d) (hk : ∀ (H : Hp) (u : T), Rb W H u → er u = d → K (val u) H) (hs : AJ W ta Γ rs Γ' q) (hq : (q || decide (π = [])) = true) : AJ W (tConsC K te ta) Γ (.pl j π :: rs) Γ' q := by
  intro B Ts F σ H a g Q k
  refine h B Ts F σ H a g _ fun B1 H1 t0 u e1 a1 ht hu eu => ⟨hk H1 u (a1.rb (a1.place ht hu).1 (a1.place ht hu).2) eu, ?_⟩
  refine hs B1 Ts F σ H1 a1 g _ fun B2 Ts2 c0 vs H2 e2 a2 g2 q2' ar => ?_
  refine k B2 Ts2 ([] ++ c0) _ H2 (e1.trans e2) a2 g2 q2' (.cons ⟨rfl, fun d' hd => ?_⟩ ar)
  obtain ⟨t1, u1, h1, h2, h3⟩ := getE_some hd
  refine ⟨t1, u1, h1, h2, h3, ?_⟩
  rcases Bool.or_eq_true_iff.mp hq with z | z
  · rw [q2' z] at h1
    rw [ht] at h1
    cases h1
    rw [hu] at h2
    cases h2
    rfl
  · have z : π = [] := of_decide_eq_true z
    subst z
    rw [Tr.at_nil] at hu h2
    cases hu
    cases h2
    have x1 := (a1.ok j t0 ht).2
    have x2 := (a2.ok j t1 h1).2
    rw [x1] at x2
    exact Option.some.inj (Option.some.inj x2)
end
end VI
/-! VJ -/
namespace VI
open PySem L2 PyProof.Rows

/-- the type's value -/
def tyV (ca : Nat → Addr) : Ty → V
  | .int => .ty "int"
  | .bool => .ty "bool"
  | .str => .ty "str"
  | .list => .ty "list"
  | .tuple => .ty "tuple"
  | .dict => .ty "dict"
  | .cls c => .ref (ca c)
def tyU (ca : Nat → Addr) : Ty → Value
  | .int => .type "int"
  | .bool => .type "bool"
  | .str => .type "str"
  | .list => .type "list"
  | .tuple => .type "tuple"
  | .dict => .type "dict"
  | .cls c => .ref (ca c)
def tyO (ca : Nat → Addr) : Option Ty → Value
  | none => .type "NoneType"
  | some t => tyU ca t
theorem tyV_rel (ca : Nat → Addr) (t : Ty) : ClsV (tyV ca t) (tyU ca t) := by
  cases t <;> first | exact .ty _ | exact .own _
def isiO (Φ : Prg) (x : Option Ty) (t : Ty) : Bool := match x, t with
  | some .bool, .int => true
  | some (.cls c), .cls c' => Φ.sub c c'
  | some a, b => decide (a = b)
  | none, _ => false
theorem isiD_eq (Φ : Prg) (x : D) (t : Ty) : isiD Φ x t = isiO Φ (tyOf x) t := rfl
/-- a class of the program -/
structure ClsX (K : PySem.W.Frag) (C : Addr) : Prop where
  cls : Cls K C
  at_ : PySem.W.findIn K (.ref C) "__class__" = some (some (.builtin "object.__class__"))
  get : PySem.W.specialIn K (.builtin "object.__class__") "__get__" = some (some (.builtin "getset_descriptor.__get__"))
  tak : PySem.W.takesIn K (.builtin "object.__class__") = some true
  obj : PySem.W.mroIn K C (.type "object") = some true

section
variable (X : Cx) (S : Sg)
def rRev1 : V → Hp → VK → Prop := fun x H Q => ∃ a xs, x = .ref a ∧ SqL X.K H a xs ∧ ∀ p, H p = none → Q (.ref p) (upd H p (.lst xs.reverse))
def rLRg : V → Hp → VK → Prop := fun x H Q => ∃ n, x = .int n ∧ RgOk 0 n ∧ ∀ q, H q = none → Q (.ref q) (upd H q (.lst (rgV 0 n)))
def rSlo : R2 := fun x y H Q => ∃ i, y = .int i ∧ rSlL X.K x (some i) none H Q
def rShi : R2 := fun x y H Q => ∃ i, y = .int i ∧ rSlL X.K x none (some i) H Q
def rSlh : List V → Hp → VK → Prop := fun vs H Q => match vs with
  | [x, y, z] => ∃ i j, y = .int i ∧ z = .int j ∧ rSlL X.K x (some i) (some j) H Q
  | _ => False
def opR : Op → List V → Hp → VK → Prop
  | .bin o => on2 (cO X (binaryOp o))
  | .cmp o => on2 (cO X (compareOp o))
  | .neg => on1 (cU X (unaryOp .USub))
  | .len => cC X (.builtin "len")
  | .abs => cC X (.builtin "abs")
  | .max => cC X (.builtin "max")
  | .min => cC X (.builtin "min")
  | .list => cC X (.type "list")
  | .int => cC X (.type "int")
  | .sorted => cC X (.builtin "sorted")
  | .repr => cC X (.builtin "repr")
  | .all => cC X (.builtin "all")
  | .isi t => fun vs => cC X (.builtin "isinstance") (vs ++ [tyV S.ca t])
  | .rev => on1 (rRev1 X)
  | .slo => on2 (rSlo X)
  | .shi => on2 (rShi X)
  | .slh => rSlh X
  | .listrange => on1 rLRg
  | .sortedset => fun vs H Q => cC X (.type "set") vs H fun v H1 => cC X (.builtin "sorted") [v] H1 Q
  | _ => fun _ _ _ => False
end
section
variable {S : Sg} {X : Cx} {ds xs : List D} {d x : D} {B H : Hp} {L : List Cell} {Q : VK}
theorem seq_inv {u : T} (h : seqOf (er u) = some xs) (o : Ok (S.wo X.K) B u) (r : Rb (S.wo X.K) H u) :
    ∃ a ts, val u = .ref a ∧ ts.map er = xs ∧ (SqL X.K H a (vals ts) ∨ SqT X.K H a (vals ts)) ∧ ∀ t ∈ ts, Ok (S.wo X.K) B t := by
  cases u with
  | nd g ts =>
    rw [er_nd] at h
    cases g with
    | tup a => exact ⟨a, ts, rfl, Option.some.inj h, .inr r.tag, o.kids⟩
    | lst a ow => exact ⟨a, ts, rfl, Option.some.inj h, .inl r.tag, o.kids⟩
    | _ => cases h
theorem lst_inv {u : T} {ow : Bool} (h : er u = .nd (.lst ow) xs) (o : Ok (S.wo X.K) B u) (r : Rb (S.wo X.K) H u) :
    ∃ a ts, val u = .ref a ∧ ts.map er = xs ∧ SqL X.K H a (vals ts) ∧ ∀ t ∈ ts, Ok (S.wo X.K) B t := by
  obtain ⟨a, ts, rfl, e⟩ := er_lst h
  exact ⟨a, ts, rfl, e, r.tag, o.kids⟩
/-- a new list of what is known -/
theorem new_list (g : Good B H L) {ts : List T} (ok : ∀ t ∈ ts, Ok (S.wo X.K) B t) (hs : allSh (ts.map er) = true)
    (k : ∀ (u : T) (H' : Hp), Good B H' (cells (S.wo X.K) u ++ L) → Ok (S.wo X.K) B u → er u = dL true (ts.map er) → Q (val u) H') (p : Addr) (hp : H p = none) : Q (.ref p) (upd H p (.lst (vals ts))) := by
  obtain ⟨g', o'⟩ := g.newL hp ok (shL ok hs)
  exact k (.nd (.lst p true) ts) _ g' o' (er_nd _ _)
theorem on_atom {r : List V → Hp → VK → Prop} {t : T} (hc : cells (S.wo X.K) t = []) (ho : ∀ B, Ok (S.wo X.K) B t) (he : er t = d) (h : ∀ (H : Hp) (us : List T) (Q : VK), us.map er = ds → (∀ u ∈ us, Rb (S.wo X.K) H u) → Q (val t) H → r (vals us) H Q) : ON (S.wo X.K) r ds d := by
  intro B H L us g ok rb e Q k
  exact h H us Q e rb (k t H (by rw [hc]; exact g) (ho B) he)
theorem vals_one {u : T} : vals [u] = [val u] := rfl
theorem len_on (h : (sizeOf? x).map (fun n => dI (n : Int)) = some d) : ON (S.wo X.K) (cC X (.builtin "len")) [x] d := by
  cases hs : sizeOf? x with
  | none => rw [hs] at h; cases h
  | some n =>
    rw [hs] at h
    cases h
    refine on_atom (t := tI n) (c_int _) (fun _ => ok_int _) (e_int _) fun H us Q e rb q => ?_
    obtain ⟨u, rfl, ee⟩ := map_one e
    have rb := rb u List.mem_cons_self
    cases u with
    | nd g ts =>
      rw [er_nd] at ee
      subst ee
      cases g with
      | tup a =>
        have e : (ts.map er).length = n := Option.some.inj hs
        exact cC_of call_len ⟨_, n, rfl, .inr ⟨_, rb.tag, by unfold vals; rw [List.length_map] at e ⊢; exact e.symm⟩, q⟩
      | lst a o =>
        have e : (ts.map er).length = n := Option.some.inj hs
        exact cC_of call_len ⟨_, n, rfl, .inl ⟨_, rb.tag, by unfold vals; rw [List.length_map] at e ⊢; exact e.symm⟩, q⟩
      | str z =>
        have hs : (if z.length ≤ lim then some z.length else none) = some n := hs
        split at hs
        · rename_i hz
          cases hs
          exact cC_of call_len ⟨_, _, rfl, ⟨by rw [← lim_eq]; exact hz, rfl⟩, q⟩
        · cases hs
      | dct a o ks lk =>
        have e : (ts.map er).length = n := Option.some.inj hs
        subst e
        obtain ⟨hd, hl⟩ := rb.tag
        intro pins s σ us I r
        obtain ⟨u, rfl, ru⟩ := vals1 r
        cases ru
        refine d_len I hd fun t s' I' => ⟨.int _, H, I', ⟨t, rfl⟩, ?_⟩
        have e2 : (ks.zip (vals ts)).length = (ts.map er).length := by
          unfold vals
          rw [List.length_zip, List.length_map, List.length_map, hl, Nat.min_self]
        rw [e2]
        exact q
      | _ => cases hs
theorem abs_on {a : Int} {k : List D} : ON (S.wo X.K) (cC X (.builtin "abs")) [.nd (.int a) k] (dI (if a < 0 then -a else a)) :=
  on_atom (t := tI _) (c_int _) (fun _ => ok_int _) (e_int _) fun H us Q e rb q => by
    obtain ⟨u, rfl, ee⟩ := map_one e
    rw [vals_one, er_int ee]
    exact cC_of call_abs ⟨a, rfl, q⟩
theorem neg_on {a : Int} {k : List D} : ON (S.wo X.K) (on1 (cU X (unaryOp .USub))) [.nd (.int a) k] (dI (-a)) :=
  on_atom (t := tI _) (c_int _) (fun _ => ok_int _) (e_int _) fun H us Q e rb q => by
    obtain ⟨u, rfl, ee⟩ := map_one e
    rw [vals_one, er_int ee]
    exact cU_of un_neg ⟨a, rfl, q⟩
theorem max_on (hc : X.calm = true) {a b : Int} {k k2 : List D} : ON (S.wo X.K) (cC X (.builtin "max")) [.nd (.int a) k, .nd (.int b) k2] (dI (if b > a then b else a)) :=
  on_atom (t := tI _) (c_int _) (fun _ => ok_int _) (e_int _) fun H us Q e rb q => by
    obtain ⟨u, v, rfl, ee, e2⟩ := map_two e
    show cC X _ [val u, val v] H Q
    rw [er_int ee, er_int e2]
    exact cC_of (call_max2 hc) ⟨a, b, rfl, q⟩
theorem min_on (hc : X.calm = true) {a b : Int} {k k2 : List D} : ON (S.wo X.K) (cC X (.builtin "min")) [.nd (.int a) k, .nd (.int b) k2] (dI (if b < a then b else a)) :=
  on_atom (t := tI _) (c_int _) (fun _ => ok_int _) (e_int _) fun H us Q e rb q => by
    obtain ⟨u, v, rfl, ee, e2⟩ := map_two e
    show cC X _ [val u, val v] H Q
    rw [er_int ee, er_int e2]
    exact cC_of (call_min2 hc) ⟨a, b, rfl, q⟩
theorem int_on {a : Int} {k : List D} : ON (S.wo X.K) (cC X (.type "int")) [.nd (.int a) k] (dI a) :=
  on_atom (t := tI _) (c_int _) (fun _ => ok_int _) (e_int _) fun H us Q e rb q => by
    obtain ⟨u, rfl, ee⟩ := map_one e
    rw [vals_one, er_int ee]
    exact cC_of call_int1 (.inl ⟨a, rfl, q⟩)
theorem intB_on {b : Bool} {k : List D} : ON (S.wo X.K) (cC X (.type "int")) [.nd (.bl b) k] (dI (if b then 1 else 0)) :=
  on_atom (t := tI _) (c_int _) (fun _ => ok_int _) (e_int _) fun H us Q e rb q => by
    obtain ⟨u, rfl, ee⟩ := map_one e
    rw [vals_one, er_bl ee]
    exact cC_of call_int1 (.inr ⟨b, rfl, q⟩)
theorem list_on (h : ((seqOf x).bind fun xs => if allSh xs then some (dL true xs) else none) = some d) : ON (S.wo X.K) (cC X (.type "list")) [x] d := by
  cases hs : seqOf x with
  | none => rw [hs] at h; cases h
  | some xs =>
    rw [hs] at h
    have h : (if allSh xs then some (dL true xs) else none) = some d := h
    split at h
    · rename_i sh
      cases h
      intro B H L us g ok rb e Q k
      obtain ⟨u, rfl, ee⟩ := map_one e
      rw [← ee] at hs
      obtain ⟨a, ts, ev, et, hq, okt⟩ := seq_inv hs (ok u List.mem_cons_self) (rb u List.mem_cons_self)
      subst et
      rw [vals_one, ev]
      exact cC_of call_list_of ⟨a, _, rfl, hq, new_list g okt sh k⟩
    · cases h
theorem all_on (hc : X.calm = true) {ow : Bool} {kds : List D} (h : (boolsOf kds).map (fun bs => dB (bs.all id)) = some d) : ON (S.wo X.K) (cC X (.builtin "all")) [.nd (.lst ow) kds] d := by
  cases hb : boolsOf kds with
  | none => rw [hb] at h; cases h
  | some bs =>
    rw [hb] at h
    cases h
    refine on_atom (t := tB' _) (c_bl _) (fun _ => ok_bl _) (e_bl _) fun H us Q e rb q => ?_
    obtain ⟨u, rfl, ee⟩ := map_one e
    obtain ⟨a, ts, rfl, et⟩ := er_lst ee
    have ev : ∀ (ts : List T) (kds : List D) (bs : List Bool), ts.map er = kds → boolsOf kds = some bs → vals ts = bs.map V.bl := by
      intro ts
      induction ts with
      | nil => intro kds bs e1 e2; subst e1; cases e2; rfl
      | cons t ts ih =>
        intro kds bs e1 e2
        subst e1
        cases ht : er t with
        | nd g k =>
          rw [List.map_cons, ht] at e2
          cases g with
          | bl b =>
            have e2 : (boolsOf (ts.map er)).map (fun bs => b :: bs) = some bs := e2
            cases hh : boolsOf (ts.map er) with
            | none => rw [hh] at e2; cases e2
            | some bs' =>
              rw [hh] at e2
              cases e2
              show val t :: vals ts = _
              rw [er_bl ht, ih _ _ rfl hh]
              rfl
          | _ => cases e2
    exact cC_of (cr_all hc) ⟨a, bs, rfl, by rw [← ev ts kds bs et hb]; exact (rb _ List.mem_cons_self).tag, q⟩
theorem rev_on {ow : Bool} {kds : List D} (h : (if allSh kds then some (dL true kds.reverse) else none) = some d) : ON (S.wo X.K) (on1 (rRev1 X)) [.nd (.lst ow) kds] d := by
  split at h
  · rename_i sh
    cases h
    intro B H L us g ok rb e Q k
    obtain ⟨u, rfl, ee⟩ := map_one e
    obtain ⟨a, ts, ev, et, hq, okt⟩ := lst_inv ee (ok u List.mem_cons_self) (rb u List.mem_cons_self)
    subst et
    rw [vals_one, ev]
    refine ⟨a, _, rfl, hq, fun p hp => ?_⟩
    have e1 : (vals ts).reverse = vals ts.reverse := by unfold vals; rw [List.map_reverse]
    rw [e1]
    refine new_list (S := S) (X := X) (Q := Q) g (ts := ts.reverse) (fun t ht => okt t (List.mem_reverse.mp ht)) ?_ (fun u H' g' o' e' => k u H' g' o' (by rw [e', List.map_reverse])) p hp
    rw [List.map_reverse]
    unfold allSh at sh ⊢
    rw [List.all_reverse]
    exact sh
  · cases h
theorem cut_mem {α : Type} {xs : List α} {lo hi : Option Int} {z : α} (h : z ∈ (xs.drop (HT.sIx xs.length 0 lo)).take (HT.sIx xs.length xs.length hi - HT.sIx xs.length 0 lo)) : z ∈ xs := List.mem_of_mem_drop (List.mem_of_mem_take h)
/-- a slice of a list -/
theorem slc_list {lo hi : Option Int} {x : D} {u : T} (h : slcD x lo hi = some d) (g : Good B H L) (ee : er u = x) (ok : Ok (S.wo X.K) B u) (rb : Rb (S.wo X.K) H u) (k : ∀ (u : T) (H' : Hp), Good B H' (cells (S.wo X.K) u ++ L) → Ok (S.wo X.K) B u → er u = d → Q (val u) H') : rSlL X.K (val u) lo hi H Q := by
  unfold slcD at h
  split at h
  · rename_i ts
    split at h
    · rename_i sh
      cases h
      obtain ⟨a, us, ev, et, hq, okt⟩ := lst_inv ee ok rb
      subst et
      rw [ev]
      refine ⟨a, _, rfl, hq, fun p hp => ?_⟩
      have e1 : cutV (vals us) lo hi = vals ((us.drop (HT.sIx us.length 0 lo)).take (HT.sIx us.length us.length hi - HT.sIx us.length 0 lo)) := by
        unfold cutV vals
        rw [List.length_map, List.map_take, List.map_drop]
      have e2 : cutD (us.map er) lo hi = ((us.drop (HT.sIx us.length 0 lo)).take (HT.sIx us.length us.length hi - HT.sIx us.length 0 lo)).map er := by
        unfold cutD
        rw [List.length_map, List.map_take, List.map_drop]
      rw [e1]
      refine new_list (S := S) (X := X) (Q := Q) g (ts := (us.drop (HT.sIx us.length 0 lo)).take (HT.sIx us.length us.length hi - HT.sIx us.length 0 lo)) (fun t ht => okt t (cut_mem ht)) ?_ (fun u H' g' o' e' => k u H' g' o' (by rw [e', e2])) p hp
      unfold allSh at sh ⊢
      rw [List.all_eq_true] at sh ⊢
      intro z hz
      obtain ⟨t, ht, rfl⟩ := List.mem_map.mp hz
      exact sh _ (List.mem_map.mpr ⟨t, cut_mem ht, rfl⟩)
    · cases h
  · cases h
theorem slo_on {i : Int} {kk : List D} (h : slcD x (some i) none = some d) : ON (S.wo X.K) (on2 (rSlo X)) [x, .nd (.int i) kk] d := by
  intro B H L us g ok rb e Q k
  obtain ⟨u1, u2, rfl, e1, e2⟩ := map_two e
  exact ⟨i, er_int e2, slc_list (S := S) h g e1 (ok _ List.mem_cons_self) (rb _ List.mem_cons_self) k⟩
theorem shi_on {i : Int} {kk : List D} (h : slcD x none (some i) = some d) : ON (S.wo X.K) (on2 (rShi X)) [x, .nd (.int i) kk] d := by
  intro B H L us g ok rb e Q k
  obtain ⟨u1, u2, rfl, e1, e2⟩ := map_two e
  exact ⟨i, er_int e2, slc_list (S := S) h g e1 (ok _ List.mem_cons_self) (rb _ List.mem_cons_self) k⟩
theorem slh_on {i j : Int} {kk k2 : List D} (h : slcD x (some i) (some j) = some d) : ON (S.wo X.K) (rSlh X) [x, .nd (.int i) kk, .nd (.int j) k2] d := by
  intro B H L us g ok rb e Q k
  obtain ⟨u1, us', rfl⟩ : ∃ u us', us = u :: us' := by cases us with
    | nil => cases e
    | cons u us' => exact ⟨u, us', rfl⟩
  injection e with e1 e
  obtain ⟨u2, u3, rfl, e2, e3⟩ := map_two e
  exact ⟨i, j, er_int e2, er_int e3, slc_list (S := S) h g e1 (ok _ List.mem_cons_self) (rb _ List.mem_cons_self) k⟩
theorem lrg_on {n : Int} {k : List D} (h : (if -(2 ^ 62) ≤ n ∧ n ≤ lim then some (dL true ((List.range n.toNat).map fun (i : Nat) => dI (i : Int))) else none) = some d) : ON (S.wo X.K) (on1 rLRg) [.nd (.int n) k] d := by
  split at h
  · rename_i hn
    cases h
    intro B H L us g ok rb e Q kk
    obtain ⟨u, rfl, ee⟩ := map_one e
    show rLRg (val u) H Q
    rw [er_int ee]
    have hn' : n ≤ 16777216 := (by have := hn.2; rw [lim_val] at this; exact this)
    have h0 := hn.1
    refine ⟨n, rfl, ⟨by decide, by decide, h0, by omega, by omega⟩, fun q hq => ?_⟩
    have e1 : rgV 0 n = vals ((List.range n.toNat).map fun i : Nat => tI (i : Int)) := by
      unfold rgV vals
      rw [List.map_map, Int.sub_zero]
      refine List.map_congr_left fun i _ => ?_
      show V.int (0 + (i : Int)) = V.int i
      rw [Int.zero_add]
    rw [e1]
    have e2 : ((List.range n.toNat).map fun i : Nat => tI (i : Int)).map er = (List.range n.toNat).map fun (i : Nat) => dI (i : Int) := by
      rw [List.map_map]
      exact List.map_congr_left fun i _ => e_int _
    refine new_list (S := S) (X := X) (Q := Q) g (fun t ht => ?_) ?_ (fun u H' g' o' e' => kk u H' g' o' (by rw [e', e2])) q hq
    · obtain ⟨i, _, rfl⟩ := List.mem_map.mp ht
      exact ok_int _
    · rw [e2]
      unfold allSh
      rw [List.all_eq_true]
      intro y hy
      obtain ⟨i, _, rfl⟩ := List.mem_map.mp hy
      rfl
  · cases h

/-! ## sorting -/
theorem toPL_map : ∀ {ds : List D} {ps : List PyData}, toPL ds = some ps → ds.map gP = ps
  | [], ps, h => by cases h; rfl
  | t :: ts, ps, h => by
    rw [toPL] at h
    cases ht : toP t with
    | none => rw [ht] at h; cases h
    | some p =>
      rw [ht] at h
      cases hl : toPL ts with
      | none => rw [hl] at h; cases h
      | some qs =>
        rw [hl] at h
        cases h
        rw [List.map_cons, toPL_map hl]
        congr 1
        unfold gP
        rw [ht]; rfl
theorem toPL_mem : ∀ {ds : List D} {ps : List PyData}, toPL ds = some ps → ∀ d ∈ ds, toP d = some (gP d)
  | [], ps, h, d, hd => by cases hd
  | t :: ts, ps, h, d, hd => by
    rw [toPL] at h
    cases ht : toP t with
    | none => rw [ht] at h; cases h
    | some p =>
      rw [ht] at h
      cases hl : toPL ts with
      | none => rw [hl] at h; cases h
      | some qs =>
        rcases List.mem_cons.mp hd with rfl | hd
        · unfold gP; rw [ht]; rfl
        · exact toPL_mem hl d hd
theorem sortOk_alike {ps : List PyData} (h : sortOk ps = true) : PySem.W.AllAlike ps ∧ PySem.W.Sortable ps ∧ (∀ p ∈ ps, p.depth ≤ 60) ∧ ps.length ≤ sizeLine := by
  unfold sortOk at h
  simp only [Bool.and_eq_true] at h
  obtain ⟨⟨⟨h1, h2⟩, h3⟩, h4⟩ := h
  refine ⟨fun d hd d' hd' => ?_, ?_, fun p hp => ?_, by rw [← lim_eq]; exact of_decide_eq_true h4⟩
  · unfold alikeAllB at h1
    rw [List.all_eq_true] at h1
    have := h1 d hd
    rw [List.all_eq_true] at this
    exact this d' hd'
  · rcases Bool.or_eq_true_iff.mp h2 with z | z
    · left
      intro d hd
      rw [List.all_eq_true] at z
      have := z d hd
      unfold isTup1 at this
      split at this
      · exact ⟨_, _, rfl⟩
      · cases this
    · right
      intro d hd
      rw [List.all_eq_true] at z
      have := z d hd
      unfold noTup at this
      refine ⟨fun e => ?_, fun xs e => ?_⟩
      · rw [e] at this; cases this
      · rw [e] at this; cases this
  · rw [List.all_eq_true] at h3
    exact of_decide_eq_true (h3 p hp)
def encT (t : T) : PyData := gP (er t)
theorem each_vals {s : Shared} {pins : List (Addr × Obj)} {σ : L2.St} (I : Inv X pins σ H s) : ∀ {ts : List T} {its : List Value}, Vals (vals ts) its → (∀ t ∈ ts, Rb (S.wo X.K) H t ∧ toP (er t) = some (encT t)) →
    PySem.W.EachIs (fun v t => RelV (val t) v) its ts ∧ PySem.W.EachIs (fun v t => ∃ as, Reads s.heap v (encT t) as) its ts
  | [], _, h, _ => by cases h; exact ⟨.nil, .nil⟩
  | t :: ts, _, h, hr => by
    cases h with
    | cons r rs =>
      obtain ⟨g1, g2⟩ := each_vals I rs fun x hx => hr x (List.mem_cons_of_mem _ hx)
      obtain ⟨rb, hp⟩ := hr t List.mem_cons_self
      exact ⟨.cons r g1, .cons (Dp.reads I _ _ _ (rb.dp t _ hp) r) g2⟩
theorem vals_each : ∀ {ts : List T} {its : List Value}, PySem.W.EachIs (fun v t => RelV (val t) v) its ts → Vals (vals ts) its
  | [], _, h => by cases h; exact .nil
  | t :: ts, _, h => by
    cases h with
    | cons r rs => exact .cons r (vals_each rs)
theorem sort_er (ts : List T) : (ts.mergeSort (PySem.W.dataLe false encT)).map er = (ts.map er).mergeSort leD :=
  (List.map_mergeSort fun a _ b _ => rfl)
theorem allSh_mem (h : allSh xs = true) : ∀ x ∈ xs, isSh x = true := by unfold allSh at h; rwa [List.all_eq_true] at h
theorem allSh_perm {ys : List D} (h : allSh xs = true) (p : ys.Perm xs) : allSh ys = true := by
  unfold allSh at h ⊢
  rw [List.all_eq_true] at h ⊢
  exact fun y hy => h y (p.mem_iff.mp hy)
/-- sorted, within a state -/
theorem sort_run {pins : List (Addr × Obj)} {σ : L2.St} {s : Shared} {l : Addr} {its : List Value} {ts : List T} (hu : X.A.units + 200 < cLine) (I : Inv X pins σ H s) (hl : s.heap.IsList l its.toArray) (rv : Vals (vals ts) its)
    (hr : ∀ t ∈ ts, Rb (S.wo X.K) H t ∧ toP (er t) = some (encT t)) (hs : sortOk (ts.map encT) = true) {Q : VK} (k : ∀ p, H p = none → Q (.ref p) (upd H p (.lst (vals (ts.mergeSort (PySem.W.dataLe false encT)))))) :
    wpAny (model X.prog X.w) X.A (call (.builtin "sorted") [.ref l]) (EP X pins σ Q) X.xe s := by
  obtain ⟨h1, h2, h3, h4⟩ := sortOk_alike hs
  obtain ⟨g1, g2⟩ := each_vals I rv hr
  rw [List.length_map] at h4
  refine PySem.W.sorted_data (enc := encT) hl g1 g2 h1 h2 h4 (fun t ht => ?_) fun out ho eo => ?_
  · have := h3 (encT t) (List.mem_map.mpr ⟨t, ht, rfl⟩)
    omega
  · obtain ⟨ep, he⟩ := sortedAll_at s.heap its out.toArray
    have hv := vals_each eo
    refine ⟨.ref _, upd H (s.heap.objs.size + 1) (.lst (vals (ts.mergeSort (PySem.W.dataLe false encT)))), I.laid (t' := s.toks) (fun b o e => sortedAll_old e) (Nat.le_succ _) ⟨?_, out, ep, hv, he⟩, rfl, k _ (I.hok.fresh (Nat.le_succ _))⟩
    unfold vals
    rw [List.length_map, List.length_mergeSort]
    exact h4
theorem sorted_on (hu : X.A.units + 200 < cLine) {ow : Bool} {kds : List D} (h : (sortD kds).map (dL true) = some d) : ON (S.wo X.K) (cC X (.builtin "sorted")) [.nd (.lst ow) kds] d := by
  unfold sortD at h
  cases hp : toPL kds with
  | none => rw [hp] at h; cases h
  | some ps =>
    rw [hp] at h
    have h : (if (sortOk ps && allSh kds) = true then some (kds.mergeSort leD) else none).map (dL true) = some d := h
    split at h
    · rename_i hs
      rw [Bool.and_eq_true] at hs
      cases h
      intro B H L us g ok rb e Q k
      obtain ⟨u, rfl, ee⟩ := map_one e
      obtain ⟨a, ts, rfl, et⟩ := er_lst ee
      have rb := rb _ List.mem_cons_self
      have ok := ok _ List.mem_cons_self
      subst et
      intro pins s σ us I rv
      obtain ⟨v, rfl, rw'⟩ := vals1 rv
      have ev : v = Value.ref a := rw'
      subst ev
      obtain ⟨its, r, pl, hz⟩ := I.list rb.tag
      have em : ts.map encT = ps := by rw [← toPL_map hp, List.map_map]; rfl
      refine sort_run (S := S) (ts := ts) hu I pl.isList r (fun t ht => ⟨rb.kids t ht, toPL_mem hp _ (List.mem_map.mpr ⟨t, ht, rfl⟩)⟩) (by rw [em]; exact hs.1) fun p hq => ?_
      have pm := List.mergeSort_perm ts (PySem.W.dataLe false encT)
      refine new_list (S := S) (X := X) (Q := Q) g (ts := ts.mergeSort (PySem.W.dataLe false encT)) (fun t ht => ok.kids t (pm.mem_iff.mp ht)) ?_ (fun u H' g' o' e' => k u H' g' o' (by rw [e', sort_er])) p hq
      exact allSh_perm hs.2 (pm.map er)
    · cases h
/-! ## repr, isinstance -/
mutual
theorem noD {K : PySem.W.Frag} {H : Hp} : ∀ (p : PyData) {v : V}, Dp K H v p → p.hasDict = false
  | .none, _, _ => by simp only [PyData.hasDict]
  | .bool _, _, _ => by simp only [PyData.hasDict]
  | .int _, _, _ => by simp only [PyData.hasDict]
  | .str _, _, _ => by simp only [PyData.hasDict]
  | .list ds, _, h => by
    cases h with
    | lst _ b => simp only [PyData.hasDict]; exact noDL ds b
  | .tuple ds, _, h => by
    cases h with
    | tup _ b => simp only [PyData.hasDict]; exact noDL ds b
  | .dict _, _, h => by cases h
theorem noDL {K : PySem.W.Frag} {H : Hp} : ∀ (ps : List PyData) {vs : List V}, DpAll K H vs ps → PyData.hasDictAll ps = false
  | [], _, _ => by simp only [PyData.hasDictAll]
  | p :: ps, _, h => by
    cases h with
    | cons a b => simp only [PyData.hasDictAll]; rw [noD p a, noDL ps b]; rfl
end
theorem repr_on (hu : X.A.units + 200 < cLine) (hg : X.A.guards = some []) (h : (toP x).bind (fun p => if (p.showable && decide (p.shown.length ≤ lim) && decide (p.depth ≤ 60)) = true then some (dS p.shown) else none) = some d) :
    ON (S.wo X.K) (cC X (.builtin "repr")) [x] d := by
  cases hp : toP x with
  | none => rw [hp] at h; cases h
  | some p =>
    rw [hp] at h
    have h : (if (p.showable && decide (p.shown.length ≤ lim) && decide (p.depth ≤ 60)) = true then some (dS p.shown) else none) = some d := h
    split at h
    · rename_i hs
      cases h
      simp only [Bool.and_eq_true, decide_eq_true_eq] at hs
      obtain ⟨⟨s1, s2⟩, s3⟩ := hs
      rw [lim_eq] at s2
      refine on_atom (t := tS p.shown) (c_str _) (fun _ => ok_str _) (e_str _) fun H us Q e rb q => ?_
      obtain ⟨u, rfl, ee⟩ := map_one e
      have dp := (rb u List.mem_cons_self).dp u p (by rw [ee]; exact hp)
      intro pins s σ us I rv
      obtain ⟨v, rfl, r⟩ := vals1 rv
      have nd := noD p dp
      obtain ⟨as, rd⟩ := Dp.reads I p (val u) v dp r
      cases rd with
      | none => exact PySem.P.repr_of_none ⟨.str _, H, I.tok _, ⟨_, rfl⟩, q⟩
      | bool b => exact PySem.P.repr_of_bool ⟨.str _, H, I.tok _, ⟨_, rfl⟩, q⟩
      | int i t => exact PySem.P.repr_of_int (of_decide_eq_true s1) ⟨.str _, H, I.tok _, ⟨_, rfl⟩, q⟩
      | str z t => exact PySem.P.repr_of_str ⟨.str _, H, I.tok _, ⟨_, rfl⟩, q⟩ s2
      | list h1 h2 h3 h4 => exact repr_of_reads' (.list h1 h2 h3 h4) s1 (PyData.noDict_hsm nd) hg (by omega) (fun _ _ e => e) (fun h' u tk hk => ⟨.str _, H, I.kept hk, ⟨_, rfl⟩, q⟩) s2
      | tuple h1 h2 h3 h4 => exact repr_of_reads' (.tuple h1 h2 h3 h4) s1 (PyData.noDict_hsm nd) hg (by omega) (fun _ _ e => e) (fun h' u tk hk => ⟨.str _, H, I.kept hk, ⟨_, rfl⟩, q⟩) s2
      | dict h1 h2 h3 h4 h5 => simp [PyData.hasDict] at nd
    · cases h
theorem isi_on {Φ : Prg} {t : Ty} (hc : ∀ c, ClsX X.K (S.ca c)) (hk : ∀ a : Option Ty, PySem.W.kitOne X.K (tyO S.ca a) (tyU S.ca t) = some (isiO Φ a t)) : ON (S.wo X.K) (fun vs => cC X (.builtin "isinstance") (vs ++ [tyV S.ca t])) [x] (dB (isiD Φ x t)) := by
  refine on_atom (t := tB' _) (c_bl _) (fun _ => ok_bl _) (e_bl _) fun H us Q e rb q => ?_
  obtain ⟨u, rfl, ee⟩ := map_one e
  have rb := rb u List.mem_cons_self
  refine cC_of call_isi ⟨val u, tyV S.ca t, tyO S.ca (tyOf x), tyU S.ca t, isiD Φ x t, rfl, tyV_rel _ _, ?_, hk _, q⟩
  subst ee
  cases u with
  | nd g ts =>
    rw [er_nd]
    cases g with
    | non => exact .base .non
    | bl b => exact .base (.bl b)
    | int b => exact .base (.int b)
    | str b => exact .base (.str b)
    | tup a =>
      rcases (show SqT X.K H a (vals ts) from rb.tag) with (e | ⟨o, e⟩) | ⟨o, its, n, e, c, _⟩
      · exact .base (.tup e)
      · exact .fTuple e
      · exact .kTuple e c
    | lst a ow =>
      rcases (show SqL X.K H a (vals ts) from rb.tag) with (e | ⟨o, e⟩) | ⟨o, its, n, e, c, _⟩
      · exact .base (.lst e)
      · exact .base (.frz e)
      · exact .kList e c
    | dct a ow ks lk =>
      rcases (show Rd H a (.dK (ks.zip (vals ts))) ∧ _ from rb.tag).1 with e | ⟨o, e⟩
      · exact .base (.dK e)
      · exact .fDict e
    | ins a dx ow C ns => exact .base (.ins (show H a = some (.ins (S.ca C) dx ((ns.map S.nm).zip (vals ts))) ∧ _ from rb.tag).1 (hc C).cls (hc C).at_ (hc C).get (hc C).tak (hc C).obj)
end
end VI
/-! VJd -/
namespace VI
open PySem L2 PyProof.Rows

/-! ## sorted(d): the keys of a dict -/
def keyT : Key → T
  | .inl i => tI i
  | .inr s => tS s
theorem keyT_er (k : Key) : er (keyT k) = keyD k := by
  cases k with
  | inl i => exact e_int i
  | inr s => exact e_str s
section
variable {S : Sg} {X : Cx} {ds xs : List D} {d x : D} {B H : Hp} {L : List Cell} {Q : VK}
theorem keyT_ok (k : Key) : Ok (S.wo X.K) B (keyT k) := by
  cases k with
  | inl i => exact ok_int i
  | inr s => exact ok_str s
theorem keyT_sh (ks : List Key) : allSh (ks.map keyD) = true := by
  unfold allSh
  rw [List.all_eq_true]
  intro y hy
  obtain ⟨k, _, rfl⟩ := List.mem_map.mp hy
  cases k <;> rfl
theorem key_is {k : Key} {v : Value} (h : keyIs k v = true) : RelV (val (keyT k)) v ∧ ∀ h : Heap, Reads h v (encT (keyT k)) [] := by
  rcases keyIs_shape h with ⟨i, t, ek, ev⟩ | ⟨z, t, ek, ev⟩
  · subst ek ev
    exact ⟨⟨t, rfl⟩, fun h => by
      have : encT (keyT (.inl i)) = .int i := by unfold encT; rw [keyT_er]; rfl
      rw [this]; exact .int i t⟩
  · subst ek ev
    exact ⟨⟨t, rfl⟩, fun h => by
      have : encT (keyT (.inr z)) = .str z := by unfold encT; rw [keyT_er]; rfl
      rw [this]; exact .str z t⟩
theorem keys_are : ∀ {ks : List Key} {vs : List Value}, vs.length = ks.length → (∀ (j : Nat) (k : Key) (v : Value), ks[j]? = some k → vs[j]? = some v → keyIs k v = true) →
    PySem.W.EachIs (fun v t => RelV (val t) v) vs (ks.map keyT) ∧ ∀ (h : Heap) (a : Addr), PySem.W.EachIs (fun v t => ∃ as, Reads h v (encT t) as ∧ a ∉ as) vs (ks.map keyT)
  | [], vs, hl, _ => by
    cases vs with
    | nil => exact ⟨.nil, fun _ _ => .nil⟩
    | cons _ _ => cases hl
  | k :: ks, vs, hl, h => by
    cases vs with
    | nil => cases hl
    | cons v vs =>
      obtain ⟨g1, g2⟩ := keys_are (ks := ks) (vs := vs) (Nat.succ.inj hl) fun j k v e1 e2 => h (j + 1) k v (by simpa using e1) (by simpa using e2)
      obtain ⟨r1, r2⟩ := key_is (h 0 k v rfl rfl)
      exact ⟨.cons r1 g1, fun hp a => .cons ⟨[], r2 hp, by simp⟩ (g2 hp a)⟩
theorem sortedD_run (hcalm : X.calm = true) (hu : X.A.units + 200 < cLine) {a : Addr} {kvs : List (Key × V)} {ks : List Key} (hd : Rd H a (.dK kvs)) (hks : kvs.map (·.1) = ks) (hs : sortOk ((ks.map keyT).map encT) = true)
    (q : ∀ p, H p = none → Q (.ref p) (upd H p (.lst (vals ((ks.map keyT).mergeSort (PySem.W.dataLe false encT)))))) : cC X (.builtin "sorted") [.ref a] H Q := by
  intro pins s σ us I r
  obtain ⟨u, rfl, rx⟩ := vals1 r
  cases rx
  obtain ⟨z, lo, vs, rel, dd⟩ := dk_rd I.hok hd
  obtain ⟨ep, hat⟩ := dd.dictAt
  have hkeys : vs.map (·.1) = ks := rel.keys.symm.trans hks
  obtain ⟨h1, h2, h3, h4⟩ := sortOk_alike hs
  have hl : vs.length = ks.length := by rw [← hkeys, List.length_map]
  have h16 : vs.length ≤ sizeLine := by rw [hl]; simpa using h4
  refine Calls.call_function_entry PyProof.Rows.kind_sorted PyProof.Rows.plain_sorted PyProof.Rows.entry_sorted (PyProof.Rows.args_sorted1 _) ?_
  unfold Builtin.«sorted»
  refine wpAny_bind (m := checkCount "sorted" 1 1 _) (wpAny_pure ?_)
  refine wpAny_bind (PySem.W.kdu_collect (A := X.A.in1) (PySem.W.kdl_dict (knd := mixKind X.prog X.w) (kvs := vs) (ep := ep) lo) (I.ok.hd hcalm) hat h16 fun h' tk acc hk hacc => ?_)
  have hal : acc.toList.length = ks.length := by rw [Array.length_toList, hacc.1, hl]
  obtain ⟨g1, g2⟩ := keys_are (ks := ks) hal fun j k v e1 e2 => by
    obtain ⟨k', x, e3, e4⟩ := hacc.2 j v (by rw [← Array.getElem?_toList]; exact e2)
    have e5 : (vs.map (·.1))[j]? = some k' := by rw [List.getElem?_map, e3]; rfl
    rw [hkeys, e1] at e5
    cases e5
    exact e4
  have I1 : Inv X pins σ H { s with heap := h', toks := tk } := I.kept hk
  refine wpAny_bind (wpAny_newList ?_ (by rw [hal]; simpa using h4))
  have hoL : (h'.push (seqObj "list" acc.toList.toArray 0)).get? h'.objs.size = some (seqObj "list" acc.toList.toArray 0) := Heap.get?_push_size _ rfl
  show wpAny _ _ _ _ _ { s with heap := h'.push (seqObj "list" acc.toList.toArray 0), toks := tk }
  refine wpAny_bind (wpAny_holding (PySem.W.list_sort_data (s := { s with heap := h'.push (seqObj "list" acc.toList.toArray 0), toks := tk }) (enc := encT) hoL g1 (g2 _ _) h1 h2 (by simpa using h4) (fun t ht => ?_) fun out ho eo => ?_))
  · have := h3 (encT t) (List.mem_map.mpr ⟨t, ht, rfl⟩)
    show X.A.units + 1 + 1 + _ < _
    omega
  obtain ⟨e', he'⟩ := PyProof.Rows.sortedHeap_at (vs := acc.toList) (out := out.toArray) hoL
  refine wpAny_pure ⟨_, rfl, .ref h'.objs.size, upd H h'.objs.size (.lst (vals ((ks.map keyT).mergeSort (PySem.W.dataLe false encT)))), I1.laid (t' := tk) (fun b u e => ?_) (Nat.le_refl _)
    (show ObjOk X.prog X.w _ _ _ (.lst _) from ⟨?_, out, e', vals_each eo, he'⟩), rfl, q _ (I1.hok.fresh (Nat.le_refl _))⟩
  · have hb : b < h'.objs.size := Heap.lt_size e
    rw [PyProof.Rows.sortedHeap_old (Nat.ne_of_lt hb) (by rw [size_push']; exact Nat.lt_succ_of_lt hb)]
    exact Heap.get?_push_of_some _ e
  · unfold vals
    rw [List.length_map, List.length_mergeSort]
    simpa using h4
theorem sortedD_on (hcalm : X.calm = true) (hu : X.A.units + 200 < cLine) {ow l : Bool} {ks : List Key} {ts : List D} (h0 : (if ks.length ≤ ts.length then (sortD (ks.map keyD)).map (dL true) else none) = some d) : ON (S.wo X.K) (cC X (.builtin "sorted")) [.nd (.dct ow l ks) ts] d := by
  obtain ⟨hlen0, h⟩ : ks.length ≤ ts.length ∧ (sortD (ks.map keyD)).map (dL true) = some d := by
    split at h0
    · exact ⟨by assumption, h0⟩
    · cases h0
  unfold sortD at h
  cases hp : toPL (ks.map keyD) with
  | none => rw [hp] at h; cases h
  | some ps =>
    rw [hp] at h
    have h : (if (sortOk ps && allSh (ks.map keyD)) = true then some ((ks.map keyD).mergeSort leD) else none).map (dL true) = some d := h
    split at h
    · rename_i hs
      rw [Bool.and_eq_true] at hs
      cases h
      intro B H L us g ok rb e Q k
      obtain ⟨u, rfl, ee⟩ := map_one e
      obtain ⟨ad, lk, tt, rfl, hlen, et⟩ := er_dct ee
      have rb := rb _ List.mem_cons_self
      have ek : (ks.map keyT).map er = ks.map keyD := by rw [List.map_map]; exact List.map_congr_left fun k _ => keyT_er k
      have em : (ks.map keyT).map encT = ps := by rw [← toPL_map hp, ← ek, List.map_map, List.map_map, List.map_map]; rfl
      have pm := List.mergeSort_perm (ks.map keyT) (PySem.W.dataLe false encT)
      have hz : (ks.zip (vals tt)).map (·.1) = ks := by
        rw [List.map_fst_zip]
        unfold vals
        rw [List.length_map, ← List.length_map (f := er), et]
        exact hlen0
      refine sortedD_run (ks := ks) hcalm hu rb.tag.1 hz (by rw [em]; exact hs.1) fun p hq => ?_
      refine new_list (S := S) (X := X) (Q := Q) g (ts := (ks.map keyT).mergeSort (PySem.W.dataLe false encT)) (fun t ht => ?_) ?_ (fun u H' g' o' e' => k u H' g' o' (by rw [e', sort_er, ek])) p hq
      · obtain ⟨kk, _, rfl⟩ := List.mem_map.mp (pm.mem_iff.mp ht)
        exact keyT_ok kk
      · refine allSh_perm (xs := ks.map keyD) hs.2 ?_
        rw [← ek]
        exact pm.map er
    · cases h
end
end VI
/-! VJs -/
namespace VI
open PySem L2 PyProof.Rows

section
variable {S : Sg} {X : Cx} {ds xs : List D} {d x : D} {B H : Hp} {L : List Cell} {Q : VK}
theorem vals_nil {ts : List T} (h : ts.map er = []) : ts = [] := List.map_eq_nil_iff.mp h
theorem set0_on (hcalm : X.calm = true) (hu : X.A.units + 200 < cLine) {ow : Bool} : ON (S.wo X.K) (opR X S .sortedset) [.nd (.lst ow) []] (dL true []) := by
  intro B H L us g ok rb e Q k
  obtain ⟨u, rfl, ee⟩ := map_one e
  obtain ⟨a, ts, rfl, et⟩ := er_lst ee
  have := vals_nil et
  subst this
  have rb := rb _ List.mem_cons_self
  refine cC_of (cr_setOfT hcalm (by omega)) ⟨a, [], rfl, rb.tag, by simp, by decide, fun b M hb h1 _ => ?_⟩
  have hM : M = [] := by
    cases M with
    | nil => rfl
    | cons p r => exact absurd (h1 p List.mem_cons_self) (by simp)
  subst hM
  refine cC_of (cr_sortedT hcalm) ⟨b, [], 1, 64, rfl, upd_same .., by simp, Nat.le_refl _, by simp, fun L' p hp _ _ _ hn => ?_⟩
  have hL : L' = [] := List.perm_nil.mp hp
  subst hL
  have g1 : Good B (upd H b (SetTO X.prog X.w b [])) L := Good.drop (L := [(b, SetTO X.prog X.w b [])]) (g.new hb)
  exact new_list (S := S) (X := X) (Q := Q) (ts := []) g1 (by simp) rfl (fun u H' g' o' e' => k u H' g' o' e') p hn
end
end VI
/-! VK -/
noncomputable section
namespace VI
open PySem L2 PyProof.Rows

/-! ## the program's static world -/
structure Sy where
  fns : List (Str × Nat)
  cls : List (Str × Nat)
  cons : List (Str × Nat)
  nms : List Str
  kwf : List ((Nat × Nat × List Str) × List Nat)
  kwm : List ((Nat × Nat × List Str) × List Nat)
  blt : List Str
structure Gb where
  P : Program
  w : World
  K : PySem.W.Frag
  mg : Str → Option Value
  base : Heap
  S : Sg
  Y : Sy
  Φ : Prg
  fa : Nat → Addr
  fd : Nat → FuncData
  ps : Nat → List Str
abbrev Gb.W (G : Gb) : Wo := G.S.wo G.K
def dndN : Nat → Str
  | 0 => "__len__"
  | 1 => "__eq__"
  | 2 => "__add__"
  | _ => "__contains__"
structure GOk (G : Gb) : Prop where
  blt : ∀ x ∈ G.Y.blt, G.mg x = none
  nm : ∀ i x, G.Y.nms[i]? = some x → G.S.nm i = x
  con : ∀ x n d, G.Y.cons.lookup x = some n → G.Φ.con n = some d → ∃ (t : T) (u : Value), G.mg x = some u ∧ RelV (val t) u ∧ er t = d ∧ cells G.W t = [] ∧ ∀ B, Ok G.W B t
  fn : ∀ x f, G.Y.fns.lookup x = some f → G.mg x = some (.ref (G.fa f)) ∧ PySem.W.keepIn G.K (.ref (G.fa f)) = true ∧ BindsG G.K (G.fd f) (G.ps f)
  cl : ∀ x c, G.Y.cls.lookup x = some c → G.mg x = some (.ref (G.S.ca c))
  clx : ∀ c, ClsX G.K (G.S.ca c)
  mke : ∀ c f, G.Φ.ini c = some f → Mk G.K (G.S.ca c) (G.fa f) ∧ BindsG G.K (G.fd f) (G.ps f)
  mth : ∀ c m f, G.Φ.mth c m = some f → Meth G.K (G.S.ca c) (G.S.nm m) (G.fa f) ∧ BindsG G.K (G.fd f) (G.ps f)
  prp : ∀ c m f, G.Φ.prp c m = some f → ∃ q, PropOf G.K (G.S.ca c) (G.S.nm m) q (G.fa f) ∧ BindsG G.K (G.fd f) (G.ps f)
  fld : ∀ c f, G.Φ.isf c f = true → NoAttr G.K (G.S.ca c) (G.S.nm f)
  dnd : ∀ c k f, G.Φ.dnd c k = some f → PySem.W.findIn G.K (.ref (G.S.ca c)) (dndN k) = some (some (.ref (G.fa f))) ∧ PySem.W.isFn G.K (.ref (G.fa f)) = true ∧ PySem.W.selfFirst G.K (G.S.ca c) = true ∧ BindsG G.K (G.fd f) (G.ps f)
  sbk : ∀ (a : Option Ty) (c f : Nat), G.Φ.dnd c 1 = some f → PySem.W.subIn G.K (tyO G.S.ca a) (.ref (G.S.ca c)) = some (subO G.Φ a c)
  sne : ∀ (c c' f f' : Nat), G.Φ.dnd c 1 = some f → G.Φ.dnd c' 1 = some f' → c' ≠ c → G.S.ca c' ≠ G.S.ca c
  kwf : ∀ (f n : Nat) (ks : List Str) (pm : List Nat), G.Y.kwf.lookup (f, n, ks) = some pm → ∀ (s : Shared) (us ws l : List Value), G.K.In s.heap → us.length = n → ws.length = ks.length → permL pm (us ++ ws) = some l → BindsTo s (G.fd f) ⟨us, ks.zip ws⟩ ((G.ps f).zip l)
  kwm : ∀ (c f n : Nat) (ks : List Str) (pm : List Nat), G.Φ.ini c = some f → G.Y.kwm.lookup (c, n, ks) = some pm → ∀ (s : Shared) (x : Value) (us ws l : List Value), G.K.In s.heap → us.length = n → ws.length = ks.length → permL pm (us ++ ws) = some l → BindsTo s (G.fd f) ⟨x :: us, ks.zip ws⟩ ((G.ps f).zip (x :: l))
  isi : ∀ (a : Option Ty) (t : Ty), PySem.W.kitOne G.K (tyO G.S.ca a) (tyU G.S.ca t) = some (isiO G.Φ a t)
/-- the defs keep what cl says, with this room -/
structure Calls (G : Gb) (cl : Cl) (k : Nat) : Prop where
  go : ∀ f, FnG G.P G.w G.K G.mg G.base k (G.fa f) (G.fd f) (G.ps f) (spV G.W cl f)
  ar : ∀ f ds r, cl f ds = some r → ds.length = (G.ps f).length
structure XOk (G : Gb) (k : Nat) (N : List Str) (tp : Bool) (sc : Scope) (X : Cx) : Prop where
  prog : X.prog = G.P
  w : X.w = G.w
  K : X.K = G.K
  mg : X.mg = G.mg
  base : X.base = G.base
  nd : N.Nodup
  N : X.N = N
  sc : X.env.scope = sc
  calm : X.calm = true
  room : Room (k + 1) X.A
  gu : X.A.guards = some []
  fn : tp = true → ∀ x, X.fn x = true
  pas : PassesOwn (model X.prog X.w) X.A X.env X.xe

structure Md where
  G : Gb
  cl : Cl
  k : Nat
  N : List Str
structure Md.Ok (M : Md) : Prop where
  g : GOk M.G
  c : Calls M.G M.cl M.k
abbrev Md.W (M : Md) : Wo := M.G.W
abbrev Md.ev (M : Md) := evB M.G.Φ M.cl
/-- e is c -/
def SE (M : Md) (sc : Scope) (e : Expr) (c : C) : Prop := ∀ (tp : Bool) (X : Cx), XOk M.G M.k M.N tp sc X → ∀ (z : Nat) (Γ : Ctx) (r : BR), evB M.G.Φ M.cl z c Γ = some r → BJ M.W (wE X e) Γ r
def ST (M : Md) (sc : Scope) (e : Expr) (c : C) : Prop := ∀ (tp : Bool) (X : Cx), XOk M.G M.k M.N tp sc X → ∀ (z : Nat) (Γ : Ctx) (b : Bool) (Γ' : Ctx) (q : Bool), evT M.G.Φ M.cl z c Γ = some (b, Γ', q) → TJ M.W (wT X e) Γ Γ' q b
structure SA (M : Md) (sc : Scope) (es : List Expr) (cs : List C) : Prop where
  ns : ∀ e ∈ es, notStar e = true
  go : ∀ (tp : Bool) (X : Cx), XOk M.G M.k M.N tp sc X → ∀ (z : Nat) (Γ : Ctx) (rs : List Rd') (Γ' : Ctx) (q : Bool), evAs M.G.Φ M.cl z cs Γ = some (rs, Γ', q) → AJ M.W (aT X es) Γ rs Γ' q

section
variable {Φ : Prg} {cl : Cl} {z : Nat} {Γ : Ctx}
theorem obind {α β : Type} {o : Option α} {f : α → Option β} {b : β} (h : o.bind f = some b) : ∃ a, o = some a ∧ f a = some b := by
  cases o with
  | none => cases h
  | some a => exact ⟨a, rfl, h⟩
theorem omap {α β : Type} {o : Option α} {f : α → β} {b : β} (h : o.map f = some b) : ∃ a, o = some a ∧ f a = b := by
  cases o with
  | none => cases h
  | some a => exact ⟨a, rfl, Option.some.inj h⟩
theorem evT_inv {c : C} {b : Bool} {Γ' : Ctx} {q : Bool} (h : evT Φ cl z c Γ = some (b, Γ', q)) : ∃ z', z = z' + 1 ∧ ∃ d, evB Φ cl z' c Γ = some (.vl d Γ' q) ∧ truth d = some b := by
  cases z with
  | zero => simp [evT] at h
  | succ z =>
    refine ⟨z, rfl, ?_⟩
    rw [evT] at h
    obtain ⟨r, h1, h2⟩ := obind h
    cases r with
    | pl j π d => cases h2
    | vl d Γ1 q1 =>
      obtain ⟨x, h3, h4⟩ := omap h2
      cases h4
      exact ⟨d, h1, h3⟩
theorem truth_inv {d : D} {b : Bool} (h : truth d = some b) : ∃ k, d = .nd (.bl b) k := by
  unfold truth at h
  split at h
  · cases h; exact ⟨_, rfl⟩
  · cases h
end

section
variable {M : Md} {sc : Scope} {e a b c : Expr} {ca cb cc : C} {es : List Expr} {cs : List C} {pos p : Pos} {X : Cx} {tp : Bool} {W : Wo} {Γ Γ' Γ1 : Ctx} {q q1 : Bool} {d : D} {te : TE}
theorem XOk.eW (x : XOk M.G M.k M.N tp sc X) : M.W = M.G.S.wo X.K := by
  unfold Md.W Gb.W
  rw [x.K]
theorem SE.bad : SE M sc e .bad := fun tp X x z Γ r h => by
  cases z <;> simp [evB] at h
/-! ### atoms -/
theorem ej_atom {t : T} (hc : cells W t = []) (ho : ∀ B, Ok W B t) (he : er t = d) (h : ∀ (σ : L2.St) (H : Hp) (Q : VK), Q (val t) H → te σ H Q) : EJ W te Γ Γ true d :=
  fun B Ts F σ H a g Q k => h σ H Q (k B Ts t H (Ext.refl _) (by rw [hc]; exact a) g (ho B) he fun _ => rfl)
theorem SE.int {i : Int} {j : Nat} : SE M sc (.Constant (.int i) j pos) (.k (dI i)) := fun tp X x z Γ r h => by
  cases z with
  | zero => simp [evB] at h
  | succ z => rw [evB] at h; cases h; exact ej_atom (c_int _) (fun _ => ok_int i) (e_int _) fun σ H Q q => wE_of pe_int q
theorem SE.bl {i : Bool} {j : Nat} : SE M sc (.Constant (.bool i) j pos) (.k (dB i)) := fun tp X x z Γ r h => by
  cases z with
  | zero => simp [evB] at h
  | succ z => rw [evB] at h; cases h; exact ej_atom (c_bl _) (fun _ => ok_bl i) (e_bl _) fun σ H Q q => wE_of pe_bl q
theorem SE.str {i : Str} {j : Nat} : SE M sc (.Constant (.str i) j pos) (.k (dS i)) := fun tp X x z Γ r h => by
  cases z with
  | zero => simp [evB] at h
  | succ z => rw [evB] at h; cases h; exact ej_atom (c_str _) (fun _ => ok_str i) (e_str _) fun σ H Q q => wE_of pe_str q
theorem SE.non {j : Nat} : SE M sc (.Constant .none j pos) (.k dN) := fun tp X x z Γ r h => by
  cases z with
  | zero => simp [evB] at h
  | succ z => rw [evB] at h; cases h; exact ej_atom (c_non) (fun _ => ok_non) (e_non) fun σ H Q q => wE_of pe_non q
def visB (sc : Scope) (x : Str) : Bool := match sc.names.lookup x with
  | some .local => true
  | some .cell => true
  | some .free => true
  | _ => false
def okName (x : Str) : Bool := !(x == ("__debug__" : Str)) && !(x == ("__classdict__" : Str)) && !(x == ("__name__" : Str))
theorem okName_d {x : Str} (h : okName x = true) : (x == ("__debug__" : Str)) = false ∧ (x == ("__classdict__" : Str)) = false ∧ x ≠ "__name__" := by
  unfold okName at h
  simp only [Bool.and_eq_true, Bool.not_eq_true'] at h
  refine ⟨h.1.1, h.1.2, fun e => ?_⟩
  have := h.2
  rw [e] at this
  simp at this
theorem vis_of {x : Str} (h : visB sc x = true) : Vis sc x := by
  unfold visB at h
  split at h
  · left; assumption
  · right; left; assumption
  · right; right; assumption
  · cases h
theorem SE.var {x : Str} {i : Nat} (hi : M.N[i]? = some x) (hv : visB sc x = true) (hn : okName x = true) : SE M sc (.Name x p) (.v i) := fun tp X xo z Γ r h => by
  have pv : PE X (.Name x p) (tVar i) := pe_var (by rw [xo.N]; exact hi) (by rw [xo.sc]; exact vis_of hv) (okName_d hn).1 (okName_d hn).2.1
  cases z with
  | zero => simp [evB] at h
  | succ z =>
    rw [evB] at h
    split at h
    · rename_i d hd
      by_cases hs : isSh d = true
      · rw [if_pos hs] at h
        cases h
        intro B Ts F σ H a g Q k
        subst g
        obtain ⟨t, ht, rfl⟩ := erC_get hd
        obtain ⟨o, hσ⟩ := a.ok i t ht
        exact wE_of pv ⟨val t, hσ, k B Ts t H (Ext.refl _) (by rw [o.shc hs]; exact a) rfl o rfl fun _ => rfl⟩
      · rw [if_neg hs] at h
        cases h
        intro B Ts F σ H a g Q k
        subst g
        obtain ⟨t, ht, rfl⟩ := erC_get hd
        obtain ⟨o, hσ⟩ := a.ok i t ht
        exact wE_of pv ⟨val t, hσ, k B H t t (Ext.refl _) a ht (Tr.at_nil t) rfl⟩
    · rename_i j π hd
      obtain ⟨d, h1, h2⟩ := obind h
      by_cases hs : isSh d = true
      · rw [if_pos hs] at h2
        cases h2
        intro B Ts F σ H a g Q k
        subst g
        obtain ⟨t, u, ht, hu, hσ⟩ := a.al i j π (erC_al hd)
        have e1 := getE_of ht hu
        rw [h1] at e1
        cases e1
        have o := at_ok hu (a.ok j t ht).1
        exact wE_of pv ⟨val u, hσ, k B Ts u H (Ext.refl _) (by rw [o.shc hs]; exact a) rfl o rfl fun _ => rfl⟩
      · rw [if_neg hs] at h2
        cases h2
        intro B Ts F σ H a g Q k
        subst g
        obtain ⟨t, u, ht, hu, hσ⟩ := a.al i j π (erC_al hd)
        have e1 := getE_of ht hu
        rw [h1] at e1
        cases e1
        exact wE_of pv ⟨val u, hσ, k B H t u (Ext.refl _) a ht hu rfl⟩
    · cases h
def glB (sc : Scope) (x : Str) : Bool := match sc.names.lookup x with
  | some .globalImplicit => true
  | _ => false
theorem gl_of {x : Str} (xo : XOk M.G M.k M.N tp sc X) (h : glB sc x = true) : Gl X x := by
  unfold glB at h
  split at h
  · rename_i e
    show X.env.scope.names.lookup x = _
    rw [xo.sc]
    exact e
  · cases h
theorem SE.con (mo : M.Ok) {x : Str} {n : Nat} (hc : M.G.Y.cons.lookup x = some n) (hg : glB sc x = true) (hn : okName x = true) : SE M sc (.Name x p) (.g n) := fun tp X xo z Γ r h => by
  cases z with
  | zero => simp [evB] at h
  | succ z =>
    rw [evB] at h
    obtain ⟨d, h1, h2⟩ := omap h
    cases h2
    obtain ⟨t, u, g1, g2, g3, g4, g5⟩ := mo.g.con x n d hc h1
    exact ej_atom g4 g5 g3 fun σ H Q q => wE_of (pe_glob (gl_of xo hg) (by rw [xo.mg]; exact g1) g2 (okName_d hn).1) q
/-! ### arguments -/
theorem SA.nil : SA M sc [] [] := ⟨fun _ h => absurd h (by simp), fun tp X xo z Γ rs Γ' q h => by
  cases z with
  | zero => simp [evAs] at h
  | succ z => rw [evAs] at h; cases h; exact AJ.nil⟩
theorem SA.cons (ns : notStar e = true) (h1 : SE M sc e ca) (h2 : SA M sc es cs) : SA M sc (e :: es) (ca :: cs) := ⟨fun x hx => by
    rcases List.mem_cons.mp hx with rfl | hx
    · exact ns
    · exact h2.ns x hx, fun tp X xo z Γ rs Γ' q h => by
  cases z with
  | zero => simp [evAs] at h
  | succ z =>
    rw [evAs] at h
    obtain ⟨r, g1, g2⟩ := obind h
    have b1 := h1 tp X xo z Γ r g1
    cases r with
    | pl j π d =>
      obtain ⟨⟨rs', Γ1, q1⟩, g3, g4⟩ := obind g2
      dsimp only at g4
      split at g4
      · rename_i hq
        cases g4
        exact AJ.consP b1 (h2.go tp X xo z _ _ _ _ g3) hq
      · cases g4
    | vl d Γ1 q1 =>
      obtain ⟨⟨rs', Γ2, q2⟩, g3, g4⟩ := omap g2
      cases g4
      exact AJ.consV b1 (h2.go tp X xo z _ _ _ _ g3)⟩
end
end VI
/-! VL -/
noncomputable section
namespace VI
open PySem L2 PyProof.Rows

section
variable {M : Md} {sc : Scope} {e a b c : Expr} {ca cb cc : C} {es rest : List Expr} {cs : List C} {pos p p2 : Pos} {X : Cx} {tp : Bool} {Γ Γ' Γ1 : Ctx} {q q1 : Bool} {d : D} {te : TE} {o : Op} {x : Str}
theorem XOk.un (xo : XOk M.G M.k M.N tp sc X) : X.A.units + 200 < cLine := by have := xo.room.un; omega
/-- the operations -/
theorem opD_on' (mo : M.Ok) (xo : XOk M.G M.k M.N tp sc X) {ds : List D} (h : opX M.G.Φ o ds = some d) : ON M.W (opR X M.G.S o) ds d := by
  rw [xo.eW]
  have hu := xo.un
  rw [opX_eq] at h
  unfold opD at h
  split at h
  · exact bin_on h
  · exact cmp_on (by omega) h
  · cases h; exact neg_on
  · exact len_on h
  · cases h; exact abs_on
  · cases h; exact max_on xo.calm
  · cases h; exact min_on xo.calm
  · cases h; exact int_on
  · cases h; exact intB_on
  · exact list_on h
  · exact sortedD_on xo.calm hu h
  · exact sorted_on hu h
  · cases h; exact set0_on xo.calm hu
  · exact repr_on hu xo.gu h
  · exact all_on xo.calm h
  · cases h
    exact isi_on (fun c => by rw [xo.K]; exact mo.g.clx c) (fun a => by rw [xo.K]; exact mo.g.isi a _)
  · exact rev_on h
  · exact slo_on h
  · exact shi_on h
  · exact slh_on h
  · exact lrg_on h
  · cases h
theorem opD_on (mo : M.Ok) (xo : XOk M.G M.k M.N tp sc X) {ds : List D} (ho : o ≠ .sortedset) (h : opX M.G.Φ o ds = some d) : ON M.W (opR X M.G.S o) ds d := opD_on' mo xo h
theorem SE.op (mo : M.Ok) (ho : o ≠ .sortedset) (hnd : ∀ ds, dspD M.G.Φ o ds = none) (sa : SA M sc es cs) (hp : ∀ (tp : Bool) (X : Cx), XOk M.G M.k M.N tp sc X → PE X e (fun σ H Q => aT X es σ H fun vs H1 => opR X M.G.S o vs H1 Q)) : SE M sc e (.op o cs) := fun tp X xo z Γ r h => by
  cases z with
  | zero => simp [evB] at h
  | succ z =>
    rw [evB] at h
    obtain ⟨⟨rs, Γ', q⟩, h1, h2⟩ := obind h
    obtain ⟨ds, h3, h4⟩ := obind h2
    split at h4
    · rename_i d h5
      cases h4
      exact ((sa.go tp X xo z Γ rs Γ' q h1).on h3 (opD_on mo xo ho h5)).lift (hp tp X xo)
    · rw [hnd] at h4
      cases h4
theorem nd_bin {Φ : Prg} {op : Operator} (h : op ≠ .Add) (ds : List D) : dspD Φ (.bin op) ds = none := by
  unfold dspD
  split <;> first | rfl | (rename_i e; cases e) | (rename_i e _; cases e) | skip
  all_goals first | rfl | (exfalso; simp_all)
theorem nd_cmp {Φ : Prg} {op : CmpOp} (h : op ≠ .Eq) (ds : List D) : dspD Φ (.cmp op) ds = none := by
  unfold dspD
  split <;> first | rfl | (rename_i e; cases e) | (rename_i e _; cases e) | skip
  all_goals first | rfl | (exfalso; simp_all)
theorem SA.one (ns : notStar a = true) (h1 : SE M sc a ca) : SA M sc [a] [ca] := .cons ns h1 .nil
theorem SA.two (n1 : notStar a = true) (n2 : notStar b = true) (h1 : SE M sc a ca) (h2 : SE M sc b cb) : SA M sc [a, b] [ca, cb] := .cons n1 h1 (.one n2 h2)
theorem SE.bin (mo : M.Ok) (n1 : notStar a = true) (n2 : notStar b = true) (h1 : SE M sc a ca) (h2 : SE M sc b cb) {op : Operator} (hop : op ≠ .Add) : SE M sc (.BinOp a op b pos) (.op (.bin op) [ca, cb]) :=
  .op mo (fun z => by cases z) (nd_bin hop) (.two n1 n2 h1 h2) fun tp X xo => ⟨(pe_op or_cO pe_w pe_w).run⟩
theorem SE.cmp (mo : M.Ok) (n1 : notStar a = true) (n2 : notStar b = true) (h1 : SE M sc a ca) (h2 : SE M sc b cb) {op : CmpOp} (hop : op ≠ .Eq) (hm : behindInMarks op b = false) : SE M sc (.Compare a [op] [b] pos) (.op (.cmp op) [ca, cb]) :=
  .op mo (fun z => by cases z) (nd_cmp hop) (.two n1 n2 h1 h2) fun tp X xo => ⟨(pe_cmpR or_cO pe_w pe_w hm).run⟩
theorem SE.neg (mo : M.Ok) (n1 : notStar a = true) (h1 : SE M sc a ca) : SE M sc (.UnaryOp .USub a pos) (.op .neg [ca]) :=
  .op mo (fun z => by cases z) (fun ds => rfl) (.one n1 h1) fun tp X xo => ⟨(pe_un ur_cU pe_w).run⟩
theorem mg_of (mo : M.Ok) (xo : XOk M.G M.k M.N tp sc X) (h : M.G.Y.blt.contains x = true) : X.mg x = none := by
  rw [xo.mg]
  exact mo.g.blt x (List.contains_iff_mem.mp h)
/-- a built-in function -/
theorem SE.bf (mo : M.Ok) (ho : o ≠ .sortedset) (hnd : ∀ ds, dspD M.G.Φ o ds = none) (sa : SA M sc (e :: es) cs) {id : String} (hr : ∀ X : Cx, opR X M.G.S o = cC X (.builtin id)) (hv : bootBuiltins x = some (.builtin id)) (hb : M.G.Y.blt.contains x = true) (hg : glB sc x = true) (hn : okName x = true) : SE M sc (.Call (.Name x p) (e :: es) [] pos) (.op o cs) :=
  .op mo ho hnd sa fun tp X xo => by
    rw [hr]
    exact pe_callB cr_cC (gl_of xo hg) (mg_of mo xo hb) hv (pa_aT sa.ns) (okName_d hn).2.2 (okName_d hn).1 (starEach_cons (sa.ns _ List.mem_cons_self)) (noStar_any fun z hz => sa.ns z (List.mem_cons_of_mem _ hz))
theorem SE.bt (mo : M.Ok) (ho : o ≠ .sortedset) (hnd : ∀ ds, dspD M.G.Φ o ds = none) (sa : SA M sc (e :: es) cs) {id : String} (hr : ∀ X : Cx, opR X M.G.S o = cC X (.type id)) (hv : bootBuiltins x = some (.type id)) (hb : M.G.Y.blt.contains x = true) (hg : glB sc x = true) (hn : okName x = true) : SE M sc (.Call (.Name x p) (e :: es) [] pos) (.op o cs) :=
  .op mo ho hnd sa fun tp X xo => by
    rw [hr]
    exact pe_callTy cr_cC (gl_of xo hg) (mg_of mo xo hb) hv (pa_aT sa.ns) (okName_d hn).2.2 (okName_d hn).1 (starEach_cons (sa.ns _ List.mem_cons_self)) (noStar_any fun z hz => sa.ns z (List.mem_cons_of_mem _ hz))
/-- isinstance -/
def tyN (Y : Sy) (y : Str) : Option Ty := match Y.cls.lookup y with
  | some c => some (.cls c)
  | none => if Y.blt.contains y = true then match bootBuiltins y with
    | some (.type "int") => some .int
    | some (.type "bool") => some .bool
    | some (.type "str") => some .str
    | some (.type "list") => some .list
    | some (.type "tuple") => some .tuple
    | some (.type "dict") => some .dict
    | _ => none else none
theorem pe_ty (mo : M.Ok) (xo : XOk M.G M.k M.N tp sc X) {y : Str} {t : Ty} (h : tyN M.G.Y y = some t) (hg : glB sc y = true) (hn : okName y = true) : PE X (.Name y p) (tC (tyV M.G.S.ca t)) := by
  have gl := gl_of xo hg
  have nd := okName_d hn
  unfold tyN at h
  split at h
  · rename_i c hc
    cases h
    exact pe_glob gl (by rw [xo.mg]; exact mo.g.cl y c hc) rfl nd.1
  · split at h
    · rename_i hb
      have hm := mg_of mo xo hb
      split at h <;> first
        | (rename_i hv; cases h; exact pe_bltn gl hm hv rfl nd.2.2 nd.1)
        | cases h
    · cases h
theorem SE.isi (mo : M.Ok) (n1 : notStar a = true) (h1 : SE M sc a ca) {y : Str} {t : Ty} (ht : tyN M.G.Y y = some t) (hg2 : glB sc y = true) (hn2 : okName y = true) (hb : M.G.Y.blt.contains "isinstance" = true) (hg : glB sc "isinstance" = true) :
    SE M sc (.Call (.Name "isinstance" p) [a, .Name y p2] [] pos) (.op (.isi t) [ca]) :=
  .op mo (fun z => by cases z) (fun ds => rfl) (.one n1 h1) fun tp X xo => ⟨(pe_callB cr_cC (gl_of xo hg) (mg_of mo xo hb) (by decide +kernel) (pa_cons pe_w (pa_cons (pe_ty mo xo ht hg2 hn2) pa_nil rfl) (starEach_cons n1)) (by decide) (by decide) (starEach_cons n1) rfl).run⟩
theorem SE.rev (mo : M.Ok) (n1 : notStar a = true) (h1 : SE M sc a ca) {k : Nat} {p1 p2 p3 : Pos} : SE M sc (.Subscript a (.Slice none none (some (.UnaryOp .USub (.Constant (.int 1) k p1) p2)) p3) pos) (.op .rev [ca]) :=
  .op mo (fun z => by cases z) (fun ds => rfl) (.one n1 h1) fun tp X xo => ⟨(pe_revL pe_w).run⟩
theorem wEs_mono {σ : L2.St} {H : Hp} {Q Q' : VK} (h : wE X e σ H Q) (k : ∀ v H', Q v H' → Q' v H') : wE X e σ H Q' := fun pins s I =>
  wpAny_mono (h pins s I) (fun u s' ⟨v, H', I', r, q⟩ => ⟨v, H', I', r, k v H' q⟩) fun _ _ z => z
theorem SE.slo (mo : M.Ok) (n1 : notStar a = true) (n2 : notStar b = true) (h1 : SE M sc a ca) (h2 : SE M sc b cb) {p3 : Pos} : SE M sc (.Subscript a (.Slice (some b) none none p3) pos) (.op .slo [ca, cb]) :=
  .op mo (fun z => by cases z) (fun ds => rfl) (.two n1 n2 h1 h2) fun tp X xo => ⟨fun pins s σ H Q I h => (pe_slice sl_list pe_w (po_some pe_w) po_none).run pins s σ H Q I
    (wEs_mono (e := a) h fun v H1 h1 => wEs_mono (e := b) h1 fun w H2 ⟨i, e, h2⟩ => ⟨i, e, h2⟩)⟩
theorem SE.shi (mo : M.Ok) (n1 : notStar a = true) (n2 : notStar b = true) (h1 : SE M sc a ca) (h2 : SE M sc b cb) {p3 : Pos} : SE M sc (.Subscript a (.Slice none (some b) none p3) pos) (.op .shi [ca, cb]) :=
  .op mo (fun z => by cases z) (fun ds => rfl) (.two n1 n2 h1 h2) fun tp X xo => ⟨fun pins s σ H Q I h => (pe_slice sl_list pe_w po_none (po_some pe_w)).run pins s σ H Q I
    (wEs_mono (e := a) h fun v H1 h1 => wEs_mono (e := b) h1 fun w H2 ⟨i, e, h2⟩ => ⟨i, e, h2⟩)⟩
/-- sorted(set(xs)) -/
theorem SE.sset (mo : M.Ok) (n1 : notStar a = true) (h1 : SE M sc a ca) {pos' : Pos} (hb : M.G.Y.blt.contains "sorted" = true) (hg : glB sc "sorted" = true) (hb2 : M.G.Y.blt.contains "set" = true) (hg2 : glB sc "set" = true) :
    SE M sc (.Call (.Name "sorted" p) [.Call (.Name "set" p2) [a] [] pos] [] pos') (.op .sortedset [ca]) := fun tp X xo z Γ r h => by
  have hp : PE X (.Call (.Name "sorted" p) [.Call (.Name "set" p2) [a] [] pos] [] pos') (fun σ H Q => aT X [a] σ H fun vs H1 => opR X M.G.S .sortedset vs H1 Q) :=
    ⟨(pe_callB cr_cC (gl_of xo hg) (mg_of mo xo hb) (by decide +kernel) (pa_cons (pe_callTy cr_cC (gl_of xo hg2) (mg_of mo xo hb2) (by decide +kernel) (pa_aT (SA.one n1 h1).ns) (by decide) (by decide) (starEach_cons n1) rfl) pa_nil rfl) (by decide) (by decide) (starEach_cons rfl) rfl).run⟩
  cases z with
  | zero => simp [evB] at h
  | succ z =>
    rw [evB] at h
    obtain ⟨⟨rs, Γ', q⟩, h1', h2⟩ := obind h
    obtain ⟨ds, h3, h4⟩ := obind h2
    split at h4
    · rename_i d h5
      cases h4
      exact (((SA.one n1 h1).go tp X xo z Γ rs Γ' q h1').on h3 (opD_on' mo xo h5)).lift hp
    · cases h4
theorem SE.lrg (mo : M.Ok) (n1 : notStar a = true) (h1 : SE M sc a ca) (hb : M.G.Y.blt.contains "list" = true) (hg : glB sc "list" = true) (hb2 : M.G.Y.blt.contains "range" = true) (hg2 : glB sc "range" = true) :
    SE M sc (.Call (.Name "list" p) [.Call (.Name "range" p2) [a] [] pos] [] pos') (.op .listrange [ca]) :=
  .op mo (fun z => by cases z) (fun ds => rfl) (.one n1 h1) fun tp X xo => ⟨(pe_listRg xo.calm (gl_of xo hg) (mg_of mo xo hb) (prg_1 (gl_of xo hg2) (mg_of mo xo hb2) pe_w (starEach_cons n1)) rfl).run⟩

/-! ## tests, and, or, not, .. if .. else -/
theorem SE.tst {W : Wo} (h : SE M sc a ca) (xo : XOk M.G M.k M.N tp sc X) {z : Nat} {x : Bool} (ht : evT M.G.Φ M.cl z ca Γ = some (x, Γ', q)) : ∃ k, EJ M.W (wE X a) Γ Γ' q (.nd (.bl x) k) := by
  obtain ⟨z', _, d, h1, h2⟩ := evT_inv ht
  obtain ⟨k, rfl⟩ := truth_inv h2
  exact ⟨k, h tp X xo z' Γ _ h1⟩
/-- what is a test by its value -/
def plainT : Expr → Bool
  | .UnaryOp .Not _ _ => false
  | .BoolOp _ _ _ => false
  | .IfExp _ _ _ _ => false
  | .Compare _ _ _ _ => false
  | _ => true
theorem plainT_eq (h : plainT e = true) (env : Env) (w : Sem Value) : isTrue e env w = (do let v ← w; standAt e.pos; holding [v] (truthy v)) := by
  cases e with
  | UnaryOp op a p => cases op <;> first | rfl | cases h
  | BoolOp _ _ _ => cases h
  | IfExp _ _ _ _ => cases h
  | Compare _ _ _ _ => cases h
  | _ => rfl
theorem TJ.of {W : Wo} {t : TE} {k : List D} {x : Bool} (h : EJ W t Γ Γ' q (.nd (.bl x) k)) : TJ W (tB t) Γ Γ' q x := fun B Ts F σ H a g Q kk =>
  h B Ts F σ H a g _ fun B' Ts' u H' e a' g' o eu q' => ⟨x, er_bl eu, kk B' Ts' H' e a'.drop g' q'⟩
theorem ST.val (h : SE M sc e ca) (hp : plainT e = true) : ST M sc e ca := fun tp X xo z Γ b Γ' q ht => by
  obtain ⟨z', _, d, h1, h2⟩ := evT_inv ht
  obtain ⟨k, rfl⟩ := truth_inv h2
  exact (TJ.of (h tp X xo z' Γ _ h1)).lift (pt_val pe_w (plainT_eq hp X.env))
theorem ST.cmp (mo : M.Ok) (n1 : notStar a = true) (n2 : notStar b = true) (h1 : SE M sc a ca) (h2 : SE M sc b cb) {op : CmpOp} (hop : op ≠ .Eq) (hm : behindInMarks op b = false) : ST M sc (.Compare a [op] [b] pos) (.op (.cmp op) [ca, cb]) := fun tp X xo z Γ x Γ' q ht => by
  obtain ⟨z', _, d, g1, g2⟩ := evT_inv ht
  obtain ⟨k, rfl⟩ := truth_inv g2
  cases z' with
  | zero => simp [evB] at g1
  | succ z =>
    rw [evB] at g1
    obtain ⟨⟨rs, Γ', q⟩, y1, y2⟩ := obind g1
    obtain ⟨ds, y3, y4⟩ := obind y2
    split at y4
    · rename_i d y5
      cases y4
      have sa := (SA.two n1 n2 h1 h2).go tp X xo z Γ rs Γ' q y1
      exact (TJ.of (sa.on y3 (opD_on mo xo (fun z => by cases z) y5))).lift ⟨(pt_cmpR or_cO pe_w pe_w hm).run⟩
    · rw [nd_cmp hop] at y4
      cases y4
theorem ej_not {W : Wo} {t : TE} {k : List D} {x : Bool} (h : EJ W t Γ Γ' q (.nd (.bl x) k)) : EJ W (tNotV t) Γ Γ' q (dB (!x)) := fun B Ts F σ H a g Q kk =>
  h B Ts F σ H a g _ fun B' Ts' u H' e a' g' o eu q' => ⟨x, er_bl eu, kk B' Ts' (tB' (!x)) H' e (by rw [c_bl]; exact a'.drop) g' (ok_bl _) (e_bl _) q'⟩
theorem SE.not (h : SE M sc a ca) : SE M sc (.UnaryOp .Not a pos) (.not ca) := fun tp X xo z Γ r hh => by
  cases z with
  | zero => simp [evB] at hh
  | succ z =>
    rw [evB] at hh
    obtain ⟨⟨x, Γ', q⟩, h1, h2⟩ := omap hh
    cases h2
    obtain ⟨k, h3⟩ := h.tst (W := M.W) xo h1
    exact (ej_not h3).lift (pe_not pe_w)
theorem ST.not (h : ST M sc a ca) : ST M sc (.UnaryOp .Not a pos) (.not ca) := fun tp X xo z Γ x Γ' q ht => by
  obtain ⟨z', _, d, g1, g2⟩ := evT_inv ht
  cases z' with
  | zero => simp [evB] at g1
  | succ z =>
    rw [evB] at g1
    obtain ⟨⟨y, Γ2, q2⟩, h1, h2⟩ := omap g1
    cases h2
    cases g2
    have hj := h tp X xo z Γ _ _ _ h1
    exact TJ.lift (tt := tNot (wT X a)) (fun B Ts F σ H a g Q kk => hj B Ts F σ H a g _ fun B' Ts' H' e a' g' q' => kk B' Ts' H' e a' g' q') (pt_not pt_w)
/-- one after another -/
theorem ej_and {W : Wo} {t u : TE} {k : List D} (h : EJ W t Γ Γ1 q1 (.nd (.bl true) k)) (h2 : EJ W u Γ1 Γ' q d) : EJ W (tAndV t u) Γ Γ' (q1 && q) d := fun B Ts F σ H a g Q kk =>
  h B Ts F σ H a g _ fun B1 Ts1 x H1 e1 a1 g1 o1 eu1 q1' => ⟨true, er_bl eu1, by
    rw [if_pos rfl]
    exact h2 B1 Ts1 F σ H1 a1.drop g1 Q fun B2 Ts2 y H2 e2 a2 g2 o2 eu2 q2' => kk B2 Ts2 y H2 (e1.trans e2) a2 g2 o2 eu2 fun z => by
      rw [Bool.and_eq_true] at z
      exact (q2' z.2).trans (q1' z.1)⟩
theorem ej_or {W : Wo} {t u : TE} {k : List D} (h : EJ W t Γ Γ1 q1 (.nd (.bl false) k)) (h2 : EJ W u Γ1 Γ' q d) : EJ W (tOrV t u) Γ Γ' (q1 && q) d := fun B Ts F σ H a g Q kk =>
  h B Ts F σ H a g _ fun B1 Ts1 x H1 e1 a1 g1 o1 eu1 q1' => ⟨false, er_bl eu1, by
    rw [if_neg Bool.false_ne_true]
    exact h2 B1 Ts1 F σ H1 a1.drop g1 Q fun B2 Ts2 y H2 e2 a2 g2 o2 eu2 q2' => kk B2 Ts2 y H2 (e1.trans e2) a2 g2 o2 eu2 fun z => by
      rw [Bool.and_eq_true] at z
      exact (q2' z.2).trans (q1' z.1)⟩
theorem ej_bl {W : Wo} {t : TE} {k : List D} {x : Bool} (h : EJ W t Γ Γ' q (.nd (.bl x) k)) : EJ W t Γ Γ' q (dB x) := fun B Ts F σ H a g Q kk =>
  h B Ts F σ H a g Q fun B1 Ts1 u H1 e1 a1 g1 o1 eu1 q1' => by
    have := kk B1 Ts1 (tB' x) H1 e1 (by rw [c_bl]; exact a1.drop) g1 (ok_bl _) (e_bl _) q1'
    rw [er_bl eu1]
    exact this
theorem SE.and (h1 : SE M sc a ca) (h2 : SE M sc (.BoolOp .And (b :: rest) pos) cb) : SE M sc (.BoolOp .And (a :: b :: rest) pos) (.and ca cb) := fun tp X xo z Γ r hh => by
  cases z with
  | zero => simp [evB] at hh
  | succ z =>
    rw [evB] at hh
    obtain ⟨⟨x, Γ1, q1⟩, y1, y2⟩ := obind hh
    obtain ⟨k, t1⟩ := h1.tst (W := M.W) xo y1
    dsimp only at y2
    cases x with
    | true =>
      rw [if_pos rfl] at y2
      obtain ⟨⟨y, Γ2, q2⟩, y3, y4⟩ := omap y2
      cases y4
      obtain ⟨k2, t2⟩ := h2.tst (W := M.W) xo y3
      exact (ej_and t1 (ej_bl t2)).lift (pe_and pe_w pe_w)
    | false =>
      rw [if_neg Bool.false_ne_true] at y2
      cases y2
      refine EJ.lift (t := tAndV (wE X a) (wE X (.BoolOp .And (b :: rest) pos))) (fun B Ts F σ H aa g Q kk => t1 B Ts F σ H aa g _ fun B1 Ts1 u H1 e1 a1 g1 o1 eu1 q1' => ⟨false, er_bl eu1, ?_⟩) (pe_and pe_w pe_w)
      rw [if_neg Bool.false_ne_true]
      exact kk B1 Ts1 (tB' false) H1 e1 (by rw [c_bl]; exact a1.drop) g1 (ok_bl _) (e_bl _) q1'
theorem SE.or (h1 : SE M sc a ca) (h2 : SE M sc (.BoolOp .Or (b :: rest) pos) cb) : SE M sc (.BoolOp .Or (a :: b :: rest) pos) (.or ca cb) := fun tp X xo z Γ r hh => by
  cases z with
  | zero => simp [evB] at hh
  | succ z =>
    rw [evB] at hh
    obtain ⟨⟨x, Γ1, q1⟩, y1, y2⟩ := obind hh
    obtain ⟨k, t1⟩ := h1.tst (W := M.W) xo y1
    dsimp only at y2
    cases x with
    | false =>
      rw [if_neg Bool.false_ne_true] at y2
      obtain ⟨⟨y, Γ2, q2⟩, y3, y4⟩ := omap y2
      cases y4
      obtain ⟨k2, t2⟩ := h2.tst (W := M.W) xo y3
      exact (ej_or t1 (ej_bl t2)).lift (pe_or pe_w pe_w)
    | true =>
      rw [if_pos rfl] at y2
      cases y2
      refine EJ.lift (t := tOrV (wE X a) (wE X (.BoolOp .Or (b :: rest) pos))) (fun B Ts F σ H aa g Q kk => t1 B Ts F σ H aa g _ fun B1 Ts1 u H1 e1 a1 g1 o1 eu1 q1' => ⟨true, er_bl eu1, ?_⟩) (pe_or pe_w pe_w)
      rw [if_pos rfl]
      exact kk B1 Ts1 (tB' true) H1 e1 (by rw [c_bl]; exact a1.drop) g1 (ok_bl _) (e_bl _) q1'
theorem SE.one {op : BoolOp} (h1 : SE M sc a ca) : SE M sc (.BoolOp op [a] pos) ca := fun tp X xo z Γ r hh => by
  have := h1 tp X xo z Γ r hh
  cases r with
  | pl j π d => exact PJ.lift this (pe_one pe_w)
  | vl d Γ' q => exact EJ.lift this (pe_one pe_w)
theorem ST.oneA (h1 : ST M sc a ca) : ST M sc (.BoolOp .And [a] pos) ca := fun tp X xo z Γ x Γ' q ht =>
  (h1 tp X xo z Γ x Γ' q ht).lift ⟨(pw_and1 pt_w).run (eval (.BoolOp .And [a] pos) X.env)⟩
theorem ST.oneO (h1 : ST M sc a ca) : ST M sc (.BoolOp .Or [a] pos) ca := fun tp X xo z Γ x Γ' q ht =>
  (h1 tp X xo z Γ x Γ' q ht).lift ⟨(pw_or1 pt_w).run (eval (.BoolOp .Or [a] pos) X.env)⟩
theorem pw_w {op : BoolOp} : PW X (.BoolOp op es pos) (wT X (.BoolOp op es pos)) := ⟨fun wh pins s σ H Q I h => h pins s I⟩
theorem ST.and (h1 : ST M sc a ca) (h2 : ST M sc (.BoolOp .And (b :: rest) pos) cb) : ST M sc (.BoolOp .And (a :: b :: rest) pos) (.and ca cb) := fun tp X xo z Γ x Γ' q ht => by
  obtain ⟨z', _, d, g1, g2⟩ := evT_inv ht
  cases z' with
  | zero => simp [evB] at g1
  | succ z =>
    rw [evB] at g1
    obtain ⟨⟨x1, Γ1, q1⟩, y1, y2⟩ := obind g1
    have t1 := h1 tp X xo z Γ _ _ _ y1
    dsimp only at y2
    refine TJ.lift (tt := tAnd (wT X a) (wT X (.BoolOp .And (b :: rest) pos))) (fun B Ts F σ H aa g Q kk => t1 B Ts F σ H aa g _ fun B1 Ts1 H1 e1 a1 g1' q1' => ?_) ⟨(pw_and pt_w pw_w).run (eval (.BoolOp .And (a :: b :: rest) pos) X.env)⟩
    cases x1 with
    | true =>
      rw [if_pos rfl] at y2 ⊢
      obtain ⟨⟨y, Γ2, q2⟩, y3, y4⟩ := omap y2
      cases y4
      cases g2
      exact h2 tp X xo z Γ1 _ _ _ y3 B1 Ts1 F σ H1 a1 g1' Q fun B2 Ts2 H2 e2 a2 g2' q2' => kk B2 Ts2 H2 (e1.trans e2) a2 g2' fun zz => by
        rw [Bool.and_eq_true] at zz
        exact (q2' zz.2).trans (q1' zz.1)
    | false =>
      rw [if_neg Bool.false_ne_true] at y2 ⊢
      cases y2
      cases g2
      exact kk B1 Ts1 H1 e1 a1 g1' q1'
theorem ST.or (h1 : ST M sc a ca) (h2 : ST M sc (.BoolOp .Or (b :: rest) pos) cb) : ST M sc (.BoolOp .Or (a :: b :: rest) pos) (.or ca cb) := fun tp X xo z Γ x Γ' q ht => by
  obtain ⟨z', _, d, g1, g2⟩ := evT_inv ht
  cases z' with
  | zero => simp [evB] at g1
  | succ z =>
    rw [evB] at g1
    obtain ⟨⟨x1, Γ1, q1⟩, y1, y2⟩ := obind g1
    have t1 := h1 tp X xo z Γ _ _ _ y1
    dsimp only at y2
    refine TJ.lift (tt := tOr (wT X a) (wT X (.BoolOp .Or (b :: rest) pos))) (fun B Ts F σ H aa g Q kk => t1 B Ts F σ H aa g _ fun B1 Ts1 H1 e1 a1 g1' q1' => ?_) ⟨(pw_or pt_w pw_w).run (eval (.BoolOp .Or (a :: b :: rest) pos) X.env)⟩
    cases x1 with
    | false =>
      rw [if_neg Bool.false_ne_true] at y2 ⊢
      obtain ⟨⟨y, Γ2, q2⟩, y3, y4⟩ := omap y2
      cases y4
      cases g2
      exact h2 tp X xo z Γ1 _ _ _ y3 B1 Ts1 F σ H1 a1 g1' Q fun B2 Ts2 H2 e2 a2 g2' q2' => kk B2 Ts2 H2 (e1.trans e2) a2 g2' fun zz => by
        rw [Bool.and_eq_true] at zz
        exact (q2' zz.2).trans (q1' zz.1)
    | true =>
      rw [if_pos rfl] at y2 ⊢
      cases y2
      cases g2
      exact kk B1 Ts1 H1 e1 a1 g1' q1'
end
end VI
/-! VM -/
noncomputable section
namespace VI
open PySem L2 PyProof.Rows StX

section
variable {M : Md} {sc : Scope} {e a b c : Expr} {ca cb cc : C} {es rest : List Expr} {cs : List C} {pos p p2 apos : Pos} {X : Cx} {tp : Bool} {Γ Γ' Γ1 : Ctx} {q q1 : Bool} {d : D} {te : TE} {o : Op} {x : Str} {W : Wo} {B H : Hp} {F L : List Cell}

/-! ## a place is frozen -/
theorem at_fz {u y : T} {ρ : List Nat} (h : u.at_ ρ = some y) : (tfz u).at_ ρ = some (tfz y) := by
  unfold tfz
  rw [Tr.at_map, h]; rfl
theorem fz_place {Ts : CtxT} {σ : L2.St} {j : Nat} {π : List Nat} {t0 u : T} (a : At W B Ts F σ H) (hj : Ts[j]? = some (some (.own t0))) (hu : t0.at_ π = some u) (hs : isSh (er u) = false) :
    ∃ B', Ext B B' ∧ At W B' (putT Ts j π (tfz u)) F σ H ∧ Ok W B' (tfz u) ∧ erC (putT Ts j π (tfz u)) = putE (erC Ts) j π (fz (er u)) := by
  obtain ⟨ou, _⟩ := a.place hj hu
  obtain ⟨R, p1, p2⟩ := cellsC_put (W := W) hj hu
  have g1 : Good B H (cells W u ++ (R ++ F)) := a.good.perm (by
    have := p1.append_right F
    rw [List.append_assoc] at this
    exact this)
  obtain ⟨B', x, hc, g2⟩ := g1.share
  have o' := freeze_ok x u ou hc
  refine ⟨B', x, (a.s.put0 x hj hu (own_of ou hs) o' (val_tfz u) fun i ρ h y hy => ⟨tfz y, at_fz hy, val_tfz y⟩).at (g2.perm ?_), o', by rw [erC_putT, er_tfz]⟩
  have := p2 (tfz u) (val_tfz u)
  rw [cells_fz0] at this
  exact this.symm.append_right F
theorem settle_pl {j : Nat} {π : List Nat} : settle Γ (.pl j π d) = if isSh d then (d, Γ, true) else (fz d, putE Γ j π (fz d), false) := rfl
theorem BJ.settle {r : BR} (h : BJ W te Γ r) : EJ W te Γ (settle Γ r).2.1 (settle Γ r).2.2 (settle Γ r).1 := by
  cases r with
  | vl d Γ' q => exact h
  | pl j π d =>
    rw [settle_pl]
    by_cases hs : isSh d = true
    · rw [if_pos hs]
      intro B Ts F σ H a g Q k
      refine h B Ts F σ H a g _ fun B1 H1 t0 u e1 a1 ht hu eu => ?_
      have o := (a1.place ht hu).1
      exact k B1 Ts u H1 e1 (by rw [o.shc (by rw [eu]; exact hs)]; exact a1) g o eu fun _ => rfl
    · rw [if_neg hs]
      intro B Ts F σ H a g Q k
      refine h B Ts F σ H a g _ fun B1 H1 t0 u e1 a1 ht hu eu => ?_
      obtain ⟨B2, x, a2, o2, e2⟩ := fz_place a1 ht hu (by rw [eu]; simpa using hs)
      have := k B2 (putT Ts j π (tfz u)) (tfz u) H1 (e1.trans x) (by rw [cells_fz0]; exact a2) (by rw [e2, eu, g]) o2 (by rw [er_tfz, eu]) fun z => by cases z
      rw [val_tfz] at this
      exact this

/-! ## displays -/
section
variable (X : Cx)
def dTA : List Expr → TA
  | [] => tNil
  | .Starred e _ :: es => tStar X.K (wE X e) (dTA es)
  | e :: es => tCons (wE X e) (dTA es)
end
theorem pa_dTA : ∀ {es : List Expr}, PA X es (dTA X es)
  | [] => pa_nil
  | e :: es => by
    by_cases h : notStar e = true
    · have : dTA X (e :: es) = tCons (wE X e) (dTA X es) := by cases e <;> first | rfl | cases h
      rw [this]
      exact pa_cons pe_w pa_dTA (starEach_cons h)
    · cases e with
      | Starred e p => exact pa_star pe_w pa_dTA rfl
      | _ => exact absurd rfl h
/-- the items of a display: temporaries -/
def DJ (W : Wo) (t : TA) (Γ : Ctx) (ds : List D) (Γ' : Ctx) (q : Bool) : Prop := ∀ (B : Hp) (Ts : CtxT) (F : List Cell) (σ : L2.St) (H : Hp), At W B Ts F σ H → erC Ts = Γ → ∀ Q : List V → Hp → Prop,
  (∀ (B' : Hp) (Ts' : CtxT) (us : List T) (H' : Hp), Ext B B' → At W B' Ts' (cellsL W us ++ F) σ H' → erC Ts' = Γ' → (q = true → Ts' = Ts) → (∀ u ∈ us, Ok W B' u) → us.map er = ds → Q (vals us) H') → t σ H Q
theorem DJ.nil : DJ W tNil Γ [] Γ true := fun B Ts F σ H a g Q k => k B Ts [] H (Ext.refl _) a g (fun _ => rfl) (fun _ h => absurd h (by simp)) rfl
theorem DJ.cons {ta : TA} {ds : List D} (h : EJ W te Γ Γ1 q1 d) (hs : DJ W ta Γ1 ds Γ' q) : DJ W (tCons te ta) Γ (d :: ds) Γ' (q1 && q) := by
  intro B Ts F σ H a g Q k
  refine h B Ts F σ H a g _ fun B1 Ts1 u H1 e1 a1 g1 o1 eu q1' => ?_
  refine hs B1 Ts1 (cells W u ++ F) σ H1 a1 g1 _ fun B2 Ts2 us H2 e2 a2 g2 q2' os ed => ?_
  refine k B2 Ts2 (u :: us) H2 (e1.trans e2) (a2.perm ?_) g2 (fun z => ?_) (fun y hy => ?_) (by rw [List.map_cons, eu, ed])
  · show (cellsL W us ++ (cells W u ++ F)).Perm ((cells W u ++ cellsL W us) ++ F)
    rw [List.append_assoc]; exact pswap _ _ _
  · rw [Bool.and_eq_true] at z
    exact (q2' z.2).trans (q1' z.1)
  · rcases List.mem_cons.mp hy with rfl | hy
    · exact o1.mono e2
    · exact os y hy
theorem DJ.star {S : Sg} {ta : TA} {ds xs : List D} {rs : List Rd'} (h : AJ (S.wo X.K) (tCons te tNil) Γ rs Γ1 q1) (hr : resL Γ1 rs = some [d]) (hx : seqOf d = some xs) (hsh : allSh xs = true) (hs : DJ (S.wo X.K) ta Γ1 ds Γ' q) : DJ (S.wo X.K) (tStar X.K te ta) Γ (xs ++ ds) Γ' (q1 && q) := by
  intro B Ts F σ H a g Q k
  refine h B Ts F σ H a g (fun vs H1 => match vs with | [x] => ∃ p xs, x = V.ref p ∧ (SqT X.K H1 p xs ∨ SqL X.K H1 p xs) ∧ ta σ H1 fun ys H2 => Q (xs ++ ys) H2 | _ => False) fun B1 Ts1 c0 vs H1 e1 a1 g1 q1' ar => ?_
  subst g1
  obtain ⟨us, y1, y2, y3, y4⟩ := ar.us hr fun i t ht => (a1.ok i t ht).1
  obtain ⟨u, rfl, eu⟩ := map_one y1
  subst y2
  have rb : Rb (S.wo X.K) H1 u := a1.rb (y3 u List.mem_cons_self) fun c hc => by
    rcases List.mem_append.mp (y4 u List.mem_cons_self c hc) with z | z
    · exact List.mem_append_left _ z
    · exact List.mem_append_right _ (List.mem_append_left _ z)
  rw [← eu] at hx
  obtain ⟨p, ts, ev, et, hq, okt⟩ := seq_inv hx (y3 u List.mem_cons_self) rb
  subst et
  refine ⟨p, vals ts, ev, hq.symm, ?_⟩
  refine hs B1 Ts1 F σ H1 a1.drop rfl _ fun B2 Ts2 us2 H2 e2 a2 g2 q2' os ed => ?_
  have e5 : vals ts ++ vals us2 = vals (ts ++ us2) := by unfold vals; rw [List.map_append]
  rw [e5]
  have sh := shL (W := S.wo X.K) okt hsh
  refine k B2 Ts2 (ts ++ us2) H2 (e1.trans e2) (by rw [cellsL_append, sh]; exact a2) g2 (fun z => ?_) (fun y hy => ?_) (by rw [List.map_append, ed])
  · rw [Bool.and_eq_true] at z
    exact (q2' z.2).trans (q1' z.1)
  · rcases List.mem_append.mp hy with hy | hy
    · exact (okt y hy).mono e2
    · exact os y hy
def SD (M : Md) (sc : Scope) (es : List Expr) (cs : List C) : Prop := ∀ (tp : Bool) (X : Cx), XOk M.G M.k M.N tp sc X → ∀ (z : Nat) (Γ : Ctx) (ds : List D) (Γ' : Ctx) (q : Bool), evDs M.G.Φ M.cl z cs Γ = some (ds, Γ', q) → DJ M.W (dTA X es) Γ ds Γ' q
theorem SD.nil : SD M sc [] [] := fun tp X xo z Γ ds Γ' q h => by
  cases z with
  | zero => simp [evDs] at h
  | succ z => rw [evDs] at h; cases h; exact DJ.nil
theorem SD.cons (ns : notStar e = true) (nc : ∀ c, ca ≠ .star c) (h1 : SE M sc e ca) (h2 : SD M sc es cs) : SD M sc (e :: es) (ca :: cs) := fun tp X xo z Γ ds Γ' q h => by
  have et : dTA X (e :: es) = tCons (wE X e) (dTA X es) := by cases e <;> first | rfl | cases ns
  rw [et]
  cases z with
  | zero => simp [evDs] at h
  | succ z =>
    have h : ((evB M.G.Φ M.cl z ca Γ).bind fun r => let (d, Γ1, q1) := settle Γ r; (evDs M.G.Φ M.cl z cs Γ1).map fun (ds, Γ', q) => (d :: ds, Γ', q1 && q)) = some (ds, Γ', q) := by
      rw [← h]
      cases ca <;> first | rfl | exact absurd rfl (nc _)
    obtain ⟨r, g1, g2⟩ := obind h
    obtain ⟨⟨ds', Γ2, q2⟩, g3, g4⟩ := omap g2
    cases g4
    exact DJ.cons (h1 tp X xo z Γ r g1).settle (h2 tp X xo z _ _ _ _ g3)
theorem SD.star (ns : notStar e = true) (h1 : SE M sc e ca) (h2 : SD M sc es cs) : SD M sc (.Starred e p :: es) (.star ca :: cs) := fun tp X xo z Γ ds Γ' q h => by
  cases z with
  | zero => simp [evDs] at h
  | succ z =>
    rw [evDs] at h
    obtain ⟨⟨rs, Γ1, q1⟩, g1, g2⟩ := obind h
    have aj := (SA.one ns h1).go tp X xo z Γ rs Γ1 q1 g1
    dsimp only at g2
    split at g2
    · rename_i r
      obtain ⟨d, g3, g4⟩ := obind g2
      obtain ⟨xs, g5, g6⟩ := obind g4
      split at g6
      · rename_i hs
        obtain ⟨⟨ds', Γ2, q2⟩, g7, g8⟩ := omap g6
        cases g8
        have hr : resL Γ1 [r] = some [d] := by rw [resL, g3]; rfl
        rw [xo.eW] at aj ⊢
        have := h2 tp X xo z _ _ _ _ g7
        rw [xo.eW] at this
        exact DJ.star aj hr g5 hs this
      · cases g6
    · cases g2
theorem Good.newT (g : Good B H L) {p : Addr} (hp : H p = none) {ts : List T} {K : PySem.W.Frag} (hW : W.K = K) (ok : ∀ t ∈ ts, Ok W B t) (hs : cellsL W ts = []) :
    ∃ B', Ext B B' ∧ Good B' (upd H p (.tup (vals ts))) L ∧ Ok W B' (.nd (.tup p) ts) := by
  obtain ⟨B', x, h1, h2⟩ := Good.share (L := [(p, .tup (vals ts))]) (M := L) (g.new (o := .tup (vals ts)) hp)
  refine ⟨B', x, h2, .mk ⟨?_, hs⟩ fun t ht => (ok t ht).mono x⟩
  exact .inl (.inl (h1 _ List.mem_cons_self))
theorem SE.tup (h : SD M sc es cs) {k : Nat} : SE M sc (.Tuple es k pos) (.tup cs) := fun tp X xo z Γ r hh => by
  cases z with
  | zero => simp [evB] at hh
  | succ z =>
    rw [evB] at hh
    obtain ⟨⟨ds, Γ', q⟩, g1, g2⟩ := obind hh
    dsimp only at g2
    split at g2
    · rename_i hs
      rw [Bool.and_eq_true, decide_eq_true_eq] at hs
      cases g2
      refine EJ.lift (t := tTup (dTA X es)) (fun B Ts F σ H aa g Q kk => h tp X xo z _ _ _ _ g1 B Ts F σ H aa g _ fun B1 Ts1 us H1 e1 a1 gg q1' os ed => ?_) (pe_tup pa_dTA)
      subst ed
      have sh := shL (W := M.W) os hs.1
      have lz : us.length ≤ lim := by have := hs.2; rwa [List.length_map] at this
      refine ⟨by unfold vals; rw [List.length_map, ← lim_eq]; exact lz, fun p hp => ?_⟩
      have a1 := a1.drop
      obtain ⟨B2, x, g2, o2⟩ := a1.good.newT hp rfl os sh
      have hc : cells M.W (.nd (.tup p) us) = [] := by rw [cells_nd, sh]; rfl
      exact kk B2 Ts1 (.nd (.tup p) us) _ (e1.trans x) (by rw [hc]; exact a1.mono x g2) gg o2 (er_nd _ _) q1'
    · cases g2
theorem SE.lst (h : SD M sc es cs) : SE M sc (.List es pos) (.lst cs) := fun tp X xo z Γ r hh => by
  cases z with
  | zero => simp [evB] at hh
  | succ z =>
    rw [evB] at hh
    obtain ⟨⟨ds, Γ', q⟩, g1, g2⟩ := obind hh
    dsimp only at g2
    split at g2
    · rename_i hs
      rw [decide_eq_true_eq] at hs
      cases g2
      refine EJ.lift (t := tLst (dTA X es)) (fun B Ts F σ H aa g Q kk => h tp X xo z _ _ _ _ g1 B Ts F σ H aa g _ fun B1 Ts1 us H1 e1 a1 gg q1' os ed => ?_) (pe_lst pa_dTA)
      subst ed
      have lz : us.length ≤ lim := by rwa [List.length_map] at hs
      refine ⟨by unfold vals; rw [List.length_map, ← lim_eq]; exact lz, fun p hp => ?_⟩
      refine kk B1 Ts1 (.nd (.lst p true) us) _ e1 (a1.heap ((a1.good.new hp (o := .lst (vals us))).perm ?_)) gg (.mk True.intro os) (er_nd _ _) q1'
      rw [cells_nd]
      show ([(p, HO.lst (vals us))] ++ (cellsC M.W Ts1 ++ (cellsL M.W us ++ F))).Perm (cellsC M.W Ts1 ++ (([(p, HO.lst (vals us))] ++ cellsL M.W us) ++ F))
      rw [List.append_assoc]
      exact pswap _ _ _
    · cases g2
theorem SE.dct0 : SE M sc (.Dict [] [] pos) .dct0 := fun tp X xo z Γ r hh => by
  cases z with
  | zero => simp [evB] at hh
  | succ z =>
    rw [evB] at hh
    cases hh
    refine EJ.lift (t := tDNewK) (fun B Ts F σ H aa g Q kk p hp => ?_) pe_dnewK
    refine kk B Ts (.nd (.dct p true [] none) []) _ (Ext.refl _) (aa.heap ((aa.good.new hp (o := .dK [])).perm ?_)) g (.mk ⟨rfl, List.nodup_nil⟩ fun _ h => absurd h (by simp)) (er_nd _ _) fun _ => rfl
    rw [cells_nd]
    exact pswap [(p, HO.dK [])] (cellsC M.W Ts) F
/-- frozen -/
theorem SE.frz {M : Md} {sc : Scope} {e : Expr} {ca : C} (h : SE M sc e ca) : SE M sc e (.frz ca) := fun tp X xo z Γ r hh => by
  cases z with
  | zero => simp [evB] at hh
  | succ z =>
    rw [evB] at hh
    obtain ⟨r0, g1, g2⟩ := omap hh
    subst g2
    exact (h tp X xo z Γ r0 g1).settle
end
end VI
/-! VN -/
noncomputable section
namespace VI
open PySem L2 PyProof.Rows StX

theorem findIdx_lt {α : Type} {p : α → Bool} : ∀ {l : List α} {n : Nat}, l.findIdx? p = some n → n < l.length := fun {l n} h => by
  rw [List.findIdx?_eq_some_iff_getElem] at h
  exact h.1
theorem zip_look {nm : Nat → Str} (inj : ∀ a b, nm a = nm b → a = b) {f : Nat} : ∀ {ns : List Nat} {vs : List V} {n : Nat}, ns.findIdx? (fun x => x == f) = some n → n < vs.length → ((ns.map nm).zip vs).lookup (nm f) = vs[n]?
  | [], _, _, h, _ => by simp at h
  | x :: ns, [], _, _, h => by simp at h
  | x :: ns, v :: vs, n, h, hl => by
    rw [List.findIdx?_cons] at h
    rw [List.map_cons, List.zip_cons_cons, List.lookup_cons]
    by_cases hx : x = f
    · subst hx
      rw [if_pos (by simp)] at h
      cases h
      have : (nm x == nm x) = true := by simp
      rw [this]; rfl
    · rw [if_neg (by simpa using hx)] at h
      obtain ⟨m, h1, h2⟩ := omap h
      subst h2
      have : (nm f == nm x) = false := by
        rw [beq_eq_false_iff_ne]
        intro z
        exact hx (inj _ _ z).symm
      rw [this]
      rw [List.length_cons] at hl
      rw [zip_look inj h1 (by omega)]
      rfl
theorem zip_none {nm : Nat → Str} (inj : ∀ a b, nm a = nm b → a = b) {f : Nat} : ∀ {ns : List Nat} {vs : List V}, ns.findIdx? (fun x => x == f) = none → ((ns.map nm).zip vs).lookup (nm f) = none
  | [], _, _ => rfl
  | x :: ns, [], _ => rfl
  | x :: ns, v :: vs, h => by
    rw [List.findIdx?_cons] at h
    rw [List.map_cons, List.zip_cons_cons, List.lookup_cons]
    by_cases hx : x = f
    · subst hx
      rw [if_pos (by simp)] at h
      cases h
    · rw [if_neg (by simpa using hx)] at h
      have h : ns.findIdx? (fun x => x == f) = none := by simpa using h
      have : (nm f == nm x) = false := by
        rw [beq_eq_false_iff_ne]
        intro z
        exact hx (inj _ _ z).symm
      rw [this]
      exact zip_none inj h
theorem zip_val {k : Key} : ∀ {ks : List Key} {vs : List V} {n : Nat}, ks.findIdx? (fun q => decide (q = k)) = some n → n < vs.length → valV (ks.zip vs) k = vs[n]?
  | [], _, _, h, _ => by simp at h
  | x :: ks, [], _, _, h => by simp at h
  | x :: ks, v :: vs, n, h, hl => by
    rw [List.findIdx?_cons] at h
    rw [List.zip_cons_cons]
    by_cases hx : x = k
    · rw [if_pos (by simpa using hx)] at h
      cases h
      rw [valV_pos hx]; rfl
    · rw [if_neg (by simpa using hx)] at h
      obtain ⟨m, h1, h2⟩ := omap h
      subst h2
      rw [List.length_cons] at hl
      rw [valV_neg hx, zip_val h1 (by omega)]
      rfl
theorem zip_val0 {k : Key} : ∀ {ks : List Key} {vs : List V}, ks.findIdx? (fun q => decide (q = k)) = none → valV (ks.zip vs) k = none
  | [], _, _ => rfl
  | x :: ks, [], _ => rfl
  | x :: ks, v :: vs, h => by
    rw [List.findIdx?_cons] at h
    rw [List.zip_cons_cons]
    by_cases hx : x = k
    · rw [if_pos (by simpa using hx)] at h
      cases h
    · rw [if_neg (by simpa using hx)] at h
      have h : ks.findIdx? (fun q => decide (q = k)) = none := by simpa using h
      rw [valV_neg hx, zip_val0 h]

section
variable {M : Md} {sc : Scope} {e a b c : Expr} {ca cb cc : C} {es rest : List Expr} {cs : List C} {pos p p2 apos : Pos} {X : Cx} {tp : Bool} {Γ Γ' Γ1 : Ctx} {q q1 : Bool} {d : D} {te : TE} {o : Op} {x : Str} {W : Wo} {B H : Hp} {F L : List Cell}

/-! ## parts of a tree -/
theorem kid_at {u : T} {n : Nat} {x : D} (h : ((er u).kids)[n]? = some x) : ∃ t, u.at_ [n] = some t ∧ er t = x ∧ u.kids[n]? = some t := by
  cases u with
  | nd g ts =>
    rw [er_nd] at h
    have h : (ts.map er)[n]? = some x := h
    rw [List.getElem?_map] at h
    obtain ⟨t, h1, h2⟩ := omap h
    exact ⟨t, by rw [Tr.at_cons, h1]; exact Tr.at_nil t, h2, h1⟩
/-- a part of a value: the rest goes -/
theorem EJ.part {f : V → Hp → VK → Prop} {n : Nat} {x : D} (h : EJ W te Γ Γ' q d) (hx : (d.kids)[n]? = some x) (hf : ∀ (H : Hp) (u t : T) (Q : VK), Rb W H u → er u = d → u.kids[n]? = some t → Q (val t) H → f (val u) H Q) : EJ W (fun σ H Q => te σ H fun v H1 => f v H1 Q) Γ Γ' q x := by
  intro B Ts F σ H a g Q k
  refine h B Ts F σ H a g _ fun B1 Ts1 u H1 e1 a1 g1 o1 eu q1' => ?_
  rw [← eu] at hx
  obtain ⟨t, h1, h2, h3⟩ := kid_at hx
  refine hf H1 u t Q (a1.rb o1 fun c hc => List.mem_append_right _ (List.mem_append_left _ hc)) eu h3 ?_
  obtain ⟨R, p1, _⟩ := cells_put W [n] u t h1
  refine k B1 Ts1 t H1 e1 ?_ g1 (at_ok h1 o1) h2 q1'
  refine (a1.perm (F' := R ++ (cells W t ++ F)) ?_).drop
  have := p1.append_right F
  rw [List.append_assoc] at this
  exact this.trans (pswap _ _ _)
theorem PJ.part {f : V → Hp → VK → Prop} {j n : Nat} {π : List Nat} {x : D} (h : PJ W te Γ j π d) (hx : (d.kids)[n]? = some x) (hf : ∀ (H : Hp) (u t : T) (Q : VK), Rb W H u → er u = d → u.kids[n]? = some t → Q (val t) H → f (val u) H Q) : PJ W (fun σ H Q => te σ H fun v H1 => f v H1 Q) Γ j (π ++ [n]) x := by
  intro B Ts F σ H a g Q k
  refine h B Ts F σ H a g _ fun B1 H1 t0 u e1 a1 ht hu eu => ?_
  rw [← eu] at hx
  obtain ⟨t, h1, h2, h3⟩ := kid_at hx
  refine hf H1 u t Q (a1.rb (a1.place ht hu).1 (a1.place ht hu).2) eu h3 ?_
  exact k B1 H1 t0 t e1 a1 ht (by rw [Tr.at_append, hu]; exact h1) h2
theorem PJ.sh {j : Nat} {π : List Nat} (h : PJ W te Γ j π d) (hs : isSh d = true) : EJ W te Γ Γ true d := by
  intro B Ts F σ H a g Q k
  refine h B Ts F σ H a g Q fun B1 H1 t0 u e1 a1 ht hu eu => ?_
  have o := (a1.place ht hu).1
  exact k B1 Ts u H1 e1 (by rw [o.shc (by rw [eu]; exact hs)]; exact a1) g o eu fun _ => rfl

/-! ## e.f -/
theorem fld_run (mo : M.Ok) (xo : XOk M.G M.k M.N tp sc X) {f n : Nat} {c : Nat} (hc : clsOf d = some c) (hi : M.G.Φ.isf c f = true) (hn : fldIx d f = some n) {H : Hp} {u t : T} {Q : VK} (rb : Rb M.W H u) (eu : er u = d) (ht : u.kids[n]? = some t) (q : Q (val t) H) :
    ∃ a C dx fs v, val u = .ref a ∧ H a = some (.ins C dx fs) ∧ Cls X.K C ∧ NoAttr X.K C (M.G.S.nm f) ∧ fs.lookup (M.G.S.nm f) = some v ∧ Q v H := by
  cases u with
  | nd g ts =>
    rw [er_nd] at eu
    subst eu
    cases g with
    | ins a dx ow C ns =>
      cases hc
      have hn : ((ns.findIdx? fun x => x == f).bind fun n => if n < (ts.map er).length then some n else none) = some n := hn
      obtain ⟨m, h1, h2⟩ := obind hn
      split at h2
      · rename_i hl
        cases h2
        rw [List.length_map] at hl
        have hl' : n < (vals ts).length := by unfold vals; rw [List.length_map]; exact hl
        have ev : (vals ts)[n]? = some (val t) := by
          unfold vals
          rw [List.getElem?_map, show ts[n]? = some t from ht]; rfl
        exact ⟨a, M.G.S.ca c, dx, _, val t, rfl, rb.tag.1, by rw [xo.K]; exact (mo.g.clx c).cls, by rw [xo.K]; exact mo.g.fld c f hi, (zip_look M.G.S.inj h1 hl').trans ev, q⟩
      · cases h2
    | _ => cases hc
theorem spV_one {cl : Cl} {key : Nat} {r : D} {outs : List D} {B : Hp} {Ts : CtxT} {σ : L2.St} {u : T} (a : At W B Ts (cells W u ++ F) σ H) (o : Ok W B u) (hc : cl key [er u] = some (r, outs)) {Q : VK} (k : ∀ (B' : Hp) (w : T) (H' : Hp), Ext B B' → At W B' Ts (cells W w ++ F) σ H' → Ok W B' w → er w = r → Q (val w) H') : spV W cl key [val u] H Q := by
  refine ⟨B, cellsC W Ts ++ F, [u], r, outs, rfl, fun y hy => by rw [List.mem_singleton.mp hy]; exact o, a.good.perm ?_, hc, fun B' H' w us' x g o' os e1 e2 e3 => k B' w H' x ((a.s.mono x).at (g.perm (M := cellsL W us' ++ (cellsC W Ts ++ (cells W w ++ F))) ?_).drop) o' e1⟩
  · show (cellsC W Ts ++ (cells W u ++ F)).Perm ((cells W u ++ cellsL W []) ++ (cellsC W Ts ++ F))
    rw [show cellsL W [] = [] from rfl, List.append_nil]
    exact pswap _ _ _
  · exact (pswap _ _ _).trans ((pswap _ _ _).append_left _)
theorem SE.att (mo : M.Ok) (h : SE M sc a ca) (hb : plainBase a = true) {f : Nat} (hf : M.G.Y.nms[f]? = some x) : SE M sc (.Attribute a x pos) (.att ca f) := fun tp X xo z Γ r hh => by
  have en := mo.g.nm f x hf
  have pf : PE X (.Attribute a x pos) (tFld X.K (wE X a) x) := pe_fld pe_w (base_eq hb _ _ _)
  cases z with
  | zero => simp [evB] at hh
  | succ z =>
    rw [evB] at hh
    obtain ⟨r0, g1, g2⟩ := obind hh
    have b0 := h tp X xo z Γ r0 g1
    have bind1 : ∀ {key : Nat} {ds : List D} {r : D} {outs : List D}, M.cl key ds = some (r, outs) → ds.length = 1 → (M.G.ps key).length = 1 := fun hc hl => by rw [← mo.c.ar _ _ _ hc]; exact hl
    cases r0 with
    | pl j π d =>
      obtain ⟨c, g3, g4⟩ := obind g2
      split at g4
      · rename_i key hk
        split at g4
        · rename_i hlv
          obtain ⟨⟨r1, outs⟩, g5, g6⟩ := obind g4
          dsimp only at g6
          split at g6
          · cases g6
            obtain ⟨q0, hp, hbd⟩ := mo.g.prp c f key hk
            rw [en] at hp
            have F := mo.c.go key
            rw [← xo.prog, ← xo.w, ← xo.K, ← xo.mg, ← xo.base] at F
            refine EJ.lift ?_ (pe_pg (k := M.k) (C := M.G.S.ca c) (m := x) (q := q0) (by rw [xo.K]; exact (mo.g.clx c).cls) (by rw [xo.K]; exact hp) F xo.room xo.gu (by rw [xo.K]; exact hbd) hb)
            intro B Ts F σ H aa g Q k
            refine b0 B Ts F σ H aa g _ fun B1 H1 t0 u e1 a1 ht hu eu => ?_
            have rb : Rb M.W H1 u := a1.rb (a1.place ht hu).1 (a1.place ht hu).2
            have ad : ∃ aa dx fs, val u = .ref aa ∧ H1 aa = some (.ins (M.G.S.ca c) dx fs) := by
              cases u with
              | nd gg ts =>
                rw [er_nd] at eu
                subst eu
                cases gg with
                | ins a' dx ow C ns => cases g3; exact ⟨a', dx, _, rfl, rb.tag.1⟩
                | _ => cases g3
            obtain ⟨a', dx, fs, ev, eh⟩ := ad
            refine ⟨a', dx, fs, ev, eh, bind1 g5 rfl, ?_⟩
            subst g
            have ge := getE_of ht hu
            refine call_ctx (rs := [.pl j π]) (ds := [d]) (vs := [val u]) (c0 := [] ++ []) (by exact a1) (.cons ⟨rfl, fun d' hd => ⟨t0, u, ht, hu, by rw [ge] at hd; exact Option.some.inj hd, rfl⟩⟩ .nil) ?_ ?_ g5 fun B2 Ts2 w us' H2 x2 ew a2 g2' o2 e2 => k B2 Ts2 w H2 (e1.trans x2) a2 g2' o2 e2 fun z => by cases z
            · show ((getE (erC Ts) j π).bind fun d => (some []).map fun ds => d :: ds) = _
              rw [ge, eu]; rfl
            · show (apart [.pl j π] && live (erC Ts) [.pl j π]) = true
              rw [hlv]; rfl
          · cases g6
        · cases g4
      · split at g4
        · rename_i hi
          obtain ⟨n, g5, g6⟩ := obind g4
          obtain ⟨y, g7, g8⟩ := omap g6
          have pj := PJ.part (f := fun v H1 Q => ∃ a C dx fs w, v = .ref a ∧ H1 a = some (.ins C dx fs) ∧ Cls X.K C ∧ NoAttr X.K C x ∧ fs.lookup x = some w ∧ Q w H1) b0 g7 fun H u t Q rb eu ht q => by
            rw [← en]; exact fld_run mo xo g3 hi g5 rb eu ht q
          by_cases hs : isSh y = true
          · rw [if_pos hs] at g8
            subst g8
            exact (pj.sh hs).lift pf
          · rw [if_neg hs] at g8
            subst g8
            exact PJ.lift pj pf
        · cases g4
    | vl d Γ' q =>
      obtain ⟨c, g3, g4⟩ := obind g2
      split at g4
      · rename_i key hk
        obtain ⟨⟨r1, outs⟩, g5, g6⟩ := obind g4
        dsimp only at g6
        split at g6
        · cases g6
          obtain ⟨q0, hp, hbd⟩ := mo.g.prp c f key hk
          rw [en] at hp
          have F := mo.c.go key
          rw [← xo.prog, ← xo.w, ← xo.K, ← xo.mg, ← xo.base] at F
          refine EJ.lift ?_ (pe_pg (k := M.k) (C := M.G.S.ca c) (m := x) (q := q0) (by rw [xo.K]; exact (mo.g.clx c).cls) (by rw [xo.K]; exact hp) F xo.room xo.gu (by rw [xo.K]; exact hbd) hb)
          intro B Ts F σ H aa g Q k
          refine b0 B Ts F σ H aa g _ fun B1 Ts1 u H1 e1 a1 g1' o1 eu q1' => ?_
          have rb : Rb M.W H1 u := a1.rb o1 fun c hc => List.mem_append_right _ (List.mem_append_left _ hc)
          have ad : ∃ aa dx fs, val u = .ref aa ∧ H1 aa = some (.ins (M.G.S.ca c) dx fs) := by
            cases u with
            | nd gg ts =>
              rw [er_nd] at eu
              subst eu
              cases gg with
              | ins a' dx ow C ns => cases g3; exact ⟨a', dx, _, rfl, rb.tag.1⟩
              | _ => cases g3
          obtain ⟨a', dx, fs, ev, eh⟩ := ad
          refine ⟨a', dx, fs, ev, eh, bind1 g5 rfl, ?_⟩
          rw [← eu] at g5
          exact spV_one a1 o1 g5 fun B2 w H2 x2 a2 o2 e2 => k B2 Ts1 w H2 (e1.trans x2) a2 g1' o2 e2 q1'
        · cases g6
      · split at g4
        · rename_i hi
          obtain ⟨n, g5, g6⟩ := obind g4
          obtain ⟨y, g7, g8⟩ := omap g6
          subst g8
          exact (EJ.part (f := fun v H1 Q => ∃ a C dx fs w, v = .ref a ∧ H1 a = some (.ins C dx fs) ∧ Cls X.K C ∧ NoAttr X.K C x ∧ fs.lookup x = some w ∧ Q w H1) b0 g7 fun H u t Q rb eu ht q => by
            rw [← en]; exact fld_run mo xo g3 hi g5 rb eu ht q).lift pf
        · cases g4
end
end VI
/-! VO -/
noncomputable section
namespace VI
open PySem L2 PyProof.Rows StX

section
variable {M : Md} {sc : Scope} {e a b c : Expr} {ca cb cc : C} {es rest : List Expr} {cs : List C} {pos p p2 apos : Pos} {X : Cx} {tp : Bool} {Γ Γ' Γ1 : Ctx} {q q1 : Bool} {d : D} {te : TE} {o : Op} {x : Str} {W : Wo} {B B' H : Hp} {F L : List Cell} {Ts : CtxT} {σ : L2.St} {rs : List Rd'} {ds outs : List D} {cl : Cl} {f : Nat} {ta : TA}

/-! ## calls, in full -/
theorem call_ctx2 {vs : List V} {c0 : List Cell} (a : At W B Ts (c0 ++ F) σ H) (ar : ArgsOk W B Ts σ rs vs c0) (hr : resL (erC Ts) rs = some ds) (hf : free (erC Ts) rs = true) (hc : cl f ds = some (d, outs)) {Q : VK}
    (k : ∀ (B' : Hp) (Ts' : CtxT) (u : T) (us' : List T) (H' : Hp), Ext B B' → Ts' = wrT Ts rs us' → At W B' Ts' (cells W u ++ (tcells W rs us' ++ F)) σ H' → erC Ts' = wrB (erC Ts) rs outs → Ok W B' u → er u = d → us'.map er = outs → vals us' = vs → (∀ x ∈ us', Ok W B' x) → Q (val u) H') : spV W cl f vs H Q := by
  unfold free at hf
  rw [Bool.and_eq_true] at hf
  obtain ⟨us, h1, h2, h3, h4, h5⟩ := ar.res hr hf.2 fun i t ht => (a.ok i t ht).1
  subst h1 h2 h5
  obtain ⟨R, p1, p2⟩ := wr_cells rs us hf.1 h4
  have len := h4.len
  refine ⟨B, R ++ F, us, d, outs, rfl, h3, a.good.perm ?_, hc, fun B' H' u us' x g o os e1 e2 e3 => ?_⟩
  · have s1 : (cellsC W Ts ++ (tcells W rs us ++ F)).Perm (pcells W rs us ++ (R ++ (tcells W rs us ++ F))) := by
      have := p1.append_right (tcells W rs us ++ F)
      rw [List.append_assoc] at this
      exact this
    refine s1.trans (((pswap R (tcells W rs us) F).append_left _).trans ?_)
    rw [← List.append_assoc]
    exact (cells_pt len).symm.append_right _
  · refine k B' (wrT Ts rs us') u us' H' x rfl ((wr_ats x a.s rs us us' hf.1 h4 e3 os).at (g.perm ?_)) (by rw [erC_wrT, e2]) o e1 e2 e3 os
    have len' : rs.length = us'.length := by
      have := congrArg List.length e3
      unfold vals at this
      rw [List.length_map, List.length_map] at this
      rw [len, this]
    have s1 := (p2 us' e3)
    have s2 : (cells W u ++ (cellsL W us' ++ (R ++ F))).Perm (cells W u ++ ((pcells W rs us' ++ tcells W rs us') ++ (R ++ F))) := ((cells_pt len').append_right _).append_left _
    refine s2.trans ?_
    rw [List.append_assoc]
    refine ((pswap (cells W u) (pcells W rs us') _)).trans ?_
    have s3 : (cellsC W (wrT Ts rs us') ++ (cells W u ++ (tcells W rs us' ++ F))).Perm ((pcells W rs us' ++ R) ++ (cells W u ++ (tcells W rs us' ++ F))) := s1.append_right _
    refine List.Perm.trans ?_ s3.symm
    rw [List.append_assoc]
    refine List.Perm.append_left _ ?_
    refine List.Perm.trans ((pswap (tcells W rs us') R F).append_left _) ?_
    exact pswap (cells W u) R _
theorem ArgsOk.lenV {vs : List V} {c0 : List Cell} (ar : ArgsOk W B Ts σ rs vs c0) (hr : resL (erC Ts) rs = some ds) : vs.length = ds.length := by
  have : ∀ (rs : List Rd') (ds : List D), resL (erC Ts) rs = some ds → rs.length = ds.length := by
    intro rs
    induction rs with
    | nil => intro ds h; cases h; rfl
    | cons r rs ih =>
      intro ds h
      rw [resL] at h
      obtain ⟨d, h1, h2⟩ := obind h
      obtain ⟨ds', h3, h4⟩ := omap h2
      subst h4
      rw [List.length_cons, List.length_cons, ih _ h3]
  rw [← ar.len, this rs ds hr]
theorem SE.call (mo : M.Ok) (sa : SA M sc es cs) (hf : M.G.Y.fns.lookup x = some f) (hg : glB sc x = true) (hn : okName x = true) : SE M sc (.Call (.Name x p) es [] pos) (.call f cs) := fun tp X xo z Γ r hh => by
  cases z with
  | zero => simp [evB] at hh
  | succ z =>
    rw [evB] at hh
    obtain ⟨⟨rs, Γ', q⟩, h1, h2⟩ := obind hh
    obtain ⟨ds, h3, h4⟩ := obind h2
    dsimp only at h4
    split at h4
    · rename_i hfr
      obtain ⟨⟨r1, outs⟩, h5, h6⟩ := obind h4
      cases h6
      obtain ⟨g1, g2, g3⟩ := mo.g.fn x f hf
      have FF := mo.c.go f
      rw [← xo.prog, ← xo.w, ← xo.K, ← xo.mg, ← xo.base] at FF
      have aj := sa.go tp X xo z Γ rs Γ' q h1
      refine EJ.lift ?_ (pe_g (x := x) (p := p) (pos := pos) (k := M.k) FF (xo.room.mono (Nat.le_succ _)) xo.gu (by rw [xo.K]; exact g3) (gl_of xo hg) (by rw [xo.mg]; exact g1) (by rw [xo.K]; exact g2) sa.ns (okName_d hn).1)
      intro B Ts F σ H aa g Q k
      refine aj B Ts F σ H aa g _ fun B1 Ts1 c0 vs H1 e1 a1 g1' q1' ar => ?_
      subst g1'
      refine ⟨by rw [ar.lenV h3]; exact mo.c.ar _ _ _ h5, ?_⟩
      refine call_ctx a1 ar h3 hfr h5 fun B2 Ts2 u us' H2 x2 e2 a2 g2' o eu => k B2 Ts2 u H2 (e1.trans x2) a2 g2' o eu fun zz => ?_
      rw [Bool.and_eq_true] at zz
      rw [e2, wrT_no rs us' zz.2]
      exact q1' zz.1
    · cases h4
theorem SE.make (mo : M.Ok) (sa : SA M sc es cs) {c : Nat} (hf : M.G.Y.cls.lookup x = some c) (hg : glB sc x = true) (hn : okName x = true) : SE M sc (.Call (.Name x p) es [] pos) (.make c cs) := fun tp X xo z Γ r hh => by
  cases z with
  | zero => simp [evB] at hh
  | succ z =>
    rw [evB] at hh
    obtain ⟨⟨rs, Γ', q⟩, h1, h2⟩ := obind hh
    obtain ⟨ds, h3, h4⟩ := obind h2
    dsimp only at h4
    split at h4
    · rename_i hfr
      obtain ⟨f, h5, h6⟩ := obind h4
      obtain ⟨⟨r1, outs⟩, h7, h8⟩ := obind h6
      dsimp only at h8
      split at h8
      · rename_i self outs'
        split at h8
        · rename_i hnon
          cases h8
          obtain ⟨mk, hb⟩ := mo.g.mke c f h5
          have FF := mo.c.go f
          rw [← xo.prog, ← xo.w, ← xo.K, ← xo.mg, ← xo.base] at FF
          have aj := sa.go tp X xo z Γ rs Γ' q h1
          refine EJ.lift ?_ (pe_kg (x := x) (p := p) (pos := pos) (k := M.k) (C := M.G.S.ca c) (by rw [xo.K]; exact mk) FF xo.room xo.gu (by rw [xo.K]; exact hb) (gl_of xo hg) (by rw [xo.mg]; exact mo.g.cl x c hf) sa.ns (okName_d hn).1)
          intro B Ts F σ H aa g Q k
          refine aj B Ts F σ H aa g _ fun B1 Ts1 c0 vs H1 e1 a1 g1' q1' ar => ?_
          subst g1'
          intro ad dx hA hD hne
          refine ⟨by rw [List.length_cons, ar.lenV h3]; exact mo.c.ar _ _ _ h7, ?_⟩
          have gd := (a1.good.new hD (o := .own ad)).new (p := ad) (o := .ins (M.G.S.ca c) dx []) (by rw [upd_ne (Ne.symm hne)]; exact hA)
          have hcl : cells M.W (.nd (.ins ad dx true c []) []) = [(ad, .ins (M.G.S.ca c) dx []), (dx, .own ad)] := by rw [cells_nd]; rfl
          have ok0 : Ok M.W B1 (.nd (.ins ad dx true c []) []) := .mk rfl fun _ h => absurd h (by simp)
          refine call_ctx2 (W := M.W) (rs := .vl (dO true c [] []) :: rs) (ds := dO true c [] [] :: ds) (c0 := cells M.W (.nd (.ins ad dx true c []) []) ++ c0) (F := F) (Ts := Ts1) (B := B1) (σ := σ) (a1.heap (gd.perm ?_)) (.cons ⟨_, ok0, er_nd _ _, rfl, rfl⟩ ar) ?_ ?_ h7 ?_
          · rw [hcl]
            show ([(ad, HO.ins (M.G.S.ca c) dx []), (dx, HO.own ad)] ++ (cellsC M.W Ts1 ++ (c0 ++ F))).Perm (cellsC M.W Ts1 ++ (([(ad, HO.ins (M.G.S.ca c) dx []), (dx, HO.own ad)] ++ c0) ++ F))
            rw [List.append_assoc]
            exact pswap _ _ _
          · rw [resL, h3]; rfl
          · exact hfr
          · intro B2 Ts2 u us' H2 x2 e2 a2 g2' o2 eu em ev os
            cases us' with
            | nil => cases em
            | cons s us' =>
              injection em with em1 em2
              have ev1 : val s = .ref ad := (List.cons.inj ev).1
              refine ⟨?_, ?_⟩
              · have := isNon_iff u
                rw [eu, hnon] at this
                exact of_decide_eq_true this.symm
              · rw [← ev1]
                refine k B2 Ts2 s H2 (e1.trans x2) ?_ g2' (os s List.mem_cons_self) em1 fun zz => ?_
                · have a2 : At M.W B2 Ts2 (cells M.W u ++ ((cells M.W s ++ tcells M.W rs us') ++ F)) σ H2 := a2
                  have a3 := a2.drop
                  rw [List.append_assoc] at a3
                  refine (a3.perm (F' := tcells M.W rs us' ++ (cells M.W s ++ F)) (pswap _ _ _)).drop
                · rw [Bool.and_eq_true] at zz
                  rw [e2]
                  show wrT Ts1 rs us' = Ts
                  rw [wrT_no rs us' zz.2]
                  exact q1' zz.1
        · cases h8
      · cases h8
    · cases h4
/-- a method of a class -/
def KIns (S : Sg) (c : Nat) (m : Str) : V → Hp → Prop := fun x H => ∃ a dx fs, x = .ref a ∧ H a = some (.ins (S.ca c) dx fs) ∧ fs.lookup m = none
theorem kins_of {m c : Nat} (hn : M.G.S.nm m = x) (hc : clsOf d = some c) (hf : fldIx d m = none) (H : Hp) (u : T) (rb : Rb M.W H u) (eu : er u = d) : KIns M.G.S c x (val u) H := by
  cases u with
  | nd g ts =>
    rw [er_nd] at eu
    subst eu
    cases g with
    | ins a dx ow C ns =>
      cases hc
      obtain ⟨h1, h2⟩ := rb.tag
      refine ⟨a, dx, _, rfl, h1, ?_⟩
      rw [← hn]
      have hf : ((ns.findIdx? fun y => y == m).bind fun n => if n < (ts.map er).length then some n else none) = none := hf
      cases hi : ns.findIdx? (fun y => y == m) with
      | none => exact zip_none M.G.S.inj hi
      | some n =>
        rw [hi] at hf
        have := findIdx_lt hi
        rw [h2] at this
        have hf : (if n < (ts.map er).length then some n else none) = none := hf
        rw [List.length_map, if_pos this] at hf
        cases hf
    | _ => cases hc
end
end VI
/-! VOd -/
noncomputable section
namespace VI
open PySem L2 PyProof.Rows StX

/-! ## operators of own classes -/
section
variable {M : Md} {sc : Scope} {e a b c : Expr} {ca cb cc : C} {es rest : List Expr} {cs : List C} {pos p p2 apos : Pos} {X : Cx} {tp : Bool} {Γ Γ' Γ1 : Ctx} {q q1 : Bool} {d : D} {te : TE} {o : Op} {x : Str} {W : Wo} {B B' H : Hp} {F L : List Cell} {Ts : CtxT} {σ : L2.St} {rs : List Rd'} {ds outs : List D} {cl : Cl} {f : Nat} {ta : TA}
theorem ArgsOk.swap {r1 r2 : Rd'} {vs : List V} {c0 : List Cell} (h : ArgsOk W B Ts σ [r1, r2] vs c0) : ∃ v1 v2 c1, vs = [v1, v2] ∧ ArgsOk W B Ts σ [r2, r1] [v2, v1] c1 ∧ c0.Perm c1 := by
  cases h with
  | cons h1 h =>
    cases h with
    | cons h2 h =>
      cases h
      refine ⟨_, _, _, rfl, .cons h2 (.cons h1 .nil), ?_⟩
      rw [List.append_nil, List.append_nil]
      exact List.perm_append_comm
/-- what comes back -/
def dspV (o : Op) (Q : VK) : VK := fun v H => match o with
  | .len => ∃ n, v = .int n ∧ (0 ≤ n ∧ n < 2 ^ 63) ∧ Q v H
  | .cmp _ => ∃ b, v = .bl b ∧ Q v H
  | _ => Q v H
theorem dspV_of {u : T} {r1 : D} {Q : VK} (hq : dspQ o r1 = some d) (eu : er u = r1) (a : At W B Ts (cells W u ++ F) σ H) (ok : Ok W B u)
    (k : ∀ (u : T), At W B Ts (cells W u ++ F) σ H → Ok W B u → er u = d → Q (val u) H) : dspV o Q (val u) H := by
  subst eu
  unfold dspQ at hq
  split at hq
  · rename_i n ks e
    split at hq
    · rename_i hn
      cases hq
      have hv : val u = .int n := er_int e
      refine ⟨n, hv, hn, ?_⟩
      rw [hv]
      exact k (tI n) (by rw [c_int]; exact a.drop) (ok_int _) (e_int _)
    · cases hq
  · rename_i b ks e
    cases hq
    have hv : val u = .bl b := er_bl e
    refine ⟨b, hv, ?_⟩
    rw [hv]
    exact k (tB' b) (by rw [c_bl]; exact a.drop) (ok_bl _) (e_bl _)
  · cases hq
    exact k u a ok rfl
  · cases hq
/-- a call by an operator, the arguments as they stand or turned about -/
theorem AJ.dsp {rr : List V → Hp → VK → Prop} {sw : Bool} {r1 : D} (aj : AJ W ta Γ rs Γ' q) (h3 : resL Γ' rs = some ds) (hsw : sw = true → ∃ x y, rs = [x, y]) (hfr : free Γ' (swL sw rs) = true) (h5 : cl f (swL sw ds) = some (r1, outs)) (hq : dspQ o r1 = some d)
    (go : ∀ (us : List T) (H : Hp) (Q : VK), us.map er = ds → (∀ u ∈ us, Rb W H u) → spV W cl f (swL sw (vals us)) H (dspV o Q) → rr (vals us) H Q) :
    EJ W (fun σ H Q => ta σ H fun vs H1 => rr vs H1 Q) Γ (wrB Γ' (swL sw rs) outs) (q && noPl (swL sw rs)) d := by
  intro B Ts F σ H aa g Q k
  refine aj B Ts F σ H aa g _ fun B1 Ts1 c0 vs H1 e1 a1 g1' q1' ar => ?_
  subst g1'
  obtain ⟨us, y1, y2, y3, y4⟩ := ar.us h3 fun i t ht => (a1.ok i t ht).1
  subst y2
  refine go us H1 Q y1 (fun u hu => a1.rb (y3 u hu) fun z hz => ?_) ?_
  · rcases List.mem_append.mp (y4 u hu z hz) with w | w
    · exact List.mem_append_left _ w
    · exact List.mem_append_right _ (List.mem_append_left _ w)
  have fin : ∀ {rs' : List Rd'} {vs' : List V} {c1 : List Cell} {ds' : List D}, At W B1 Ts1 (c1 ++ F) σ H1 → ArgsOk W B1 Ts1 σ rs' vs' c1 → resL (erC Ts1) rs' = some ds' → free (erC Ts1) rs' = true → cl f ds' = some (r1, outs) →
      (∀ (B' : Hp) (Ts' : CtxT) (u : T) (H' : Hp), Ext B B' → At W B' Ts' (cells W u ++ F) σ H' → erC Ts' = wrB (erC Ts1) rs' outs → Ok W B' u → er u = d → ((q && noPl rs') = true → Ts' = Ts) → Q (val u) H') → spV W cl f vs' H1 (dspV o Q) := by
    intro rs' vs' c1 ds' a2 ar2 hr hf hc kk
    refine call_ctx a2 ar2 hr hf hc fun B2 Ts2 u us' H2 x2 e2 a3 g2' o' eu => dspV_of hq eu a3 o' fun u' a4 o4 eu' => kk B2 Ts2 u' H2 (e1.trans x2) a4 g2' o4 eu' fun zz => ?_
    rw [Bool.and_eq_true] at zz
    rw [e2, wrT_no rs' us' zz.2]
    exact q1' zz.1
  cases sw with
  | false => exact fin a1 ar h3 hfr h5 k
  | true =>
    obtain ⟨x, y, rfl⟩ := hsw rfl
    obtain ⟨v1, v2, c1, hv, ar2, pm⟩ := ar.swap
    rw [hv]
    refine fin (a1.perm (pm.append_right F)) ar2 ?_ hfr h5 k
    rw [resL] at h3
    obtain ⟨d1, z1, z2⟩ := obind h3
    obtain ⟨l2, z3, z4⟩ := omap z2
    rw [resL] at z3
    obtain ⟨d2, z5, z6⟩ := obind z3
    obtain ⟨l3, z7, z8⟩ := omap z6
    cases z7
    subst z8
    subst z4
    rw [resL, z5]
    show Option.map _ (resL (erC Ts1) [x]) = _
    rw [resL, z1]
    rfl
/-- a def is called by the operator -/
theorem XOk.fn' (mo : M.Ok) (xo : XOk M.G M.k M.N tp sc X) (f : Nat) : FnG X.prog X.w X.K X.mg X.base M.k (M.G.fa f) (M.G.fd f) (M.G.ps f) (spV M.G.W M.cl f) := by
  have FF := mo.c.go f
  rw [← xo.prog, ← xo.w, ← xo.K, ← xo.mg, ← xo.base] at FF
  exact FF
theorem spV_len (mo : M.Ok) {vs : List V} {Q : VK} (h : spV M.G.W M.cl f vs H Q) : vs.length = (M.G.ps f).length := by
  obtain ⟨B, L, us, d, outs, e1, e2, e3, e4, e5⟩ := h
  have := mo.c.ar _ _ _ e4
  rw [← this, e1]
  unfold vals
  rw [List.length_map, List.length_map]
theorem run_in1 {pins : List (Addr × Obj)} {s : Shared} {Q : VK} {us : List Value} {vs : List V} {k : Nat} {fa : Addr} {fd : FuncData} {ps : List Str} {sp : Spg} (F : FnG X.prog X.w X.K X.mg X.base k fa fd ps sp) (hr : Room (k + 1) X.A) (hg : X.A.guards = some []) (hb : BindsG X.K fd ps)
    (I : Inv X pins σ H s) (r : Vals vs us) (hl : vs.length = ps.length) (h : sp vs H Q) : wpAny (model X.prog X.w) X.A.in1 (call (.ref fa) us) (EP X pins σ Q) X.xe s := by
  refine wpAny_call (codeAny_mono (F.go X.A.in1 X.stack s H ⟨us, []⟩ us vs Q hr.in1 hg I.env0.in1 (hb _ _ I.kIn (by rw [← r.length]; exact hl)) r hl h) fun r s' hq => ?_)
  obtain ⟨u, rfl, q3⟩ := hq
  exact I.after q3
theorem ty_looks {u : T} {d : D} {pins : List (Addr × Obj)} {s : Shared} (hc : ∀ c, ClsX X.K (M.G.S.ca c)) (rb : Rb (M.G.S.wo X.K) H u) (ee : er u = d) (I : Inv X pins σ H s) {v : Value} (rv : RelV (val u) v) :
    PySem.W.Looks (model X.prog X.w) s.heap (typeOf v) (tyO M.G.S.ca (tyOf d)) := by
  have ty : TyX X.K H (val u) (tyO M.G.S.ca (tyOf d)) := by
    subst ee
    cases u with
    | nd g ts =>
      rw [er_nd]
      cases g with
      | non => exact .base .non
      | bl b => exact .base (.bl b)
      | int b => exact .base (.int b)
      | str b => exact .base (.str b)
      | tup a =>
        rcases (show SqT X.K H a (vals ts) from rb.tag) with (e | ⟨o, e⟩) | ⟨o, its, n, e, c, _⟩
        · exact .base (.tup e)
        · exact .fTuple e
        · exact .kTuple e c
      | lst a ow =>
        rcases (show SqL X.K H a (vals ts) from rb.tag) with (e | ⟨o, e⟩) | ⟨o, its, n, e, c, _⟩
        · exact .base (.lst e)
        · exact .base (.frz e)
        · exact .kList e c
      | dct a ow ks lk =>
        rcases (show Rd H a (.dK (ks.zip (vals ts))) ∧ _ from rb.tag).1 with e | ⟨o, e⟩
        · exact .base (.dK e)
        · exact .fDict e
      | ins a dx ow C ns => exact .base (.ins (show H a = some (.ins (M.G.S.ca C) dx ((ns.map M.G.S.nm).zip (vals ts))) ∧ _ from rb.tag).1 (hc C).cls (hc C).at_ (hc C).get (hc C).tak (hc C).obj)
  obtain ⟨P, Z, hp, _⟩ := kit_of I rv ty
  exact Z.ty _ _ I.kIn hp
theorem ins_of {u : T} {d : D} {c : Nat} (rb : Rb (M.G.S.wo X.K) H u) (ee : er u = d) (hc : clsOf d = some c) : ∃ a dx fs, val u = .ref a ∧ H a = some (.ins (M.G.S.ca c) dx fs) := by
  subst ee
  cases u with
  | nd g ts =>
    rw [er_nd] at hc
    cases g with
    | ins a dx ow c' ns =>
      cases hc
      exact ⟨a, dx, _, rfl, (show H a = some (.ins (M.G.S.ca _) dx ((ns.map M.G.S.nm).zip (vals ts))) ∧ _ from rb.tag).1⟩
    | _ => cases hc
theorem len_dsp (mo : M.Ok) (xo : XOk M.G M.k M.N tp sc X) {u : T} {d : D} {c : Nat} (rb : Rb (M.G.S.wo X.K) H u) (ee : er u = d) (hc : clsOf d = some c) (hf : M.G.Φ.dnd c 0 = some f) {Q : VK} (h : spV M.G.W M.cl f [val u] H (dspV .len Q)) : cC X (.builtin "len") [val u] H Q := by
  obtain ⟨a, dx, fs, e1, e2⟩ := ins_of rb ee hc
  intro pins s σ us I r
  obtain ⟨v, rfl, rv⟩ := vals1 r
  rw [e1] at rv
  cases rv
  obtain ⟨mA, J, _⟩ := ins_get I.hok e2
  obtain ⟨od, J, _⟩ := J.look
  obtain ⟨m, hF⟩ := I.fr
  obtain ⟨g1, g2, g3, g4⟩ := mo.g.dnd c 0 f hf
  rw [← xo.K] at g1 g2 g4
  have h1 := h
  rw [e1] at h1
  refine PySem.W.len_K hF I.ok.mod.kin J g1 g2 (wpAny_mono (run_in1 (vs := [V.ref a]) (xo.fn' mo f) xo.room xo.gu g4 I (.cons rfl .nil) (spV_len mo h1) h1) (fun v s' hv => ?_) fun _ _ z => z)
  obtain ⟨w, H', I', rw', n, rfl, hn, hq⟩ := hv
  obtain ⟨t, rfl⟩ := rw'
  exact ⟨hn, V.int n, _, I'.tok _, ⟨_, rfl⟩, hq⟩
theorem CmpBack.of {v : Value} {s' : Shared} {Q : Value → Shared → Prop} {w : V} (r : RelV w v) (h : Q v s') : PySem.W.CmpBack Q v s' := by
  cases v <;> first | exact h | skip
  cases w <;> first | (cases r; done) | (obtain ⟨_, r⟩ := r; exact nomatch r)
theorem run_at {pins : List (Addr × Obj)} {s : Shared} {Q : VK} {us : List Value} {vs : List V} (mo : M.Ok) (xo : XOk M.G M.k M.N tp sc X) (hb : BindsG X.K (M.G.fd f) (M.G.ps f))
    (I : Inv X pins σ H s) (r : Vals vs us) (h : spV M.G.W M.cl f vs H Q) : wpAny (model X.prog X.w) X.A (call (.ref (M.G.fa f)) us) (EP X pins σ Q) X.xe s :=
  run_g (xo.fn' mo f) (xo.room.mono (Nat.le_succ _)) xo.gu hb I r (spV_len mo h) h
theorem eq_dsp (mo : M.Ok) (xo : XOk M.G M.k M.N tp sc X) {u1 u2 : T} {d1 d2 : D} {c : Nat} (rb : Rb (M.G.S.wo X.K) H u1) (rb2 : Rb (M.G.S.wo X.K) H u2) (ee : er u1 = d1) (ee2 : er u2 = d2) (hc : clsOf d1 = some c) (hf : M.G.Φ.dnd c 1 = some f)
    (hn : clsOf d2 = some c ∨ subO M.G.Φ (tyOf d2) c = false) {Q : VK} (h : spV M.G.W M.cl f [val u1, val u2] H (dspV (.cmp .Eq) Q)) : cO X (compareOp .Eq) (val u1) (val u2) H Q := by
  obtain ⟨a, dx, fs, e1, e2⟩ := ins_of rb ee hc
  intro pins s σ v u I rv ru
  rw [e1] at rv
  cases rv
  obtain ⟨mA, J, _⟩ := ins_get I.hok e2
  obtain ⟨od, J, _⟩ := J.look
  obtain ⟨m, hF⟩ := I.fr
  obtain ⟨g1, g2, g3, g4⟩ := mo.g.dnd c 1 f hf
  have g5 := mo.g.sbk (tyOf d2) c f hf
  rw [← xo.K] at g1 g2 g4 g5
  have lk := ty_looks (fun c => by rw [xo.K]; exact mo.g.clx c) rb2 ee2 I ru
  have h1 := h
  rw [e1] at h1
  show wpAny (model X.prog X.w) X.A (richCompare .Eq (.ref a) u) (EP X pins σ Q) X.xe s
  refine PySem.W.cmp_K (op := .Eq) (by have := xo.un; omega) hF I.ok.mod.kin J lk ?_ g1 g2 (wpAny_mono (run_at (vs := [V.ref a, val u2]) mo xo g4 I (.cons rfl (.cons ru .nil)) h1) (fun v s' hv => ?_) fun _ _ z => z)
  · unfold PySem.W.notFirst
    rcases hn with hn | hn
    · have : tyOf d2 = some (.cls c) := by
        cases d2 with
        | nd g ts => cases g <;> cases hn; rfl
      rw [this]
      show ((Value.ref (M.G.S.ca c)) == _ || _) = true
      rw [beq_self_eq_true]
      rfl
    · rw [g5, hn]
      simp
  · obtain ⟨w, H', I', rw', b, rfl, hq⟩ := hv
    cases rw'
    exact ⟨V.bl b, H', I', rfl, hq⟩
theorem add_dsp (mo : M.Ok) (xo : XOk M.G M.k M.N tp sc X) {u1 u2 : T} {d1 d2 : D} {c : Nat} (rb : Rb (M.G.S.wo X.K) H u1) (rb2 : Rb (M.G.S.wo X.K) H u2) (ee : er u1 = d1) (ee2 : er u2 = d2) (hc : clsOf d1 = some c) (hf : M.G.Φ.dnd c 2 = some f)
    (hn : clsOf d2 = some c) {Q : VK} (h : spV M.G.W M.cl f [val u1, val u2] H (dspV (.bin .Add) Q)) : cO X (binaryOp .Add) (val u1) (val u2) H Q := by
  obtain ⟨a, dx, fs, e1, e2⟩ := ins_of rb ee hc
  intro pins s σ v u I rv ru
  rw [e1] at rv
  cases rv
  obtain ⟨mA, J, _⟩ := ins_get I.hok e2
  obtain ⟨od, J, _⟩ := J.look
  obtain ⟨m, hF⟩ := I.fr
  obtain ⟨g1, g2, g3, g4⟩ := mo.g.dnd c 2 f hf
  rw [← xo.K] at g1 g2 g3 g4
  have lk := ty_looks (fun c => by rw [xo.K]; exact mo.g.clx c) rb2 ee2 I ru
  have : tyOf d2 = some (.cls c) := by
    cases d2 with
    | nd g ts => cases g <;> cases hn; rfl
  rw [this] at lk
  have h1 := h
  rw [e1] at h1
  refine PySem.W.binop_K (op := .Add) hF I.ok.mod.kin J lk g3 g1 g2 (wpAny_mono (run_at (vs := [V.ref a, val u2]) mo xo g4 I (.cons rfl (.cons ru .nil)) h1) (fun v s' hv => ?_) fun _ _ z => z)
  obtain ⟨w, H', I', rw', hq⟩ := hv
  exact CmpBack.of rw' ⟨w, H', I', rw', hq⟩
theorem dnd_sub {Φ : Prg} {d : D} {c : Nat} (h : ∀ c', clsOf d = some c' → c' = c ∨ Φ.sub c' c = false) : clsOf d = some c ∨ subO Φ (tyOf d) c = false := by
  cases d with
  | nd g ts =>
    cases g with
    | ins o c' ns =>
      rcases h c' rfl with rfl | h
      · exact .inl rfl
      · exact .inr h
    | _ => exact .inr rfl
theorem cmp_Kr {prog : Program} {w : World} {A : Around} {E : Value → Shared → Prop} {s : Shared} {K : PySem.W.Frag} {x y C C' LL f : Addr} {h₀ : Heap} {m : Str → Option Value} {ox oy : Obj} {od od' : Option Obj} {Q : Value → Shared → Prop} (hu : A.units < cLine)
    (F : Fr h₀ LL s.heap m) (X₀ : K.In h₀) (I : PySem.W.InstAt s.heap x ox C od) (J : PySem.W.InstAt s.heap y oy C' od') (hn : C' ≠ C) (hsub : PySem.W.subIn K (.ref C') (.ref C) = some true)
    (hs : PySem.W.findIn K (.ref C') "__eq__" = some (some (.ref f))) (hf : PySem.W.isFn K (.ref f) = true)
    (h : wpAny (model prog w) A (call (.ref f) [.ref y, .ref x]) (PySem.W.CmpBack Q) E s) : wpAny (model prog w) A (richCompare .Eq (.ref x) (.ref y)) Q E s := by
  have X := X₀.keeps F.keep
  have one : wpAny (model prog w) A (tryCompare (.ref y) (cmpInfo .Eq).2.2 (.ref x)) (fun r s' => ∃ v, r = some v ∧ Q v s') E s := by
    unfold tryCompare
    refine wpAny_bind (PySem.W.ifBound_K X J hs hf (wpAny_mono h (fun v s' hv => ?_) fun _ _ e => e))
    cases v <;> first | exact hv.elim | exact wpAny_pure ⟨_, rfl, hv⟩
  unfold richCompare
  simp only [oneThing_ref]
  refine wpAny_holding (wpAny_bind (wpAny_cRoomFor hu ?_))
  refine wpAny_bind (I.type.here (wpAny_bind (J.type.here ?_)))
  rw [if_pos (by simp; exact fun z => hn z.symm)]
  refine wpAny_bind ((PySem.W.looks_subIn X hsub).here ?_)
  simp only [if_true]
  refine wpAny_bind (wpAny_mono one (fun r s' z => ?_) fun _ _ e => e)
  obtain ⟨v, rfl, hq⟩ := z
  exact wpAny_bind (wpAny_rule (wpAny_pure hq))
theorem eq_dsp2 (mo : M.Ok) (xo : XOk M.G M.k M.N tp sc X) {u1 u2 : T} {d1 d2 : D} {c c' g : Nat} (rb : Rb (M.G.S.wo X.K) H u1) (rb2 : Rb (M.G.S.wo X.K) H u2) (ee : er u1 = d1) (ee2 : er u2 = d2) (hc : clsOf d1 = some c) (hc2 : clsOf d2 = some c')
    (hg : M.G.Φ.dnd c 1 = some g) (hf : M.G.Φ.dnd c' 1 = some f) (hne : c' ≠ c) (hsub : M.G.Φ.sub c' c = true) {Q : VK} (h : spV M.G.W M.cl f [val u2, val u1] H (dspV (.cmp .Eq) Q)) : cO X (compareOp .Eq) (val u1) (val u2) H Q := by
  obtain ⟨a, dx, fs, e1, e2⟩ := ins_of rb ee hc
  obtain ⟨a2, dx2, fs2, e12, e22⟩ := ins_of rb2 ee2 hc2
  intro pins s σ v u I rv ru
  rw [e1] at rv
  rw [e12] at ru
  cases rv
  cases ru
  obtain ⟨mA, J, _⟩ := ins_get I.hok e2
  obtain ⟨od, J, _⟩ := J.look
  obtain ⟨mA2, J2, _⟩ := ins_get I.hok e22
  obtain ⟨od2, J2, _⟩ := J2.look
  obtain ⟨m, hF⟩ := I.fr
  obtain ⟨g1, g2, g3, g4⟩ := mo.g.dnd c' 1 f hf
  have g5 := mo.g.sbk (some (.cls c')) c g hg
  have g5 : PySem.W.subIn M.G.K (.ref (M.G.S.ca c')) (.ref (M.G.S.ca c)) = some (M.G.Φ.sub c' c) := g5
  rw [hsub] at g5
  rw [← xo.K] at g1 g2 g4 g5
  have h1 := h
  rw [e1, e12] at h1
  show wpAny (model X.prog X.w) X.A (richCompare .Eq (.ref a) (.ref a2)) (EP X pins σ Q) X.xe s
  refine cmp_Kr (by have := xo.un; omega) hF I.ok.mod.kin J J2 (mo.g.sne c c' g f hg hf hne) g5 g1 g2 (wpAny_mono (run_at (vs := [V.ref a2, V.ref a]) mo xo g4 I (.cons rfl (.cons rfl .nil)) h1) (fun v s' hv => ?_) fun _ _ z => z)
  obtain ⟨w, H', I', rw', b, rfl, hq⟩ := hv
  cases rw'
  exact ⟨V.bl b, H', I', rfl, hq⟩
theorem dsp_go (mo : M.Ok) (xo : XOk M.G M.k M.N tp sc X) {us : List T} {sw : Bool} (e : us.map er = ds) (rb : ∀ u ∈ us, Rb (M.G.S.wo X.K) H u) (hd : dspD M.G.Φ o ds = some (f, sw)) {Q : VK} (h : spV M.G.W M.cl f (swL sw (vals us)) H (dspV o Q)) : opR X M.G.S o (vals us) H Q := by
  unfold dspD at hd
  split at hd
  · obtain ⟨c, h1, h2⟩ := obind hd
    obtain ⟨g, h3, h4⟩ := omap h2
    cases h4
    obtain ⟨u, rfl, ee⟩ := map_one e
    exact len_dsp mo xo (rb u List.mem_cons_self) ee h1 h3 h
  · obtain ⟨c, h1, h2⟩ := obind hd
    obtain ⟨u1, u2, rfl, ee, ee2⟩ := map_two e
    have r1 := rb u1 List.mem_cons_self
    have r2 := rb u2 (List.mem_cons_of_mem _ List.mem_cons_self)
    split at h2
    · rename_i c' hc'
      split at h2
      · rename_i hs
        obtain ⟨g0, h3, h4⟩ := obind h2
        obtain ⟨g, h5, h6⟩ := omap h4
        cases h6
        exact eq_dsp2 mo xo r1 r2 ee ee2 h1 hc' h3 h5 hs.1 hs.2 h
      · rename_i hs
        obtain ⟨g, h3, h4⟩ := omap h2
        cases h4
        refine eq_dsp mo xo r1 r2 ee ee2 h1 h3 (dnd_sub fun c2 e2 => ?_) h
        rw [hc'] at e2
        cases e2
        by_cases hcc : c' = c
        · exact .inl hcc
        · cases hsub : M.G.Φ.sub c' c
          · exact .inr rfl
          · exact absurd ⟨hcc, hsub⟩ hs
    · rename_i hc'
      obtain ⟨g, h3, h4⟩ := omap h2
      cases h4
      refine eq_dsp mo xo r1 r2 ee ee2 h1 h3 (dnd_sub fun c2 e2 => ?_) h
      rw [hc'] at e2
      cases e2
  · obtain ⟨c, h1, h2⟩ := obind hd
    obtain ⟨u1, u2, rfl, ee, ee2⟩ := map_two e
    have r1 := rb u1 List.mem_cons_self
    have r2 := rb u2 (List.mem_cons_of_mem _ List.mem_cons_self)
    split at h2
    · rename_i hc'
      obtain ⟨g, h3, h4⟩ := omap h2
      cases h4
      exact add_dsp mo xo r1 r2 ee ee2 h1 h3 hc' h
    · cases h2
  · cases hd
theorem dspD_two {Φ : Prg} (hd : dspD Φ o ds = some (f, true)) : ∃ x y, ds = [x, y] := by
  unfold dspD at hd
  split at hd
  · obtain ⟨c, h1, h2⟩ := obind hd
    obtain ⟨g, h3, h4⟩ := omap h2
    cases h4
  · exact ⟨_, _, rfl⟩
  · exact ⟨_, _, rfl⟩
  · cases hd
theorem resL_two {x y : D} (h : resL Γ rs = some [x, y]) : ∃ a b, rs = [a, b] := by
  have : ∀ (rs : List Rd') (ds : List D), resL Γ rs = some ds → rs.length = ds.length := by
    intro rs
    induction rs with
    | nil => intro ds h; cases h; rfl
    | cons r rs ih =>
      intro ds h
      rw [resL] at h
      obtain ⟨d, h1, h2⟩ := obind h
      obtain ⟨ds', h3, h4⟩ := omap h2
      subst h4
      rw [List.length_cons, List.length_cons, ih _ h3]
  have := this rs _ h
  cases rs with
  | nil => cases this
  | cons a rs =>
    cases rs with
    | nil => cases this
    | cons b rs =>
      cases rs with
      | nil => exact ⟨a, b, rfl⟩
      | cons _ _ => cases this
/-- an operation, by the library or by the class -/
theorem SA.op (mo : M.Ok) (ho : o ≠ .sortedset) (sa : SA M sc es cs) (xo : XOk M.G M.k M.N tp sc X) {z : Nat} {r : BR} (h : evB M.G.Φ M.cl (z + 1) (.op o cs) Γ = some r) : BJ M.W (fun σ H Q => aT X es σ H fun vs H1 => opR X M.G.S o vs H1 Q) Γ r := by
  rw [evB] at h
  obtain ⟨⟨rs, Γ', q⟩, h1, h2⟩ := obind h
  obtain ⟨ds, h3, h4⟩ := obind h2
  have aj := sa.go tp X xo z Γ rs Γ' q h1
  split at h4
  · rename_i d h5
    cases h4
    exact aj.on h3 (opD_on mo xo ho h5)
  · obtain ⟨⟨key, sw⟩, h5, h6⟩ := obind h4
    dsimp only at h6
    split at h6
    · rename_i hfr
      obtain ⟨⟨r1, outs⟩, h7, h8⟩ := obind h6
      obtain ⟨d, h9, h10⟩ := omap h8
      cases h10
      refine aj.dsp (o := o) h3 (fun hs => ?_) hfr h7 h9 fun us H Q e rb h => dsp_go mo xo e (by rw [← xo.eW]; exact rb) h5 h
      subst hs
      obtain ⟨x, y, rfl⟩ := dspD_two h5
      exact resL_two h3
    · cases h6
theorem SE.opX (mo : M.Ok) (ho : o ≠ .sortedset) (sa : SA M sc es cs) (hp : ∀ (tp : Bool) (X : Cx), XOk M.G M.k M.N tp sc X → PE X e (fun σ H Q => aT X es σ H fun vs H1 => opR X M.G.S o vs H1 Q)) : SE M sc e (.op o cs) := fun tp X xo z Γ r h => by
  cases z with
  | zero => simp [evB] at h
  | succ z =>
    have := SA.op mo ho sa xo h
    cases r with
    | pl j π d => exact PJ.lift this (hp tp X xo)
    | vl d Γ' q => exact EJ.lift this (hp tp X xo)
theorem SE.binX (mo : M.Ok) (n1 : notStar a = true) (n2 : notStar b = true) (h1 : SE M sc a ca) (h2 : SE M sc b cb) {op : Operator} : SE M sc (.BinOp a op b pos) (.op (.bin op) [ca, cb]) :=
  .opX mo (fun z => by cases z) (.two n1 n2 h1 h2) fun tp X xo => ⟨(pe_op or_cO pe_w pe_w).run⟩
theorem SE.cmpX (mo : M.Ok) (n1 : notStar a = true) (n2 : notStar b = true) (h1 : SE M sc a ca) (h2 : SE M sc b cb) {op : CmpOp} (hm : behindInMarks op b = false) : SE M sc (.Compare a [op] [b] pos) (.op (.cmp op) [ca, cb]) :=
  .opX mo (fun z => by cases z) (.two n1 n2 h1 h2) fun tp X xo => ⟨(pe_cmpR or_cO pe_w pe_w hm).run⟩
theorem ST.cmpX (mo : M.Ok) (n1 : notStar a = true) (n2 : notStar b = true) (h1 : SE M sc a ca) (h2 : SE M sc b cb) {op : CmpOp} (hm : behindInMarks op b = false) : ST M sc (.Compare a [op] [b] pos) (.op (.cmp op) [ca, cb]) := fun tp X xo z Γ x Γ' q ht => by
  obtain ⟨z', _, d, g1, g2⟩ := evT_inv ht
  obtain ⟨k, rfl⟩ := truth_inv g2
  cases z' with
  | zero => simp [evB] at g1
  | succ z => exact (TJ.of (SA.op mo (fun z => by cases z) (SA.two n1 n2 h1 h2) xo g1)).lift ⟨(pt_cmpR or_cO pe_w pe_w hm).run⟩
/-- a built-in function -/
theorem SE.bfX (mo : M.Ok) (ho : o ≠ .sortedset) (sa : SA M sc (e :: es) cs) {id : String} (hr : ∀ X : Cx, opR X M.G.S o = cC X (.builtin id)) (hv : bootBuiltins x = some (.builtin id)) (hb : M.G.Y.blt.contains x = true) (hg : glB sc x = true) (hn : okName x = true) : SE M sc (.Call (.Name x p) (e :: es) [] pos) (.op o cs) :=
  .opX mo ho sa fun tp X xo => by
    rw [hr]
    exact pe_callB cr_cC (gl_of xo hg) (mg_of mo xo hb) hv (pa_aT sa.ns) (okName_d hn).2.2 (okName_d hn).1 (starEach_cons (sa.ns _ List.mem_cons_self)) (noStar_any fun z hz => sa.ns z (List.mem_cons_of_mem _ hz))
end
end VI
/-! VOk -/
noncomputable section
namespace VI
open PySem L2 PyProof.Rows StX

/-! ## calls with keywords -/
def kwNames : List Keyword → Option (List Str)
  | [] => some []
  | ⟨some n, _, _⟩ :: r => (kwNames r).map fun ns => n :: ns
  | ⟨none, _, _⟩ :: _ => none
section
variable {M : Md} {sc : Scope} {e a b c : Expr} {ca cb cc : C} {es fs rest : List Expr} {cs : List C} {pos p p2 apos : Pos} {X : Cx} {tp : Bool} {Γ Γ' Γ1 : Ctx} {q q1 : Bool} {d : D} {te : TE} {o : Op} {x : Str} {W : Wo} {B B' H : Hp} {F L : List Cell} {Ts : CtxT} {σ : L2.St} {rs : List Rd'} {ds outs : List D} {cl : Cl} {f : Nat} {ta : TA} {kws : List Keyword} {ks : List Str}
theorem kw_facts {env : Env} {pos : Pos} : ∀ {kws : List Keyword} {ks : List Str}, kwNames kws = some ks → (backToKw pos (keywordEach kws env)).all (·.1.isSome) = true ∧ (backToKw pos (keywordEach kws env)).filterMap (·.1) = ks ∧ (backToKw pos (keywordEach kws env)).any (·.1.isNone) = false ∧ kws.length = ks.length
  | [], ks, h => by cases h; exact ⟨rfl, rfl, rfl, rfl⟩
  | ⟨some n, v, kp⟩ :: r, ks, h => by
    obtain ⟨ns, h1, h2⟩ := omap h
    subst h2
    obtain ⟨g1, g2, g3, g4⟩ := kw_facts (env := env) (pos := pos) h1
    refine ⟨?_, ?_, ?_, by rw [List.length_cons, List.length_cons, g4]⟩
    · show (true && _) = true
      rw [Bool.true_and]; exact g1
    · show n :: _ = n :: ns
      exact congrArg _ g2
    · show (false || _) = false
      rw [Bool.false_or]; exact g3
  | ⟨none, v, kp⟩ :: r, ks, h => by cases h
theorem pkk_aT : ∀ {kws : List Keyword}, PK X kws (aT X (kws.map (·.value)))
  | [] => pk_nil
  | ⟨n, v, kp⟩ :: r => pk_cons pe_w pkk_aT
theorem wEk_mono {Q Q' : VK} (h : wE X e σ H Q) (k : ∀ v H', Q v H' → Q' v H') : wE X e σ H Q' := fun pins s I =>
  wpAny_mono (h pins s I) (fun u s' ⟨v, H', I', r, q⟩ => ⟨v, H', I', r, k v H' q⟩) fun _ _ z => z
theorem aTk_mono : ∀ {es : List Expr} {H : Hp} {Q Q' : List V → Hp → Prop}, aT X es σ H Q → (∀ vs H', Q vs H' → Q' vs H') → aT X es σ H Q'
  | [], H, Q, Q', h, k => k _ _ h
  | e :: es, H, Q, Q', h, k => wEk_mono (e := e) h fun v H1 h1 => aTk_mono (es := es) h1 fun vs H2 h2 => k _ _ h2
theorem aTk_len : ∀ {es : List Expr} {H : Hp} {Q : List V → Hp → Prop}, aT X es σ H Q → aT X es σ H fun vs H1 => vs.length = es.length ∧ Q vs H1
  | [], H, Q, h => ⟨rfl, h⟩
  | e :: es, H, Q, h => wEk_mono (e := e) h fun v H1 h1 => aTk_mono (es := es) (aTk_len (es := es) h1) fun vs H2 h2 => ⟨by rw [List.length_cons, List.length_cons, h2.1], h2.2⟩
theorem aTk_split : ∀ {es : List Expr} {H : Hp} {Q : List V → Hp → Prop}, aT X (es ++ fs) σ H Q → aT X es σ H fun vs H1 => vs.length = es.length ∧ aT X fs σ H1 fun ws H2 => ws.length = fs.length ∧ Q (vs ++ ws) H2
  | [], H, Q, h => ⟨rfl, aTk_len (es := fs) h⟩
  | e :: es, H, Q, h => wEk_mono (e := e) h fun v H1 h1 => aTk_mono (es := es) (aTk_split (es := es) h1) fun vs H2 h2 => ⟨by rw [List.length_cons, List.length_cons, h2.1], h2.2⟩
theorem ArgsOk.pick {r : Rd'} : ∀ {rs : List Rd'} {vs : List V} {c0 : List Cell} {i : Nat}, ArgsOk W B Ts σ rs vs c0 → rs[i]? = some r → ∃ v c c', vs[i]? = some v ∧ ArgOk W B Ts σ r v c ∧ ArgsOk W B Ts σ (rs.eraseIdx i) (vs.eraseIdx i) c' ∧ c0.Perm (c ++ c')
  | _, _, _, i, .nil, h => by simp at h
  | _, _, _, 0, .cons (v := v) (c := c) (cs := cs) h1 h2, h => by
    simp at h
    subst h
    exact ⟨v, c, cs, rfl, h1, h2, .refl _⟩
  | _, _, _, i + 1, .cons (v := v0) (c := c0) (cs := cs) h1 h2, h => by
    obtain ⟨v, c, c', g1, g2, g3, g4⟩ := ArgsOk.pick (i := i) h2 (by simpa using h)
    exact ⟨v, c, c0 ++ c', by simpa using g1, g2, .cons h1 g3, (g4.append_left c0).trans (pswap c0 c c')⟩
theorem ArgsOk.perm : ∀ {pm : List Nat} {rs0 rs : List Rd'} {vs : List V} {c0 : List Cell}, ArgsOk W B Ts σ rs0 vs c0 → permL pm rs0 = some rs → ∃ vs' c1, permL pm vs = some vs' ∧ ArgsOk W B Ts σ rs vs' c1 ∧ c0.Perm c1
  | [], rs0, rs, vs, c0, ar, h => by
    cases rs0 with
    | nil => cases ar; cases h; exact ⟨[], [], rfl, .nil, .refl _⟩
    | cons _ _ => cases h
  | i :: pm, rs0, rs, vs, c0, ar, h => by
    rw [permL] at h
    obtain ⟨r, h1, h2⟩ := obind h
    obtain ⟨rs', h3, h4⟩ := omap h2
    subst h4
    obtain ⟨v, c, c', g1, g2, g3, g4⟩ := ar.pick h1
    obtain ⟨vs', c1, k1, k2, k3⟩ := ArgsOk.perm g3 h3
    exact ⟨v :: vs', c ++ c1, by rw [permL, g1]; show Option.map _ _ = _; rw [k1]; rfl, .cons g2 k2, g4.trans (k3.append_left c)⟩
theorem valsk_pick {v : V} : ∀ {vs : List V} {us : List Value} {i : Nat}, Vals vs us → vs[i]? = some v → ∃ u, us[i]? = some u ∧ RelV v u ∧ Vals (vs.eraseIdx i) (us.eraseIdx i)
  | _, _, i, .nil, h => by simp at h
  | _, _, 0, .cons r rr, h => by
    simp at h
    subst h
    exact ⟨_, rfl, r, rr⟩
  | _, _, i + 1, .cons r rr, h => by
    obtain ⟨u, g1, g2, g3⟩ := valsk_pick (i := i) rr (by simpa using h)
    exact ⟨u, by simpa using g1, g2, .cons r g3⟩
theorem valsk_perm : ∀ {pm : List Nat} {vs l : List V} {us : List Value}, Vals vs us → permL pm vs = some l → ∃ l', permL pm us = some l' ∧ Vals l l'
  | [], vs, l, us, r, h => by
    cases r with
    | nil => cases h; exact ⟨[], rfl, .nil⟩
    | cons _ _ => cases h
  | i :: pm, vs, l, us, r, h => by
    rw [permL] at h
    obtain ⟨v, h1, h2⟩ := obind h
    obtain ⟨l', h3, h4⟩ := omap h2
    subst h4
    obtain ⟨u, g1, g2, g3⟩ := valsk_pick r h1
    obtain ⟨l2, k1, k2⟩ := valsk_perm g3 h3
    exact ⟨u :: l2, by rw [permL, g1]; show Option.map _ _ = _; rw [k1]; rfl, .cons g2 k2⟩
theorem valsk_app : ∀ {xs ys : List V} {us ws : List Value}, Vals xs us → Vals ys ws → Vals (xs ++ ys) (us ++ ws)
  | _, _, _, _, .nil, h => h
  | _, _, _, _, .cons r rr, h => .cons r (valsk_app rr h)
/-- f(.., k = ..) -/
theorem pe_gk {k : Nat} {fa : Addr} {fd : FuncData} {ps : List Str} {sp : Spg} {pm : List Nat} (FF : FnG X.prog X.w X.K X.mg X.base k fa fd ps sp) (hr : Room k X.A) (hg : X.A.guards = some [])
    (hb : ∀ (s : Shared) (us ws l : List Value), X.K.In s.heap → us.length = es.length → ws.length = ks.length → permL pm (us ++ ws) = some l → BindsTo s fd ⟨us, ks.zip ws⟩ (ps.zip l))
    (gl : Gl X x) (hm : X.mg x = some (.ref fa)) (hk : PySem.W.keepIn X.K (.ref fa) = true) (ns : ∀ e ∈ es, notStar e = true) (hks : kwNames kws = some ks) (hdb : (x == ("__debug__" : Str)) = false) :
    PE X (.Call (.Name x p) es kws pos) (fun σ H Q => aT X (es ++ kws.map (·.value)) σ H fun vs H1 => ∃ l, permL pm vs = some l ∧ l.length = ps.length ∧ sp l H1 Q) := by
  refine ⟨fun pins s σ H Q I h => wpAny_Call_Name_kw (ld_glob I gl hm ?_ hdb)⟩
  obtain ⟨k1, k2, k3, k4⟩ := kw_facts (env := X.env) (pos := pos) hks
  have core : ∀ (us ws : List Value) (vs zs : List V) (s1 : Shared) (H1 : Hp), Inv X pins σ H1 s1 → Vals vs us → Vals zs ws → vs.length = es.length → zs.length = ks.length → (∃ l, permL pm (vs ++ zs) = some l ∧ l.length = ps.length ∧ sp l H1 Q) →
      wpAny (model X.prog X.w) X.A (call (.ref fa) us (ks.zip ws)) (EP X pins σ Q) X.xe s1 := by
    intro us ws vs zs s1 H1 I1 r rz l1 l2 ⟨l, hp, hl, hsp⟩
    obtain ⟨l', hp', rl⟩ := valsk_perm (valsk_app r rz) hp
    refine wpAny_call (codeAny_mono (go_fn FF hr hg I1 (hb s1 us ws l' I1.kIn (r.length.symm.trans l1) (rz.length.symm.trans l2) hp') rl hl hsp) fun r s' hq => ?_)
    obtain ⟨u, rfl, q⟩ := hq
    exact q
  have hz : ∀ zs : List V, zs.length = (kws.map (·.value)).length → zs.length = ks.length := fun zs h => by rw [h, List.length_map, k4]
  rcases nil_or (es := es) with rfl | ⟨e, r, rfl⟩
  · refine PySem.W.callWith_KW0 (h₀ := X.base) I.ok.mod.kin hk k1 (thn (pkk_aT.run pos pins s σ H _ I (aTk_split (es := []) h).2) fun ws s2 ⟨zs, H2, I2, rz, l2, q2⟩ => ⟨I2.kIn, ?_⟩) (by rw [k3]; rfl)
    rw [k2]
    exact core [] ws [] zs s2 H2 I2 .nil rz rfl (hz zs l2) q2
  · refine PySem.W.callWith_KW (h₀ := X.base) I.ok.mod.kin hk k1 (thn ((pa_aT ns).run pos pins s σ H _ I (aTk_split h)) fun us s1 ⟨vs, H1, I1, rv, l1, q⟩ => ?_) (by rw [k3, Bool.or_false]; exact noStar_any ns) (starEach_cons (ns _ List.mem_cons_self))
    refine thn (pkk_aT.run pos pins s1 σ H1 _ I1 q) fun ws s2 ⟨zs, H2, I2, rz, l2, q2⟩ => ⟨I2.kIn, ?_⟩
    rw [k2]
    exact core us ws vs zs s2 H2 I2 rv rz l1 (hz zs l2) q2
/-- C(.., k = ..) -/
theorem pe_kk {k : Nat} {fa C : Addr} {fd : FuncData} {ps : List Str} {sp : Spg} {pm : List Nat} (mk : Mk X.K C fa) (FF : FnG X.prog X.w X.K X.mg X.base k fa fd ps sp) (hr : Room (k + 1) X.A) (hg : X.A.guards = some [])
    (hb : ∀ (s : Shared) (y : Value) (us ws l : List Value), X.K.In s.heap → us.length = es.length → ws.length = ks.length → permL pm (us ++ ws) = some l → BindsTo s fd ⟨y :: us, ks.zip ws⟩ (ps.zip (y :: l)))
    (gl : Gl X x) (hm : X.mg x = some (.ref C)) (ns : ∀ e ∈ es, notStar e = true) (hks : kwNames kws = some ks) (hdb : (x == ("__debug__" : Str)) = false) :
    PE X (.Call (.Name x p) es kws pos) (fun σ H Q => aT X (es ++ kws.map (·.value)) σ H fun vs H1 => ∃ l, permL pm vs = some l ∧ ∀ a dx, H1 a = none → H1 dx = none → dx ≠ a → (V.ref a :: l).length = ps.length ∧
      sp (.ref a :: l) (upd (upd H1 dx (.own a)) a (.ins C dx [])) (fun v H2 => v = .non ∧ Q (.ref a) H2)) := by
  refine ⟨fun pins s σ H Q I h => wpAny_Call_Name_kw (ld_glob I gl hm ?_ hdb)⟩
  obtain ⟨k1, k2, k3, k4⟩ := kw_facts (env := X.env) (pos := pos) hks
  have core : ∀ (us ws : List Value) (vs zs : List V) (s1 : Shared) (H1 : Hp), Inv X pins σ H1 s1 → Vals vs us → Vals zs ws → vs.length = es.length → zs.length = ks.length → (∃ l, permL pm (vs ++ zs) = some l ∧ ∀ a dx, H1 a = none → H1 dx = none → dx ≠ a → (V.ref a :: l).length = ps.length ∧
      sp (.ref a :: l) (upd (upd H1 dx (.own a)) a (.ins C dx [])) (fun v H2 => v = .non ∧ Q (.ref a) H2)) →
      wpAny (model X.prog X.w) X.A (call (.ref C) us (ks.zip ws)) (EP X pins σ Q) X.xe s1 := by
    intro us ws vs zs s1 H1 I1 r rz l1 l2 ⟨l, hp, hq⟩
    obtain ⟨l', hp', rl⟩ := valsk_perm (valsk_app r rz) hp
    obtain ⟨hl, hq⟩ := hq (s1.heap.objs.size + 1) s1.heap.objs.size (I1.hok.fresh (Nat.le_succ _)) (I1.hok.fresh (Nat.le_refl _)) (Nat.ne_of_lt (Nat.lt_succ_self _))
    have I2 := Inv.made (C := C) I1
    have rv2 : Vals (V.ref (s1.heap.objs.size + 1) :: l) (Value.ref (s1.heap.objs.size + 1) :: l') := .cons rfl rl
    refine wpAny_call (make_map (f := fa) I1.kIn mk.makes mk.init (beq_iff_eq.mp mk.fn) (codeAny_mono
      (FF.go (X.A.under (.builtin "type.__call__" ⟨.ref C :: us, ks.zip ws⟩)) X.stack _ _ ⟨Value.ref (s1.heap.objs.size + 1) :: us, ks.zip ws⟩ _ _ (fun v H2 => v = .non ∧ Q (.ref (s1.heap.objs.size + 1)) H2)
        (hr.make C us (ks.zip ws)) (by rw [show (X.A.under (.builtin "type.__call__" ⟨.ref C :: us, ks.zip ws⟩)).guards = X.A.guards from rfl]; exact hg) (I2.env0.make C us (ks.zip ws)) (hb _ _ us ws l' I2.kIn (r.length.symm.trans l1) (rz.length.symm.trans l2) hp') rv2 hl hq) fun r s' hq' => ?_))
    obtain ⟨u, rfl, q⟩ := hq'
    obtain ⟨v, H', I3, rw', ev, q3⟩ := I2.after q
    subst ev
    exact ⟨rw', ⟨.ref (s1.heap.objs.size + 1), H', I3, rfl, q3⟩⟩
  have hz : ∀ zs : List V, zs.length = (kws.map (·.value)).length → zs.length = ks.length := fun zs h => by rw [h, List.length_map, k4]
  rcases nil_or (es := es) with rfl | ⟨e, r, rfl⟩
  · refine PySem.W.callWith_KW0 (h₀ := X.base) I.ok.mod.kin mk.kp k1 (thn (pkk_aT.run pos pins s σ H _ I (aTk_split (es := []) h).2) fun ws s2 ⟨zs, H2, I2, rz, l2, q2⟩ => ⟨I2.kIn, ?_⟩) (by rw [k3]; rfl)
    rw [k2]
    exact core [] ws [] zs s2 H2 I2 .nil rz rfl (hz zs l2) q2
  · refine PySem.W.callWith_KW (h₀ := X.base) I.ok.mod.kin mk.kp k1 (thn ((pa_aT ns).run pos pins s σ H _ I (aTk_split h)) fun us s1 ⟨vs, H1, I1, rv, l1, q⟩ => ?_) (by rw [k3, Bool.or_false]; exact noStar_any ns) (starEach_cons (ns _ List.mem_cons_self))
    refine thn (pkk_aT.run pos pins s1 σ H1 _ I1 q) fun ws s2 ⟨zs, H2, I2, rz, l2, q2⟩ => ⟨I2.kIn, ?_⟩
    rw [k2]
    exact core us ws vs zs s2 H2 I2 rv rz l1 (hz zs l2) q2
theorem SE.callK (mo : M.Ok) {pm : List Nat} (sa : SA M sc (es ++ kws.map (·.value)) cs) (hf : M.G.Y.fns.lookup x = some f) (hks : kwNames kws = some ks) (hpm : M.G.Y.kwf.lookup (f, es.length, ks) = some pm) (hg : glB sc x = true) (hn : okName x = true) :
    SE M sc (.Call (.Name x p) es kws pos) (.callK f cs pm) := fun tp X xo z Γ r hh => by
  cases z with
  | zero => simp [evB] at hh
  | succ z =>
    rw [evB] at hh
    obtain ⟨⟨rs0, Γ', q⟩, h1, h2z⟩ := obind hh
    obtain ⟨rs, h2, h2'⟩ := obind h2z
    obtain ⟨ds, h3, h4⟩ := obind h2'
    dsimp only at h4
    split at h4
    · rename_i hfr
      obtain ⟨⟨r1, outs⟩, h5, h6⟩ := obind h4
      cases h6
      obtain ⟨g1, g2, g3⟩ := mo.g.fn x f hf
      have hb := mo.g.kwf f es.length ks pm hpm
      rw [← xo.K] at hb
      have aj := sa.go tp X xo z Γ rs0 Γ' q h1
      refine EJ.lift ?_ (pe_gk (x := x) (p := p) (pos := pos) (k := M.k) (pm := pm) (xo.fn' mo f) (xo.room.mono (Nat.le_succ _)) xo.gu hb (gl_of xo hg) (by rw [xo.mg]; exact g1) (by rw [xo.K]; exact g2) (fun e he => sa.ns e (List.mem_append_left _ he)) hks (okName_d hn).1)
      intro B Ts F σ H aa g Q k
      refine aj B Ts F σ H aa g _ fun B1 Ts1 c0 vs H1 e1 a1 g1' q1' ar => ?_
      subst g1'
      obtain ⟨vs', c1, y1, ar2, pmc⟩ := ar.perm h2
      refine ⟨vs', y1, by rw [ar2.lenV h3]; exact mo.c.ar _ _ _ h5, ?_⟩
      refine call_ctx (a1.perm (pmc.append_right F)) ar2 h3 hfr h5 fun B2 Ts2 u us' H2 x2 e2 a2 g2' o eu => k B2 Ts2 u H2 (e1.trans x2) a2 g2' o eu fun zz => ?_
      rw [Bool.and_eq_true] at zz
      rw [e2, wrT_no rs us' zz.2]
      exact q1' zz.1
    · cases h4
theorem SE.makeK (mo : M.Ok) {c : Nat} {pm : List Nat} (sa : SA M sc (es ++ kws.map (·.value)) cs) (hf : M.G.Y.cls.lookup x = some c) (hks : kwNames kws = some ks) (hpm : M.G.Y.kwm.lookup (c, es.length, ks) = some pm) (hg : glB sc x = true) (hn : okName x = true) :
    SE M sc (.Call (.Name x p) es kws pos) (.makeK c cs pm) := fun tp X xo z Γ r hh => by
  cases z with
  | zero => simp [evB] at hh
  | succ z =>
    rw [evB] at hh
    obtain ⟨⟨rs0, Γ', q⟩, h1, h2z⟩ := obind hh
    obtain ⟨rs, h2, h2'⟩ := obind h2z
    obtain ⟨ds, h3, h4⟩ := obind h2'
    dsimp only at h4
    split at h4
    · rename_i hfr
      obtain ⟨f, h5, h6⟩ := obind h4
      obtain ⟨⟨r1, outs⟩, h7, h8⟩ := obind h6
      dsimp only at h8
      split at h8
      · rename_i self outs'
        split at h8
        · rename_i hnon
          cases h8
          obtain ⟨mk, _⟩ := mo.g.mke c f h5
          have hb := mo.g.kwm c f es.length ks pm h5 hpm
          rw [← xo.K] at hb
          have aj := sa.go tp X xo z Γ rs0 Γ' q h1
          refine EJ.lift ?_ (pe_kk (x := x) (p := p) (pos := pos) (k := M.k) (C := M.G.S.ca c) (pm := pm) (by rw [xo.K]; exact mk) (xo.fn' mo f) xo.room xo.gu hb (gl_of xo hg) (by rw [xo.mg]; exact mo.g.cl x c hf) (fun e he => sa.ns e (List.mem_append_left _ he)) hks (okName_d hn).1)
          intro B Ts F σ H aa g Q k
          refine aj B Ts F σ H aa g _ fun B1 Ts1 c0' vs0 H1 e1 a1' g1' q1' ar0 => ?_
          subst g1'
          obtain ⟨vs, c0, y1, ar, pmc⟩ := ar0.perm h2
          have a1 := a1'.perm (pmc.append_right F)
          refine ⟨vs, y1, fun ad dx hA hD hne => ?_⟩
          refine ⟨by rw [List.length_cons, ar.lenV h3]; exact mo.c.ar _ _ _ h7, ?_⟩
          have gd := (a1.good.new hD (o := .own ad)).new (p := ad) (o := .ins (M.G.S.ca c) dx []) (by rw [upd_ne (Ne.symm hne)]; exact hA)
          have hcl : cells M.W (.nd (.ins ad dx true c []) []) = [(ad, .ins (M.G.S.ca c) dx []), (dx, .own ad)] := by rw [cells_nd]; rfl
          have ok0 : Ok M.W B1 (.nd (.ins ad dx true c []) []) := .mk rfl fun _ h => absurd h (by simp)
          refine call_ctx2 (W := M.W) (rs := .vl (dO true c [] []) :: rs) (ds := dO true c [] [] :: ds) (c0 := cells M.W (.nd (.ins ad dx true c []) []) ++ c0) (F := F) (Ts := Ts1) (B := B1) (σ := σ) (a1.heap (gd.perm ?_)) (.cons ⟨_, ok0, er_nd _ _, rfl, rfl⟩ ar) ?_ ?_ h7 ?_
          · rw [hcl]
            show ([(ad, HO.ins (M.G.S.ca c) dx []), (dx, HO.own ad)] ++ (cellsC M.W Ts1 ++ (c0 ++ F))).Perm (cellsC M.W Ts1 ++ (([(ad, HO.ins (M.G.S.ca c) dx []), (dx, HO.own ad)] ++ c0) ++ F))
            rw [List.append_assoc]
            exact pswap _ _ _
          · rw [resL, h3]; rfl
          · exact hfr
          · intro B2 Ts2 u us' H2 x2 e2 a2 g2' o2 eu em ev os
            cases us' with
            | nil => cases em
            | cons s us' =>
              injection em with em1 em2
              have ev1 : val s = .ref ad := (List.cons.inj ev).1
              refine ⟨?_, ?_⟩
              · have := isNon_iff u
                rw [eu, hnon] at this
                exact of_decide_eq_true this.symm
              · rw [← ev1]
                refine k B2 Ts2 s H2 (e1.trans x2) ?_ g2' (os s List.mem_cons_self) em1 fun zz => ?_
                · have a2 : At M.W B2 Ts2 (cells M.W u ++ ((cells M.W s ++ tcells M.W rs us') ++ F)) σ H2 := a2
                  have a3 := a2.drop
                  rw [List.append_assoc] at a3
                  refine (a3.perm (F' := tcells M.W rs us' ++ (cells M.W s ++ F)) (pswap _ _ _)).drop
                · rw [Bool.and_eq_true] at zz
                  rw [e2]
                  show wrT Ts1 rs us' = Ts
                  rw [wrT_no rs us' zz.2]
                  exact q1' zz.1
        · cases h8
      · cases h8
    · cases h4
end
end VI
/-! VP -/
noncomputable section
namespace VI
open PySem L2 PyProof.Rows StX

def stdNms : List Str := ["append", "clear", "pop", "extend", "get", "reverse", "insert", "remove", "count", "index", "values"]
section
variable {M : Md} {sc : Scope} {e a b c : Expr} {ca cb cc : C} {es rest : List Expr} {cs : List C} {pos p p2 apos : Pos} {X : Cx} {tp : Bool} {Γ Γ' Γ1 : Ctx} {q q1 : Bool} {d d0 d' : D} {te : TE} {o : Op} {x : Str} {W : Wo} {B B' H : Hp} {F L : List Cell} {Ts : CtxT} {σ : L2.St} {rs : List Rd'} {ds outs : List D} {cl : Cl} {f : Nat} {ta : TA}

theorem wE_mono {Q Q' : VK} (h : wE X e σ H Q) (k : ∀ v H, Q v H → Q' v H) : wE X e σ H Q' := fun pins s I => thn (h pins s I) fun u s' ⟨v, H', I', r, q⟩ => ⟨v, H', I', r, k v H' q⟩
/-! ## own methods -/
theorem meth_ej {c key : Nat} {r : D} (mo : M.Ok) (xo : XOk M.G M.k M.N tp sc X) (aj : AJ M.W (tConsC (KIns M.G.S c x) (wE X a) (aT X es)) Γ rs Γ' q) (hr : resL Γ' rs = some ds) (hf : free Γ' rs = true) (hc : M.cl key ds = some (r, outs)) {m : Nat} (hk : M.G.Φ.mth c m = some key) (en : M.G.S.nm m = x)
    (ns : ∀ e ∈ es, notStar e = true) (hb : plainBase a = true) (hfew : es.length < 30) (hline : (apos.endLine == pos.line) = true) : EJ M.W (wE X (.Call (.Attribute a x apos) es [] pos)) Γ (wrB Γ' rs outs) (q && noPl rs) r := by
  obtain ⟨me, hbd⟩ := mo.g.mth c m key hk
  rw [en] at me
  have FF := mo.c.go key
  rw [← xo.prog, ← xo.w, ← xo.K, ← xo.mg, ← xo.base] at FF
  refine EJ.lift ?_ (pe_mg (k := M.k) (C := M.G.S.ca c) (m := x) (apos := apos) (pos := pos) FF (xo.room.mono (Nat.le_succ _)) xo.gu (by rw [xo.K]; exact hbd) (by rw [xo.K]; exact (mo.g.clx c).cls) (by rw [xo.K]; exact me) ns hb hfew hline)
  intro B Ts F σ H aa g Q k
  refine wE_mono (aj B Ts F σ H aa g (fun vs H2 => vs.length = (M.G.ps key).length ∧ spV M.G.W M.cl key vs H2 Q) fun B1 Ts1 c0 vs H1 e1 a1 g1 q1' ar => ?_) fun v H1 ⟨⟨a', dx, fs, v1, v2, v3⟩, hv⟩ => ⟨a', dx, fs, v1, v2, v3, hv⟩
  subst g1
  refine ⟨by rw [ar.lenV hr]; exact mo.c.ar _ _ _ hc, ?_⟩
  refine call_ctx a1 ar hr hf hc fun B2 Ts2 u us' H2 x2 e2 a2 g2' o eu => k B2 Ts2 u H2 (e1.trans x2) a2 g2' o eu fun zz => ?_
  rw [Bool.and_eq_true] at zz
  rw [e2, wrT_no rs us' zz.2]
  exact q1' zz.1

/-! ## changing methods of lists -/
theorem Good.wr' {a : Addr} {o o' : HO} (g : Good B H ((a, o) :: L)) : Good B (upd H a o') ((a, o') :: L) := g.wr
theorem At.mut {c0 cy rest junk : List Cell} {j : Nat} {π : List Nat} {u u' : T} {ad : Addr} {o o' : HO} (a : At W B Ts (c0 ++ F) σ H) (hr : Res Ts j π u) (hc : cells W u ≠ []) (ok : Ok W B u') (hv : val u' = val u) (p1 : (cells W u ++ c0).Perm ((ad, o) :: rest)) (p2 : ((ad, o') :: rest).Perm (junk ++ (cy ++ cells W u'))) :
    At W B (kill (putT Ts j π u') j π) (cy ++ F) σ (upd H ad o') := by
  obtain ⟨t0, hj, hu⟩ := hr
  obtain ⟨R, r1, r2⟩ := cellsC_put (W := W) hj hu
  refine (a.s.put (Ext.refl _) hj hu hc ok hv).at ?_
  rw [cellsC_kill]
  have g1 : Good B H ((ad, o) :: (rest ++ (R ++ F))) := a.good.perm (by
    have s1 := r1.append_right (c0 ++ F)
    refine s1.trans ?_
    rw [List.append_assoc]
    refine ((pswap R c0 F).append_left (cells W u)).trans ?_
    rw [← List.append_assoc]
    exact p1.append_right (R ++ F))
  refine (g1.wr'.perm (M := junk ++ (cellsC W (putT Ts j π u') ++ (cy ++ F))) ?_).drop
  have s2 : ((ad, o') :: (rest ++ (R ++ F))).Perm ((junk ++ (cy ++ cells W u')) ++ (R ++ F)) := (p2.append_right (R ++ F))
  refine s2.trans ?_
  rw [List.append_assoc]
  refine List.Perm.append_left _ ?_
  have s3 := (r2 u' hv).append_right (cy ++ F)
  refine List.Perm.trans ?_ s3.symm
  rw [List.append_assoc, List.append_assoc]
  exact (pswap cy (cells W u') (R ++ F)).trans ((pswap cy R F).append_left _)
/-- what a changing operation does to a tree -/
def MU (W : Wo) (r : V → List V → Hp → VK → Prop) (d : D) (ds : List D) (x d' : D) : Prop := ∀ (B H : Hp) (u : T) (us : List T) (Q : VK), Ok W B u → (∀ y ∈ us, Ok W B y) → (∀ c ∈ cells W u, H c.1 = some c.2) → er u = d → us.map er = ds →
  (∀ (y u' : T) (ad : Addr) (o o' : HO) (rest junk : List Cell), (cells W u ++ cellsL W us).Perm ((ad, o) :: rest) → ((ad, o') :: rest).Perm (junk ++ (cells W y ++ cells W u')) → Ok W B y → Ok W B u' → val u' = val u → er y = x → er u' = d' → Q (val y) (upd H ad o')) → r (val u) (vals us) H Q
theorem noPl_t : ∀ {rs : List Rd'} {us : List T}, noPl rs = true → rs.length = us.length → tcells W rs us = cellsL W us
  | [], [], _, _ => rfl
  | .vl _ :: rs, u :: us, h, l => by
    show cells W u ++ tcells W rs us = cells W u ++ cellsL W us
    rw [noPl_t (rs := rs) h (by simpa using l)]
  | .pl _ _ :: _, _, h, _ => by cases h
  | [], _ :: _, _, l => by cases l
  | .vl _ :: _, [], _, l => by cases l
theorem noPl_live : ∀ {rs : List Rd'}, noPl rs = true → live Γ rs = true
  | [], _ => rfl
  | .vl _ :: rs, h => noPl_live (rs := rs) h
  | .pl _ _ :: _, h => by cases h
theorem PJ.mut {K0 : V → Hp → Prop} {r : V → List V → Hp → VK → Prop} {j : Nat} {π : List Nat} {xd : D} (h : PJ W te Γ j π d0) (hs : AJ W ta Γ rs Γ' q) (hq : (q || decide (π = [])) = true) (hd : getE Γ' j π = some d) (hr : resL Γ' rs = some ds) (hn : noPl rs = true) (hl : live Γ' [.pl j π] = true)
    (hk : ∀ (H : Hp) (u : T), Rb W H u → er u = d0 → K0 (val u) H) (mu : MU W r d ds xd d') : EJ W (fun σ H Q => te σ H fun v H1 => K0 v H1 ∧ ta σ H1 fun vs H2 => r v vs H2 Q) Γ (kill (putE Γ' j π d') j π) false xd := by
  intro B Ts F σ H aa g Q k
  refine (AJ.consPC h hk hs hq) B Ts F σ H aa g (fun vs H2 => match vs with | v :: vs => r v vs H2 Q | [] => False) fun B1 Ts1 c0 vs H1 e1 a1 g1 q1' ar => ?_
  subst g1
  have hl2 : live (erC Ts1) (.pl j π :: rs) = true := by
    rw [live] at hl ⊢
    rw [Bool.and_eq_true] at hl ⊢
    exact ⟨hl.1, noPl_live hn⟩
  obtain ⟨us0, h1, h2, h3, h4, h5⟩ := ar.res (show resL (erC Ts1) (.pl j π :: rs) = some (d :: ds) by rw [resL]; show ((getE (erC Ts1) j π).bind _) = _; rw [hd, hr]; rfl) hl2 fun i t ht => (a1.ok i t ht).1
  cases us0 with
  | nil => cases h1
  | cons u us =>
    injection h1 with h1a h1b
    subst h2
    have len : rs.length = us.length := h4.2.2.len
    have hc0 : c0 = cellsL W us := by
      rw [h5]
      show tcells W rs us = _
      exact noPl_t hn len
    subst hc0
    obtain ⟨⟨t0, hj, hu⟩, hne, _⟩ := h4
    refine mu B1 H1 u us Q (h3 u List.mem_cons_self) (fun y hy => h3 y (List.mem_cons_of_mem _ hy)) (fun c hc => a1.good.own c ((a1.place hj hu).2 c hc)) h1a h1b fun y u' ad o o' rest junk p1 p2 oy ou hv ey eu => ?_
    refine k B1 _ y _ e1 (a1.mut ⟨t0, hj, hu⟩ hne ou hv p1 p2) ?_ oy ey fun zz => by cases zz
    rw [erC_kill, erC_putT, eu]
theorem isL_ty {ow : Bool} {kds : List D} (H : Hp) (u : T) (rb : Rb W H u) (eu : er u = .nd (.lst ow) kds) : L2.tyV W.K "list" (val u) H := by
  obtain ⟨ad, ts, rfl, _⟩ := er_lst eu
  exact .inl ⟨rfl, _, rb.tag⟩
theorem isL_inv (h : isL d = true) : ∃ o k, d = .nd (.lst o) k := by
  unfold isL at h
  split at h
  · exact ⟨_, _, rfl⟩
  · cases h
theorem cells_lst {ad : Addr} {ts : List T} : cells W (.nd (.lst ad true) ts) = (ad, .lst (vals ts)) :: cellsL W ts := by rw [cells_nd]; rfl
theorem mu_append {ts : List D} (h : ts.length < lim) : MU W rAppend (.nd (.lst true) ts) [d] dN (dL true (ts ++ [d])) := by
  intro B H u us Q ou os hc eu ed k
  obtain ⟨ad, tt, rfl, et⟩ := er_lst eu
  obtain ⟨y, rfl, ey⟩ := map_one ed
  subst et
  rw [List.length_map] at h
  refine ⟨ad, vals tt, val y, rfl, rfl, hc (ad, .lst (vals tt)) (by rw [cells_lst]; exact List.mem_cons_self), by unfold vals; rw [List.length_map, ← lim_eq]; exact h, ?_⟩
  have ev : vals tt ++ [val y] = vals (tt ++ [y]) := by unfold vals; rw [List.map_append]; rfl
  rw [ev]
  refine k tN' (.nd (.lst ad true) (tt ++ [y])) ad _ _ (cellsL W tt ++ cells W y) [] (by rw [cells_lst]; show ((ad, HO.lst (vals tt)) :: (cellsL W tt ++ (cells W y ++ []))).Perm _; rw [List.append_nil]) ?_ ok_non (.mk True.intro fun z hz => ?_) rfl e_non (by rw [er_nd, List.map_append]; show Tr.nd _ (_ ++ [er y]) = _; rw [ey]; rfl)
  · rw [c_non, cells_lst, cellsL_append]
    show ((ad, HO.lst (vals (tt ++ [y]))) :: (cellsL W tt ++ cells W y)).Perm ((ad, HO.lst (vals (tt ++ [y]))) :: (cellsL W tt ++ (cells W y ++ [])))
    rw [List.append_nil]
  · rcases List.mem_append.mp hz with hz | hz
    · exact ou.kids z hz
    · rw [List.mem_singleton.mp hz]; exact os y List.mem_cons_self
theorem mu_clear {ts : List D} : MU W rClear (.nd (.lst true) ts) [] dN (dL true []) := by
  intro B H u us Q ou os hc eu ed k
  obtain ⟨ad, tt, rfl, et⟩ := er_lst eu
  cases us with
  | cons _ _ => cases ed
  | nil =>
    refine ⟨ad, vals tt, rfl, rfl, hc (ad, .lst (vals tt)) (by rw [cells_lst]; exact List.mem_cons_self), ?_⟩
    refine k tN' (.nd (.lst ad true) []) ad (.lst (vals tt)) (.lst []) (cellsL W tt) (cellsL W tt) (by rw [cells_lst]; show ((ad, HO.lst (vals tt)) :: (cellsL W tt ++ [])).Perm _; rw [List.append_nil]) ?_ ok_non (.mk True.intro fun z hz => absurd hz (by simp)) rfl e_non (er_nd _ _)
    rw [c_non, cells_lst]
    show ((ad, HO.lst []) :: cellsL W tt).Perm (cellsL W tt ++ [(ad, HO.lst [])])
    exact List.perm_append_comm (l₁ := [(ad, HO.lst [])])
theorem map_erase {α β : Type} (f : α → β) : ∀ (l : List α) (n : Nat), (l.eraseIdx n).map f = (l.map f).eraseIdx n
  | [], _ => rfl
  | _ :: _, 0 => rfl
  | a :: l, n + 1 => congrArg (f a :: ·) (map_erase f l n)
theorem drop_erase {α : Type} : ∀ (l : List α), l.dropLast = l.eraseIdx (l.length - 1)
  | [] => rfl
  | [_] => rfl
  | a :: b :: l => congrArg (a :: ·) (drop_erase (b :: l))
theorem erase_cells {k : Nat} {t : T} : ∀ {ts : List T}, ts[k]? = some t → ∀ {k' : Nat}, k = k' → (cellsL W ts).Perm (cells W t ++ cellsL W (ts.eraseIdx k')) := fun {ts} h {k'} e => by
  subst e
  induction ts generalizing k with
  | nil => simp at h
  | cons y ts ih =>
    cases k with
    | zero =>
      simp at h
      subst h
      exact .refl _
    | succ k =>
      show (cells W y ++ cellsL W ts).Perm (cells W t ++ (cells W y ++ cellsL W (ts.eraseIdx k)))
      exact ((ih (k := k) (by simpa using h)).append_left _).trans (pswap _ _ _)
theorem mem_erase {k : Nat} {y : T} {ts : List T} (h : y ∈ ts.eraseIdx k) : y ∈ ts := List.mem_of_mem_eraseIdx h
theorem mu_popAt {ts : List D} {i : Int} {kk : List D} {n : Nat} {x : D} (h1 : -(2 ^ 63) ≤ i ∧ i < 2 ^ 63) (h2 : seqIndex? i ts.length = some n) (h3 : ts[n]? = some x) : MU W rPopAt (.nd (.lst true) ts) [.nd (.int i) kk] x (dL true (ts.eraseIdx n)) := by
  intro B H u us Q ou os hc eu ed k
  obtain ⟨ad, tt, rfl, et⟩ := er_lst eu
  obtain ⟨y, rfl, ey⟩ := map_one ed
  subst et
  rw [List.length_map] at h2
  rw [List.getElem?_map] at h3
  obtain ⟨t, ht, etx⟩ := omap h3
  have hvt : (vals tt)[n]? = some (val t) := by unfold vals; rw [List.getElem?_map, ht]; rfl
  refine ⟨ad, vals tt, i, n, val t, rfl, by rw [← er_int ey]; rfl, hc (ad, .lst (vals tt)) (by rw [cells_lst]; exact List.mem_cons_self), h1.1, h1.2, by unfold vals; rw [List.length_map]; exact h2, hvt, ?_⟩
  have ev : (vals tt).eraseIdx n = vals (tt.eraseIdx n) := by unfold vals; rw [map_erase]
  rw [ev]
  have cy : cells W y = [] := (os y List.mem_cons_self).shc (by rw [ey]; rfl)
  refine k t (.nd (.lst ad true) (tt.eraseIdx n)) ad _ _ (cellsL W tt) [] (by rw [cells_lst]; show ((ad, HO.lst (vals tt)) :: (cellsL W tt ++ (cells W y ++ []))).Perm _; rw [cy, List.append_nil, List.append_nil]) ?_ (ou.kids t (List.mem_of_getElem? ht)) (.mk True.intro fun z hz => ou.kids z (mem_erase hz)) rfl etx (by rw [er_nd, map_erase]; rfl)
  rw [cells_lst]
  show ((ad, HO.lst (vals (tt.eraseIdx n))) :: cellsL W tt).Perm (cells W t ++ ([(ad, HO.lst (vals (tt.eraseIdx n)))] ++ cellsL W (tt.eraseIdx n)))
  refine List.Perm.trans ?_ (pswap [(ad, HO.lst (vals (tt.eraseIdx n)))] (cells W t) _)
  exact (erase_cells ht rfl).append_left [(ad, HO.lst (vals (tt.eraseIdx n)))]
theorem mu_pop {ts : List D} {x : D} (h3 : ts[ts.length - 1]? = some x) : MU W rPop (.nd (.lst true) ts) [] x (dL true ts.dropLast) := by
  intro B H u us Q ou os hc eu ed k
  obtain ⟨ad, tt, rfl, et⟩ := er_lst eu
  cases us with
  | cons _ _ => cases ed
  | nil =>
    subst et
    rw [List.length_map, List.getElem?_map] at h3
    obtain ⟨t, ht, etx⟩ := omap h3
    have hvt : (vals tt)[(vals tt).length - 1]? = some (val t) := by unfold vals; rw [List.length_map, List.getElem?_map, ht]; rfl
    refine ⟨ad, vals tt, val t, rfl, rfl, hc (ad, .lst (vals tt)) (by rw [cells_lst]; exact List.mem_cons_self), hvt, ?_⟩
    have e1 : tt.dropLast = tt.eraseIdx (tt.length - 1) := drop_erase tt
    have ev : (vals tt).dropLast = vals tt.dropLast := by unfold vals; rw [List.map_dropLast]
    rw [ev]
    refine k t (.nd (.lst ad true) tt.dropLast) ad _ _ (cellsL W tt) [] (by rw [cells_lst]; show ((ad, HO.lst (vals tt)) :: (cellsL W tt ++ [])).Perm _; rw [List.append_nil]) ?_ (ou.kids t (List.mem_of_getElem? ht)) (.mk True.intro fun z hz => ou.kids z (List.dropLast_subset _ hz)) rfl etx (by rw [er_nd, List.map_dropLast]; rfl)
    rw [cells_lst]
    show ((ad, HO.lst (vals tt.dropLast)) :: cellsL W tt).Perm (cells W t ++ ([(ad, HO.lst (vals tt.dropLast))] ++ cellsL W tt.dropLast))
    refine List.Perm.trans ?_ (pswap [(ad, HO.lst (vals tt.dropLast))] (cells W t) _)
    rw [e1]
    exact (erase_cells ht rfl).append_left [(ad, HO.lst (vals (tt.eraseIdx (tt.length - 1))))]
end
end VI
/-! VQ -/
noncomputable section
namespace VI
open PySem L2 PyProof.Rows StX

section
variable {M : Md} {sc : Scope} {e a b c i : Expr} {ca cb cc ci : C} {es rest : List Expr} {cs : List C} {pos p p2 apos : Pos} {X : Cx} {tp : Bool} {Γ Γ' Γ1 : Ctx} {q q1 : Bool} {d d0 d' : D} {te : TE} {o : Op} {x : Str} {W : Wo} {B B' H : Hp} {F L : List Cell} {Ts : CtxT} {σ : L2.St} {rs : List Rd'} {ds outs : List D} {cl : Cl} {f : Nat} {ta : TA}

/-! ## reading methods -/
def RDS (W : Wo) (r : V → List V → Hp → VK → Prop) (d : D) (ds : List D) (x : D) : Prop := ∀ (B H : Hp) (u : T) (us : List T) (Q : VK), Ok W B u → (∀ y ∈ us, Ok W B y) → Rb W H u → (∀ y ∈ us, Rb W H y) → er u = d → us.map er = ds →
  (∀ y : T, Ok W B y → er y = x → cells W y = [] → Q (val y) H) → r (val u) (vals us) H Q
theorem AJ.rd {K0 : V → Hp → Prop} {r : V → List V → Hp → VK → Prop} {xd : D} (aj : AJ W (tConsC K0 te ta) Γ rs Γ' q) (hr : resL Γ' rs = some (d :: ds)) (rd : RDS W r d ds xd) : EJ W (fun σ H Q => tConsC K0 te ta σ H fun vs H2 => match vs with | v :: vs => r v vs H2 Q | [] => False) Γ Γ' q xd := by
  intro B Ts F σ H aa g Q k
  refine aj B Ts F σ H aa g _ fun B1 Ts1 c0 vs H1 e1 a1 g1 q1' ar => ?_
  subst g1
  obtain ⟨us0, h1, h2, h3, h4⟩ := ar.us hr fun i t ht => (a1.ok i t ht).1
  cases us0 with
  | nil => cases h1
  | cons u us =>
    injection h1 with h1a h1b
    subst h2
    have rb : ∀ y ∈ u :: us, Rb W H1 y := fun y hy => a1.rb (h3 y hy) fun c hc => by
      rcases List.mem_append.mp (h4 y hy c hc) with z | z
      · exact List.mem_append_left _ z
      · exact List.mem_append_right _ (List.mem_append_left _ z)
    refine rd B1 H1 u us Q (h3 u List.mem_cons_self) (fun y hy => h3 y (List.mem_cons_of_mem _ hy)) (rb u List.mem_cons_self) (fun y hy => rb y (List.mem_cons_of_mem _ hy)) h1a h1b fun y oy ey cy => ?_
    exact k B1 Ts1 y H1 e1 (by rw [cy]; exact a1.drop) rfl oy ey q1'
def KD : V → Hp → Prop := fun x H => ∃ a, x = .ref a ∧ IsD H a
def rGet1 : V → List V → Hp → VK → Prop := fun x vs H Q => match vs with
  | [y] => ∃ a, x = .ref a ∧ ∃ o, DGet H a y o ∧ Q (o.getD .non) H
  | _ => False
def rGet2 : V → List V → Hp → VK → Prop := fun x vs H Q => match vs with
  | [y, z] => ∃ a, x = .ref a ∧ ∃ o, DGet H a y o ∧ Q (o.getD z) H
  | _ => False
theorem dget_of {ow l : Bool} {ks : List Key} {ts : List D} {k : Int} {kk : List D} {u y : T} (rb : Rb W H u) (eu : er u = .nd (.dct ow l ks) ts) (ey : er y = .nd (.int k) kk) :
    ∃ ad, val u = .ref ad ∧ IsD H ad ∧ (∀ n, ks.findIdx? (fun q => decide (q = .inl k)) = some n → ∀ t, u.kids[n]? = some t → DGet H ad (val y) (some (val t))) ∧ (ks.findIdx? (fun q => decide (q = .inl k)) = none → DGet H ad (val y) none) := by
  obtain ⟨ad, lk, tt, rfl, _, et⟩ := er_dct eu
  obtain ⟨h1, h2⟩ := rb.tag
  refine ⟨ad, rfl, .inl ⟨_, h1⟩, fun n hn t ht => ?_, fun hn => ?_⟩
  · have ht : tt[n]? = some t := ht
    have hl : n < (vals tt).length := by unfold vals; rw [List.length_map]; exact (List.getElem?_eq_some_iff.mp ht).1
    refine .inl ⟨_, .inl k, h1, er_int ey, ?_⟩
    rw [zip_val hn hl]
    unfold vals
    rw [List.getElem?_map, ht]; rfl
  · exact .inl ⟨_, .inl k, h1, er_int ey, (zip_val0 hn).symm⟩
theorem rd_get1 {ow l : Bool} {ks : List Key} {ts : List D} {k : Int} {kk : List D} {xd : D} (h : rdM 4 (.nd (.dct ow l ks) ts) [.nd (.int k) kk] = some xd) : RDS W rGet1 (.nd (.dct ow l ks) ts) [.nd (.int k) kk] xd := by
  intro B H u us Q ou os rb rbs eu ed kq
  obtain ⟨y, rfl, ey⟩ := map_one ed
  obtain ⟨ad, h1, _, h2, h3⟩ := dget_of rb eu ey
  rw [rdM] at h
  cases hn : ks.findIdx? (fun q => decide (q = .inl k)) with
  | none =>
    rw [hn] at h
    cases h
    exact ⟨ad, h1, none, h3 hn, kq tN' ok_non e_non c_non⟩
  | some n =>
    rw [hn] at h
    obtain ⟨t, h4, h5⟩ := obind h
    split at h5
    · rename_i hs
      cases h5
      have hk : ((er u).kids)[n]? = some xd := by rw [eu]; exact h4
      obtain ⟨w, w1, w2, w3⟩ := kid_at hk
      have ow := at_ok w1 ou
      exact ⟨ad, h1, _, h2 n hn w w3, kq w ow w2 (ow.shc (by rw [w2]; exact hs))⟩
    · cases h5
theorem rd_get2 {ow l : Bool} {ks : List Key} {ts : List D} {k : Int} {kk : List D} {xd dd : D} (h : rdM 4 (.nd (.dct ow l ks) ts) [.nd (.int k) kk, dd] = some xd) : RDS W rGet2 (.nd (.dct ow l ks) ts) [.nd (.int k) kk, dd] xd := by
  intro B H u us Q ou os rb rbs eu ed kq
  obtain ⟨y, z, rfl, ey, ez⟩ := map_two ed
  obtain ⟨ad, h1, _, h2, h3⟩ := dget_of rb eu ey
  rw [rdM] at h
  cases hn : ks.findIdx? (fun q => decide (q = .inl k)) with
  | none =>
    rw [hn] at h
    have h : (if isSh dd then some dd else none) = some xd := h
    split at h
    · rename_i hs
      cases h
      have oz := os z (List.mem_cons_of_mem _ List.mem_cons_self)
      exact ⟨ad, h1, none, h3 hn, kq z oz ez (oz.shc (by rw [ez]; exact hs))⟩
    · cases h
  | some n =>
    rw [hn] at h
    obtain ⟨t, h4, h5⟩ := obind h
    split at h5
    · rename_i hs
      cases h5
      have hk : ((er u).kids)[n]? = some xd := by rw [eu]; exact h4
      obtain ⟨w, w1, w2, w3⟩ := kid_at hk
      have ow := at_ok w1 ou
      exact ⟨ad, h1, _, h2 n hn w w3, kq w ow w2 (ow.shc (by rw [w2]; exact hs))⟩
    · cases h5
theorem few_of (ns : ∀ e ∈ es, notStar e = true) (hf : es.length < 30) {env : Env} : ((backTo pos (starEach es env)).all (fun x => !x.1) && (backToKw pos (keywordEach [] env)).all (fun x => x.1.isSome)
      && decide (es.length + ([] : List Keyword).length + (if ([] : List Keyword).isEmpty then 0 else 1) < 30)) = true := by
  rw [noStar_all ns]
  show (true && true && decide (es.length + 0 + 0 < 30)) = true
  rw [decide_eq_true (show es.length + 0 + 0 < 30 from hf)]; rfl
/-- a list's method -/
theorem pe_lm {id : String} {r : V → List V → Hp → VK → Prop} (slot : Slot "list" x id) (hty : typeOf (.builtin id) = pure (.type "method_descriptor")) (hm : MtR X id r) (ns : ∀ e ∈ es, notStar e = true) (hb : plainBase a = true) (hf : es.length < 30) (hline : (apos.endLine == pos.line) = true) :
    PE X (.Call (.Attribute a x apos) es [] pos) (fun σ H Q => wE X a σ H fun v H1 => L2.tyV X.K "list" v H1 ∧ aT X es σ H1 fun vs H2 => r v vs H2 Q) := by
  cases es with
  | nil => exact ⟨(pe_bm0 PySem.F.plainAttrs_list slot hty hm pe_w (base_eq hb _ _ _) hline).run⟩
  | cons e es => exact ⟨(pe_bm PySem.F.plainAttrs_list slot hty hm pe_w (pa_aT ns) (base_eq hb _ _ _) (few_of ns hf) hline (starEach_cons (ns e List.mem_cons_self)) (noStar_any fun z hz => ns z (List.mem_cons_of_mem _ hz))).run⟩
theorem rdM_inv {m : Nat} {xd : D} (h : rdM m d ds = some xd) : m = 4 ∧ ∃ ow l ks ts k kk, d = .nd (.dct ow l ks) ts ∧ (ds = [.nd (.int k) kk] ∨ ∃ dd, ds = [.nd (.int k) kk, dd]) := by
  unfold rdM at h
  split at h
  · exact ⟨rfl, _, _, _, _, _, _, rfl, .inl rfl⟩
  · exact ⟨rfl, _, _, _, _, _, _, rfl, .inr ⟨_, rfl⟩⟩
  · cases h
theorem nm_get {more : List Str} (h : M.G.Y.nms = stdNms ++ more) (hm : M.G.Y.nms[4]? = some x) : x = "get" := by
  rw [h] at hm
  exact (Option.some.inj hm).symm
theorem SA.len2 (sa : SA M sc es cs) {z : Nat} (xo : XOk M.G M.k M.N tp sc X) (h : evAs M.G.Φ M.cl z cs Γ = some (rs, Γ', q)) : cs.length = rs.length := by
  have : ∀ (cs : List C) (z : Nat) (Γ : Ctx) (rs : List Rd') (Γ' : Ctx) (q : Bool), evAs M.G.Φ M.cl z cs Γ = some (rs, Γ', q) → cs.length = rs.length := by
    intro cs
    induction cs with
    | nil =>
      intro z Γ rs Γ' q h
      cases z with
      | zero => simp [evAs] at h
      | succ z => rw [evAs] at h; cases h; rfl
    | cons c cs ih =>
      intro z Γ rs Γ' q h
      cases z with
      | zero => simp [evAs] at h
      | succ z =>
        rw [evAs] at h
        obtain ⟨r, h1, h2⟩ := obind h
        cases r with
        | pl j π d =>
          obtain ⟨⟨rs', Γ1, q1⟩, h3, h4⟩ := obind h2
          dsimp only at h4
          split at h4
          · cases h4; rw [List.length_cons, List.length_cons, ih _ _ _ _ _ h3]
          · cases h4
        | vl d Γ1 q1 =>
          obtain ⟨⟨rs', Γ1, q1⟩, h3, h4⟩ := omap h2
          cases h4; rw [List.length_cons, List.length_cons, ih _ _ _ _ _ h3]
  exact this cs z Γ rs Γ' q h
theorem get_ej (mo : M.Ok) (xo : XOk M.G M.k M.N tp sc X) {xd : D} {rs0 : List Rd'} (aj : AJ M.W (tConsC KD (wE X a) (aT X es)) Γ rs0 Γ' q) (hr : resL Γ' rs0 = some (d :: ds)) (hel : es.length = ds.length) (h : rdM 4 d ds = some xd) (ns : ∀ e ∈ es, notStar e = true) (hb : plainBase a = true) (hline : (apos.endLine == pos.line) = true) :
    EJ M.W (wE X (.Call (.Attribute a "get" apos) es [] pos)) Γ Γ' q xd := by
  have hu : X.A.units + 1 < cLine := by have := xo.un; omega
  obtain ⟨_, ow, l, ks, ts, k, kk, rfl, hd⟩ := rdM_inv h
  rcases hd with rfl | ⟨dd, rfl⟩
  · match es, hel with
    | [e1], _ =>
      refine EJ.lift ?_ (pe_dget1 hu pe_w pe_w ⟨base_eq hb _ _ _, few_of ns (by simp), hline, by rw [starEach_cons (ns e1 List.mem_cons_self)]; rfl⟩)
      intro B Ts F σ H aa g Q k
      exact wE_mono ((AJ.rd aj hr (rd_get1 h)) B Ts F σ H aa g Q k) fun v H1 ⟨⟨ad, v1, v2⟩, hv⟩ => ⟨ad, v1, v2, wE_mono hv fun y H2 ⟨ad2, v3, o, v4, v5⟩ => by
        rw [v1] at v3; cases v3; exact ⟨o, v4, v5⟩⟩
  · match es, hel with
    | [e1, e2], _ =>
      refine EJ.lift ?_ (pe_dget2 hu pe_w pe_w pe_w ⟨base_eq hb _ _ _, few_of ns (by simp), hline, by rw [starEach_cons (ns e1 List.mem_cons_self), starEach_cons (ns e2 (List.mem_cons_of_mem _ List.mem_cons_self))]; rfl⟩)
      intro B Ts F σ H aa g Q k
      exact wE_mono ((AJ.rd aj hr (rd_get2 h)) B Ts F σ H aa g Q k) fun v H1 ⟨⟨ad, v1, v2⟩, hv⟩ => ⟨ad, v1, v2, wE_mono hv fun y H2 hw => wE_mono hw fun z H3 ⟨ad2, v3, o, v4, v5⟩ => by
        rw [v1] at v3; cases v3; exact ⟨o, v4, v5⟩⟩
theorem resL_len : ∀ {rs : List Rd'} {ds : List D}, resL Γ rs = some ds → rs.length = ds.length
  | [], ds, h => by cases h; rfl
  | r :: rs, ds, h => by
    rw [resL] at h
    obtain ⟨d, h1, h2⟩ := obind h
    obtain ⟨ds', h3, h4⟩ := omap h2
    subst h4
    rw [List.length_cons, List.length_cons, resL_len h3]
theorem ints_vals : ∀ {ts : List T} {ns : List Int}, intsOf (ts.map er) = some ns → vals ts = ns.map V.int
  | [], ns, h => by cases h; rfl
  | t :: ts, ns, h => by
    rw [List.map_cons] at h
    generalize e : er t = x at h
    cases x with
    | nd g kk =>
      cases g with
      | int i =>
        obtain ⟨ms, h1, h2⟩ := omap h
        subst h2
        show val t :: vals ts = V.int i :: ms.map V.int
        rw [er_int e, ints_vals h1]
      | _ => cases h
theorem rd_cnt {ow : Bool} {ks kk : List D} {k : Int} {ns : List Int} (h : intsOf ks = some ns) : RDS W (rCntI W.K) (.nd (.lst ow) ks) [.nd (.int k) kk] (dI ((ns.count k : Nat) : Int)) := by
  intro B H u us Q ou os rb rbs eu ed kq
  obtain ⟨y, rfl, ey⟩ := map_one ed
  obtain ⟨ad, ts, rfl, et⟩ := er_lst eu
  refine ⟨ad, ns, k, rfl, ?_, ?_, kq (tI _) (ok_int _) (e_int _) (c_int _)⟩
  · show [val y] = [V.int k]
    rw [er_int ey]
  · rw [← ints_vals (by rw [et]; exact h)]
    exact rb.tag
theorem SE.mth (mo : M.Ok) {more : List Str} (hnm : M.G.Y.nms = stdNms ++ more) (h : SE M sc a ca) (sa : SA M sc es cs) (hcs : cs.length = es.length) (hb : plainBase a = true) (hf : es.length < 30) (hline : (apos.endLine == pos.line) = true) {m : Nat} (hm : M.G.Y.nms[m]? = some x) :
    SE M sc (.Call (.Attribute a x apos) es [] pos) (.mth ca m cs) := fun tp X xo z Γ r hh => by
  have en := mo.g.nm m x hm
  cases z with
  | zero => simp [evB] at hh
  | succ z =>
    rw [evB] at hh
    obtain ⟨r0, g1, hh⟩ := obind hh
    have b0 := h tp X xo z Γ r0 g1
    cases r0 with
    | pl j π d0 =>
      obtain ⟨⟨rs, Γ', q⟩, h1, h2⟩ := obind hh
      dsimp only at h2
      have aj := sa.go tp X xo z Γ rs Γ' q h1
      have l1 := sa.len2 xo h1
      split at h2
      · cases h2
      · rename_i hq
        have hq : (q || decide (π = [])) = true := by
          cases hx : (q || decide (π = [])) with
          | true => rfl
          | false => rw [hx] at hq; exact absurd rfl hq
        obtain ⟨d, h3, h4⟩ := obind h2
        obtain ⟨ds, h5, h6⟩ := obind h4
        have hr : resL Γ' (.pl j π :: rs) = some (d :: ds) := by rw [resL]; show ((getE Γ' j π).bind _) = _; rw [h3, h5]; rfl
        have l2 : es.length = ds.length := by rw [← hcs, l1, resL_len h5]
        cases hc : clsOf d0 with
        | some c =>
          rw [hc] at h6
          dsimp only at h6
          split at h6
          · rename_i hfr
            obtain ⟨key, h7, h8⟩ := obind h6
            split at h8
            · rename_i hfl
              obtain ⟨⟨r1, outs⟩, h9, h10⟩ := obind h8
              cases h10
              have := meth_ej (apos := apos) (pos := pos) mo xo (AJ.consPC (K := KIns M.G.S c x) b0 (fun H u rb eu => kins_of en hc hfl H u rb eu) aj hq) hr hfr h9 h7 en sa.ns hb hf hline
              have e0 : (q && noPl (.pl j π :: rs)) = false := by show (q && false) = false; rw [Bool.and_false]
              rw [e0] at this
              exact this
            · cases h8
          · cases h6
        | none =>
          rw [hc] at h6
          dsimp only at h6
          split at h6
          · rename_i xd hrd
            cases h6
            split at hrd
            · rename_i hqt
              obtain ⟨rfl, ow, l, ks, ts, k, kk, e1, _⟩ := rdM_inv hrd
              have ex := nm_get hnm hm
              subst ex
              have hk : ∀ (H : Hp) (u : T), Rb M.W H u → er u = d0 → KD (val u) H := fun H u rb eu => by
                unfold isDct at hqt
                split at hqt
                · obtain ⟨ad, lk, tt, rfl, _, et⟩ := er_dct eu
                  exact ⟨ad, rfl, .inl ⟨_, rb.tag.1⟩⟩
                · cases hqt
              exact get_ej mo xo (AJ.consPC (K := KD) b0 hk aj hq) hr l2 hrd sa.ns hb hline
            · split at hrd
              · rename_i hqt
                unfold cntM at hrd
                split at hrd
                · obtain ⟨ns, i1, i2⟩ := omap hrd
                  subst i2
                  have ex : x = "count" := by rw [hnm] at hm; exact (Option.some.inj hm).symm
                  subst ex
                  obtain ⟨ow, kds, rfl⟩ := isL_inv hqt
                  have hk : ∀ (H : Hp) (u : T), Rb M.W H u → er u = .nd (.lst ow) kds → L2.tyV X.K "list" (val u) H := fun H u rb eu => by rw [xo.K]; exact isL_ty H u rb eu
                  have hrd2 := AJ.rd (AJ.consPC (K := L2.tyV X.K "list") b0 hk aj hq) hr (rd_cnt (W := M.W) i1)
                  rw [show M.W.K = X.K from xo.K.symm] at hrd2
                  exact hrd2.lift (pe_lm PySem.F.slot_list_count PySem.F.type_list_count mt_lcount sa.ns hb hf hline)
                · cases hrd
              · cases hrd
          · split at h6
            · rename_i hs
              rw [Bool.and_eq_true, Bool.and_eq_true] at hs
              obtain ⟨s1, s2, s3⟩ := hs
              obtain ⟨⟨xd, d'⟩, h7, h8⟩ := omap h6
              cases h8
              obtain ⟨ow, kds, rfl⟩ := isL_inv s1
              have hk : ∀ (H : Hp) (u : T), Rb M.W H u → er u = .nd (.lst ow) kds → L2.tyV X.K "list" (val u) H := fun H u rb eu => by rw [xo.K]; exact isL_ty H u rb eu
              rw [muX_eq] at h7
              unfold muM at h7
              split at h7
              · split at h7
                · rename_i hl
                  cases h7
                  have ex : x = "append" := by rw [hnm] at hm; exact (Option.some.inj hm).symm
                  subst ex
                  exact (PJ.mut b0 aj hq h3 h5 s2 s3 hk (mu_append hl)).lift (pe_lm PySem.F.slot_list_append PySem.F.type_list_append mt_append sa.ns hb hf hline)
                · cases h7
              · cases h7
                have ex : x = "clear" := by rw [hnm] at hm; exact (Option.some.inj hm).symm
                subst ex
                exact (PJ.mut b0 aj hq h3 h5 s2 s3 hk mu_clear).lift (pe_lm PySem.F.slot_list_clear PySem.F.type_list_clear mt_clear sa.ns hb hf hline)
              · have ex : x = "pop" := by rw [hnm] at hm; exact (Option.some.inj hm).symm
                subst ex
                obtain ⟨n, y1, y2⟩ := obind h7
                obtain ⟨t, y3, y4⟩ := obind y2
                split at y4
                · rename_i hb2
                  cases y4
                  exact (PJ.mut b0 aj hq h3 h5 s2 s3 hk (mu_popAt hb2 y1 y3)).lift (pe_lm PySem.F.slot_list_pop PySem.F.type_list_pop mt_popAt sa.ns hb hf hline)
                · cases y4
              · have ex : x = "pop" := by rw [hnm] at hm; exact (Option.some.inj hm).symm
                subst ex
                obtain ⟨t, y3, y4⟩ := omap h7
                cases y4
                exact (PJ.mut b0 aj hq h3 h5 s2 s3 hk (mu_pop y3)).lift (pe_lm PySem.F.slot_list_pop PySem.F.type_list_pop mt_pop sa.ns hb hf hline)
              · cases h7
            · cases h6
    | vl d Γ1 q1 =>
      obtain ⟨⟨rs, Γ', q⟩, h1, h2⟩ := obind hh
      dsimp only at h2
      have aj := sa.go tp X xo z Γ1 rs Γ' q h1
      have l1 := sa.len2 xo h1
      obtain ⟨ds, h5, h6⟩ := obind h2
      have hr : resL Γ' (.vl d :: rs) = some (d :: ds) := by rw [resL, h5]; rfl
      have l2 : es.length = ds.length := by rw [← hcs, l1, resL_len h5]
      cases hc : clsOf d with
      | some c =>
        rw [hc] at h6
        dsimp only at h6
        split at h6
        · rename_i hfr
          obtain ⟨key, h7, h8⟩ := obind h6
          split at h8
          · rename_i hfl
            obtain ⟨⟨r1, outs⟩, h9, h10⟩ := obind h8
            dsimp only at h10
            split at h10
            · rename_i o1 outs'
              cases h10
              exact meth_ej (rs := .vl d :: rs) (apos := apos) (pos := pos) mo xo (AJ.consVC (K := KIns M.G.S c x) b0 (fun H u rb eu => kins_of en hc hfl H u rb eu) aj) hr hfr h9 h7 en sa.ns hb hf hline
            · cases h10
          · cases h8
        · cases h6
      | none =>
        rw [hc] at h6
        dsimp only at h6
        obtain ⟨xd, hrd, h7⟩ := omap h6
        subst h7
        obtain ⟨rfl, ow, l, ks, ts, k, kk, e1, _⟩ := rdM_inv hrd
        have ex := nm_get hnm hm
        subst ex
        have hk : ∀ (H : Hp) (u : T), Rb M.W H u → er u = d → KD (val u) H := fun H u rb eu => by
          rw [e1] at eu
          obtain ⟨ad, lk, tt, rfl, _, et⟩ := er_dct eu
          exact ⟨ad, rfl, .inl ⟨_, rb.tag.1⟩⟩
        exact get_ej mo xo (AJ.consVC (K := KD) b0 hk aj) hr l2 hrd sa.ns hb hline
end
end VI
/-! VR -/
noncomputable section
namespace VI
open PySem L2 PyProof.Rows StX

section
variable {M : Md} {sc : Scope} {e a b c i : Expr} {ca cb cc ci : C} {es rest : List Expr} {cs : List C} {pos p p2 apos : Pos} {X : Cx} {tp : Bool} {Γ Γ' Γ1 : Ctx} {q q1 : Bool} {d d0 d' k : D} {te : TE} {o : Op} {x : Str} {W : Wo} {B B' H : Hp} {F L : List Cell} {Ts : CtxT} {σ : L2.St} {rs : List Rd'} {ds outs : List D} {cl : Cl} {f : Nat} {ta : TA} {r : R2} {n : Nat} {xd : D}

/-! ## e[i] -/
def IXS (W : Wo) (r : R2) (d k : D) (n : Nat) : Prop := ∀ (H : Hp) (u y : T) (Q : VK), Rb W H u → er u = d → er y = k → ∀ t, u.kids[n]? = some t → Q (val t) H → r (val u) (val y) H Q
theorem ix_args {Q : List V → Hp → Prop} (h : AJ W ta Γ rs Γ' q) : AJ W ta Γ rs Γ' q := h
theorem AJ.ixP {j : Nat} {π : List Nat} (h : AJ W ta Γ [.pl j π, .vl k] Γ' q) (hd : getE Γ' j π = some d) (ix : IXS W r d k n) (hx : (d.kids)[n]? = some xd) (hs : isSh xd = true) : EJ W (fun σ H Q => ta σ H fun vs H1 => on2 r vs H1 Q) Γ Γ' q xd := by
  intro B Ts F σ H aa g Q kk
  refine h B Ts F σ H aa g _ fun B1 Ts1 c0 vs H1 e1 a1 g1 q1' ar => ?_
  subst g1
  cases ar with
  | cons a0 ar =>
    cases ar with
    | cons a00 ar =>
      cases ar
      obtain ⟨ec, a0⟩ := a0
      obtain ⟨y, oy, ey, vy, cy⟩ := a00
      obtain ⟨t0, u, ht, hu, eu, ev⟩ := a0 d hd
      subst ev vy
      rw [← eu] at hx
      obtain ⟨t, h1, h2, h3⟩ := kid_at hx
      have ou := at_ok hu (a1.ok j t0 ht).1
      have ot := at_ok h1 ou
      refine ix H1 u y Q (a1.rb ou (a1.place ht hu).2) eu ey t h3 ?_
      exact kk B1 Ts1 t H1 e1 (by rw [ot.shc (by rw [h2]; exact hs)]; exact a1.drop) rfl ot h2 q1'
theorem AJ.ixQ {j : Nat} {π : List Nat} (h : AJ W ta Γ [.pl j π, .vl k] Γ' true) (hd : getE Γ' j π = some d) (ix : IXS W r d k n) (hx : (d.kids)[n]? = some xd) : PJ W (fun σ H Q => ta σ H fun vs H1 => on2 r vs H1 Q) Γ j (π ++ [n]) xd := by
  intro B Ts F σ H aa g Q kk
  refine h B Ts F σ H aa g _ fun B1 Ts1 c0 vs H1 e1 a1 g1 q1' ar => ?_
  have hT := q1' rfl
  subst hT
  subst g1
  cases ar with
  | cons a0 ar =>
    cases ar with
    | cons a00 ar =>
      cases ar
      obtain ⟨ec, a0⟩ := a0
      obtain ⟨y, oy, ey, vy, cy⟩ := a00
      obtain ⟨t0, u, ht, hu, eu, ev⟩ := a0 d hd
      subst ev vy
      rw [← eu] at hx
      obtain ⟨t, h1, h2, h3⟩ := kid_at hx
      have ou := at_ok hu (a1.ok j t0 ht).1
      refine ix H1 u y Q (a1.rb ou (a1.place ht hu).2) eu ey t h3 ?_
      exact kk B1 H1 t0 t e1 a1.drop ht (by rw [Tr.at_append, hu]; exact h1) h2
theorem AJ.ixV (h : AJ W ta Γ [.vl d, .vl k] Γ' q) (ix : IXS W r d k n) (hx : (d.kids)[n]? = some xd) : EJ W (fun σ H Q => ta σ H fun vs H1 => on2 r vs H1 Q) Γ Γ' q xd := by
  intro B Ts F σ H aa g Q kk
  refine h B Ts F σ H aa g _ fun B1 Ts1 c0 vs H1 e1 a1 g1 q1' ar => ?_
  subst g1
  cases ar with
  | cons a0 ar =>
    cases ar with
    | cons a00 ar =>
      cases ar
      obtain ⟨u, ou, eu, ev, cu⟩ := a0
      obtain ⟨y, oy, ey, vy, cy⟩ := a00
      subst ev vy cu cy
      rw [← eu] at hx
      obtain ⟨t, h1, h2, h3⟩ := kid_at hx
      refine ix H1 u y Q (a1.rb ou fun c hc => List.mem_append_right _ (List.mem_append_left _ (List.mem_append_left _ hc))) eu ey t h3 ?_
      obtain ⟨R, p1, _⟩ := cells_put W [n] u t h1
      refine kk B1 Ts1 t H1 e1 ?_ rfl (at_ok h1 ou) h2 q1'
      rw [List.append_nil] at a1
      refine (a1.perm (F' := (R ++ cells W y) ++ (cells W t ++ F)) ?_).drop
      have s1 : ((cells W u ++ cells W y) ++ F).Perm (((cells W t ++ R) ++ cells W y) ++ F) := ((p1.append_right _).append_right _)
      refine s1.trans ?_
      rw [List.append_assoc, List.append_assoc]
      refine (pswap _ _ _).trans ?_
      rw [List.append_assoc]
      exact (pswap (cells W t) (cells W y) F).append_left R
def plainSub : Expr → Bool
  | .Slice _ _ none _ => false
  | _ => true
theorem plainSub_eq (h : plainSub i = true) : PlainIx i := fun o iv => by
  cases i with
  | Slice lo hi st p => cases st <;> first | exact absurd h Bool.false_ne_true | rfl
  | _ => rfl
def rDg : R2 := fun x y H Q => ∃ a v, x = .ref a ∧ DGet H a y (some v) ∧ Q v H
theorem ixOf_inv {n : Nat} (h : ixOf d k = some n) : (∃ ts kk i, d = .nd .tup ts ∧ k = .nd (.int i) kk ∧ ixN ts.length i = some n) ∨ (∃ o ts kk i, d = .nd (.lst o) ts ∧ k = .nd (.int i) kk ∧ ixN ts.length i = some n) ∨
    (∃ o l ks ts kk i, d = .nd (.dct o l ks) ts ∧ k = .nd (.int i) kk ∧ ks.findIdx? (fun q => decide (q = .inl i)) = some n) := by
  unfold ixOf at h
  split at h
  · obtain ⟨m, h1, h2⟩ := obind h
    split at h2
    · cases h2; exact .inl ⟨_, _, _, rfl, rfl, h1⟩
    · cases h2
  · obtain ⟨m, h1, h2⟩ := obind h
    split at h2
    · cases h2; exact .inr (.inl ⟨_, _, _, _, rfl, rfl, h1⟩)
    · cases h2
  · obtain ⟨m, h1, h2⟩ := obind h
    split at h2
    · cases h2; exact .inr (.inr ⟨_, _, _, _, _, _, rfl, rfl, h1⟩)
    · cases h2
  · cases h
/-- the rule for what stands there -/
theorem ix_rule (xo : XOk M.G M.k M.N tp sc X) (hn : ixOf d k = some n) (hs : plainSub i = true) : ∃ r : R2, IXS M.W r d k n ∧ PE X (.Subscript a i pos) (fun σ H Q => aT X [a, i] σ H fun vs H1 => on2 r vs H1 Q) := by
  rcases ixOf_inv hn with ⟨ts, kk, iv, rfl, rfl, h1⟩ | ⟨ow, ts, kk, iv, rfl, rfl, h1⟩ | ⟨ow, l, ks, ts, kk, iv, rfl, rfl, h1⟩
  · refine ⟨rIxT X.K, fun H u y Q rb eu ey t ht q => ?_, ⟨(pe_ix ix_tup pe_w pe_w (plainSub_eq hs)).run⟩⟩
    obtain ⟨ad, tt, rfl, et⟩ := er_tup eu
    subst et
    rw [List.length_map] at h1
    refine ⟨ad, vals tt, iv, val t, rfl, er_int ey, by rw [xo.K]; exact rb.tag, ?_, q⟩
    unfold atI vals
    rw [List.length_map, h1]
    show (tt.map val)[n]? = some (val t)
    rw [List.getElem?_map, show tt[n]? = some t from ht]; rfl
  · refine ⟨rIxL X.K, fun H u y Q rb eu ey t ht q => ?_, ⟨(pe_ix ix_list pe_w pe_w (plainSub_eq hs)).run⟩⟩
    obtain ⟨ad, tt, rfl, et⟩ := er_lst eu
    subst et
    rw [List.length_map] at h1
    refine ⟨ad, vals tt, iv, val t, rfl, er_int ey, by rw [xo.K]; exact rb.tag, ?_, q⟩
    unfold atI vals
    rw [List.length_map, h1]
    show (tt.map val)[n]? = some (val t)
    rw [List.getElem?_map, show tt[n]? = some t from ht]; rfl
  · refine ⟨rDg, fun H u y Q rb eu ey t ht q => ?_, ⟨(pe_dget (by have := xo.un; omega) pe_w pe_w (plainSub_eq hs)).run⟩⟩
    obtain ⟨ad, v1, _, v2, _⟩ := dget_of rb eu ey
    exact ⟨ad, val t, v1, v2 n h1 t ht, q⟩
theorem SE.idx (mo : M.Ok) (n1 : notStar a = true) (n2 : notStar i = true) (h1 : SE M sc a ca) (h2 : SE M sc i ci) (hs : plainSub i = true) : SE M sc (.Subscript a i pos) (.idx ca ci) := fun tp X xo z Γ r hh => by
  cases z with
  | zero => simp [evB] at hh
  | succ z =>
    rw [evB] at hh
    obtain ⟨⟨rs, Γ', q⟩, g1, g2⟩ := obind hh
    have aj := (SA.two n1 n2 h1 h2).go tp X xo z Γ rs Γ' q g1
    dsimp only at g2
    split at g2
    · rename_i j π k
      obtain ⟨d, g3, g4⟩ := obind g2
      obtain ⟨n, g5, g6⟩ := obind g4
      obtain ⟨xd, g7, g8⟩ := obind g6
      obtain ⟨r, ix, pe⟩ := ix_rule (a := a) (pos := pos) xo g5 hs
      split at g8
      · rename_i hsh
        cases g8
        exact EJ.lift (aj.ixP g3 ix g7 hsh) pe
      · split at g8
        · rename_i hq
          cases g8
          subst hq
          exact PJ.lift (aj.ixQ g3 ix g7) pe
        · cases g8
    · rename_i d k
      obtain ⟨n, g5, g6⟩ := obind g2
      obtain ⟨xd, g7, g8⟩ := omap g6
      subst g8
      obtain ⟨r, ix, pe⟩ := ix_rule (a := a) (pos := pos) xo g5 hs
      exact EJ.lift (aj.ixV ix g7) pe
    · cases g2

/-! ## a <= b < c -/
theorem chain_ej (mo : M.Ok) (xo : XOk M.G M.k M.N tp sc X) {o1 o2 : CmpOp} {j : Int} {kk : List D} {xd yd r1 r2 : D} {rs2 : List Rd'} {Γ2 : Ctx} {q2 b1 : Bool} (h1 : AJ M.W (aT X [a, b]) Γ rs Γ1 q1) (hr : resL Γ1 rs = some [xd, .nd (.int j) kk]) (c1 : cmpD o1 xd (.nd (.int j) kk) = some r1) (t1 : truth r1 = some b1)
    (h2 : b1 = true → AJ M.W (aT X [c]) Γ1 rs2 Γ2 q2 ∧ resL Γ2 rs2 = some [yd] ∧ cmpD o2 (.nd (.int j) kk) yd = some r2) :
    EJ M.W (tChain (cO X (compareOp o1)) (cO X (compareOp o2)) (wE X a) (wE X b) (wE X c)) Γ (if b1 then Γ2 else Γ1) (if b1 then q1 && q2 else q1) (if b1 then r2 else dB false) := by
  have hu := xo.un
  intro B Ts F σ H aa g Q k
  refine h1 B Ts F σ H aa g (fun vs H2 => match vs with | [x, y] => cO X (compareOp o1) x y H2 fun z H3 => ∃ k, z = .bl k ∧ (if k = true then wE X c σ H3 fun w' H4 => cO X (compareOp o2) y w' H4 Q else Q (.bl false) H3) | _ => False) fun B1 Ts1 c0 vs H1 e1 a1 g1 q1' ar => ?_
  subst g1
  obtain ⟨us, y1, y2, y3, y4⟩ := ar.us hr fun i t ht => (a1.ok i t ht).1
  obtain ⟨u, v, rfl, eu, ev⟩ := map_two y1
  subst y2
  have rb : ∀ y ∈ [u, v], Rb M.W H1 y := fun y hy => a1.rb (y3 y hy) fun c hc => by
    rcases List.mem_append.mp (y4 y hy c hc) with z | z
    · exact List.mem_append_left _ z
    · exact List.mem_append_right _ (List.mem_append_left _ z)
  have on1 : ON M.W (on2 (cO X (compareOp o1))) [xd, .nd (.int j) kk] r1 := by rw [xo.eW]; exact cmp_on (by omega) c1
  refine on1 B1 H1 _ [u, v] a1.good y3 rb y1 _ fun w H2 g2 ow ew => ?_
  obtain ⟨kb, rfl⟩ := truth_inv t1
  have a2 : At M.W B1 Ts1 F σ H2 := (a1.drop2 g2).drop
  refine ⟨b1, er_bl ew, ?_⟩
  cases b1 with
  | false =>
    rw [if_neg Bool.false_ne_true]
    exact k B1 Ts1 (tB' false) H2 e1 (by rw [c_bl]; exact a2) rfl (ok_bl _) (e_bl _) q1'
  | true =>
    rw [if_pos rfl]
    obtain ⟨g3, g4, g5⟩ := h2 rfl
    refine g3 B1 Ts1 F σ H2 a2 rfl (fun vs H4 => match vs with | [w'] => cO X (compareOp o2) (val v) w' H4 Q | _ => False) fun B3 Ts3 c3 vs3 H3 e3 a3 g3' q3' ar3 => ?_
    subst g3'
    obtain ⟨us3, z1, z2, z3, z4⟩ := ar3.us g4 fun i t ht => (a3.ok i t ht).1
    obtain ⟨w3, rfl, ew3⟩ := map_one z1
    subst z2
    have rb3 : Rb M.W H3 w3 := a3.rb (z3 w3 List.mem_cons_self) fun c hc => by
      rcases List.mem_append.mp (z4 w3 List.mem_cons_self c hc) with z | z
      · exact List.mem_append_left _ z
      · exact List.mem_append_right _ (List.mem_append_left _ z)
    have on3 : ON M.W (on2 (cO X (compareOp o2))) [.nd (.int j) kk, yd] r2 := by rw [xo.eW]; exact cmp_on (by omega) g5
    have ov : Ok M.W B3 v := (y3 v (List.mem_cons_of_mem _ List.mem_cons_self)).mono e3
    have rbv : Rb M.W H3 v := ov.rb a3.good.ext _ fun c hc => by rw [ov.shc (by rw [ev]; rfl)] at hc; cases hc
    refine on3 B3 H3 _ [v, w3] a3.good (fun y hy => ?_) (fun y hy => ?_) (by show [er v, er w3] = _; rw [ev, ew3]) Q fun w4 H4 g6 ow4 ew4 => ?_
    · rcases List.mem_cons.mp hy with rfl | hy
      · exact ov
      · exact z3 y hy
    · rcases List.mem_cons.mp hy with rfl | hy
      · exact rbv
      · rw [List.mem_singleton.mp hy]; exact rb3
    · exact k B3 Ts3 w4 H4 (e1.trans e3) (a3.drop2 g6) rfl ow4 ew4 fun zz => by
        have zz : (q1 && q2) = true := zz
        rw [Bool.and_eq_true] at zz
        exact (q3' zz.2).trans (q1' zz.1)
theorem SE.chn (mo : M.Ok) (n1 : notStar a = true) (n2 : notStar b = true) (n3 : notStar c = true) (h1 : SE M sc a ca) (h2 : SE M sc b cb) (h3 : SE M sc c cc) {o1 o2 : CmpOp} (hm : lastMarks [o1, o2] [b, c] = false) : SE M sc (.Compare a [o1, o2] [b, c] pos) (.chn o1 o2 ca cb cc) := fun tp X xo z Γ r hh => by
  cases z with
  | zero => simp [evB] at hh
  | succ z =>
    rw [evB] at hh
    obtain ⟨⟨rs, Γ1, q1⟩, g1, g2⟩ := obind hh
    obtain ⟨ds, g3, g4⟩ := obind g2
    have aj := (SA.two n1 n2 h1 h2).go tp X xo z Γ rs Γ1 q1 g1
    dsimp only at g4
    split at g4
    · rename_i xd j kk
      obtain ⟨r1, g5, g6⟩ := obind g4
      obtain ⟨b1, g7, g8⟩ := obind g6
      cases b1 with
      | true =>
        rw [if_pos rfl] at g8
        obtain ⟨⟨rs2, Γ2, q2⟩, g9, g10⟩ := obind g8
        obtain ⟨es, g11, g12⟩ := obind g10
        dsimp only at g12
        split at g12
        · rename_i yd
          obtain ⟨r2, g13, g14⟩ := omap g12
          subst g14
          exact EJ.lift (chain_ej (c := c) mo xo aj g3 g5 g7 fun _ => ⟨(SA.one n3 h3).go tp X xo z Γ1 rs2 Γ2 q2 g9, g11, g13⟩) (pe_chain or_cO or_cO pe_w pe_w pe_w hm)
        · cases g12
      | false =>
        rw [if_neg Bool.false_ne_true] at g8
        cases g8
        exact EJ.lift (chain_ej (c := c) (o2 := o2) (rs2 := []) (Γ2 := []) (q2 := true) (yd := dN) (r2 := dN) mo xo aj g3 g5 g7 fun z => by cases z) (pe_chain or_cO or_cO pe_w pe_w pe_w hm)
    · cases g4
theorem ST.chn (mo : M.Ok) (n1 : notStar a = true) (n2 : notStar b = true) (n3 : notStar c = true) (h1 : SE M sc a ca) (h2 : SE M sc b cb) (h3 : SE M sc c cc) {o1 o2 : CmpOp} (hm : lastMarks [o1, o2] [b, c] = false) : ST M sc (.Compare a [o1, o2] [b, c] pos) (.chn o1 o2 ca cb cc) := fun tp X xo z Γ x Γ' q ht => by
  obtain ⟨z', _, d, hh, g0⟩ := evT_inv ht
  obtain ⟨kd, rfl⟩ := truth_inv g0
  cases z' with
  | zero => simp [evB] at hh
  | succ z =>
    rw [evB] at hh
    obtain ⟨⟨rs, Γ1, q1⟩, g1, g2⟩ := obind hh
    obtain ⟨ds, g3, g4⟩ := obind g2
    have aj := (SA.two n1 n2 h1 h2).go tp X xo z Γ rs Γ1 q1 g1
    dsimp only at g4
    split at g4
    · rename_i xd j kk
      obtain ⟨r1, g5, g6⟩ := obind g4
      obtain ⟨b1, g7, g8⟩ := obind g6
      cases b1 with
      | true =>
        rw [if_pos rfl] at g8
        obtain ⟨⟨rs2, Γ2, q2⟩, g9, g10⟩ := obind g8
        obtain ⟨es, g11, g12⟩ := obind g10
        dsimp only at g12
        split at g12
        · rename_i yd
          obtain ⟨r2, g13, g14⟩ := omap g12
          injection g14 with g15 g16 g17
          subst g15 g16 g17
          exact TJ.lift (TJ.of (chain_ej (c := c) mo xo aj g3 g5 g7 fun _ => ⟨(SA.one n3 h3).go tp X xo z Γ1 rs2 Γ2 q2 g9, g11, g13⟩)) ⟨(pt_chain or_cO or_cO pe_w pe_w pe_w hm).run⟩
        · cases g12
      | false =>
        rw [if_neg Bool.false_ne_true] at g8
        cases g8
        exact TJ.lift (TJ.of (chain_ej (c := c) (o2 := o2) (rs2 := []) (Γ2 := []) (q2 := true) (yd := dN) (r2 := dN) mo xo aj g3 g5 g7 fun z => by cases z)) ⟨(pt_chain or_cO or_cO pe_w pe_w pe_w hm).run⟩
    · cases g4

/-! ## a if c else b -/
theorem SE.ife (hc : ST M sc c cc) (h1 : SE M sc a ca) (h2 : SE M sc b cb) : SE M sc (.IfExp c a b pos) (.ife cc ca cb) := fun tp X xo z Γ r hh => by
  cases z with
  | zero => simp [evB] at hh
  | succ z =>
    rw [evB] at hh
    obtain ⟨⟨x, Γ1, q1⟩, g1, g2⟩ := obind hh
    have t1 := hc tp X xo z Γ _ _ _ g1
    dsimp only at g2
    have main : ∀ (e : Expr) (ce : C) (he : SE M sc e ce) (r' : BR), evB M.G.Φ M.cl z ce Γ1 = some r' → (∀ (σ : L2.St) (H : Hp) (Q : VK), wE X e σ H Q → (if x = true then wE X a σ H Q else wE X b σ H Q)) → EJ M.W (tIf (wT X c) (wE X a) (wE X b)) Γ (settle Γ1 r').2.1 (q1 && (settle Γ1 r').2.2) (settle Γ1 r').1 := by
      intro e ce he r' hr' hsel B Ts F σ H aa g Q k
      refine t1 B Ts F σ H aa g _ fun B1 Ts1 H1 e1 a1 g1' q1' => hsel σ H1 _ ?_
      refine (he tp X xo z Γ1 r' hr').settle B1 Ts1 F σ H1 a1 g1' Q fun B2 Ts2 u H2 e2 a2 g2' o2 eu q2' => k B2 Ts2 u H2 (e1.trans e2) a2 g2' o2 eu fun zz => ?_
      rw [Bool.and_eq_true] at zz
      exact (q2' zz.2).trans (q1' zz.1)
    cases x with
    | true =>
      rw [if_pos rfl] at g2
      obtain ⟨r', g3, g4⟩ := omap g2
      subst g4
      exact EJ.lift (main a ca h1 r' g3 fun σ H Q hq => by rw [if_pos rfl]; exact hq) (pe_ifExp pt_w pe_w pe_w)
    | false =>
      rw [if_neg Bool.false_ne_true] at g2
      obtain ⟨r', g3, g4⟩ := omap g2
      subst g4
      exact EJ.lift (main b cb h2 r' g3 fun σ H Q hq => by rw [if_neg Bool.false_ne_true]; exact hq) (pe_ifExp pt_w pe_w pe_w)
end
end VI
/-! VS -/
noncomputable section
namespace VI
open PySem L2 PyProof.Rows StX

section
variable {W : Wo} {B B' B1 B2 H H' : Hp} {F L M' : List Cell} {Ts Ts' : CtxT} {σ σ' : L2.St} {Γ Γ' Γ1 Γ2 : Ctx} {X : Cx}
/-! ## less is known -/
theorem Good.sub (g : Good B H L) (s : M'.Sublist L) : Good B H M' := ⟨g.ext, fun c hc => g.own c (s.subset hc), fun c hc => g.off c (s.subset hc), (s.map _).nodup g.nd⟩
theorem cellsC_sub : ∀ {Ts Ts' : CtxT}, Ts'.length = Ts.length → (∀ (i : Nat) (t : T), Ts'[i]? = some (some (.own t)) → Ts[i]? = some (some (.own t))) → (cellsC W Ts').Sublist (cellsC W Ts)
  | [], [], _, _ => .slnil
  | [], _ :: _, h, _ => by cases h
  | _ :: _, [], h, _ => by cases h
  | x :: Ts, y :: Ts', h, ho => by
    have ih := cellsC_sub (Ts := Ts) (Ts' := Ts') (by simpa using h) fun i t e => ho (i + 1) t e
    show (cellsE W y ++ cellsC W Ts').Sublist (cellsE W x ++ cellsC W Ts)
    refine List.Sublist.append ?_ ih
    cases y with
    | none => exact List.nil_sublist _
    | some y => cases y with
      | al j π => exact List.nil_sublist _
      | own t =>
        have := ho 0 t rfl
        have e : x = some (.own t) := Option.some.inj this
        rw [e]
        exact List.Sublist.refl _
theorem At.weak (a : At W B Ts F σ H) (hl : Ts'.length = Ts.length) (hs : σ'.length = σ.length) (ho : ∀ (i : Nat) (t : T), Ts'[i]? = some (some (.own t)) → Ts[i]? = some (some (.own t)) ∧ (σ[i]? = some (some (val t)) → σ'[i]? = some (some (val t))))
    (ha : ∀ (i j : Nat) (π : List Nat), Ts'[i]? = some (some (.al j π)) → Ts[i]? = some (some (.al j π)) ∧ (∀ t, Ts[j]? = some (some (.own t)) → Ts'[j]? = some (some (.own t))) ∧ (∀ v, σ[i]? = some (some v) → σ'[i]? = some (some v))) : At W B Ts' F σ' H := by
  refine ⟨by rw [hl, hs]; exact a.len, fun i t h => ?_, fun i j π h => ?_, a.good.sub ((cellsC_sub hl fun i t h => (ho i t h).1).append (List.Sublist.refl F))⟩
  · obtain ⟨h1, h2⟩ := ho i t h
    exact ⟨(a.ok i t h1).1, h2 (a.ok i t h1).2⟩
  · obtain ⟨h1, h2, h3⟩ := ha i j π h
    obtain ⟨t, u, g1, g2, g3⟩ := a.al i j π h1
    exact ⟨t, u, h2 t g1, g2, h3 _ g3⟩
theorem wipe_get {i : Nat} : ∀ (vs : List Nat), (wipe σ vs)[i]? = if vs.contains i then (σ[i]?).map (fun _ => none) else σ[i]?
  | [] => rfl
  | v :: vs => by
    have ih := wipe_get (i := i) vs
    show ((wipe σ vs).set v none)[i]? = _
    by_cases hv : v = i
    · subst hv
      rw [List.contains_cons, beq_self_eq_true, Bool.true_or, if_pos rfl]
      by_cases hl : v < σ.length
      · rw [List.getElem?_set_self (by rw [wipe_length]; exact hl), List.getElem?_eq_getElem hl]; rfl
      · rw [List.getElem?_eq_none (by rw [List.length_set, wipe_length]; omega), List.getElem?_eq_none (by omega)]; rfl
    · rw [List.getElem?_set_ne hv, ih, List.contains_cons, show (i == v) = false by simpa using fun e => hv e.symm, Bool.false_or]
theorem forget_get {α : Type} {Γ : List (Option (Ent α))} {is : List Nat} {k : Nat} : (forget Γ is)[k]? = (Γ[k]?).map (forgE is k) := by unfold forget; rw [List.getElem?_mapIdx]
theorem forget_length {α : Type} {Γ : List (Option (Ent α))} {is : List Nat} : (forget Γ is).length = Γ.length := by unfold forget; rw [List.length_mapIdx]
theorem forgE_own {α : Type} {is : List Nat} {k : Nat} {x : Option (Ent α)} {t : α} (h : forgE is k x = some (.own t)) : x = some (.own t) ∧ is.contains k = false := by
  cases x with
  | none => cases h
  | some x => cases x with
    | own d =>
      unfold forgE at h
      by_cases hk : is.contains k = true
      · simp only [hk] at h; cases h
      · simp only [hk] at h; exact ⟨h, by simpa using hk⟩
    | al j π =>
      unfold forgE at h
      by_cases hk : (is.contains k || is.contains j) = true
      · simp only [hk] at h; cases h
      · simp only [hk] at h; cases h
theorem forgE_al {α : Type} {is : List Nat} {k j : Nat} {π : List Nat} {x : Option (Ent α)} (h : forgE is k x = some (.al j π)) : x = some (.al j π) ∧ is.contains k = false ∧ is.contains j = false := by
  cases x with
  | none => cases h
  | some x => cases x with
    | own d =>
      unfold forgE at h
      by_cases hk : is.contains k = true
      · simp only [hk] at h; cases h
      · simp only [hk] at h; cases h
    | al i ρ =>
      unfold forgE at h
      by_cases hk : (is.contains k || is.contains i) = true
      · simp only [hk] at h; cases h
      · simp only [hk] at h
        cases h
        have := Bool.eq_false_iff.mpr hk
        rw [Bool.or_eq_false_iff] at this
        exact ⟨rfl, this⟩
theorem erC_forget {is : List Nat} : erC (forget Ts is) = forget (erC Ts) is := by
  refine List.ext_getElem? fun k => ?_
  rw [erC_at, forget_get, forget_get, erC_at]
  cases Ts[k]? with
  | none => rfl
  | some x =>
    show some (erE (forgE is k x)) = some (forgE is k (erE x))
    congr 1
    cases x with
    | none => rfl
    | some x => cases x with
      | own t =>
        show erE (if is.contains k then none else some (.own t)) = (if is.contains k then none else some (.own (er t)))
        split <;> rfl
      | al j π =>
        show erE (if is.contains k || is.contains j then none else some (.al j π)) = (if is.contains k || is.contains j then none else some (.al j π))
        split <;> rfl
theorem At.forget {is : List Nat} (a : At W B Ts F σ H) : At W B (forget Ts is) F (wipe σ is) H := by
  refine a.weak forget_length (wipe_length _ _) (fun i t h => ?_) fun i j π h => ?_
  · rw [forget_get] at h
    obtain ⟨x, h1, h2⟩ := omap h
    obtain ⟨rfl, h3⟩ := forgE_own h2
    exact ⟨h1, fun e => by rw [wipe_get, h3]; exact e⟩
  · rw [forget_get] at h
    obtain ⟨x, h1, h2⟩ := omap h
    obtain ⟨rfl, h3, h4⟩ := forgE_al h2
    refine ⟨h1, fun t ht => ?_, fun v e => by rw [wipe_get, h3]; exact e⟩
    rw [forget_get, ht]
    show some (if is.contains j then none else some (Ent.own t)) = _
    rw [h4]; rfl
theorem At.unwipe {is : List Nat} (a : At W B Ts F (wipe σ is) H) : At W B Ts F σ H := by
  refine a.weak rfl (wipe_length _ _).symm (fun i t h => ⟨h, fun e => (wipe_some e).1⟩) fun i j π h => ⟨h, fun t ht => ht, fun v e => (wipe_some e).1⟩
theorem forget_clean {is : List Nat} (a : At W B Ts F σ H) (h : clean (erC Ts) is = true) : forget Ts is = Ts := by
  have hn : ∀ k, is.contains k = true → ∀ e : Ent T, Ts[k]? ≠ some (some e) := by
    intro k hk e he
    unfold clean at h
    rw [List.all_eq_true] at h
    have := h k (List.contains_iff_mem.mp hk)
    rw [erC_at, he] at this
    cases e <;> cases this
  refine List.ext_getElem? fun k => ?_
  rw [forget_get]
  cases hk : Ts[k]? with
  | none => rfl
  | some x =>
    show some (forgE is k x) = some x
    congr 1
    cases x with
    | none => rfl
    | some x =>
      have hc : is.contains k = false := by
        cases hc : is.contains k with
        | false => rfl
        | true => exact absurd hk (hn k hc x)
      cases x with
      | own t =>
        show (if is.contains k then none else some (Ent.own t)) = _
        rw [hc]; rfl
      | al j π =>
        obtain ⟨t, u, g1, _⟩ := a.al k j π hk
        have hj : is.contains j = false := by
          cases hj : is.contains j with
          | false => rfl
          | true => exact absurd g1 (hn j hj _)
        show (if is.contains k || is.contains j then none else some (Ent.al j π)) = _
        rw [hc, hj]; rfl
theorem forgE_o {is : List Nat} {k : Nat} {t : T} : forgE is k (some (Ent.own t)) = if is.contains k = true then none else some (Ent.own t) := rfl
theorem forgE_a {is : List Nat} {k j : Nat} {π : List Nat} : forgE is k (some (Ent.al j π) : Option (Ent T)) = if (is.contains k || is.contains j) = true then none else some (Ent.al j π) := rfl
theorem forgE_twice {is : List Nat} {k : Nat} {x : Option (Ent T)} : forgE is k (forgE is k x) = forgE is k x := by
  cases x with
  | none => rfl
  | some x => cases x with
    | own t =>
      rw [forgE_o]
      by_cases hk : is.contains k = true
      · rw [if_pos hk]; rfl
      · rw [if_neg hk, forgE_o, if_neg hk]
    | al j π =>
      rw [forgE_a]
      by_cases hk : (is.contains k || is.contains j) = true
      · rw [if_pos hk]; rfl
      · rw [if_neg hk, forgE_a, if_neg hk]
theorem forget_forget {is : List Nat} : forget (forget Ts is) is = forget Ts is := by
  refine List.ext_getElem? fun k => ?_
  rw [forget_get, forget_get]
  cases Ts[k]? with
  | none => rfl
  | some x => exact congrArg some forgE_twice

/-! ## a slot is set -/
def setT (Ts : CtxT) (i : Nat) (e : Ent T) : CtxT := (killAll Ts i).set i (some e)
theorem killAll_at {j i : Nat} : (killAll Ts j)[i]? = (Ts[i]?).map (killAE j) := by unfold killAll; rw [List.getElem?_map]
theorem killAll_length {j : Nat} : (killAll Ts j).length = Ts.length := by unfold killAll; rw [List.length_map]
theorem killAE_own {j : Nat} {x : Option (Ent T)} {t : T} : killAE j x = some (.own t) ↔ x = some (.own t) := by
  cases x with
  | none => exact ⟨fun h => (nomatch h), fun h => (nomatch h)⟩
  | some x => cases x with
    | own t => exact Iff.rfl
    | al k ρ =>
      show (if k = j then none else some (Ent.al k ρ)) = some (Ent.own t) ↔ _
      by_cases h : k = j
      · rw [if_pos h]; exact ⟨fun h => (nomatch h), fun h => (nomatch h)⟩
      · rw [if_neg h]
theorem killAE_al {j k : Nat} {π : List Nat} {x : Option (Ent T)} (h : killAE j x = some (.al k π)) : x = some (.al k π) ∧ k ≠ j := by
  cases x with
  | none => cases h
  | some x => cases x with
    | own t => cases h
    | al i ρ =>
      have h : (if i = j then none else some (Ent.al i ρ)) = some (.al k π) := h
      by_cases hi : i = j
      · rw [if_pos hi] at h; cases h
      · rw [if_neg hi] at h; cases h; exact ⟨rfl, hi⟩
theorem erC_killAll {j : Nat} : erC (killAll Ts j) = killAll (erC Ts) j := by
  unfold erC killAll
  rw [List.map_map, List.map_map]
  refine List.map_congr_left fun x _ => ?_
  cases x with
  | none => rfl
  | some x => cases x with
    | own t => rfl
    | al i ρ =>
      show erE (if i = j then none else some (.al i ρ)) = (if i = j then none else some (.al i ρ))
      split <;> rfl
def erN : Ent T → Ent D
  | .own t => .own (er t)
  | .al j π => .al j π
theorem erC_setT {i : Nat} {e : Ent T} : erC (setT Ts i e) = setE (erC Ts) i (erN e) := by
  unfold setT setE
  rw [← erC_killAll]
  unfold erC
  rw [List.map_set]
  cases e <;> rfl
theorem At.kA {i : Nat} (a : At W B Ts F σ H) : At W B (killAll Ts i) F σ H := by
  refine a.weak killAll_length rfl (fun k t h => ?_) fun k j π h => ?_
  · rw [killAll_at] at h
    obtain ⟨x, h1, h2⟩ := omap h
    have h3 := killAE_own.mp h2
    subst h3
    exact ⟨h1, id⟩
  · rw [killAll_at] at h
    obtain ⟨x, h1, h2⟩ := omap h
    obtain ⟨rfl, _⟩ := killAE_al h2
    exact ⟨h1, fun t ht => by rw [killAll_at, ht]; rfl, fun v e => e⟩
theorem At.setV {i : Nat} {u : T} (a : At W B Ts (cells W u ++ F) σ H) (hi : i < Ts.length) (o : Ok W B u) : At W B (setT Ts i (.own u)) F (σ.set i (some (val u))) H := by
  have b := a.kA (i := i)
  have hi' : i < (killAll Ts i).length := by rw [killAll_length]; exact hi
  have hσ : i < σ.length := by rw [← a.len]; exact hi
  refine ⟨by unfold setT; rw [List.length_set, List.length_set]; exact b.len, fun k t h => ?_, fun k j π h => ?_, ?_⟩
  · unfold setT at h
    by_cases hk : i = k
    · subst hk
      rw [List.getElem?_set_self hi'] at h
      cases h
      exact ⟨o, List.getElem?_set_self hσ⟩
    · rw [List.getElem?_set_ne hk] at h
      rw [List.getElem?_set_ne hk]
      exact b.ok k t h
  · unfold setT at h
    have hk : i ≠ k := fun hk => by subst hk; rw [List.getElem?_set_self hi'] at h; cases h
    rw [List.getElem?_set_ne hk] at h
    obtain ⟨t, y, g1, g2, g3⟩ := b.al k j π h
    have hj : i ≠ j := by
      rw [killAll_at] at h
      obtain ⟨x, h1, h2⟩ := omap h
      exact (killAE_al h2).2.symm
    exact ⟨t, y, by unfold setT; rw [List.getElem?_set_ne hj]; exact g1, g2, by rw [List.getElem?_set_ne hk]; exact g3⟩
  · obtain ⟨y, hy⟩ : ∃ y, (killAll Ts i)[i]? = some y := ⟨_, List.getElem?_eq_getElem hi'⟩
    have p := cellsC_set (W := W) (x := some (.own u)) hy
    have p : (cells W u ++ cellsC W (killAll Ts i)).Perm (cellsE W y ++ cellsC W (setT Ts i (.own u))) := p
    refine (b.good.perm (M := cellsE W y ++ (cellsC W (setT Ts i (.own u)) ++ F)) ?_).drop
    refine (pswap _ _ _).trans ?_
    rw [← List.append_assoc, ← List.append_assoc]
    exact p.append_right F
theorem At.setA {i j : Nat} {π : List Nat} {u : T} (a : At W B Ts F σ H) (hi : i < Ts.length) (hr : Res Ts j π u) (hij : j ≠ i) : At W B (setT Ts i (.al j π)) F (σ.set i (some (val u))) H := by
  have b := a.kA (i := i)
  have hi' : i < (killAll Ts i).length := by rw [killAll_length]; exact hi
  have hσ : i < σ.length := by rw [← a.len]; exact hi
  have ho : ∀ (k : Nat) (t : T), (setT Ts i (.al j π))[k]? = some (some (.own t)) → (killAll Ts i)[k]? = some (some (.own t)) ∧ i ≠ k := fun k t h => by
    unfold setT at h
    by_cases hk : i = k
    · subst hk
      rw [List.getElem?_set_self hi'] at h
      cases h
    · rw [List.getElem?_set_ne hk] at h
      exact ⟨h, hk⟩
  refine ⟨by unfold setT; rw [List.length_set, List.length_set]; exact b.len, fun k t h => ?_, fun k l ρ h => ?_, b.good.sub ((cellsC_sub (by unfold setT; rw [List.length_set]) fun k t h => (ho k t h).1).append (List.Sublist.refl F))⟩
  · obtain ⟨h1, hk⟩ := ho k t h
    rw [List.getElem?_set_ne hk]
    exact b.ok k t h1
  · obtain ⟨t0, r1, r2⟩ := hr
    have r1' : (setT Ts i (.al j π))[j]? = some (some (.own t0)) := by
      unfold setT
      rw [List.getElem?_set_ne hij.symm, killAll_at, r1]; rfl
    by_cases hk : i = k
    · subst hk
      unfold setT at h
      rw [List.getElem?_set_self hi'] at h
      cases h
      exact ⟨t0, u, r1', r2, List.getElem?_set_self hσ⟩
    · unfold setT at h
      rw [List.getElem?_set_ne hk] at h
      obtain ⟨t, y, g1, g2, g3⟩ := b.al k l ρ h
      have hj : i ≠ l := by
        rw [killAll_at] at h
        obtain ⟨x, h1, h2⟩ := omap h
        exact (killAE_al h2).2.symm
      exact ⟨t, y, by unfold setT; rw [List.getElem?_set_ne hj]; exact g1, g2, by rw [List.getElem?_set_ne hk]; exact g3⟩
theorem forget_setT {i : Nat} {e : Ent T} {is : List Nat} (h : is.contains i = true) : forget (setT Ts i e) is = forget Ts is := by
  refine List.ext_getElem? fun k => ?_
  rw [forget_get, forget_get]
  unfold setT
  by_cases hk : i = k
  · subst hk
    by_cases hl : i < Ts.length
    · rw [List.getElem?_set_self (by rw [killAll_length]; exact hl), List.getElem?_eq_getElem hl]
      show some (forgE is i (some e)) = some (forgE is i _)
      congr 1
      have : ∀ x : Option (Ent T), forgE is i x = none := fun x => by
        cases x with
        | none => rfl
        | some x => cases x with
          | own t => simp only [forgE, h]; rfl
          | al j π => simp only [forgE, h]; rfl
      rw [this, this]
    · rw [List.getElem?_eq_none (by rw [List.length_set, killAll_length]; omega), List.getElem?_eq_none (by omega)]
  · rw [List.getElem?_set_ne hk, killAll_at]
    cases Ts[k]? with
    | none => rfl
    | some x =>
      show some (forgE is k (killAE i x)) = some (forgE is k x)
      congr 1
      cases x with
      | none => rfl
      | some x => cases x with
        | own t => rfl
        | al j π =>
          show forgE is k (if j = i then none else some (.al j π)) = _
          by_cases hj : j = i
          · rw [if_pos hj, hj]
            simp only [forgE, h, Bool.or_true]; rfl
          · rw [if_neg hj]
theorem wipe_set {i : Nat} {v : Option V} {is : List Nat} (h : is.contains i = true) : wipe (σ.set i v) is = wipe σ is := by
  refine List.ext_getElem? fun k => ?_
  rw [wipe_get, wipe_get]
  by_cases hk : i = k
  · subst hk
    rw [h, if_pos rfl, if_pos rfl]
    by_cases hl : i < σ.length
    · rw [List.getElem?_set_self hl, List.getElem?_eq_getElem hl]; rfl
    · rw [List.getElem?_eq_none (by rw [List.length_set]; omega), List.getElem?_eq_none (by omega)]
  · rw [List.getElem?_set_ne hk]
theorem wipe_wipe {is : List Nat} : wipe (wipe σ is) is = wipe σ is := by
  refine List.ext_getElem? fun k => ?_
  rw [wipe_get, wipe_get]
  split
  · cases σ[k]? <;> rfl
  · rfl

/-! ## what an iterator yields -/
def EntV (W : Wo) (B : Hp) (Ts : CtxT) : Ent D → V → Prop
  | .own d, v => ∃ u, Ok W B u ∧ cells W u = [] ∧ er u = d ∧ v = val u
  | .al j π, v => ∃ u, Res Ts j π u ∧ v = val u
def Yl (W : Wo) (B : Hp) (Ts : CtxT) (x : V) (H : Hp) : Itm → Prop
  | .one e => EntV W B Ts e x
  | .two a b => ∃ T va vb, x = .ref T ∧ SqT W.K H T [va, vb] ∧ EntV W B Ts a va ∧ EntV W B Ts b vb
def gsN : List Nat → TGs
  | [] => gNil
  | i :: is => gCons (gName i) (gsN is)
def tgG (K : PySem.W.Frag) : Tg → TG
  | .nm i => gName i
  | .tp is => gTup K is.length (gsN is)
theorem notAl_j {i : Nat} {j : Nat} {π : List Nat} (h : notAl i (.al j π) = true) : j ≠ i := by
  simpa [notAl] using h
/-- an entry is stored -/
theorem set_ent {i : Nat} {e : Ent D} {v : V} (a : At W B Ts F σ H) (hi : i < Ts.length) (hv : EntV W B Ts e v) (hn : notAl i e = true) : ∃ Ts', At W B Ts' F (σ.set i (some v)) H ∧ erC Ts' = setE (erC Ts) i e ∧ (∀ is : List Nat, is.contains i = true → forget Ts' is = forget Ts is) ∧ ∃ eT, Ts' = setT Ts i eT ∧ erN eT = e := by
  cases e with
  | own d =>
    obtain ⟨u, o, hc, he, rfl⟩ := hv
    exact ⟨setT Ts i (.own u), At.setV (by rw [hc]; exact a) hi o, by rw [erC_setT]; show setE _ _ (.own (er u)) = _; rw [he], fun is h => forget_setT h, .own u, rfl, by show Ent.own (er u) = _; rw [he]⟩
  | al j π =>
    obtain ⟨u, hr, rfl⟩ := hv
    exact ⟨setT Ts i (.al j π), a.setA hi hr (notAl_j hn), erC_setT, fun is h => forget_setT h, .al j π, rfl, rfl⟩
theorem Res.set {i j : Nat} {π : List Nat} {u : T} {e : Ent T} (h : Res Ts j π u) (hij : j ≠ i) : Res (setT Ts i e) j π u := by
  obtain ⟨t, h1, h2⟩ := h
  exact ⟨t, by unfold setT; rw [List.getElem?_set_ne hij.symm, killAll_at, h1]; rfl, h2⟩
theorem asg_ok {tg : Tg} {it : Itm} {x : V} (a : At W B Ts F σ H) (hg : asgI tg it (erC Ts) = some Γ') (hy : Yl W B Ts x H it) {Q : L2.St → Hp → Prop}
    (k : ∀ (Ts' : CtxT) (σ' : L2.St), At W B Ts' F σ' H → erC Ts' = Γ' → (∀ is : List Nat, tgOk is tg = true → forget Ts' is = forget Ts is ∧ wipe σ' is = wipe σ is) → Q σ' H) : tgG W.K tg x σ H Q := by
  unfold asgI at hg
  split at hg
  · rename_i i e
    split at hg
    · rename_i hc
      cases hg
      rw [erC_length] at hc
      obtain ⟨Ts', a', e', f', _⟩ := set_ent a hc.1 hy hc.2
      exact k Ts' _ a' e' fun is h => by
        have h : is.contains i = true := by unfold tgOk tgs at h; simpa using h
        exact ⟨f' is h, wipe_set h⟩
    · cases hg
  · rename_i i j ea eb
    split at hg
    · rename_i hc
      cases hg
      rw [erC_length] at hc
      obtain ⟨hi, hj, hij, n1, n2, n3⟩ := hc
      obtain ⟨T, va, vb, rfl, hT, y1, y2⟩ := hy
      obtain ⟨Ts1, a1, e1, f1, eT, q1, _⟩ := set_ent a hi y1 n1
      have y2' : EntV W B Ts1 eb vb := by
        cases eb with
        | own d => exact y2
        | al l ρ =>
          obtain ⟨u, hr, rfl⟩ := y2
          exact ⟨u, by rw [q1]; exact hr.set (notAl_j n3), rfl⟩
      obtain ⟨Ts2, a2, e2, f2, _⟩ := set_ent a1 (by rw [q1]; unfold setT; rw [List.length_set, killAll_length]; exact hj) y2' n2
      refine ⟨T, [va, vb], rfl, hT, rfl, va, [vb], rfl, vb, [], rfl, rfl, ?_⟩
      exact k Ts2 _ a2 (by rw [e2, e1]) fun is h => by
        have h : is.contains i = true ∧ is.contains j = true := by unfold tgOk tgs at h; simpa using h
        exact ⟨by rw [f2 is h.2, f1 is h.1], by rw [wipe_set h.2, wipe_set h.1]⟩
    · cases hg
  · rename_i i j da db
    split at hg
    · rename_i hc
      cases hg
      rw [erC_length] at hc
      obtain ⟨hi, hj, hij⟩ := hc
      obtain ⟨u, o, hcu, eu, rfl⟩ := hy
      obtain ⟨T, ts, rfl, et⟩ := er_tup eu
      obtain ⟨u1, u2, rfl, eu1, eu2⟩ := map_two et
      have q := o.tag
      have hq : SqT W.K H T (vals [u1, u2]) := a.good.ext.t q.1
      have c12 : cells W u1 = [] ∧ cells W u2 = [] := by
        have := q.2
        have h := (cellsL_nil_iff W).mp this
        exact ⟨h u1 List.mem_cons_self, h u2 (List.mem_cons_of_mem _ List.mem_cons_self)⟩
      have o1 := o.kids u1 List.mem_cons_self
      have o2 := o.kids u2 (List.mem_cons_of_mem _ List.mem_cons_self)
      have a1 : At W B (setT Ts i (.own u1)) F (σ.set i (some (val u1))) H := At.setV (by rw [c12.1]; exact a) hi o1
      have a2 : At W B (setT (setT Ts i (.own u1)) j (.own u2)) F ((σ.set i (some (val u1))).set j (some (val u2))) H := At.setV (by rw [c12.2]; exact a1) (by unfold setT; rw [List.length_set, killAll_length]; exact hj) o2
      refine ⟨T, [val u1, val u2], rfl, hq, rfl, val u1, [val u2], rfl, val u2, [], rfl, rfl, ?_⟩
      exact k _ _ a2 (by rw [erC_setT, erC_setT]; show setE (setE _ i (.own (er u1))) j (.own (er u2)) = _; rw [eu1, eu2]) fun is h => by
        have h : is.contains i = true ∧ is.contains j = true := by unfold tgOk tgs at h; simpa using h
        exact ⟨by rw [forget_setT h.2, forget_setT h.1], by rw [wipe_set h.2, wipe_set h.1]⟩
    · cases hg
  · cases hg
end
end VI
/-! VT -/
noncomputable section
namespace VI
open PySem L2 PyProof.Rows StX

section
variable {W : Wo} {B B' B1 B2 H H' : Hp} {F L M' : List Cell} {Ts Ts' Ts1 : CtxT} {σ σ' : L2.St} {Γ Γ' Γ1 Γ2 : Ctx} {X : Cx} {q q1 q2 st : Bool} {d : D} {ds : List D} {wi : TI} {tt : TT} {te : TE} {xs : List Itm} {own : List Nat} {tg : Tg} {c0 : List Cell} {J : It}
/-! ## iterators -/
/-- J yields the items xs -/
def ItOk (W : Wo) (B1 : Hp) (Ts1 : CtxT) (c0 : List Cell) (J : It) (xs : List Itm) (st : Bool) : Prop := ∀ (B2 : Hp) (Ts2 : CtxT) (F2 : List Cell) (σ2 : L2.St) (H2 : Hp), Ext B1 B2 → At W B2 Ts2 (c0 ++ F2) σ2 H2 → (st = true → Ts2 = Ts1) →
  J.stop xs.length H2 ∧ ∀ (i : Nat) (it : Itm), xs[i]? = some it → J.go i H2 ∧ ∀ (x : V) (H3 : Hp), J.yld i H2 x H3 → ∃ B3, Ext B2 B3 ∧ At W B3 Ts2 (c0 ++ F2) σ2 H3 ∧ Yl W B3 Ts2 x H3 it
def IJ (W : Wo) (wi : TI) (Γ : Ctx) (xs : List Itm) (Γ1 : Ctx) (q1 st : Bool) : Prop := ∀ (B : Hp) (Ts : CtxT) (F : List Cell) (σ : L2.St) (H : Hp), At W B Ts F σ H → erC Ts = Γ → ∀ R : It → Hp → Prop,
  (∀ (B1 : Hp) (Ts1 : CtxT) (c0 : List Cell) (H1 : Hp) (J : It), Ext B B1 → At W B1 Ts1 (c0 ++ F) σ H1 → erC Ts1 = Γ1 → (q1 = true → Ts1 = Ts) → ItOk W B1 Ts1 c0 J xs st → R J H1) → wi σ H R
theorem lcRun_q {test : Ctx → Option (Bool × Ctx × Bool)} {elt : Ctx → Option (D × Ctx × Bool)} : ∀ {xs : List Itm} {acc : List D} {Γ : Ctx} {q : Bool}, lcRun own tg test elt xs acc Γ q = some (ds, Γ2, q2) → q2 = true → q = true
  | [], acc, Γ, q, h, e => by cases h; exact e
  | x :: xs, acc, Γ, q, h, e => by
    rw [lcRun] at h
    obtain ⟨Γ1, h1, h2⟩ := obind h
    obtain ⟨⟨b, Γ2', q2'⟩, h3, h4⟩ := obind h2
    dsimp only at h4
    cases b with
    | true =>
      rw [if_pos rfl] at h4
      obtain ⟨⟨d, Γ3, q3⟩, h5, h6⟩ := obind h4
      dsimp only at h6
      split at h6
      · have := lcRun_q h6 e
        rw [Bool.and_eq_true, Bool.and_eq_true] at this
        exact this.1.1
      · cases h6
    | false =>
      rw [if_neg Bool.false_ne_true] at h4
      have := lcRun_q h4 e
      rw [Bool.and_eq_true] at this
      exact this.1
/-- the turns of a comprehension -/
theorem lc_turns {test : Ctx → Option (Bool × Ctx × Bool)} {elt : Ctx → Option (D × Ctx × Bool)} (hT : ∀ Γ b Γ' q, test Γ = some (b, Γ', q) → TJ W tt Γ Γ' q b) (hE : ∀ Γ d Γ' q, elt Γ = some (d, Γ', q) → EJ W te Γ Γ' q d) (ho : tgOk own tg = true)
    (hr : lcRun own tg test elt xs [] (forget Γ1 own) true = some (ds, Γ2, q2)) (hst : st = true → q2 = true ∧ clean Γ1 own = true)
    (a1 : At W B1 Ts1 (c0 ++ F) σ H) (g1 : erC Ts1 = Γ1) (it : ItOk W B1 Ts1 c0 J xs st) {Q : VK}
    (k : ∀ (B' : Hp) (Ts' : CtxT) (u : T) (H' : Hp), Ext B1 B' → At W B' Ts' (cells W u ++ (c0 ++ F)) σ H' → erC Ts' = Γ2 → (q2 = true → clean Γ1 own = true → Ts' = Ts1) → Ok W B' u → er u = dL true ds → Q (val u) H')
    (D : Addr) (hD : H D = none) : ∃ Wv : Nat → Nat → Hp → Prop, (∃ m, Wv 0 m (upd H D (.lst []))) ∧ ∀ i m H, Wv i m H →
      (J.stop i H ∧ Q (.ref D) H) ∨ (J.go i H ∧ ∃ Nx : Hp → Prop, (∀ H', Nx H' → ∃ m', m' < m ∧ Wv (i + 1) m' H') ∧ ∀ x H', J.yld i H x H' → tgG W.K tg x (wipe σ own) H' fun σ2 H2 => wipe σ2 own = wipe σ own ∧ tt σ2 H2 fun b H3 =>
        if b = true then te σ2 H3 fun y H4 => ∃ acc, H4 D = some (.lst acc) ∧ acc.length < sizeLine ∧ Nx (upd H4 D (.lst (acc ++ [y]))) else Nx H3) := by
  subst g1
  have hcl : q2 = true → clean (erC Ts1) own = true → forget Ts1 own = Ts1 := fun _ h => forget_clean a1 h
  refine ⟨fun i m H => i + m = xs.length ∧ ∃ (B2 : Hp) (Ts2 : CtxT) (ts : List T) (qi : Bool), Ext B1 B2 ∧ At W B2 Ts2 (cells W (.nd (.lst D true) ts) ++ (c0 ++ F)) (wipe σ own) H ∧ (∀ t ∈ ts, Ok W B2 t) ∧
    lcRun own tg test elt (xs.drop i) (ts.map er) (erC Ts2) qi = some (ds, Γ2, q2) ∧ (qi = true → Ts2 = forget Ts1 own) ∧ forget Ts2 own = Ts2, ⟨xs.length, by omega, B1, forget Ts1 own, [], true, Ext.refl _, ?_, fun _ h => absurd h (by simp), by rw [List.drop_zero, erC_forget]; exact hr, fun _ => rfl, forget_forget⟩, ?_⟩
  · have g := a1.forget (is := own)
    refine g.heap ((g.good.new hD (o := .lst [])).perm ?_)
    rw [cells_lst]
    exact pswap [(D, HO.lst (vals []))] (cellsC W (forget Ts1 own)) (c0 ++ F)
  · rintro i m H ⟨hm, B2, Ts2, ts, qi, x2, a2, os, hr2, hq2, hf2⟩
    have ap : At W B2 Ts2 (c0 ++ (cells W (.nd (.lst D true) ts) ++ F)) (wipe σ own) H := a2.perm (pswap _ _ _)
    have still : st = true → Ts2 = Ts1 := fun hs => by
      obtain ⟨s1, s2⟩ := hst hs
      rw [hq2 (lcRun_q hr2 s1), hcl s1 s2]
    obtain ⟨i1, i2⟩ := it B2 Ts2 _ _ _ x2 ap still
    cases hi : xs[i]? with
    | none =>
      left
      have hl : xs.length ≤ i := List.getElem?_eq_none_iff.mp hi
      have he : i = xs.length := by omega
      subst he
      refine ⟨i1, ?_⟩
      rw [List.drop_length] at hr2
      have hr2 : some (ts.map er, erC Ts2, qi) = some (ds, Γ2, q2) := hr2
      cases hr2
      exact k B2 Ts2 (.nd (.lst D true) ts) H x2 a2.unwipe rfl (fun z1 z2 => by rw [hq2 z1, hcl z1 z2]) (.mk True.intro os) (er_nd _ _)
    | some itm =>
      right
      obtain ⟨j1, j2⟩ := i2 i itm hi
      have hlt : i < xs.length := (List.getElem?_eq_some_iff.mp hi).1
      have hdrop : xs.drop i = itm :: xs.drop (i + 1) := by
        rw [List.drop_eq_getElem_cons hlt]
        congr 1
        exact (List.getElem?_eq_some_iff.mp hi).2
      rw [hdrop, lcRun] at hr2
      obtain ⟨Γa, y1, y2⟩ := obind hr2
      obtain ⟨⟨b, Γb, qb⟩, y3, y4⟩ := obind y2
      dsimp only at y4
      refine ⟨j1, fun H' => (i + 1) + (m - 1) = xs.length ∧ ∃ (B2 : Hp) (Ts2 : CtxT) (ts : List T) (qi : Bool), Ext B1 B2 ∧ At W B2 Ts2 (cells W (.nd (.lst D true) ts) ++ (c0 ++ F)) (wipe σ own) H' ∧ (∀ t ∈ ts, Ok W B2 t) ∧
        lcRun own tg test elt (xs.drop (i + 1)) (ts.map er) (erC Ts2) qi = some (ds, Γ2, q2) ∧ (qi = true → Ts2 = forget Ts1 own) ∧ forget Ts2 own = Ts2, fun H' h => ⟨m - 1, by omega, h⟩, fun x H3 hy => ?_⟩
      obtain ⟨B3, x3, a3, yl⟩ := j2 x H3 hy
      refine asg_ok a3 y1 yl fun Ts4 σ4 a4 g4 f4 => ?_
      obtain ⟨f5, w5⟩ := f4 own ho
      refine ⟨by rw [w5, wipe_wipe], ?_⟩
      refine hT _ _ _ _ y3 B3 Ts4 _ σ4 H3 a4 g4 _ fun B5 Ts5 H5 x5 a5 g5 q5 => ?_
      cases b with
      | false =>
        rw [if_neg Bool.false_ne_true] at y4 ⊢
        have a6 := a5.forget (is := own)
        rw [w5, wipe_wipe] at a6
        refine ⟨by omega, B5, forget Ts5 own, ts, qi && qb, x2.trans (x3.trans x5), a6.perm (pswap _ _ _), fun t ht => (os t ht).mono (x3.trans x5), by rw [erC_forget, g5]; exact y4, fun z => ?_, forget_forget⟩
        rw [Bool.and_eq_true] at z
        rw [q5 z.2, f5, hf2]
        exact hq2 z.1
      | true =>
        rw [if_pos rfl] at y4 ⊢
        obtain ⟨⟨d, Γc, qc⟩, y5, y6⟩ := obind y4
        dsimp only at y6
        split at y6
        · rename_i hlen
          refine hE _ _ _ _ y5 B5 Ts5 _ σ4 H5 a5 g5 _ fun B6 Ts6 u H6 x6 a6 g6 o6 e6 q6 => ?_
          rw [List.length_map] at hlen
          have hown : H6 D = some (.lst (vals ts)) := a6.good.own (D, .lst (vals ts)) (List.mem_append_right _ (List.mem_append_right _ (List.mem_append_right _ (List.mem_append_left _ (by rw [cells_lst]; exact List.mem_cons_self)))))
          refine ⟨vals ts, hown, by unfold vals; rw [List.length_map, ← lim_eq]; exact hlen, ?_⟩
          have ev : vals ts ++ [val u] = vals (ts ++ [u]) := by unfold vals; rw [List.map_append]; rfl
          rw [ev]
          have a7 : At W B6 Ts6 (cells W (.nd (.lst D true) (ts ++ [u])) ++ (c0 ++ F)) σ4 (upd H6 D (.lst (vals (ts ++ [u])))) := by
            refine a6.heap ?_
            have p1 : (cellsC W Ts6 ++ (cells W u ++ (c0 ++ (cells W (.nd (.lst D true) ts) ++ F)))).Perm ((D, HO.lst (vals ts)) :: (cellsL W ts ++ (cells W u ++ (cellsC W Ts6 ++ (c0 ++ F))))) := by
              rw [cells_lst]
              have s1 : (cells W u ++ (c0 ++ (((D, HO.lst (vals ts)) :: cellsL W ts) ++ F))).Perm (((D, HO.lst (vals ts)) :: cellsL W ts) ++ (cells W u ++ (c0 ++ F))) := ((pswap _ _ _).append_left _).trans (pswap _ _ _)
              refine (s1.append_left _).trans ((pswap _ _ _).trans ?_)
              show ((D, HO.lst (vals ts)) :: (cellsL W ts ++ (cellsC W Ts6 ++ (cells W u ++ (c0 ++ F))))).Perm _
              exact ((pswap (cellsC W Ts6) (cells W u) _).append_left _).cons _
            refine ((a6.good.perm p1).wr' (o' := .lst (vals (ts ++ [u])))).perm ?_
            rw [cells_lst, cellsL_append]
            show ((D, HO.lst (vals (ts ++ [u]))) :: (cellsL W ts ++ (cells W u ++ (cellsC W Ts6 ++ (c0 ++ F))))).Perm (cellsC W Ts6 ++ (((D, HO.lst (vals (ts ++ [u]))) :: (cellsL W ts ++ (cells W u ++ []))) ++ (c0 ++ F)))
            rw [List.append_nil]
            refine List.Perm.trans ?_ (pswap _ _ _)
            show ((D, HO.lst (vals (ts ++ [u]))) :: (cellsL W ts ++ (cells W u ++ (cellsC W Ts6 ++ (c0 ++ F))))).Perm ((D, HO.lst (vals (ts ++ [u]))) :: ((cellsL W ts ++ cells W u) ++ (cellsC W Ts6 ++ (c0 ++ F))))
            rw [List.append_assoc]
          have a8 := a7.forget (is := own)
          rw [w5, wipe_wipe] at a8
          refine ⟨by omega, B6, forget Ts6 own, ts ++ [u], qi && qb && qc, x2.trans (x3.trans (x5.trans x6)), a8, fun t ht => ?_, ?_, fun z => ?_, forget_forget⟩
          · rcases List.mem_append.mp ht with ht | ht
            · exact (os t ht).mono (x3.trans (x5.trans x6))
            · rw [List.mem_singleton.mp ht]; exact o6
          · rw [erC_forget, g6, List.map_append]
            show lcRun own tg test elt (xs.drop (i + 1)) (ts.map er ++ [er u]) (forget Γc own) (qi && qb && qc) = _
            rw [e6]; exact y6
          · rw [Bool.and_eq_true, Bool.and_eq_true] at z
            rw [q6 z.2, q5 z.1.2, f5, hf2]
            exact hq2 z.1.1
        · cases y6
end
end VI
/-! VU -/
noncomputable section
namespace VI
open PySem L2 PyProof.Rows StX

section
variable {W : Wo} {B B' B1 B2 H H' : Hp} {F L M' : List Cell} {Ts Ts' Ts1 : CtxT} {σ σ' : L2.St} {Γ Γ' Γ1 Γ2 : Ctx} {X : Cx} {q q1 q2 st : Bool} {d : D} {ds : List D} {wi : TI} {tt : TT} {te : TE} {xs : List Itm} {own : List Nat} {tg : Tg} {c0 : List Cell} {J : It} {ta : TA} {rs : List Rd'}
theorem EntV.mono {e : Ent D} {v : V} (x : Ext B B') (h : EntV W B Ts e v) : EntV W B' Ts e v := by
  cases e with
  | own d => obtain ⟨u, o, h⟩ := h; exact ⟨u, o.mono x, h⟩
  | al j π => exact h
theorem itl_ok {a : Addr} {tt : List T} (hl : xs.length = tt.length) (h : ∀ (B2 : Hp) (Ts2 : CtxT) (F2 : List Cell) (σ2 : L2.St) (H2 : Hp), Ext B1 B2 → At W B2 Ts2 (c0 ++ F2) σ2 H2 → (st = true → Ts2 = Ts1) →
    SqL W.K H2 a (vals tt) ∧ ∀ (i : Nat) (it : Itm), xs[i]? = some it → ∃ t, tt[i]? = some t ∧ Yl W B2 Ts2 (val t) H2 it) : ItOk W B1 Ts1 c0 (Itl W.K a) xs st := by
  intro B2 Ts2 F2 σ2 H2 x2 a2 hs
  obtain ⟨h1, h2⟩ := h B2 Ts2 F2 σ2 H2 x2 a2 hs
  refine ⟨⟨vals tt, h1, by unfold vals; rw [List.length_map, hl]; exact Nat.le_refl _⟩, fun i it hi => ?_⟩
  obtain ⟨t, ht, hy⟩ := h2 i it hi
  have hv : (vals tt)[i]? = some (val t) := by unfold vals; rw [List.getElem?_map, ht]; rfl
  refine ⟨⟨vals tt, val t, h1, hv⟩, fun x H3 ⟨e, hx⟩ => ⟨B2, Ext.refl _, by rw [e]; exact a2, ?_⟩⟩
  have := hx _ h1
  rw [hv] at this
  cases this
  rw [e]
  exact hy
theorem itt_ok {a : Addr} {tt : List T} (hl : xs.length = tt.length) (h : ∀ (B2 : Hp) (Ts2 : CtxT) (F2 : List Cell) (σ2 : L2.St) (H2 : Hp), Ext B1 B2 → At W B2 Ts2 (c0 ++ F2) σ2 H2 → (st = true → Ts2 = Ts1) →
    SqT W.K H2 a (vals tt) ∧ ∀ (i : Nat) (it : Itm), xs[i]? = some it → ∃ t, tt[i]? = some t ∧ Yl W B2 Ts2 (val t) H2 it) : ItOk W B1 Ts1 c0 (Itt W.K a) xs st := by
  intro B2 Ts2 F2 σ2 H2 x2 a2 hs
  obtain ⟨h1, h2⟩ := h B2 Ts2 F2 σ2 H2 x2 a2 hs
  refine ⟨⟨vals tt, h1, by unfold vals; rw [List.length_map, hl]; exact Nat.le_refl _⟩, fun i it hi => ?_⟩
  obtain ⟨t, ht, hy⟩ := h2 i it hi
  have hv : (vals tt)[i]? = some (val t) := by unfold vals; rw [List.getElem?_map, ht]; rfl
  refine ⟨⟨vals tt, val t, h1, hv⟩, fun x H3 ⟨e, hx⟩ => ⟨B2, Ext.refl _, by rw [e]; exact a2, ?_⟩⟩
  have := hx _ h1
  rw [hv] at this
  cases this
  rw [e]
  exact hy
theorem itr_ok {lo : Int} {n : Nat} : ItOk W B1 Ts1 c0 (Itr lo n) ((List.range n).map fun (i : Nat) => Itm.one (.own (dI (lo + (i : Int))))) st := by
  intro B2 Ts2 F2 σ2 H2 x2 a2 hs
  refine ⟨by rw [List.length_map, List.length_range]; exact Nat.le_refl _, fun i it hi => ?_⟩
  rw [List.getElem?_map] at hi
  obtain ⟨m, h1, rfl⟩ := omap hi
  obtain ⟨h2, h3⟩ := List.getElem?_eq_some_iff.mp h1
  rw [List.length_range] at h2
  rw [List.getElem_range] at h3
  subst h3
  refine ⟨h2, fun x H3 ⟨e, hx⟩ => ⟨B2, Ext.refl _, by rw [e]; exact a2, ?_⟩⟩
  subst hx
  exact ⟨tI _, ok_int _, c_int _, e_int _, rfl⟩
theorem itc_ok {lo c : Int} {n : Nat} : ItOk W B1 Ts1 c0 (Itc lo c n) ((List.range n).map fun (i : Nat) => Itm.one (.own (dI (lo + (i : Int) * c)))) st := by
  intro B2 Ts2 F2 σ2 H2 x2 a2 hs
  refine ⟨by rw [List.length_map, List.length_range]; exact Nat.le_refl _, fun i it hi => ?_⟩
  rw [List.getElem?_map] at hi
  obtain ⟨m, h1, rfl⟩ := omap hi
  obtain ⟨h2, h3⟩ := List.getElem?_eq_some_iff.mp h1
  rw [List.length_range] at h2
  rw [List.getElem_range] at h3
  subst h3
  refine ⟨h2, fun x H3 ⟨e, hx⟩ => ⟨B2, Ext.refl _, by rw [e]; exact a2, ?_⟩⟩
  subst hx
  exact ⟨tI _, ok_int _, c_int _, e_int _, rfl⟩
theorem ite_ok {a : Addr} {tt : List T} {es : List (Ent D)} (hl : es.length = tt.length) (h : ∀ (B2 : Hp) (Ts2 : CtxT) (F2 : List Cell) (σ2 : L2.St) (H2 : Hp), Ext B1 B2 → At W B2 Ts2 (c0 ++ F2) σ2 H2 → (st = true → Ts2 = Ts1) →
    SqL W.K H2 a (vals tt) ∧ ∀ (i : Nat) (e : Ent D), es[i]? = some e → ∃ t, tt[i]? = some t ∧ EntV W B2 Ts2 e (val t)) : ItOk W B1 Ts1 c0 (Ite W.K a) (es.mapIdx fun k e => .two (.own (dI (k : Int))) e) st := by
  intro B2 Ts2 F2 σ2 H2 x2 a2 hs
  obtain ⟨h1, h2⟩ := h B2 Ts2 F2 σ2 H2 x2 a2 hs
  refine ⟨⟨vals tt, h1, by unfold vals; rw [List.length_map, List.length_mapIdx, hl]; exact Nat.le_refl _⟩, fun i it hi => ?_⟩
  rw [List.getElem?_mapIdx] at hi
  obtain ⟨e, he, rfl⟩ := omap hi
  obtain ⟨t, ht, hy⟩ := h2 i e he
  have hv : (vals tt)[i]? = some (val t) := by unfold vals; rw [List.getElem?_map, ht]; rfl
  refine ⟨⟨vals tt, val t, h1, hv⟩, fun x H3 ⟨T, w, e1, hT, e2, hx⟩ => ?_⟩
  have hw := hx _ h1
  rw [hv] at hw
  cases hw
  subst e1 e2
  obtain ⟨B3, x3, s1, s2⟩ := Good.share (L := [(T, .tup [.int (i : Nat), val t])]) (M := cellsC W Ts2 ++ (c0 ++ F2)) (a2.good.new (o := .tup [.int (i : Nat), val t]) hT)
  refine ⟨B3, x3, a2.mono x3 s2, T, .int (i : Nat), val t, rfl, .inl (.inl (s2.ext _ _ (s1 _ List.mem_cons_self))), ⟨tI _, ok_int _, c_int _, e_int _, rfl⟩, hy.mono x3⟩

/-! ## what is walked -/
def WkJ (X : Cx) (W : Wo) (tgE it : Expr) (Γ : Ctx) (xs : List Itm) (Γ1 : Ctx) (q1 : Bool) : Wk → Prop
  | .free => ∃ wi, PI X tgE it wi ∧ IJ W wi Γ xs Γ1 q1 false
  | .still => ∃ wi, PI X tgE it wi ∧ IJ W wi Γ xs Γ1 q1 true
  | .lock j π l => Γ1 = Γ ∧ q1 = true ∧ π = [] ∧ PE X it (tVar j) ∧ ∃ ks ts, Γ[j]? = some (some (.own (.nd (.dct true false ks) ts))) ∧ l = .nd (.dct true true ks) ts ∧ xs = ks.map fun k => .one (.own (keyD k))
def SI (M : Md) (sc : Scope) (tgE it : Expr) (ci : C) : Prop := ∀ (tp : Bool) (X : Cx), XOk M.G M.k M.N tp sc X → ∀ (z : Nat) (Γ : Ctx) (xs : List Itm) (Γ1 : Ctx) (q1 : Bool) (wk : Wk), evI M.G.Φ M.cl z ci Γ = some (xs, Γ1, q1, wk) → WkJ X M.W tgE it Γ xs Γ1 q1 wk
theorem place_ents {j : Nat} {π : List Nat} {u : T} (hr : Res Ts j π u) (ou : Ok W B u) (i : Nat) (x : D) (hx : ((er u).kids)[i]? = some x) : ∃ t, u.kids[i]? = some t ∧ EntV W B Ts (if isSh x then .own x else .al j (π ++ [i])) (val t) := by
  obtain ⟨t, h1, h2, h3⟩ := kid_at hx
  refine ⟨t, h3, ?_⟩
  have ot := at_ok h1 ou
  by_cases hs : isSh x = true
  · rw [if_pos hs]; exact ⟨t, ot, ot.shc (by rw [h2]; exact hs), h2, rfl⟩
  · rw [if_neg hs]
    obtain ⟨t0, r1, r2⟩ := hr
    exact ⟨t, ⟨t0, r1, by rw [Tr.at_append, r2]; exact h1⟩, rfl⟩
theorem ij_place {j : Nat} {π : List Nat} {o : Bool} {ts : List D} (h : PJ W te Γ j π (.nd (.lst o) ts)) : IJ W (iList W.K te) Γ (ts.mapIdx fun k x => .one (if isSh x then .own x else .al j (π ++ [k]))) Γ true true := by
  intro B Ts F σ H a g R k
  refine h B Ts F σ H a g _ fun B1 H1 t0 u e1 a1 ht hu eu => ?_
  obtain ⟨ad, tt, rfl, et⟩ := er_lst eu
  have rb := a1.rb (a1.place ht hu).1 (a1.place ht hu).2
  refine ⟨ad, rfl, ⟨_, rb.tag⟩, k B1 Ts [] H1 _ e1 a1 g (fun _ => rfl) (itl_ok (tt := tt) (by rw [List.length_mapIdx, ← et, List.length_map]) fun B2 Ts2 F2 σ2 H2 x2 a2 hs => ?_)⟩
  have hs := hs rfl
  subst hs
  have pl := a2.place ht hu
  refine ⟨(a2.rb pl.1 pl.2).tag, fun i it hi => ?_⟩
  rw [List.getElem?_mapIdx] at hi
  obtain ⟨x, hx, rfl⟩ := omap hi
  exact place_ents (j := j) (π := π) ⟨t0, ht, hu⟩ pl.1 i x (by rw [eu]; exact hx)
theorem val_ents {u : T} {ts : List D} (ou : Ok W B u) (hsh : allSh ts = true) (hk : (er u).kids = ts) (i : Nat) (x : D) (hx : ts[i]? = some x) : ∃ t, u.kids[i]? = some t ∧ EntV W B Ts (.own x) (val t) := by
  have hx' : ((er u).kids)[i]? = some x := by rw [hk]; exact hx
  obtain ⟨t, h1, h2, h3⟩ := kid_at hx'
  have ot := at_ok h1 ou
  exact ⟨t, h3, t, ot, ot.shc (by rw [h2]; exact allSh_mem hsh x (List.mem_of_getElem? hx)), h2, rfl⟩
theorem ij_val {o : Bool} {ts : List D} (h : EJ W te Γ Γ1 q (.nd (.lst o) ts)) (hs : allSh ts = true) : IJ W (iList W.K te) Γ (ts.map fun x => .one (.own x)) Γ1 q false := by
  intro B Ts F σ H a g R k
  refine h B Ts F σ H a g _ fun B1 Ts1 u H1 e1 a1 g1 o1 eu q1' => ?_
  obtain ⟨ad, tt, rfl, et⟩ := er_lst eu
  have rb : Rb W H1 _ := a1.rb o1 fun c hc => List.mem_append_right _ (List.mem_append_left _ hc)
  refine ⟨ad, rfl, ⟨_, rb.tag⟩, k B1 Ts1 _ H1 _ e1 a1 g1 q1' (itl_ok (tt := tt) (by rw [List.length_map, ← et, List.length_map]) fun B2 Ts2 F2 σ2 H2 x2 a2 _ => ?_)⟩
  have o2 := o1.mono x2
  refine ⟨(a2.rb o2 fun c hc => List.mem_append_right _ (List.mem_append_left _ hc)).tag, fun i it hi => ?_⟩
  rw [List.getElem?_map] at hi
  obtain ⟨x, hx, rfl⟩ := omap hi
  exact val_ents (Ts := Ts2) o2 hs (by rw [eu]; rfl) i x hx
theorem ij_tup {ts : List D} (h : EJ W te Γ Γ1 q (.nd .tup ts)) : IJ W (iTup W.K te) Γ (ts.map fun x => .one (.own x)) Γ1 q false := by
  intro B Ts F σ H a g R k
  refine h B Ts F σ H a g _ fun B1 Ts1 u H1 e1 a1 g1 o1 eu q1' => ?_
  obtain ⟨ad, tt, rfl, et⟩ := er_tup eu
  have rb : Rb W H1 _ := a1.rb o1 fun c hc => List.mem_append_right _ (List.mem_append_left _ hc)
  refine ⟨ad, rfl, ⟨_, rb.tag⟩, k B1 Ts1 _ H1 _ e1 a1 g1 q1' (itt_ok (tt := tt) (by rw [List.length_map, ← et, List.length_map]) fun B2 Ts2 F2 σ2 H2 x2 a2 _ => ?_)⟩
  have o2 := o1.mono x2
  have hc := (cellsL_nil_iff W).mp o2.tag.2
  refine ⟨(a2.rb o2 fun c hc => List.mem_append_right _ (List.mem_append_left _ hc)).tag, fun i it hi => ?_⟩
  rw [List.getElem?_map] at hi
  obtain ⟨x, hx, rfl⟩ := omap hi
  rw [← et, List.getElem?_map] at hx
  obtain ⟨t, ht, ex⟩ := omap hx
  have hm := List.mem_of_getElem? ht
  exact ⟨t, ht, t, o2.kids t hm, hc t hm, ex, rfl⟩
theorem enm_place {j : Nat} {π : List Nat} {o : Bool} {ts : List D} (h : PJ W te Γ j π (.nd (.lst o) ts)) : IJ W (iEnum W.K (tCons te tNil)) Γ (ts.mapIdx fun k x => .two (.own (dI (k : Int))) (if isSh x then .own x else .al j (π ++ [k]))) Γ true true := by
  intro B Ts F σ H a g R k
  refine h B Ts F σ H a g _ fun B1 H1 t0 u e1 a1 ht hu eu => ?_
  obtain ⟨ad, tt, rfl, et⟩ := er_lst eu
  have rb := a1.rb (a1.place ht hu).1 (a1.place ht hu).2
  have e0 : (ts.mapIdx fun k x => Itm.two (.own (dI (k : Int))) (if isSh x then .own x else .al j (π ++ [k]))) = ((ts.mapIdx fun k x => (if isSh x then Ent.own x else .al j (π ++ [k]))).mapIdx fun k e => Itm.two (.own (dI (k : Int))) e) := by
    rw [List.mapIdx_mapIdx]; rfl
  rw [e0] at k
  refine ⟨ad, _, rfl, rb.tag, k B1 Ts [] H1 _ e1 a1 g (fun _ => rfl) (ite_ok (tt := tt) (by rw [List.length_mapIdx, ← et, List.length_map]) fun B2 Ts2 F2 σ2 H2 x2 a2 hs => ?_)⟩
  have hs := hs rfl
  subst hs
  have pl := a2.place ht hu
  refine ⟨(a2.rb pl.1 pl.2).tag, fun i e hi => ?_⟩
  rw [List.getElem?_mapIdx] at hi
  obtain ⟨x, hx, rfl⟩ := omap hi
  exact place_ents (j := j) (π := π) ⟨t0, ht, hu⟩ pl.1 i x (by rw [eu]; exact hx)
theorem enm_val {o : Bool} {ts : List D} (h : EJ W te Γ Γ1 q (.nd (.lst o) ts)) (hs : allSh ts = true) : IJ W (iEnum W.K (tCons te tNil)) Γ (ts.mapIdx fun k x => .two (.own (dI (k : Int))) (.own x)) Γ1 q false := by
  intro B Ts F σ H a g R k
  refine h B Ts F σ H a g _ fun B1 Ts1 u H1 e1 a1 g1 o1 eu q1' => ?_
  obtain ⟨ad, tt, rfl, et⟩ := er_lst eu
  have rb : Rb W H1 _ := a1.rb o1 fun c hc => List.mem_append_right _ (List.mem_append_left _ hc)
  have e0 : (ts.mapIdx fun k x => Itm.two (.own (dI (k : Int))) (.own x)) = ((ts.map fun x => Ent.own x).mapIdx fun k e => Itm.two (.own (dI (k : Int))) e) := by
    refine List.ext_getElem? fun k => ?_
    rw [List.getElem?_mapIdx, List.getElem?_mapIdx, List.getElem?_map]
    cases ts[k]? <;> rfl
  rw [e0] at k
  refine ⟨ad, _, rfl, rb.tag, k B1 Ts1 _ H1 _ e1 a1 g1 q1' (ite_ok (tt := tt) (by rw [List.length_map, ← et, List.length_map]) fun B2 Ts2 F2 σ2 H2 x2 a2 _ => ?_)⟩
  have o2 := o1.mono x2
  refine ⟨(a2.rb o2 fun c hc => List.mem_append_right _ (List.mem_append_left _ hc)).tag, fun i it hi => ?_⟩
  rw [List.getElem?_map] at hi
  obtain ⟨x, hx, rfl⟩ := omap hi
  exact val_ents (Ts := Ts2) o2 hs (by rw [eu]; rfl) i x hx
/-- a range -/
theorem ij_rng {P : List V → It → Prop} (h : AJ W ta Γ rs Γ1 q) (hr : resL Γ1 rs = some ds) (hx : ∀ (vs : List V) (us : List T), us.map er = ds → vs = vals us → ∃ J, P vs J ∧ ∀ (B1 : Hp) (Ts1 : CtxT) (c0 : List Cell), ItOk W B1 Ts1 c0 J xs false) : IJ W (fun σ H R => ta σ H fun vs H1 => ∃ J, P vs J ∧ R J H1) Γ xs Γ1 q false := by
  intro B Ts F σ H a g R k
  refine h B Ts F σ H a g _ fun B1 Ts1 c0 vs H1 e1 a1 g1 q1' ar => ?_
  subst g1
  obtain ⟨us, y1, y2, y3, y4⟩ := ar.us hr fun i t ht => (a1.ok i t ht).1
  obtain ⟨J, p1, p2⟩ := hx vs us y1 y2
  exact ⟨J, p1, k B1 Ts1 c0 H1 J e1 a1 rfl q1' (p2 B1 Ts1 c0)⟩

variable {M : Md} {sc : Scope} {a b c it tgE : Expr} {ca cb cc ci : C} {es : List Expr} {cs : List C} {pos p tpos : Pos} {tp : Bool}
theorem IJ.to {wi : TI} (h : IJ W wi Γ xs Γ1 q st) {wi' : TI} (e : ∀ σ H R, wi σ H R → wi' σ H R) : IJ W wi' Γ xs Γ1 q st := fun B Ts F σ H a g R k => e σ H R (h B Ts F σ H a g R k)
theorem rngOf_one {xs : List D} {d : D} (h : rngX [d] = some xs) : ∃ n kk, d = .nd (.int n) kk ∧ -(2 ^ 62) ≤ n ∧ n < 2 ^ 62 ∧ xs = (List.range n.toNat).map fun (i : Nat) => dI (0 + (i : Int)) := by
  rw [rngX_eq] at h
  unfold rngOf at h
  split at h
  · rename_i e
    cases e
    split at h
    · rename_i hc
      cases h
      exact ⟨_, _, rfl, hc.2, hc.1, rfl⟩
    · cases h
  · rename_i e; cases e
  · rename_i e; cases e
  · cases h
theorem rngOf_two {xs : List D} {d e : D} (h : rngX [d, e] = some xs) : ∃ a b k1 k2, d = .nd (.int a) k1 ∧ e = .nd (.int b) k2 ∧ (-(2 ^ 62) ≤ a ∧ a < 2 ^ 62 ∧ -(2 ^ 62) ≤ b ∧ b < 2 ^ 62) ∧ xs = (List.range (b - a).toNat).map fun (i : Nat) => dI (a + (i : Int)) := by
  rw [rngX_eq] at h
  unfold rngOf at h
  split at h
  · rename_i e; cases e
  · rename_i e
    cases e
    split at h
    · rename_i hc
      cases h
      exact ⟨_, _, _, _, rfl, rfl, ⟨hc.2.1, hc.1, hc.2.2.2, hc.2.2.1⟩, rfl⟩
    · cases h
  · rename_i e; cases e
  · cases h
theorem rngOf_three {xs : List D} {d e f : D} (h : rngX [d, e, f] = some xs) : ∃ a b c k1 k2 k3, d = .nd (.int a) k1 ∧ e = .nd (.int b) k2 ∧ f = .nd (.int c) k3 ∧ RgC a b c (Builtin.Range.rangeSize a b c).toNat ∧ xs = (List.range (Builtin.Range.rangeSize a b c).toNat).map fun (i : Nat) => dI (a + (i : Int) * c) := by
  rw [rngX_eq] at h
  unfold rngOf at h
  split at h
  · rename_i e; cases e
  · rename_i e; cases e
  · rename_i e
    cases e
    split at h
    · rename_i hc
      cases h
      exact ⟨_, _, _, _, _, _, rfl, rfl, rfl, ⟨hc.1, hc.2.1, hc.2.2.1, by have := hc.2.2.2; omega⟩, rfl⟩
    · cases h
  · cases h
theorem aT_mono : ∀ {es : List Expr} {σ : L2.St} {H : Hp} {Q Q' : List V → Hp → Prop}, aT X es σ H Q → (∀ vs H, Q vs H → Q' vs H) → aT X es σ H Q'
  | [], σ, H, Q, Q', h, k => k _ _ h
  | e :: es, σ, H, Q, Q', h, k => wE_mono h fun v H1 h1 => aT_mono (es := es) h1 fun vs H2 h2 => k _ _ h2
theorem SI.rng1 (mo : M.Ok) (n1 : notStar a = true) (h1 : SE M sc a ca) (hb : M.G.Y.blt.contains "range" = true) (hg : glB sc "range" = true) : SI M sc tgE (.Call (.Name "range" p) [a] [] pos) (.rng [ca]) := fun tp X xo z Γ xs Γ1 q1 wk hh => by
  cases z with
  | zero => simp [evI] at hh
  | succ z =>
    rw [evI] at hh
    obtain ⟨⟨rs, Γa, qa⟩, g1, g2⟩ := obind hh
    obtain ⟨ds, g3, g4⟩ := obind g2
    obtain ⟨ys, g5, g6⟩ := omap g4
    cases g6
    have sa := SA.one n1 h1
    have aj := sa.go tp X xo z _ _ _ _ g1
    refine ⟨_, pi_range1 (gl_of xo hg) (mg_of mo xo hb) (pa_aT sa.ns) (by rw [starEach_cons n1]; rfl), (ij_rng (P := fun vs J => ∃ j : Int, vs = [.int j] ∧ -(2 ^ 62) ≤ j ∧ j < 2 ^ 62 ∧ J = Itr 0 j.toNat) aj g3 fun vs us e1 e2 => ?_).to fun σ H R h => aT_mono h fun vs H1 ⟨J, ⟨j, v1, v2, v3, v4⟩, r⟩ => ⟨j, v1, v2, v3, by rw [← v4]; exact r⟩⟩
    have l : ds.length = 1 := by
      have h1 := sa.len2 xo g1
      have h2 := resL_len g3
      simp at h1
      omega
    match ds, l with
    | [d], _ =>
      obtain ⟨n, kk, rfl, c1, c2, rfl⟩ := rngOf_one g5
      obtain ⟨u, rfl, eu⟩ := map_one e1
      refine ⟨_, ⟨n, by rw [e2]; show [val u] = _; rw [er_int eu], c1, c2, rfl⟩, fun B1 Ts1 c0 => ?_⟩
      rw [List.map_map]
      exact itr_ok
theorem SI.rng2 (mo : M.Ok) (n1 : notStar a = true) (n2 : notStar b = true) (h1 : SE M sc a ca) (h2 : SE M sc b cb) (hb : M.G.Y.blt.contains "range" = true) (hg : glB sc "range" = true) : SI M sc tgE (.Call (.Name "range" p) [a, b] [] pos) (.rng [ca, cb]) := fun tp X xo z Γ xs Γ1 q1 wk hh => by
  cases z with
  | zero => simp [evI] at hh
  | succ z =>
    rw [evI] at hh
    obtain ⟨⟨rs, Γa, qa⟩, g1, g2⟩ := obind hh
    obtain ⟨ds, g3, g4⟩ := obind g2
    obtain ⟨ys, g5, g6⟩ := omap g4
    cases g6
    have sa := SA.two n1 n2 h1 h2
    have aj := sa.go tp X xo z _ _ _ _ g1
    refine ⟨_, pi_range2 (gl_of xo hg) (mg_of mo xo hb) (pa_aT sa.ns) (by rw [starEach_cons n1, starEach_cons n2]; rfl) (by rw [starEach_cons n2]; rfl), (ij_rng (P := fun vs J => ∃ i j : Int, vs = [.int i, .int j] ∧ (-(2 ^ 62) ≤ i ∧ i < 2 ^ 62 ∧ -(2 ^ 62) ≤ j ∧ j < 2 ^ 62) ∧ J = Itr i (j - i).toNat) aj g3 fun vs us e1 e2 => ?_).to fun σ H R h => aT_mono h fun vs H1 ⟨J, ⟨i, j, v1, v2, v4⟩, r⟩ => ⟨i, j, v1, v2, by rw [← v4]; exact r⟩⟩
    have l : ds.length = 2 := by
      have h1 := sa.len2 xo g1
      have h2 := resL_len g3
      simp at h1
      omega
    match ds, l with
    | [d, e], _ =>
      obtain ⟨n, m, kk, k2, rfl, rfl, c1, rfl⟩ := rngOf_two g5
      obtain ⟨u, v, rfl, eu, ev⟩ := map_two e1
      refine ⟨_, ⟨n, m, by rw [e2]; show [val u, val v] = _; rw [er_int eu, er_int ev], c1, rfl⟩, fun B1 Ts1 c0 => ?_⟩
      rw [List.map_map]
      exact itr_ok
theorem map_three {us : List T} {x y z : D} (h : us.map er = [x, y, z]) : ∃ u v w, us = [u, v, w] ∧ er u = x ∧ er v = y ∧ er w = z := by
  match us, h with
  | [], h => cases h
  | [_], h => cases h
  | [_, _], h => cases h
  | [u, v, w], h => injection h with h1 h; injection h with h2 h; injection h with h3 _; exact ⟨u, v, w, rfl, h1, h2, h3⟩
  | _ :: _ :: _ :: _ :: _, h => cases h
theorem SI.rng3 (mo : M.Ok) (n1 : notStar a = true) (n2 : notStar b = true) (n3 : notStar c = true) (h1 : SE M sc a ca) (h2 : SE M sc b cb) (h3 : SE M sc c cc) (hb : M.G.Y.blt.contains "range" = true) (hg : glB sc "range" = true) : SI M sc tgE (.Call (.Name "range" p) [a, b, c] [] pos) (.rng [ca, cb, cc]) := fun tp X xo z Γ xs Γ1 q1 wk hh => by
  cases z with
  | zero => simp [evI] at hh
  | succ z =>
    rw [evI] at hh
    obtain ⟨⟨rs, Γa, qa⟩, g1, g2⟩ := obind hh
    obtain ⟨ds, g3, g4⟩ := obind g2
    obtain ⟨ys, g5, g6⟩ := omap g4
    cases g6
    have sa := SA.cons n1 h1 (SA.two n2 n3 h2 h3)
    have aj := sa.go tp X xo z _ _ _ _ g1
    refine ⟨_, pi_range3 (gl_of xo hg) (mg_of mo xo hb) (pa_aT sa.ns) (starEach_cons n1) (noStar_any fun z hz => sa.ns z (List.mem_cons_of_mem _ hz)), (ij_rng (P := fun vs J => ∃ (i j c : Int) (n : Nat), vs = [.int i, .int j, .int c] ∧ RgC i j c n ∧ J = Itc i c n) aj g3 fun vs us e1 e2 => ?_).to fun σ H R h => aT_mono h fun vs H1 ⟨J, ⟨i, j, c, n, v1, v2, v4⟩, r⟩ => ⟨i, j, c, n, v1, v2, by rw [← v4]; exact r⟩⟩
    have l : ds.length = 3 := by
      have h1 := sa.len2 xo g1
      have h2 := resL_len g3
      simp at h1
      omega
    match ds, l with
    | [d, e, f], _ =>
      obtain ⟨n, m, l, kk, k2, k3, rfl, rfl, rfl, c1, rfl⟩ := rngOf_three g5
      obtain ⟨u, v, w, rfl, eu, ev, ew⟩ := map_three e1
      refine ⟨_, ⟨n, m, l, _, by rw [e2]; show [val u, val v, val w] = _; rw [er_int eu, er_int ev, er_int ew], c1, rfl⟩, fun B1 Ts1 c0 => ?_⟩
      rw [List.map_map]
      exact itc_ok
theorem SI.enm (mo : M.Ok) (n1 : notStar a = true) (h1 : SE M sc a ca) (hb : M.G.Y.blt.contains "enumerate" = true) (hg : glB sc "enumerate" = true) {elts : List Expr} {kk : Nat} : SI M sc (.Tuple elts kk tpos) (.Call (.Name "enumerate" p) [a] [] pos) (.enm ca) := fun tp X xo z Γ xs Γ1 q1 wk hh => by
  cases z with
  | zero => simp [evI] at hh
  | succ z =>
    rw [evI] at hh
    obtain ⟨r, g1, g2⟩ := obind hh
    have b1 := h1 tp X xo z Γ r g1
    have pi : PI X (.Tuple elts kk tpos) (.Call (.Name "enumerate" p) [a] [] pos) (iEnum X.K (tCons (wE X a) tNil)) := pi_enum (gl_of xo hg) (mg_of mo xo hb) (pa_cons pe_w pa_nil (starEach_cons n1)) (by rw [starEach_cons n1]; rfl)
    rw [xo.K] at pi
    unfold enmR at g2
    split at g2
    · cases g2
      exact ⟨_, pi, enm_place (W := M.W) b1⟩
    · split at g2
      · rename_i hs
        cases g2
        exact ⟨_, pi, enm_val (W := M.W) b1 hs⟩
      · cases g2
    · cases g2
def plainI : C → Bool
  | .rng _ => false
  | .enm _ => false
  | _ => true
theorem SI.val (h1 : SE M sc a ca) (hp : plainI ca = true) (hv : ∀ i, ca = .v i → ∀ (tp : Bool) (X : Cx), XOk M.G M.k M.N tp sc X → PE X a (tVar i)) : SI M sc tgE a ca := fun tp X xo z Γ xs Γ1 q1 wk hh => by
  cases z with
  | zero => simp [evI] at hh
  | succ z =>
    have hh : (match dctAt Γ ca with
      | some (i, ks, ts) => some (ks.map fun k => Itm.one (.own (keyD k)), Γ, true, Wk.lock i [] (.nd (.dct true true ks) ts))
      | none => (evB M.G.Φ M.cl z ca Γ).bind (itvR Γ)) = some (xs, Γ1, q1, wk) := by
      rw [← hh]
      cases ca <;> first | rfl | cases hp
    split at hh
    · rename_i i ks ts hd
      cases hh
      unfold dctAt at hd
      split at hd
      · split at hd
        · rename_i i' ks' ts' hi
          cases hd
          exact ⟨rfl, rfl, rfl, hv _ rfl tp X xo, _, _, hi, rfl, rfl⟩
        · cases hd
      · cases hd
    · obtain ⟨r, g1, g2⟩ := obind hh
      have b1 := h1 tp X xo z Γ r g1
      have pl : PI X tgE a (iList X.K (wE X a)) := pi_list pe_w
      have pt : PI X tgE a (iTup X.K (wE X a)) := pi_tup pe_w
      rw [xo.K] at pl pt
      unfold itvR at g2
      split at g2
      · cases g2
        exact ⟨_, pl, ij_place (W := M.W) b1⟩
      · split at g2
        · rename_i hs
          cases g2
          exact ⟨_, pl, ij_val (W := M.W) b1 hs⟩
        · cases g2
      · cases g2
        exact ⟨_, pt, ij_tup (W := M.W) b1⟩
      · cases g2
end
end VI
/-! VV -/
noncomputable section
namespace VI
open PySem L2 PyProof.Rows StX

section
variable {W : Wo} {B B' B1 B2 H H' : Hp} {F L M' : List Cell} {Ts Ts' Ts1 : CtxT} {σ σ' : L2.St} {Γ Γ' Γ1 Γ2 : Ctx} {X : Cx} {q q1 q2 st : Bool} {d : D} {ds : List D} {wi : TI} {tt : TT} {te : TE} {xs : List Itm} {tg : Tg} {c0 : List Cell} {J : It} {ta : TA} {rs : List Rd'}
variable {M : Md} {sc scope : Scope} {a b c it tgE elt : Expr} {ca cb cc ci ce : C} {es ifs : List Expr} {cs cifs : List C} {pos p tpos : Pos} {tp : Bool} {own : List (Str × Nat)}

/-! ## targets -/
def STg (M : Md) (tp : Bool) (sc : Scope) (tgE : Expr) (tg : Tg) : Prop := ∀ X : Cx, XOk M.G M.k M.N tp sc X → PG X tgE (tgG M.G.K tg)
def locB (tp : Bool) (sc : Scope) (x : Str) : Bool := match sc.names.lookup x with
  | some .local => true
  | some .cell => tp
  | _ => false
theorem locB_of {x : Str} (xo : XOk M.G M.k M.N tp sc X) (h : locB tp sc x = true) : Loc X.env.scope x ∧ (X.fn x = true ∨ X.env.scope.names.lookup x = some .local) := by
  unfold locB at h
  rw [xo.sc]
  split at h
  · rename_i e; exact ⟨.inl e, .inr e⟩
  · rename_i e; exact ⟨.inr e, .inl (xo.fn h x)⟩
  · cases h
theorem pgN (xo : XOk M.G M.k M.N tp sc X) {x : Str} {i : Nat} (hi : M.N[i]? = some x) (hl : locB tp sc x = true) : PG X (.Name x p) (gName i) :=
  pg_name (by rw [xo.N]; exact xo.nd) (by rw [xo.N]; exact hi) (locB_of xo hl).1 (locB_of xo hl).2
theorem STg.nm {x : Str} {i : Nat} (hi : M.N[i]? = some x) (hl : locB tp sc x = true) : STg M tp sc (.Name x p) (.nm i) := fun X xo => pgN xo hi hl
inductive NmL (N : List Str) (tp : Bool) (sc : Scope) : List Expr → List Nat → Prop
  | nil : NmL N tp sc [] []
  | cons {x : Str} {p : Pos} {i : Nat} {es : List Expr} {is : List Nat} : N[i]? = some x → locB tp sc x = true → NmL N tp sc es is → NmL N tp sc (.Name x p :: es) (i :: is)
theorem NmL.pgs (xo : XOk M.G M.k M.N tp sc X) : ∀ {es : List Expr} {is : List Nat}, NmL M.N tp sc es is → PGs X es (gsN is) ∧ (assignEach es X.env).length = is.length ∧ (assignEach es X.env).findIdx? (·.1) = none
  | _, _, .nil => ⟨pgs_nil, rfl, rfl⟩
  | _, _, .cons (x := x) (p := p) (i := i) (es := es) hi hl r => by
    obtain ⟨h1, h2, h3⟩ := r.pgs xo
    refine ⟨pgs_cons (pgN xo hi hl) h1 rfl, ?_, ?_⟩
    · show (assignEach es X.env).length + 1 = _
      rw [h2]; rfl
    · show ((false, _) :: assignEach es X.env).findIdx? (·.1) = none
      rw [List.findIdx?_cons]
      show (if false = true then some 0 else _) = none
      rw [if_neg Bool.false_ne_true, h3]; rfl
theorem STg.tup {is : List Nat} {kk : Nat} (h : NmL M.N tp sc es is) : STg M tp sc (.Tuple es kk p) (.tp is) := fun X xo => by
  obtain ⟨h1, h2, h3⟩ := h.pgs xo
  have := pg_tup (k := kk) (pos := p) xo.calm h1 h2 h3
  rw [xo.K] at this
  exact this

/-! ## the block -/
def wEb (X : Cx) (scope : Scope) (e : Expr) : TE := fun σ H Q => ∀ (s : Shared) (H0 : Hp) (Cc : Addr) (cl : List (Str × Addr)) (fp : List Addr), wE (X.blk s H0 scope (compEnvC scope cl Cc X.env) fp) e σ H Q
def wTb (X : Cx) (scope : Scope) (e : Expr) : TT := fun σ H Q => ∀ (s : Shared) (H0 : Hp) (Cc : Addr) (cl : List (Str × Addr)) (fp : List Addr), wT (X.blk s H0 scope (compEnvC scope cl Cc X.env) fp) e σ H Q
theorem XOk.blk (xo : XOk M.G M.k M.N tp sc X) (s : Shared) (H0 : Hp) (Cc : Addr) (cl : List (Str × Addr)) (fp : List Addr) : XOk M.G M.k M.N false (relS scope sc) (X.blk s H0 scope (compEnvC scope cl Cc X.env) fp) :=
  ⟨xo.prog, xo.w, xo.K, xo.mg, xo.base, xo.nd, xo.N, by rw [← xo.sc]; rfl, xo.calm, xo.room, xo.gu, (fun h => by cases h), PassesOwn.never⟩
def ttB (X : Cx) (scope : Scope) : List Expr → TT
  | [] => tYes
  | [c] => wTb X scope c
  | _ => fun _ _ _ => False
inductive SIf (M : Md) (sc : Scope) : List Expr → List C → Prop
  | nil : SIf M sc [] []
  | one {c : Expr} {cc : C} : ST M sc c cc → SIf M sc [c] [cc]
theorem SIf.pts (h : SIf M (relS scope sc) ifs cifs) (s : Shared) (H0 : Hp) (Cc : Addr) (cl : List (Str × Addr)) (fp : List Addr) : PTs (X.blk s H0 scope (compEnvC scope cl Cc X.env) fp) ifs (ttB X scope ifs) := by
  cases h with
  | nil => exact pts_nil
  | one h => exact pts_one ⟨fun pins s' σ H Q I q => q s H0 Cc cl fp pins s' I⟩
theorem SIf.tj (h : SIf M (relS scope sc) ifs cifs) (xo : XOk M.G M.k M.N tp sc X) {z : Nat} {b : Bool} (e : evTs M.G.Φ M.cl z cifs Γ = some (b, Γ', q)) : TJ M.W (ttB X scope ifs) Γ Γ' q b := by
  cases h with
  | nil =>
    cases z with
    | zero => simp [evTs] at e
    | succ z =>
      rw [evTs] at e
      cases e
      exact fun B Ts F σ H a g Q k => k B Ts H (Ext.refl _) a g fun _ => rfl
  | one h =>
    cases z with
    | zero => simp [evTs] at e
    | succ z =>
      rw [evTs] at e
      exact fun B Ts F σ H a g Q k s H0 Cc cl fp => h false _ (xo.blk s H0 Cc cl fp) z Γ b Γ' q e B Ts F σ H a g Q k
def notSetE : Expr → Bool
  | .Set _ _ _ => false
  | _ => true
theorem notSet_eq (h : notSetE it = true) (env : Env) (x : Value) : foldedSetIterable it env x = pure x := by
  cases it <;> first | rfl | cases h
/-- the dict's lock -/
theorem At.relock {j : Nat} {ad : Addr} {ks : List Key} {lk lk' : Option Obj} {tts : List T} (a : At W B Ts F σ H) (hj : Ts[j]? = some (some (.own (.nd (.dct ad true ks lk) tts)))) :
    At W B (Ts.set j (some (.own (.nd (.dct ad true ks lk') tts)))) F σ (upd H ad (lockd lk' (.dK (ks.zip (vals tts))))) := by
  have hu : (Tr.nd (TT'.dct ad true ks lk) tts).at_ [] = some (Tr.nd (TT'.dct ad true ks lk) tts) := Tr.at_nil _
  obtain ⟨R, r1, r2⟩ := cellsC_put (W := W) hj hu
  have cN : ∀ l, cells W (.nd (.dct ad true ks l) tts) = (ad, lockd l (.dK (ks.zip (vals tts)))) :: cellsL W tts := fun l => by rw [cells_nd]; rfl
  have o := (a.ok j _ hj).1
  have hne : cells W (.nd (.dct ad true ks lk) tts) ≠ [] := by rw [cN]; exact fun z => by cases z
  have o' : Ok W B (.nd (.dct ad true ks lk') tts) := .mk o.tag o.kids
  have e0 : putT Ts j [] (.nd (.dct ad true ks lk') tts) = Ts.set j (some (.own (.nd (.dct ad true ks lk') tts))) := by rw [putT_eq hj, Tr.put_nil]
  rw [← e0]
  refine (a.s.put0 (Ext.refl _) hj hu hne o' rfl fun i ρ h y hy => ?_).at ?_
  · cases ρ with
    | nil => rw [Tr.at_nil] at hy; cases hy; exact ⟨_, Tr.at_nil _, rfl⟩
    | cons n τ => exact ⟨y, hy, rfl⟩
  · have g1 : Good B H ((ad, lockd lk (.dK (ks.zip (vals tts)))) :: (cellsL W tts ++ (R ++ F))) := a.good.perm (by
      have s1 := r1.append_right F
      rw [cN, List.append_assoc] at s1
      exact s1)
    refine (g1.wr' (o' := lockd lk' (.dK (ks.zip (vals tts))))).perm ?_
    have s2 := (r2 (.nd (.dct ad true ks lk') tts) rfl).append_right F
    rw [cN, List.append_assoc] at s2
    exact s2.symm
theorem itk_ok {j : Nat} {ad : Addr} {ks : List Key} {od : Obj} {tts : List T} (hj : Ts1[j]? = some (some (.own (.nd (.dct ad true ks (some od)) tts)))) (hl : ks.length = tts.length) : ItOk W B1 Ts1 c0 (Itk ad od (ks.zip (vals tts))) (ks.map fun k => .one (.own (keyD k))) true := by
  intro B2 Ts2 F2 σ2 H2 x2 a2 hs
  have hs := hs rfl
  subst hs
  have hd : H2 ad = some (.frz od (.dK (ks.zip (vals tts)))) := a2.good.own (ad, _) (List.mem_append_left _ (mem_cellsC hj (by rw [cells_nd]; exact List.mem_cons_self)))
  have hz : (ks.zip (vals tts)).length = ks.length := by unfold vals; rw [List.length_zip, List.length_map, hl, Nat.min_self]
  refine ⟨⟨hd, by rw [hz, List.length_map]; exact Nat.le_refl _⟩, fun i it hi => ?_⟩
  rw [List.getElem?_map] at hi
  obtain ⟨k, hk, rfl⟩ := omap hi
  have hlt : i < ks.length := (List.getElem?_eq_some_iff.mp hk).1
  refine ⟨⟨hd, by rw [hz]; exact hlt⟩, fun x H3 ⟨e, k', v, h1, h2⟩ => ⟨B2, Ext.refl _, by rw [e]; exact a2, ?_⟩⟩
  have : k' = k := by
    have h3 : (ks.zip (vals tts))[i]? = some (k', v) := h1
    rw [List.getElem?_zip_eq_some] at h3
    rw [hk] at h3
    exact (Option.some.inj h3.1).symm
  subst this h2
  cases k' with
  | inl n => exact ⟨tI n, ok_int _, c_int _, e_int _, rfl⟩
  | inr n => exact ⟨tS n, ok_str _, c_str _, e_str _, rfl⟩

/-- the statement y = [..] on one line -/
def SetLc (X : Cx) (e : Expr) (t : TE) : Prop := ∀ (i : Nat) (y : Str) (py spos : Pos), X.N[i]? = some y → X.env.scope.names.lookup y = some .local → swapsWith e (some (.Name y py)) spos.line X.env = pure true → PS X (.Assign [.Name y py] e spos) (tAsg t (gName i))
theorem lc_bj (hi : SI M sc tgE it ci) (htg : STg M false (relS scope sc) tgE tg) (hif : SIf M (relS scope sc) ifs cifs) (he : SE M (relS scope sc) elt ce) (ok : BlkOk M.N sc scope own) (hset : notSetE it = true)
    (tp : Bool) (X : Cx) (xo : XOk M.G M.k M.N tp sc X) (z : Nat) (Γ : Ctx) (r : BR) (hh : evB M.G.Φ M.cl z (.lc (own.map (·.2)) tg ci cifs ce) Γ = some r) :
    ∃ t, BJ M.W t Γ r ∧ PE X (.ListComp elt [⟨tgE, it, ifs, 0⟩] scope pos) t ∧ SetLc X (.ListComp elt [⟨tgE, it, ifs, 0⟩] scope pos) t := by
  cases z with
  | zero => simp [evB] at hh
  | succ z =>
    rw [evB] at hh
    split at hh
    · rename_i ho
      obtain ⟨⟨xs, Γ1, q1, wk⟩, g1, g2⟩ := obind hh
      have wkj := hi tp X xo z Γ xs Γ1 q1 wk g1
      have hT : ∀ Γ b Γ' q, evTs M.G.Φ M.cl z cifs Γ = some (b, Γ', q) → TJ M.W (ttB X scope ifs) Γ Γ' q b := fun Γ b Γ' q e => hif.tj xo e
      have hE : ∀ Γ d Γ' q, (evB M.G.Φ M.cl z ce Γ).map (settle Γ) = some (d, Γ', q) → EJ M.W (wEb X scope elt) Γ Γ' q d := fun Γ d Γ' q e => by
        obtain ⟨r, y1, y2⟩ := omap e
        intro B Ts F σ H a g Q k s H0 Cc cl fp
        have := (he false _ (xo.blk s H0 Cc cl fp) z Γ r y1).settle
        rw [y2] at this
        exact this B Ts F σ H a g Q k
      have okX : BlkOk X.N X.env.scope scope own := by rw [xo.N, xo.sc]; exact ok
      have pe : ∀ wi, PI X tgE it wi → PE X (.ListComp elt [⟨tgE, it, ifs, 0⟩] scope pos) (tLc wi (tgG M.G.K tg) (ttB X scope ifs) (wEb X scope elt) (own.map (·.2))) := fun wi pi =>
        pe_lc xo.calm (by rw [xo.N]; exact xo.nd) pi okX (fun s H0 Cc cl fp => htg _ (xo.blk s H0 Cc cl fp)) (fun s H0 Cc cl fp => hif.pts s H0 Cc cl fp) (fun s H0 Cc cl fp => ⟨fun pins s' σ H Q I q => q s H0 Cc cl fp pins s' I⟩) (notSet_eq hset X.env)
      have ps : ∀ wi, PI X tgE it wi → SetLc X (.ListComp elt [⟨tgE, it, ifs, 0⟩] scope pos) (tLc wi (tgG M.G.K tg) (ttB X scope ifs) (wEb X scope elt) (own.map (·.2))) := fun wi pi i y py spos h1 h2 h3 =>
        ps_setLc xo.calm (by rw [xo.N]; exact xo.nd) h1 h2 h3 pi okX (fun s H0 Cc cl fp => htg _ (xo.blk s H0 Cc cl fp)) (fun s H0 Cc cl fp => hif.pts s H0 Cc cl fp) (fun s H0 Cc cl fp => ⟨fun pins s' σ H Q I q => q s H0 Cc cl fp pins s' I⟩) (notSet_eq hset X.env)
      cases wk with
      | free =>
        obtain ⟨wi, pi, ij⟩ := wkj
        dsimp only at g2
        obtain ⟨⟨ds, Γ2, q2⟩, g3, g4⟩ := obind g2
        cases g4
        refine ⟨_, ?_, pe wi pi, ps wi pi⟩
        intro B Ts F σ H aa g Q k
        refine ij B Ts F σ H aa g _ fun B1 Ts1 c0 H1 J e1 a1 gg1 q1' itok => fun D hD => ?_
        exact lc_turns (W := M.W) (st := false) hT hE ho g3 (fun z => by cases z) a1 gg1 itok (fun B' Ts' u H' x' a' g' hq o' eu => k B' Ts' u H' (e1.trans x') (a'.perm (pswap _ _ _)).drop g' o' eu fun zz => by
          rw [Bool.and_eq_true, Bool.and_eq_true] at zz
          rw [hq zz.1.2 zz.2, q1' zz.1.1]) D hD
      | still =>
        obtain ⟨wi, pi, ij⟩ := wkj
        dsimp only at g2
        obtain ⟨⟨ds, Γ2, q2⟩, g3, g4⟩ := obind g2
        dsimp only at g4
        split at g4
        · rename_i hq2
          rw [Bool.and_eq_true] at hq2
          cases g4
          refine ⟨_, ?_, pe wi pi, ps wi pi⟩
          intro B Ts F σ H aa g Q k
          refine ij B Ts F σ H aa g _ fun B1 Ts1 c0 H1 J e1 a1 gg1 q1' itok => fun D hD => ?_
          exact lc_turns (W := M.W) (st := true) hT hE ho g3 (fun _ => hq2) a1 gg1 itok (fun B' Ts' u H' x' a' g' hq o' eu => k B' Ts' u H' (e1.trans x') (a'.perm (pswap _ _ _)).drop (by rw [hq hq2.1 hq2.2, gg1]) o' eu fun zz => by
            rw [hq hq2.1 hq2.2, q1' zz]) D hD
        · cases g4
      | lock j π l =>
        obtain ⟨rfl, rfl, rfl, pv, ks, ts, hΓ, rfl, rfl⟩ := wkj
        dsimp only at g2
        split at g2
        · cases g2
        · rename_i hoj
          obtain ⟨⟨ds, Γ2, q2⟩, g3, g4⟩ := obind g2
          dsimp only at g4
          split at g4
          · rename_i hq2
            rw [Bool.and_eq_true] at hq2
            cases g4
            refine ⟨_, ?_, pe_lock (pe _ (pi_keys pv)), fun i y py spos h1 h2 h3 => ⟨(ps_lock (ps _ (pi_keys pv) i y py spos h1 h2 h3)).run⟩⟩
            intro B Ts F σ H aa g Q k
            subst g
            obtain ⟨t, ht, et⟩ := erC_get hΓ
            obtain ⟨ad, lk, tts, rfl, hlk, etts⟩ := er_dct et
            have hlk0 : lk = none := by cases lk with | none => rfl | some _ => cases hlk
            subst hlk0
            have hH : H ad = some (.dK (ks.zip (vals tts))) := aa.good.own (ad, _) (List.mem_append_left _ (mem_cellsC ht (by rw [cells_nd]; exact List.mem_cons_self)))
            have hlen : ks.length = tts.length := (aa.ok j _ ht).1.tag.1
            refine ⟨ad, .dK (ks.zip (vals tts)), hH, True.intro, fun od => ?_⟩
            have a1 := aa.relock (lk' := some od) ht
            have hj1 : (Ts.set j (some (.own (.nd (.dct ad true ks (some od)) tts))))[j]? = some (some (.own (.nd (.dct ad true ks (some od)) tts))) := List.getElem?_set_self (List.getElem?_eq_some_iff.mp ht).1
            have ge : erC (Ts.set j (some (.own (.nd (.dct ad true ks (some od)) tts)))) = putE (erC Ts) j [] (.nd (.dct true true ks) ts) := by
              have e0 : putT Ts j [] (.nd (.dct ad true ks (some od)) tts) = Ts.set j (some (.own (.nd (.dct ad true ks (some od)) tts))) := by rw [putT_eq ht, Tr.put_nil]
              rw [← e0, erC_putT, er_nd, etts]; rfl
            have hcl : clean (putE (erC Ts) j [] (.nd (.dct true true ks) ts)) (own.map (·.2)) = true := by
              have h0 := hq2.2
              unfold clean at h0 ⊢
              rw [List.all_eq_true] at h0 ⊢
              intro i hi
              have hij : j ≠ i := fun e => by subst e; exact hoj (List.contains_iff_mem.mpr hi)
              have := h0 i hi
              unfold putE
              rw [hΓ]
              rw [List.getElem?_set_ne hij]
              exact this
            refine ⟨.ref ad, (aa.ok j _ ht).2, ad, od, rfl, .inl ⟨_, upd_same .., fun D hD => ?_⟩⟩
            refine lc_turns (W := M.W) (st := true) (c0 := []) (F := F) (Q := fun v H' => H' ad = some (HO.frz od (HO.dK (ks.zip (vals tts)))) ∧ Q v (upd H' ad (HO.dK (ks.zip (vals tts))))) (Γ1 := putE (erC Ts) j [] (.nd (.dct true true ks) ts)) hT hE ho g3 (fun _ => ⟨hq2.1, hcl⟩) a1 ge (itk_ok hj1 hlen) (fun B' Ts' u H' x' a' g' hq o' eu => ?_) D hD
            have hT' := hq hq2.1 hcl
            subst hT'
            have a' : At M.W B' _ (cells M.W u ++ F) σ H' := a'
            refine ⟨a'.good.own (ad, .frz od (.dK (ks.zip (vals tts)))) (List.mem_append_left _ (mem_cellsC hj1 (by rw [cells_nd]; exact List.mem_cons_self))), ?_⟩
            have a2 := a'.relock (lk' := none) hj1
            rw [List.set_set] at a2
            have es : Ts.set j (some (.own (.nd (.dct ad true ks none) tts))) = Ts := by
              refine List.ext_getElem? fun i => ?_
              by_cases hi : j = i
              · subst hi
                rw [List.getElem?_set_self (List.getElem?_eq_some_iff.mp ht).1, ht]
              · rw [List.getElem?_set_ne hi]
            rw [es] at a2
            exact k B' Ts u _ x' a2 rfl o' eu fun _ => rfl
          · cases g4
    · cases hh
theorem SE.lc (hi : SI M sc tgE it ci) (htg : STg M false (relS scope sc) tgE tg) (hif : SIf M (relS scope sc) ifs cifs) (he : SE M (relS scope sc) elt ce) (ok : BlkOk M.N sc scope own) (hset : notSetE it = true) :
    SE M sc (.ListComp elt [⟨tgE, it, ifs, 0⟩] scope pos) (.lc (own.map (·.2)) tg ci cifs ce) := fun tp X xo z Γ r hh => by
  obtain ⟨t, h1, h2, _⟩ := lc_bj (pos := pos) hi htg hif he ok hset tp X xo z Γ r hh
  cases r with
  | pl j π d => exact PJ.lift h1 h2
  | vl d Γ' q => exact EJ.lift h1 h2
end
end VI
/-! VW -/
noncomputable section
namespace VI
open PySem L2 PyProof.Rows StX

def OffW (w : List Nat) (σ σ' : L2.St) : Prop := ∀ i, i ∉ w → σ'[i]? = σ[i]?
theorem OffW.refl (σ : L2.St) (w : List Nat) : OffW w σ σ := fun _ _ => rfl
theorem OffW.add {w w' : List Nat} {σ σ' σ'' : L2.St} (h : OffW w σ σ') (g : OffW w' σ' σ'') : OffW (w ++ w') σ σ'' := fun i hi => by
  rw [List.mem_append, not_or] at hi
  rw [g i hi.2, h i hi.1]
/-- what the ends must hold of an outcome -/
def Cont (W : Wo) (F : List Cell) (E : Ends) (B : Hp) (σ : L2.St) : Out → Prop
  | .nx Γ w => ∀ (B' : Hp) (Ts' : CtxT) (σ' : L2.St) (H' : Hp), Ext B B' → At W B' Ts' F σ' H' → erC Ts' = Γ → OffW w σ σ' → E.nx σ' H'
  | .bk Γ w => ∀ (B' : Hp) (Ts' : CtxT) (σ' : L2.St) (H' : Hp), Ext B B' → At W B' Ts' F σ' H' → erC Ts' = Γ → OffW w σ σ' → E.bk σ' H'
  | .ct Γ w => ∀ (B' : Hp) (Ts' : CtxT) (σ' : L2.St) (H' : Hp), Ext B B' → At W B' Ts' F σ' H' → erC Ts' = Γ → OffW w σ σ' → E.ct σ' H'
  | .rt d Γ w => ∀ (B' : Hp) (Ts' : CtxT) (σ' : L2.St) (u : T) (H' : Hp), Ext B B' → At W B' Ts' (cells W u ++ F) σ' H' → erC Ts' = Γ → OffW w σ σ' → Ok W B' u → er u = d → E.rt (val u) H'
theorem Cont.add {W : Wo} {F : List Cell} {E : Ends} {B B1 : Hp} {σ σ1 : L2.St} {w : List Nat} {o : Out} (h : Cont W F E B σ (o.add w)) (x : Ext B B1) (hw : OffW w σ σ1) : Cont W F E B1 σ1 o := by
  cases o with
  | nx Γ w' => exact fun B' Ts' σ' H' e a g o => h B' Ts' σ' H' (x.trans e) a g (hw.add o)
  | bk Γ w' => exact fun B' Ts' σ' H' e a g o => h B' Ts' σ' H' (x.trans e) a g (hw.add o)
  | ct Γ w' => exact fun B' Ts' σ' H' e a g o => h B' Ts' σ' H' (x.trans e) a g (hw.add o)
  | rt d Γ w' => exact fun B' Ts' σ' u H' e a g o => h B' Ts' σ' u H' (x.trans e) a g (hw.add o)
def SJ (W : Wo) (t : TS) (Γ : Ctx) (o : Out) : Prop := ∀ (B : Hp) (Ts : CtxT) (F : List Cell) (σ : L2.St) (H : Hp), At W B Ts F σ H → erC Ts = Γ → ∀ E : Ends, Cont W F E B σ o → t E σ H
def SS (M : Md) (np : Nat) (tp : Bool) (sc : Scope) (st : Stmt) (c : CS) : Prop := ∀ X : Cx, XOk M.G M.k M.N tp sc X → ∀ (z : Nat) (Γ : Ctx) (o : Out), rn M.G.Φ M.cl np z c Γ = some o → SJ M.W (wS X st) Γ o
def SSs (M : Md) (np : Nat) (tp : Bool) (sc : Scope) (sts : List Stmt) (cs : List CS) : Prop := ∀ X : Cx, XOk M.G M.k M.N tp sc X → ∀ (z : Nat) (Γ : Ctx) (o : Out), rnSs M.G.Φ M.cl np z cs Γ = some o → SJ M.W (wSs X sts) Γ o
section
variable {W : Wo} {B B' B1 B2 H H' : Hp} {F L M' : List Cell} {Ts Ts' Ts1 : CtxT} {σ σ' : L2.St} {Γ Γ' Γ1 Γ2 : Ctx} {X : Cx} {q q1 q2 st : Bool} {d : D} {ds : List D} {wi : TI} {tt : TT} {te : TE} {xs : List Itm} {tg : Tg} {c0 : List Cell} {J : It} {ta : TA} {rs : List Rd'}
variable {M : Md} {np : Nat} {sc scope : Scope} {a b c it tgE elt e : Expr} {ca cb cc ci ce : C} {es ifs : List Expr} {cs cifs : List C} {pos p tpos : Pos} {tp : Bool} {own : List (Str × Nat)} {t : TS} {o : Out}
theorem SJ.liftS {s : Stmt} (h : SJ W t Γ o) (p : PS X s t) : SJ W (wS X s) Γ o := fun B Ts F σ H aa g E k => wS_of p (h B Ts F σ H aa g E k)
theorem SJ.liftSs {s : List Stmt} (h : SJ W t Γ o) (p : PSs X s t) : SJ W (wSs X s) Γ o := fun B Ts F σ H aa g E k => wSs_of p (h B Ts F σ H aa g E k)
theorem SS.bad {s : Stmt} : SS M np tp sc s .bad := fun X xo z Γ o h => by cases z <;> simp [rn] at h
theorem SSs.nil : SSs M np tp sc [] [] := fun X xo z Γ o h => by
  cases z with
  | zero => simp [rnSs] at h
  | succ z =>
    rw [rnSs] at h
    cases h
    exact SJ.liftSs (t := tNext) (fun B Ts F σ H aa g E k => k B Ts σ H (Ext.refl _) aa g (OffW.refl _ _)) pss_nil
theorem SSs.cons {s : Stmt} {ss : List Stmt} {c : CS} {cs : List CS} (h1 : SS M np tp sc s c) (h2 : SSs M np tp sc ss cs) : SSs M np tp sc (s :: ss) (c :: cs) := fun X xo z Γ o h => by
  cases z with
  | zero => simp [rnSs] at h
  | succ z =>
    rw [rnSs] at h
    obtain ⟨o1, g1, g2⟩ := obind h
    have j1 := h1 X xo z Γ o1 g1
    refine SJ.liftSs (t := tSeq (wS X s) (wSs X ss)) (fun B Ts F σ H aa g E k => j1 B Ts F σ H aa g _ ?_) (pss_cons ps_w pss_w)
    cases o1 with
    | nx Γ1 w =>
      obtain ⟨o2, g3, g4⟩ := omap g2
      subst g4
      exact fun B' Ts' σ' H' x a' g' ow => h2 X xo z Γ1 o2 g3 B' Ts' F σ' H' a' g' E (k.add x ow)
    | rt d Γ1 w => cases g2; exact k
    | bk Γ1 w => cases g2; exact k
    | ct Γ1 w => cases g2; exact k
theorem SS.pass : SS M np tp sc (.Pass pos) .pass := fun X xo z Γ o h => by
  cases z with
  | zero => simp [rn] at h
  | succ z => rw [rn] at h; cases h; exact SJ.liftS (t := tNext) (fun B Ts F σ H aa g E k => k B Ts σ H (Ext.refl _) aa g (OffW.refl _ _)) ps_pass
theorem SS.doc {x : Str} {j : Nat} : SS M np tp sc (.Expr (.Constant (.str x) j p) pos) .pass := fun X xo z Γ o h => by
  cases z with
  | zero => simp [rn] at h
  | succ z => rw [rn] at h; cases h; exact SJ.liftS (t := tNext) (fun B Ts F σ H aa g E k => k B Ts σ H (Ext.refl _) aa g (OffW.refl _ _)) ps_doc
theorem SS.brk : SS M np tp sc (.Break pos) .brk := fun X xo z Γ o h => by
  cases z with
  | zero => simp [rn] at h
  | succ z => rw [rn] at h; cases h; exact SJ.liftS (t := tBreak) (fun B Ts F σ H aa g E k => k B Ts σ H (Ext.refl _) aa g (OffW.refl _ _)) ps_break
theorem SS.cnt : SS M np tp sc (.Continue pos) .cnt := fun X xo z Γ o h => by
  cases z with
  | zero => simp [rn] at h
  | succ z => rw [rn] at h; cases h; exact SJ.liftS (t := tCont) (fun B Ts F σ H aa g E k => k B Ts σ H (Ext.refl _) aa g (OffW.refl _ _)) ps_continue
theorem SS.retN : SS M np tp sc (.Return none pos) .retN := fun X xo z Γ o h => by
  cases z with
  | zero => simp [rn] at h
  | succ z => rw [rn] at h; cases h; exact SJ.liftS (t := tRetN) (fun B Ts F σ H aa g E k => k B Ts σ tN' H (Ext.refl _) (by rw [c_non]; exact aa) g (OffW.refl _ _) ok_non e_non) ps_retN
def notComp : Expr → Bool
  | .ListComp _ _ _ _ => false
  | .SetComp _ _ _ _ => false
  | .DictComp _ _ _ _ _ => false
  | _ => true
theorem swaps_no (h : notComp e = true) (tg : Option Expr) (n : Nat) (env : Env) : swapsWith e tg n env = pure false := by
  cases e <;> first | rfl | cases h
theorem SS.ex (h : SE M sc e ce) (hn : notComp e = true) : SS M np tp sc (.Expr e pos) (.ex ce) := fun X xo z Γ o hh => by
  cases z with
  | zero => simp [rn] at hh
  | succ z =>
    rw [rn] at hh
    obtain ⟨r, g1, g2⟩ := omap hh
    have b1 := h tp X xo z Γ r g1
    refine SJ.liftS ?_ (ps_expr pe_w (swaps_no hn _ _ _))
    cases r with
    | vl d Γ' q =>
      cases g2
      exact fun B Ts F σ H aa g E k => b1 B Ts F σ H aa g _ fun B' Ts' u H' x a' g' o' eu q' => k B' Ts' σ H' x a'.drop g' (OffW.refl _ _)
    | pl j π d =>
      cases g2
      exact fun B Ts F σ H aa g E k => b1 B Ts F σ H aa g _ fun B' H' t0 u x a' ht hu eu => k B' Ts σ H' x a' g (OffW.refl _ _)
theorem At.take {i : Nat} {t : T} (a : At W B Ts F σ H) (ht : Ts[i]? = some (some (.own t))) : At W B ((killAll Ts i).set i none) (cells W t ++ F) σ H := by
  have b := a.kA (i := i)
  have hlt : i < Ts.length := (List.getElem?_eq_some_iff.mp ht).1
  have hi' : i < (killAll Ts i).length := by rw [killAll_length]; exact hlt
  have ht' : (killAll Ts i)[i]? = some (some (.own t)) := by rw [killAll_at, ht]; rfl
  refine ⟨by rw [List.length_set]; exact b.len, fun k t' h => ?_, fun k j π h => ?_, ?_⟩
  · have hk : i ≠ k := fun hk => by subst hk; rw [List.getElem?_set_self hi'] at h; cases h
    rw [List.getElem?_set_ne hk] at h
    exact b.ok k t' h
  · have hk : i ≠ k := fun hk => by subst hk; rw [List.getElem?_set_self hi'] at h; cases h
    rw [List.getElem?_set_ne hk] at h
    obtain ⟨t', y, g1, g2, g3⟩ := b.al k j π h
    have hj : i ≠ j := by
      rw [killAll_at] at h
      obtain ⟨x, h1, h2⟩ := omap h
      exact (killAE_al h2).2.symm
    exact ⟨t', y, by rw [List.getElem?_set_ne hj]; exact g1, g2, g3⟩
  · have p := cellsC_set (W := W) (x := none) ht'
    have p : (cellsC W (killAll Ts i)).Perm (cells W t ++ cellsC W ((killAll Ts i).set i none)) := p
    refine b.good.perm ?_
    have := p.append_right F
    rw [List.append_assoc] at this
    exact this.trans (pswap _ _ _)
theorem SS.ret (h : SE M sc e ce) (hv : ∀ i, ce = .v i → ∀ (tp : Bool) (X : Cx), XOk M.G M.k M.N tp sc X → PE X e (tVar i)) : SS M np tp sc (.Return (some e) pos) (.ret ce) := fun X xo z Γ o hh => by
  cases z with
  | zero => simp [rn] at hh
  | succ z =>
    have gen : ∀ r, evB M.G.Φ M.cl z ce Γ = some r → SJ M.W (wS X (.Return (some e) pos)) Γ (.rt (settle Γ r).1 (settle Γ r).2.1 []) := fun r g1 => by
      have b1 := (h tp X xo z Γ r g1).settle
      refine SJ.liftS ?_ (ps_ret pe_w)
      exact fun B Ts F σ H aa g E k => b1 B Ts F σ H aa g _ fun B' Ts' u H' x a' g' o' eu q' => k B' Ts' σ u H' x a' g' (OffW.refl _ _) o' eu
    by_cases hc : ∃ i, ce = .v i
    · obtain ⟨i, rfl⟩ := hc
      rw [rn] at hh
      split at hh
      · rename_i d hd
        split at hh
        · rename_i hc
          cases hh
          refine SJ.liftS (t := tRet (tVar i)) ?_ (ps_ret (hv i rfl tp X xo))
          intro B Ts F σ H aa g E k
          subst g
          obtain ⟨t, ht, rfl⟩ := erC_get hd
          obtain ⟨o1, hσ⟩ := aa.ok i t ht
          refine ⟨val t, hσ, ?_⟩
          refine k B _ σ t H (Ext.refl _) (aa.take ht) ?_ (OffW.refl _ _) o1 rfl
          rw [← erC_killAll]
          unfold erC
          rw [List.map_set]; rfl
        · obtain ⟨r, g1, g2⟩ := omap hh
          subst g2
          exact gen r g1
      · obtain ⟨r, g1, g2⟩ := omap hh
        subst g2
        exact gen r g1
    · have hh : (evB M.G.Φ M.cl z ce Γ).map (fun r => Out.rt (settle Γ r).1 (settle Γ r).2.1 []) = some o := by
        rw [← hh]
        cases ce <;> first | rfl | exact absurd ⟨_, rfl⟩ hc
      obtain ⟨r, g1, g2⟩ := omap hh
      subst g2
      exact gen r g1
theorem SS.ite (hc : ST M sc c cc) {sa sb : List Stmt} {la lb : List CS} (h1 : SSs M np tp sc sa la) (h2 : SSs M np tp sc sb lb) : SS M np tp sc (.If c sa sb pos) (.ite cc la lb) := fun X xo z Γ o hh => by
  cases z with
  | zero => simp [rn] at hh
  | succ z =>
    rw [rn] at hh
    obtain ⟨⟨x, Γ1, q1⟩, g1, g2⟩ := obind hh
    have t1 := hc tp X xo z Γ _ _ _ g1
    dsimp only at g2
    refine SJ.liftS (t := tIfS (wT X c) (wSs X sa) (wSs X sb)) (fun B Ts F σ H aa g E k => t1 B Ts F σ H aa g _ fun B' Ts' H' x' a' g' q' => ?_) (ps_if pt_w pss_w pss_w)
    have k' : Cont M.W F E B' σ o := Cont.add (w := []) (by cases o <;> exact k) x' (OffW.refl _ _)
    cases x with
    | true =>
      rw [if_pos rfl] at g2 ⊢
      exact h1 X xo z Γ1 o g2 B' Ts' F σ H' a' g' E k'
    | false =>
      rw [if_neg Bool.false_ne_true] at g2 ⊢
      exact h2 X xo z Γ1 o g2 B' Ts' F σ H' a' g' E k'
theorem SS.whl (hc : ST M sc c cc) {sb : List Stmt} {lb : List CS} (h2 : SSs M np tp sc sb lb) : SS M np tp sc (.While c sb [] pos) (.whl cc lb) := fun X xo z Γ o hh => by
  cases z with
  | zero => simp [rn] at hh
  | succ z =>
    rw [rn] at hh
    refine SJ.liftS (t := tWhile (wT X c) (wSs X sb)) (fun B Ts F σ H aa g E k => ?_) (ps_while xo.pas pt_w pss_w)
    refine ⟨fun m σ H => ∃ (B : Hp) (Ts : CtxT) (o : Out), At M.W B Ts F σ H ∧ whRun (evT M.G.Φ M.cl z cc) (rnSs M.G.Φ M.cl np z lb) m (erC Ts) = some o ∧ Cont M.W F E B σ o, ⟨wfuel, B, Ts, o, aa, by rw [g]; exact hh, k⟩, ?_⟩
    rintro m σ H ⟨B, Ts, o, aa, hh, k⟩
    cases m with
    | zero => simp [whRun] at hh
    | succ m =>
      rw [whRun] at hh
      obtain ⟨⟨x, Γ1, q1⟩, g1, g2⟩ := obind hh
      refine hc tp X xo z _ _ _ _ g1 B Ts F σ H aa rfl _ fun B' Ts' H' x' a' g' q' => ?_
      dsimp only at g2
      cases x with
      | false =>
        rw [if_neg Bool.false_ne_true] at g2 ⊢
        cases g2
        exact k B' Ts' σ H' x' a' g' (OffW.refl _ _)
      | true =>
        rw [if_pos rfl] at g2 ⊢
        obtain ⟨o1, g3, g4⟩ := obind g2
        refine ⟨fun σ H => ∃ (B : Hp) (Ts : CtxT) (o : Out), At M.W B Ts F σ H ∧ whRun (evT M.G.Φ M.cl z cc) (rnSs M.G.Φ M.cl np z lb) m (erC Ts) = some o ∧ Cont M.W F E B σ o, fun σ' H' h => ⟨m, Nat.lt_succ_self m, h⟩, ?_⟩
        refine h2 X xo z Γ1 o1 g3 B' Ts' F σ H' a' g' _ ?_
        cases o1 with
        | nx Γ2 w =>
          obtain ⟨o2, g5, g6⟩ := omap g4
          subst g6
          exact fun B2 Ts2 σ2 H2 x2 a2 gg2 ow => ⟨B2, Ts2, o2, a2, by rw [gg2]; exact g5, k.add (x'.trans x2) ow⟩
        | ct Γ2 w =>
          obtain ⟨o2, g5, g6⟩ := omap g4
          subst g6
          exact fun B2 Ts2 σ2 H2 x2 a2 gg2 ow => ⟨B2, Ts2, o2, a2, by rw [gg2]; exact g5, k.add (x'.trans x2) ow⟩
        | bk Γ2 w =>
          cases g4
          exact fun B2 Ts2 σ2 H2 x2 a2 gg2 ow => k B2 Ts2 σ2 H2 (x'.trans x2) a2 gg2 ow
        | rt d Γ2 w =>
          cases g4
          exact fun B2 Ts2 σ2 u H2 x2 a2 gg2 ow => k B2 Ts2 σ2 u H2 (x'.trans x2) a2 gg2 ow
end
end VI
/-! VX -/
noncomputable section
namespace VI
open PySem L2 PyProof.Rows StX

def isStar : Expr → Bool
  | .Starred .. => true
  | _ => false
/-- the order of the stores of a, b = x, y -/
def swP (sc : Scope) (ts vs : List Expr) : Option (Option (List Str)) :=
  if (!(ts.length == 2 || ts.length == 3) || vs.length != ts.length || sc.kind != .function) = true then some none else
  if (vs.any isStar) = true then some none else
  let names := ts.filterMap fun
    | .Name id pos => if sc.names.lookup id == some .local && pos.line == (ts.head?.map (·.pos.line)).getD 0 then some id else none
    | _ => none
  if (names.length != ts.length || names.eraseDups.length != names.length) = true then some none else
  if (vs.all (foldedForSure 8)) = true then some none else
  if (vs.all (constantsAlone 8)) = true then none else some (some names)
theorem swP_ok {sc : Scope} {ts vs : List Expr} {r : Option (List Str)} {env : Env} {k k2 : Nat} {p p2 : Pos} (h : swP sc ts vs = some r) (hs : env.scope = sc) (hk : sc.kind = .function) : swappedStores [.Tuple ts k p] (.Tuple vs k2 p2) env = pure r := by
  have hb : env.blockKind = .function := by unfold Env.blockKind; rw [hs, hk]; rfl
  unfold swP at h
  unfold swappedStores
  rw [hk] at h
  have ek : ∀ id, env.kindOf id = sc.names.lookup id := fun id => by unfold Env.kindOf; rw [hs]
  simp only [hb, ek]
  have hst : (fun x : Expr => match x with
      | .Starred .. => true
      | _ => false) = isStar := by funext x; cases x <;> rfl
  by_cases c1 : (!(ts.length == 2 || ts.length == 3) || vs.length != ts.length || ScopeKind.function != ScopeKind.function) = true
  · rw [if_pos c1] at h ⊢; cases h; rfl
  rw [if_neg c1] at h ⊢
  by_cases c2 : vs.any isStar = true
  · rw [if_pos c2] at h; cases h; exact if_pos c2
  rw [if_neg c2] at h
  refine (if_neg c2).trans ?_
  dsimp only at h
  split at h
  · rename_i c3; cases h; exact if_pos c3
  · rename_i c3
    refine (if_neg c3).trans ?_
    split at h
    · rename_i c4; cases h; exact if_pos c4
    · rename_i c4
      refine (if_neg c4).trans ?_
      split at h
      · cases h
      · rename_i c5; cases h; exact if_neg c5

section
variable {W : Wo} {B B' B1 B2 H H' : Hp} {F L M' : List Cell} {Ts Ts' Ts1 : CtxT} {σ σ' : L2.St} {Γ Γ' Γ1 Γ2 : Ctx} {X : Cx} {q q1 q2 st : Bool} {d : D} {ds : List D} {wi : TI} {tt : TT} {te : TE} {xs : List Itm} {tg : Tg} {c0 : List Cell} {J : It} {ta : TA} {rs : List Rd'}
variable {M : Md} {np : Nat} {sc scope : Scope} {a b c it tgE elt e e2 : Expr} {ca cb cc ci ce c2 : C} {es ifs : List Expr} {cs cifs : List C} {pos p p2 tpos : Pos} {tp : Bool} {own : List (Str × Nat)} {t : TS} {o : Out} {x : Str}
def setS (σ : L2.St) : List Nat → List V → L2.St
  | i :: is, v :: vs => setS (σ.set i (some v)) is vs
  | _, _ => σ
theorem setT_length {i : Nat} {e : Ent T} : (setT Ts i e).length = Ts.length := by unfold setT; rw [List.length_set, killAll_length]
theorem setE_length {i : Nat} {e : Ent D} : (setE Γ i e).length = Γ.length := by unfold setE killAll; rw [List.length_set, List.length_map]
theorem setL_ok : ∀ {is : List Nat} {us : List T} {Ts : CtxT} {σ : L2.St}, At W B Ts (cellsL W us ++ F) σ H → (∀ u ∈ us, Ok W B u) → setL (erC Ts) is (us.map er) = some Γ' → ∃ Ts', At W B Ts' F (setS σ is (vals us)) H ∧ erC Ts' = Γ' ∧ OffW is σ (setS σ is (vals us)) ∧ is.length = us.length
  | [], [], Ts, σ, a, _, h => by cases h; exact ⟨Ts, a, rfl, OffW.refl _ _, rfl⟩
  | [], _ :: _, _, _, _, _, h => by cases h
  | _ :: _, [], _, _, _, _, h => by cases h
  | i :: is, u :: us, Ts, σ, a, os, h => by
    rw [List.map_cons, setL] at h
    split at h
    · rename_i hc
      have a1 : At W B Ts (cells W u ++ (cellsL W us ++ F)) σ H := by
        have a : At W B Ts ((cells W u ++ cellsL W us) ++ F) σ H := a
        rwa [List.append_assoc] at a
      have a2 := a1.setV (by rw [← erC_length]; exact hc.1) (os u List.mem_cons_self)
      obtain ⟨Ts', h1, h2, h3, h4⟩ := setL_ok (Ts := setT Ts i (.own u)) a2 (fun y hy => os y (List.mem_cons_of_mem _ hy)) (by rw [erC_setT]; exact h)
      refine ⟨Ts', h1, h2, fun k hk => ?_, by rw [List.length_cons, List.length_cons, h4]⟩
      rw [List.mem_cons, not_or] at hk
      show (setS (σ.set i (some (val u))) is (vals us))[k]? = _
      rw [h3 k hk.2, List.getElem?_set_ne (Ne.symm hk.1)]
    · cases h
theorem gsN_ok {Q : L2.St → Hp → Prop} : ∀ {is : List Nat} {vs : List V} {σ : L2.St}, is.length = vs.length → Q (setS σ is vs) H → gsN is vs σ H Q
  | [], [], σ, _, h => ⟨rfl, h⟩
  | [], _ :: _, _, h, _ => by cases h
  | _ :: _, [], _, h, _ => by cases h
  | i :: is, v :: vs, σ, l, h => ⟨v, vs, rfl, gsN_ok (is := is) (by simpa using l) h⟩
theorem OffW.set {i : Nat} {v : Option V} : OffW [i] σ (σ.set i v) := fun k hk => by
  rw [List.getElem?_set_ne]
  intro e
  exact hk (by rw [e]; exact List.mem_cons_self)
/-- x = e -/
theorem asgN_sj {i : Nat} {r : BR} {Γ : Ctx} (b0 : BJ W te Γ r) (o : Out)
    (h : (match r with
      | .vl d Γ' _ => if i < Γ'.length then some (Out.nx (setE Γ' i (.own d)) [i]) else none
      | .pl j π d => if i < Γ.length ∧ j ≠ i then (if π = [] ∧ np ≤ j then (getE Γ j []).map fun d0 => .nx (mvE Γ i j d0) [i] else some (.nx (setE Γ i (.al j π)) [i])) else none) = some o) : SJ W (tAsg te (gName i)) Γ o := by
  intro B Ts F σ H aa g E k
  cases r with
  | vl d Γ' q =>
    dsimp only at h
    split at h
    · rename_i hl
      cases h
      refine b0 B Ts F σ H aa g _ fun B' Ts' u H' x a' g' o' eu q' => ?_
      exact k B' _ _ H' x (a'.setV (by rw [← erC_length, g']; exact hl) o') (by rw [erC_setT, g']; show setE _ i (.own (er u)) = _; rw [eu]) OffW.set
    · cases h
  | pl j π d =>
    dsimp only at h
    split at h
    · rename_i hc
      obtain ⟨hl, hj⟩ := hc
      subst g
      rw [erC_length] at hl
      split at h
      · rename_i hp
        obtain ⟨hp, _⟩ := hp
        subst hp
        obtain ⟨d0, h1, h2⟩ := omap h
        subst h2
        refine b0 B Ts F σ H aa rfl _ fun B' H' t0 u x a' ht hu eu => ?_
        rw [Tr.at_nil] at hu
        cases hu
        have ge := getE_of ht (Tr.at_nil t0)
        rw [h1] at ge
        cases ge
        have a1 := a'.take ht
        have hl1 : i < ((killAll Ts j).set j none).length := by rw [List.length_set, killAll_length]; exact hl
        have a2 := a1.setV (i := i) hl1 (a'.ok j t0 ht).1
        have rs : Res (setT ((killAll Ts j).set j none) i (.own t0)) i [] t0 := ⟨t0, by unfold setT; rw [List.getElem?_set_self (by rw [killAll_length]; exact hl1)], Tr.at_nil _⟩
        have hjl : j < Ts.length := (List.getElem?_eq_some_iff.mp ht).1
        have a3 := a2.setA (i := j) (j := i) (π := []) (u := t0) (by rw [setT_length, List.length_set, killAll_length]; exact hjl) rs (Ne.symm hj)
        have es : (σ.set i (some (val t0))).set j (some (val t0)) = σ.set i (some (val t0)) := by
          refine List.ext_getElem? fun n => ?_
          by_cases hn : j = n
          · subst hn
            have hσ := (a'.ok j t0 ht).2
            have hs : j < σ.length := (List.getElem?_eq_some_iff.mp hσ).1
            rw [List.getElem?_set_self (by rw [List.length_set]; exact hs), List.getElem?_set_ne (Ne.symm hj), hσ]
          · rw [List.getElem?_set_ne hn]
        rw [es] at a3
        refine k B' _ _ H' x a3 ?_ OffW.set
        rw [erC_setT, erC_setT]
        unfold mvE
        congr 2
        unfold erC killAll
        rw [List.map_set, List.map_map, List.map_map]
        congr 1
        refine List.map_congr_left fun y _ => ?_
        cases y with
        | none => rfl
        | some y => cases y with
          | own t => rfl
          | al l ρ =>
            show erE (if l = j then none else some (Ent.al l ρ)) = (if l = j then none else some (Ent.al l ρ))
            split <;> rfl
      · cases h
        refine b0 B Ts F σ H aa rfl _ fun B' H' t0 u x a' ht hu eu => ?_
        exact k B' _ _ H' x (a'.setA hl ⟨t0, ht, hu⟩ hj) erC_setT OffW.set
    · cases h
theorem SS.asgN {i : Nat} (hi : M.N[i]? = some x) (hl : locB tp sc x = true) (h : SE M sc e ce) (hn : notComp e = true) : SS M np tp sc (.Assign [.Name x p] e pos) (.asg (.nm i) ce) := fun X xo z Γ o hh => by
  cases z with
  | zero => simp [rn] at hh
  | succ z =>
    rw [rn] at hh
    obtain ⟨r, g1, g2⟩ := obind hh
    refine SJ.liftS (asgN_sj (i := i) (np := np) (h tp X xo z Γ r g1) o ?_) (ps_set (by rw [xo.N]; exact xo.nd) (by rw [xo.N]; exact hi) (locB_of xo hl).1 pe_w (swaps_no hn _ _ _) (locB_of xo hl).2)
    rw [← g2]
    cases r <;> rfl
def swLc (sc : Scope) (y : Str) (py : Pos) (scope : Scope) (vp : Pos) : Bool := sc.names.lookup y == some .local && py.line == vp.line && !(scope.names.any fun (n, k) => n == y && (k == .local || k == .cell))
theorem swLc_ok {y : Str} {py : Pos} {gens : List Comprehension} {n : Nat} {env : Env} (h : swLc sc y py scope p = true) (hs : env.scope = sc) (hk : sc.kind = .function) : swapsWith (.ListComp elt gens scope p) (some (.Name y py)) n env = pure true := by
  have hb : (env.blockKind == ScopeKind.function) = true := by unfold Env.blockKind; rw [hs, hk]; rfl
  have e : (env.kindOf y == some .local) = (sc.names.lookup y == some .local) := by unfold Env.kindOf; rw [hs]
  show (pure (env.blockKind == .function && env.kindOf y == some .local && py.line == p.line && !(scope.names.any fun (n, k) => n == y && (k == .local || k == .cell))) : Sem Bool) = pure true
  rw [hb, e]
  unfold swLc at h
  rw [Bool.true_and, h]
theorem SS.asgLc {i : Nat} (hi0 : M.N[i]? = some x) (hk : sc.kind = .function) (hsw : swLc sc x p scope p2 = true) (hi : SI M sc tgE it ci) (htg : STg M false (relS scope sc) tgE tg) (hif : SIf M (relS scope sc) ifs cifs) (he : SE M (relS scope sc) elt ce) (ok : BlkOk M.N sc scope own) (hset : notSetE it = true) :
    SS M np tp sc (.Assign [.Name x p] (.ListComp elt [⟨tgE, it, ifs, 0⟩] scope p2) pos) (.asg (.nm i) (.lc (own.map (·.2)) tg ci cifs ce)) := fun X xo z Γ o hh => by
  have hl : sc.names.lookup x = some .local := by
    unfold swLc at hsw
    rw [Bool.and_eq_true, Bool.and_eq_true] at hsw
    exact beq_iff_eq.mp hsw.1.1
  cases z with
  | zero => simp [rn] at hh
  | succ z =>
    rw [rn] at hh
    obtain ⟨r, g1, g2⟩ := obind hh
    obtain ⟨t, h1, _, h3⟩ := lc_bj (pos := p2) hi htg hif he ok hset tp X xo z Γ r g1
    refine SJ.liftS (asgN_sj (i := i) (np := np) h1 o ?_) (h3 i x p pos (by rw [xo.N]; exact hi0) (by rw [xo.sc]; exact hl) (swLc_ok hsw xo.sc hk))
    rw [← g2]
    cases r <;> rfl
/-- a, b = e -/
def notTup : Expr → Bool
  | .Tuple _ _ _ => false
  | _ => true
theorem swap_nt (h : notTup e = true) {ts : List Expr} {k : Nat} {env : Env} : swappedStores [.Tuple ts k p] e env = pure none := by
  cases e <;> first | rfl | cases h
theorem swaps_tup {ts : List Expr} {k n : Nat} {env : Env} : swapsWithSole [.Tuple ts k p] e n env = pure false := by
  cases e <;> rfl
theorem asgT_sj {is : List Nat} {kt : Nat} (htg : STg M tp sc (.Tuple es kt p) (.tp is)) (h : SE M sc e ce) {X : Cx} (xo : XOk M.G M.k M.N tp sc X) {z : Nat} {ds : List D} {Γ' : Ctx} {q : Bool} (g1 : evB M.G.Φ M.cl z ce Γ = some (.vl (.nd .tup ds) Γ' q)) {Γ2 : Ctx} (g2 : setL Γ' is ds = some Γ2) : SJ M.W (tAsg (wE X e) (tgG M.G.K (.tp is))) Γ (.nx Γ2 is) := by
  intro B Ts F σ H aa g E k
  refine (h tp X xo z Γ _ g1) B Ts F σ H aa g _ fun B' Ts' u H' x a' g' o' eu q' => ?_
  obtain ⟨ad, tts, rfl, et⟩ := er_tup eu
  subst g' et
  have hc := o'.tag.2
  have hcu : cells M.W (.nd (.tup ad) tts) = [] := by rw [cells_nd, hc]; rfl
  rw [hcu] at a'
  obtain ⟨Ts2, h1, h2, h3, h4⟩ := setL_ok (us := tts) (F := F) (by rw [hc]; exact a') (fun u hu => o'.kids u hu) g2
  refine ⟨ad, vals tts, rfl, a'.good.ext.t o'.tag.1, by unfold vals; rw [List.length_map, h4], gsN_ok (by unfold vals; rw [List.length_map, h4]) ?_⟩
  exact k B' Ts2 _ H' x h1 h2 h3
theorem SS.asgT {is : List Nat} {kt : Nat} (htg : STg M tp sc (.Tuple es kt p) (.tp is)) (h : SE M sc e ce) (hw : (notTup e = true) ∨ ∃ vs k2 p2, e = .Tuple vs k2 p2 ∧ swP sc es vs = some none) (hk : sc.kind = .function) : SS M np tp sc (.Assign [.Tuple es kt p] e pos) (.asg (.tp is) ce) := fun X xo z Γ o hh => by
  cases z with
  | zero => simp [rn] at hh
  | succ z =>
    rw [rn] at hh
    obtain ⟨r, g1, g2⟩ := obind hh
    split at g2
    · obtain ⟨Γ2, g3, g4⟩ := omap g2
      subst g4
      have pg := htg X xo
      refine SJ.liftS (asgT_sj htg h xo g1 g3) (ps_asg pe_w pg swaps_tup ?_ rfl)
      rcases hw with hw | ⟨vs, k2, p2, rfl, hw⟩
      · exact swap_nt hw
      · exact swP_ok hw xo.sc hk
    · cases g2
/-- a, b = x, y: by a tuple that is taken apart at once -/
theorem SS.asgU {is : List Nat} {kt k2 : Nat} {vs : List Expr} (htg : STg M tp sc (.Tuple es kt p) (.tp is)) (hd : SD M sc vs cs) (hw : swP sc es vs = some none) (hk : sc.kind = .function) (hn : is.length ≤ 1000) : SS M np tp sc (.Assign [.Tuple es kt p] (.Tuple vs k2 p2) pos) (.asgs is cs) := fun X xo z Γ o hh => by
  cases z with
  | zero => simp [rn] at hh
  | succ z =>
    rw [rn] at hh
    obtain ⟨⟨ds, Γ', q⟩, g1, g2⟩ := obind hh
    obtain ⟨Γ2, g3, g4⟩ := omap g2
    subst g4
    have pg := htg X xo
    refine SJ.liftS (t := tAsg (tTup (dTA X vs)) (tgG M.G.K (.tp is))) ?_ (ps_asg (pe_tup pa_dTA) pg swaps_tup (swP_ok hw xo.sc hk) rfl)
    intro B Ts F σ H aa g E k
    refine hd tp X xo z Γ ds Γ' q g1 B Ts F σ H aa g _ fun B1 Ts1 us H1 e1 a1 gg q1 os ed => ?_
    subst gg ed
    obtain ⟨_, _, _, _, hlen⟩ := setL_ok a1 os g3
    refine ⟨by unfold vals; rw [List.length_map, ← hlen, ← lim_eq, lim_val]; exact Nat.le_trans hn (by decide), fun a ha => ?_⟩
    have a2 : At M.W B1 Ts1 (cellsL M.W us ++ F) σ (upd H1 a (.tup (vals us))) := a1.heap (a1.good.any fun b o e => by
      rw [upd_ne fun z => by rw [z, ha] at e; cases e]; exact e)
    obtain ⟨Ts2, h1, h2, h3, h4⟩ := setL_ok a2 os g3
    exact ⟨a, vals us, rfl, .inl (.inl upd_same), by unfold vals; rw [List.length_map, h4], gsN_ok (by unfold vals; rw [List.length_map, h4]) (k B1 Ts2 _ _ e1 h1 h2 h3)⟩
/-- a, b = x, y: stored in turn -/
theorem SS.asg2 {i j : Nat} {x y : Str} {px py : Pos} {kt k2 : Nat} (hi : M.N[i]? = some x) (hj : M.N[j]? = some y) (hx : sc.names.lookup x = some .local) (hy : sc.names.lookup y = some .local) (hd : SD M sc [a, b] cs) (hw : swP sc [.Name x px, .Name y py] [a, b] = some (some [x, y])) (hk : sc.kind = .function) :
    SS M np tp sc (.Assign [.Tuple [.Name x px, .Name y py] kt p] (.Tuple [a, b] k2 p2) pos) (.asgs [i, j] cs) := fun X xo z Γ o hh => by
  cases z with
  | zero => simp [rn] at hh
  | succ z =>
    rw [rn] at hh
    obtain ⟨⟨ds, Γ', q⟩, g1, g2⟩ := obind hh
    obtain ⟨Γ2, g3, g4⟩ := omap g2
    subst g4
    have dj := hd tp X xo z Γ ds Γ' q g1
    have hij : i ≠ j := by
      intro e
      subst e
      match ds, g3 with
      | d1 :: ds, g3 =>
        rw [setL] at g3
        split at g3
        · rename_i hc; exact hc.2 List.mem_cons_self
        · cases g3
    refine SJ.liftS (t := tPar i j (dTA X [a, b])) ?_ (ps_par xo.calm (by rw [xo.N]; exact xo.nd) (by rw [xo.N]; exact hi) (by rw [xo.N]; exact hj) hij (by rw [xo.sc]; exact hx) (by rw [xo.sc]; exact hy) pa_dTA (swP_ok hw xo.sc hk) swaps_tup)
    intro B Ts F σ H aa g E k
    refine dj B Ts F σ H aa g _ fun B' Ts' us H' x a' g' q' os ed => ?_
    subst g' ed
    obtain ⟨Ts2, h1, h2, h3, h4⟩ := setL_ok a' os g3
    match us, h4 with
    | [u, v], _ => exact ⟨val u, val v, rfl, k B' Ts2 _ H' x h1 h2 h3⟩
theorem SS.asg3 {i j l : Nat} {x y w : Str} {px py pw : Pos} {kt k2 : Nat} (hi : M.N[i]? = some x) (hj : M.N[j]? = some y) (hl : M.N[l]? = some w) (hx : sc.names.lookup x = some .local) (hy : sc.names.lookup y = some .local) (hz : sc.names.lookup w = some .local) (hd : SD M sc [a, b, c] cs)
    (hw : swP sc [.Name x px, .Name y py, .Name w pw] [a, b, c] = some (some [x, y, w])) (hk : sc.kind = .function) : SS M np tp sc (.Assign [.Tuple [.Name x px, .Name y py, .Name w pw] kt p] (.Tuple [a, b, c] k2 p2) pos) (.asgs [i, j, l] cs) := fun X xo z Γ o hh => by
  cases z with
  | zero => simp [rn] at hh
  | succ z =>
    rw [rn] at hh
    obtain ⟨⟨ds, Γ', q⟩, g1, g2⟩ := obind hh
    obtain ⟨Γ2, g3, g4⟩ := omap g2
    subst g4
    have dj := hd tp X xo z Γ ds Γ' q g1
    have hne : i ≠ j ∧ i ≠ l ∧ j ≠ l := by
      match ds, g3 with
      | d1 :: d2 :: ds, g3 =>
        rw [setL] at g3
        split at g3
        · rename_i hc
          rw [setL] at g3
          split at g3
          · rename_i hc2
            have h1 := hc.2
            have h2 := hc2.2
            simp only [List.mem_cons, not_or] at h1 h2
            exact ⟨h1.1, h1.2.1, h2.1⟩
          · cases g3
        · cases g3
      | [d1], g3 =>
        rw [setL] at g3
        split at g3
        · cases g3
        · cases g3
    refine SJ.liftS (t := tPar3 i j l (dTA X [a, b, c])) ?_ (ps_par3 xo.calm (by rw [xo.N]; exact xo.nd) (by rw [xo.N]; exact hi) (by rw [xo.N]; exact hj) (by rw [xo.N]; exact hl) hne.1 hne.2.1 hne.2.2 (by rw [xo.sc]; exact hx) (by rw [xo.sc]; exact hy) (by rw [xo.sc]; exact hz) pa_dTA (swP_ok hw xo.sc hk) swaps_tup)
    intro B Ts F σ H aa g E k
    refine dj B Ts F σ H aa g _ fun B' Ts' us H' x a' g' q' os ed => ?_
    subst g' ed
    obtain ⟨Ts2, h1, h2, h3, h4⟩ := setL_ok a' os g3
    match us, h4 with
    | [u, v, r], _ => exact ⟨val u, val v, val r, rfl, k B' Ts2 _ H' x h1 h2 h3⟩
end
end VI
/-! VY -/
noncomputable section
namespace VI
open PySem L2 PyProof.Rows StX

theorem putF_zip {nm : Nat → Str} (inj : ∀ a b, nm a = nm b → a = b) {f : Nat} {y : V} : ∀ {ns : List Nat} {vs : List V} {n : Nat}, ns.length = vs.length → ns.findIdx? (fun x => x == f) = some n → putF (nm f) y ((ns.map nm).zip vs) = (ns.map nm).zip (vs.set n y)
  | [], _, _, _, h => by simp at h
  | x :: ns, [], _, l, h => by cases l
  | x :: ns, v :: vs, n, l, h => by
    rw [List.findIdx?_cons] at h
    rw [List.map_cons, List.zip_cons_cons, putF]
    by_cases hx : x = f
    · subst hx
      rw [if_pos (by simp)] at h
      cases h
      rw [if_pos rfl]; rfl
    · rw [if_neg (by simpa using hx)] at h
      obtain ⟨m, h1, h2⟩ := omap h
      subst h2
      rw [if_neg (fun e => hx (inj _ _ e)), putF_zip inj (by simpa using l) h1]; rfl
theorem putF_new {nm : Nat → Str} (inj : ∀ a b, nm a = nm b → a = b) {f : Nat} {y : V} : ∀ {ns : List Nat} {vs : List V}, ns.length = vs.length → ns.findIdx? (fun x => x == f) = none → putF (nm f) y ((ns.map nm).zip vs) = ((ns ++ [f]).map nm).zip (vs ++ [y])
  | [], [], _, _ => rfl
  | [], _ :: _, l, _ => by cases l
  | x :: ns, [], l, h => by cases l
  | x :: ns, v :: vs, l, h => by
    rw [List.findIdx?_cons] at h
    rw [List.map_cons, List.zip_cons_cons, putF]
    by_cases hx : x = f
    · subst hx
      rw [if_pos (by simp)] at h
      cases h
    · rw [if_neg (by simpa using hx)] at h
      have h : ns.findIdx? (fun x => x == f) = none := by simpa using h
      rw [if_neg (fun e => hx (inj _ _ e)), putF_new inj (by simpa using l) h]; rfl
theorem putK_zip {k : Key} {y : V} {ks : List Key} {vs : List V} {n : Nat} (nd : ks.Nodup) (l : ks.length = vs.length) (h : ks.findIdx? (fun q => decide (q = k)) = some n) : putK (ks.zip vs) k y = ks.zip (vs.set n y) := by
  have hn : n < ks.length := findIdx_lt h
  rw [List.findIdx?_eq_some_iff_getElem] at h
  obtain ⟨_, h1, _⟩ := h
  have h1 : ks[n] = k := of_decide_eq_true h1
  have hany : ((ks.zip vs).any fun kv => decide (kv.1 = k)) = true := by
    rw [List.any_eq_true]
    have hz : n < (ks.zip vs).length := by rw [List.length_zip, l, Nat.min_self, ← l]; exact hn
    exact ⟨(ks.zip vs)[n], List.getElem_mem hz, by rw [List.getElem_zip]; exact decide_eq_true h1⟩
  unfold putK
  rw [if_pos hany]
  refine List.ext_getElem? fun i => ?_
  rw [List.getElem?_map]
  cases hk : ks[i]? with
  | none =>
    have hl : ks.length ≤ i := List.getElem?_eq_none_iff.mp hk
    rw [List.getElem?_eq_none (by rw [List.length_zip]; omega), List.getElem?_eq_none (by rw [List.length_zip]; omega)]; rfl
  | some q =>
    have hi : i < ks.length := (List.getElem?_eq_some_iff.mp hk).1
    have hv : i < vs.length := by omega
    have e1 : (ks.zip vs)[i]? = some (q, vs[i]) := by rw [List.getElem?_zip_eq_some]; exact ⟨hk, List.getElem?_eq_getElem hv⟩
    rw [e1]
    show some (if q = k then (q, y) else (q, vs[i])) = _
    by_cases hq : q = k
    · rw [if_pos hq]
      have : i = n := by
        have h2 : ks[i] = ks[n] := by
          rw [h1, ← hq]
          have := (List.getElem?_eq_some_iff.mp hk).2
          exact this
        rcases Nat.lt_trichotomy i n with hlt | e | hgt
        · exact absurd h2 (List.pairwise_iff_getElem.mp nd i n hi hn hlt)
        · exact e
        · exact absurd h2.symm (List.pairwise_iff_getElem.mp nd n i hn hi hgt)
      subst this
      symm
      rw [List.getElem?_zip_eq_some]
      exact ⟨hk, List.getElem?_set_self hv⟩
    · rw [if_neg hq]
      have : n ≠ i := by
        intro e
        subst e
        apply hq
        rw [← h1]
        exact (List.getElem?_eq_some_iff.mp hk).2.symm
      symm
      rw [List.getElem?_zip_eq_some]
      exact ⟨hk, by rw [List.getElem?_set_ne this]; exact List.getElem?_eq_getElem hv⟩
theorem findIdx_none {k : Key} {ks : List Key} (h : ks.findIdx? (fun q => decide (q = k)) = none) : k ∉ ks := by
  rw [List.findIdx?_eq_none_iff] at h
  intro hm
  have := h k hm
  simp at this
theorem putK_new {k : Key} {y : V} {ks : List Key} {vs : List V} (l : ks.length = vs.length) (h : ks.findIdx? (fun q => decide (q = k)) = none) : putK (ks.zip vs) k y = (ks ++ [k]).zip (vs ++ [y]) := by
  have hm := findIdx_none h
  have hany : ¬ ((ks.zip vs).any fun kv => decide (kv.1 = k)) = true := by
    rw [List.any_eq_true]
    rintro ⟨⟨q, v⟩, h1, h2⟩
    have h2 : q = k := of_decide_eq_true h2
    subst h2
    exact hm (List.of_mem_zip h1).1
  unfold putK
  rw [if_neg hany, List.zip_append l]; rfl
section
variable {W : Wo} {B B' B1 B2 H H' : Hp} {F L M' : List Cell} {Ts Ts' Ts1 : CtxT} {σ σ' : L2.St} {Γ Γ' Γ1 Γ2 : Ctx} {X : Cx} {q q1 q2 st : Bool} {d d' k y : D} {ds : List D} {wi : TI} {tt : TT} {te tv : TE} {xs : List Itm} {tg : Tg} {c0 : List Cell} {J : It} {ta : TA} {rs : List Rd'}
variable {M : Md} {np : Nat} {sc scope : Scope} {a b c it tgE elt e e2 i : Expr} {ca cb cc ci ce c2 : C} {es ifs : List Expr} {cs cifs : List C} {pos p p2 tpos : Pos} {tp : Bool} {own : List (Str × Nat)} {t : TS} {o : Out} {x : Str}
/-! ## o[i] = e -/
def SU (W : Wo) (r : V → V → V → Hp → (Hp → Prop) → Prop) (d k y d' : D) : Prop := ∀ (B H : Hp) (u ki yt : T) (Q : Hp → Prop), Ok W B u → Ok W B yt → (∀ c ∈ cells W u, H c.1 = some c.2) → er u = d → er ki = k → er yt = y →
  (∀ (u' : T) (ad : Addr) (o o' : HO) (rest junk : List Cell), (cells W u ++ cells W yt).Perm ((ad, o) :: rest) → ((ad, o') :: rest).Perm (junk ++ cells W u') → Ok W B u' → val u' = val u → er u' = d' → Q (upd H ad o')) → r (val u) (val ki) (val yt) H Q
theorem cells_at {ts : List T} {n : Nat} {y z : T} (h : ts[n]? = some z) : (cellsL W ts ++ cells W y).Perm (cells W z ++ cellsL W (ts.set n y)) := by
  obtain ⟨R, h1, h2⟩ := cellsL_set W (x := y) (c := cells W z) (d := []) h (by rw [List.append_nil])
  have h3 := h2 y (cells W y) (by rw [List.append_nil])
  refine (h1.append_right _).trans ?_
  rw [List.append_assoc]
  exact (List.perm_append_comm.trans h3.symm).append_left _
theorem mem_set' {ts : List T} {n : Nat} {y z : T} (h : z ∈ ts.set n y) : z ∈ ts ∨ z = y := List.mem_or_eq_of_mem_set h
theorem ixN_lt {n : Nat} {i : Int} {j : Nat} (h : ixN n i = some j) : j < n := (ixN_seq h).2.1
theorem su_list {ts : List D} {iv : Int} {kk : List D} {n : Nat} (h : ixN ts.length iv = some n) : SU W rSetL (.nd (.lst true) ts) (.nd (.int iv) kk) y (dL true (ts.set n y)) := by
  intro B H u ki yt Q ou oy hc eu ek ey kq
  obtain ⟨ad, tts, rfl, et⟩ := er_lst eu
  subst et
  rw [List.length_map] at h
  have hlt := ixN_lt h
  refine ⟨ad, vals tts, iv, n, rfl, er_int ek, hc (ad, .lst (vals tts)) (by rw [cells_lst]; exact List.mem_cons_self), by unfold vals; rw [List.length_map]; exact h, ?_⟩
  have ev : (vals tts).set n (val yt) = vals (tts.set n yt) := by unfold vals; rw [List.map_set]
  rw [ev]
  have hz : tts[n]? = some tts[n] := List.getElem?_eq_getElem hlt
  refine kq (.nd (.lst ad true) (tts.set n yt)) ad _ _ (cellsL W tts ++ cells W yt) (cells W tts[n]) (by rw [cells_lst]; exact .refl _) ?_ (.mk True.intro fun z hzz => ?_) rfl (by rw [er_nd, List.map_set, ey]; rfl)
  · rw [cells_lst]
    exact ((cells_at hz).cons _).trans (List.perm_middle.symm)
  · rcases mem_set' hzz with hzz | rfl
    · exact ou.kids z hzz
    · exact oy
def rPut : V → V → V → Hp → (Hp → Prop) → Prop := fun o i v H Q => ∃ a H4, o = .ref a ∧ DPut H a i v H4 ∧ Q H4
theorem su_dict {ks : List Key} {ts : List D} {iv : Int} {kk : List D} (h : setIx (.nd (.dct true false ks) ts) (.nd (.int iv) kk) y = some d') : SU W rPut (.nd (.dct true false ks) ts) (.nd (.int iv) kk) y d' := by
  intro B H u ki yt Q ou oy hc eu ek ey kq
  obtain ⟨ad, lk, tts, rfl, hlk, et⟩ := er_dct eu
  have hlk0 : lk = none := by cases lk with | none => rfl | some _ => cases hlk
  subst hlk0 et
  obtain ⟨hl, nd⟩ := ou.tag
  have cN : ∀ (kz : List Key) (tz : List T), cells W (.nd (.dct ad true kz none) tz) = (ad, .dK (kz.zip (vals tz))) :: cellsL W tz := fun kz tz => by rw [cells_nd]; rfl
  have hH : H ad = some (.dK (ks.zip (vals tts))) := hc (ad, _) (by rw [cN]; exact List.mem_cons_self)
  have hlv : ks.length = (vals tts).length := by unfold vals; rw [List.length_map]; exact hl
  rw [setIx] at h
  split at h
  · rename_i hlim
    have hsz : (ks.zip (vals tts)).length < sizeLine := by rw [List.length_zip, ← hlv, Nat.min_self, ← lim_eq]; exact hlim
    cases hn : ks.findIdx? (fun q => decide (q = .inl iv)) with
    | some n =>
      rw [hn] at h
      cases h
      have hlt : n < tts.length := by rw [← hl]; exact findIdx_lt hn
      have hz : tts[n]? = some tts[n] := List.getElem?_eq_getElem hlt
      refine ⟨ad, _, rfl, .inl ⟨_, .inl iv, hH, er_int ek, hsz, rfl⟩, ?_⟩
      rw [putK_zip nd hlv hn]
      have ev : (vals tts).set n (val yt) = vals (tts.set n yt) := by unfold vals; rw [List.map_set]
      rw [ev]
      refine kq (.nd (.dct ad true ks none) (tts.set n yt)) ad _ _ (cellsL W tts ++ cells W yt) (cells W tts[n]) (by rw [cN]; exact .refl _) ?_ (.mk ⟨by rw [List.length_set]; exact hl, nd⟩ fun z hzz => ?_) rfl (by rw [er_nd, List.map_set, ey]; rfl)
      · rw [cN]
        exact ((cells_at hz).cons _).trans (List.perm_middle.symm)
      · rcases mem_set' hzz with hzz | rfl
        · exact ou.kids z hzz
        · exact oy
    | none =>
      rw [hn] at h
      cases h
      refine ⟨ad, _, rfl, .inl ⟨_, .inl iv, hH, er_int ek, hsz, rfl⟩, ?_⟩
      rw [putK_new hlv hn]
      have ev : vals tts ++ [val yt] = vals (tts ++ [yt]) := by unfold vals; rw [List.map_append]; rfl
      rw [ev]
      refine kq (.nd (.dct ad true (ks ++ [.inl iv]) none) (tts ++ [yt])) ad _ _ (cellsL W tts ++ cells W yt) [] (by rw [cN]; exact .refl _) ?_ (.mk ⟨by rw [List.length_append, List.length_append, hl]; rfl, List.nodup_append.mpr ⟨nd, by simp, fun x hx z hz e => findIdx_none hn (by rw [List.mem_singleton.mp hz] at e; rw [← e]; exact hx)⟩⟩ fun z hz => ?_) rfl (by rw [er_nd, List.map_append]; show Tr.nd _ (_ ++ [er yt]) = _; rw [ey]; rfl)
      · rw [cN, cellsL_append]
        show (_ :: (cellsL W tts ++ cells W yt)).Perm (_ :: (cellsL W tts ++ (cells W yt ++ [])))
        rw [List.append_nil]
      · rcases List.mem_append.mp hz with hz | hz
        · exact ou.kids z hz
        · rw [List.mem_singleton.mp hz]; exact oy
  · cases h
/-- the store -/
theorem store_at {r : V → V → V → Hp → (Hp → Prop) → Prop} {j : Nat} {π : List Nat} {yt : T} {vs : List V} {E : Ends} {w : List Nat} {X : Cx} (a1 : At W B Ts (c0 ++ (cells W yt ++ F)) σ H) (ar : ArgsOk W B Ts σ [.pl j π, .vl k] vs c0) (oy : Ok W B yt) (ey : er yt = y) (hl : live (erC Ts) [.pl j π] = true) (hd : getE (erC Ts) j π = some d) (su : SU W r d k y d') {Q : Hp → Prop}
    (kk : ∀ (Ts' : CtxT) (H' : Hp), At W B Ts' F σ H' → erC Ts' = kill (putE (erC Ts) j π d') j π → Q H') : ∃ o i, vs = [o, i] ∧ r o i (val yt) H Q := by
  cases ar with
  | cons x0 ar =>
    cases ar with
    | cons x1 ar =>
      cases ar
      obtain ⟨ec, x0⟩ := x0
      obtain ⟨ki, ok, ek, vk, ck⟩ := x1
      obtain ⟨t0, u, ht, hu, eu, ev⟩ := x0 d hd
      subst ev vk ec ck
      have pl := a1.place ht hu
      rw [live, hd, Bool.and_eq_true] at hl
      have hs : isSh (er u) = false := by rw [eu]; simpa using hl.1
      refine ⟨_, _, rfl, su B H u ki yt Q pl.1 oy (fun c hc => a1.good.own c (pl.2 c hc)) eu ek ey fun u' ad o o' rest junk p1 p2 ou hv eu' => ?_⟩
      have a2 : At W B Ts ((cells W ki ++ []) ++ (cells W yt ++ F)) σ H := a1
      refine kk _ _ ((a2.drop).mut (cy := []) ⟨t0, ht, hu⟩ (own_of pl.1 hs) ou hv p1 p2) ?_
      rw [erC_kill, erC_putT, eu']
def notSlice : Expr → Bool
  | .Slice _ _ _ _ => false
  | _ => true
theorem asgSub_eq (h : notSlice i = true) {env : Env} (v : Value) : assign (.Subscript a i p) env v = (do
      let ov ← holding [v] (eval a env)
      let iv ← holding [v, ov] (eval i env)
      standAt p
      holding [v, ov, iv] (setItem ov iv v)
      release [v, ov, iv] []) := by
  cases i <;> first | rfl | cases h
theorem SS.asgS (h : SE M sc e2 c2) (n1 : notStar a = true) (n2 : notStar i = true) (h1 : SE M sc a ca) (h2 : SE M sc i ci) (hn : notComp e2 = true) (hs : notSlice i = true) : SS M np tp sc (.Assign [.Subscript a i p] e2 pos) (.asg (.sub ca ci) c2) := fun X xo z Γ o hh => by
  cases z with
  | zero => simp [rn] at hh
  | succ z =>
    rw [rn] at hh
    obtain ⟨r, g1, g2⟩ := obind hh
    obtain ⟨⟨rs, Γ2, q⟩, g3, g4⟩ := obind g2
    have b1 := (h tp X xo z Γ r g1).settle
    have aj := (SA.two n1 n2 h1 h2).go tp X xo z _ rs Γ2 q g3
    dsimp only at g4
    split at g4
    · rename_i j π k
      split at g4
      · rename_i hl
        obtain ⟨d, g5, g6⟩ := obind g4
        obtain ⟨d', g7, g8⟩ := omap g6
        subst g8
        have key : ∀ (r0 : V → V → V → Hp → (Hp → Prop) → Prop), SU M.W r0 d k (settle Γ r).1 d' → SJ M.W (fun E σ H => wE X e2 σ H fun v H1 => aT X [a, i] σ H1 fun vs H2 => ∃ o i, vs = [o, i] ∧ r0 o i v H2 fun H3 => E.nx σ H3) Γ (.nx (kill (putE Γ2 j π d') j π) []) := by
          intro r0 su B Ts F σ H aa g E kk
          refine b1 B Ts F σ H aa g _ fun B1 Ts1 yt H1 x1 a1 gg1 oy ey q1' => ?_
          refine aj B1 Ts1 _ σ H1 a1 gg1 _ fun B2 Ts2 c0 vs H2 x2 a2 gg2 q2' ar => ?_
          subst gg2
          exact store_at (E := E) (w := []) (X := X) a2 ar (oy.mono x2) ey hl g5 su fun Ts' H' a' ge => kk B2 Ts' σ H' (x1.trans x2) a' ge (OffW.refl _ _)
        unfold setIx at g7
        split at g7
        · rename_i ts iv kk2
          obtain ⟨n, y1, y2⟩ := obind g7
          split at y2
          · cases y2
            refine SJ.liftS (t := tAsg (wE X e2) (gSub (wE X a) (wE X i) rSetL)) ?_ (ps_asg pe_w (pg_sub pe_w pe_w set_list (asgSub_eq hs)) (by unfold swapsWithSole; exact swaps_no hn _ _ _) ?_ rfl)
            · intro B Ts F σ H aa g E kk
              exact wE_mono ((key rSetL (su_list y1)) B Ts F σ H aa g E kk) fun v H1 hv => wE_mono hv fun o H2 ho => wE_mono ho fun i H3 ⟨o', i', e1, e2⟩ => by cases e1; exact e2
            · cases e2 <;> rfl
          · cases y2
        · rename_i ks ts iv kk2
          refine SJ.liftS (t := sDPut (wE X a) (wE X i) (wE X e2)) ?_ (ps_dput (by have := xo.un; omega) pe_w pe_w pe_w (swaps_no hn _ _ _))
          intro B Ts F σ H aa g E kk
          exact wE_mono ((key rPut (su_dict (by unfold setIx; exact g7))) B Ts F σ H aa g E kk) fun v H1 hv => wE_mono hv fun o H2 ho => wE_mono ho fun i H3 ⟨o', i', e1, e2⟩ => by cases e1; exact e2
        · cases g7
      · cases g4
    · cases g4
end
end VI
/-! VZ -/
noncomputable section
namespace VI
open PySem L2 PyProof.Rows StX

section
variable {W : Wo} {B B' B1 B2 H H' : Hp} {F L M' : List Cell} {Ts Ts' Ts1 : CtxT} {σ σ' : L2.St} {Γ Γ' Γ1 Γ2 : Ctx} {X : Cx} {q q1 q2 st : Bool} {d d' k y : D} {ds : List D} {wi : TI} {tt : TT} {te tv : TE} {xs : List Itm} {tg : Tg} {c0 : List Cell} {J : It} {ta : TA} {rs : List Rd'}
variable {M : Md} {np : Nat} {sc scope : Scope} {a b c it tgE elt e e2 i : Expr} {ca cb cc ci ce c2 : C} {es ifs : List Expr} {cs cifs : List C} {pos p p2 tpos : Pos} {tp : Bool} {own : List (Str × Nat)} {t : TS} {o : Out} {x : Str}
/-! ## o.f = e -/
theorem swapsA {f : Str} (h : notComp e = true ∨ True) {n : Nat} {env : Env} : swapsWith e (some (.Attribute a f p)) n env = pure false := by
  cases e <;> rfl
theorem SS.asgF (mo : M.Ok) (h : SE M sc e2 c2) (h1 : SE M sc a ca) {f : Nat} (hf : M.G.Y.nms[f]? = some x) : SS M np tp sc (.Assign [.Attribute a x p] e2 pos) (.asg (.att ca f) c2) := fun X xo z Γ o hh => by
  have en := mo.g.nm f x hf
  cases z with
  | zero => simp [rn] at hh
  | succ z =>
    rw [rn] at hh
    obtain ⟨r, g1, g2⟩ := obind hh
    obtain ⟨r2, g3, g4⟩ := obind g2
    have b1 := (h tp X xo z Γ r g1).settle
    have b2 := h1 tp X xo z _ r2 g3
    cases r2 with
    | vl _ _ _ => cases g4
    | pl j π xd =>
      obtain ⟨x', g5, g6⟩ := omap g4
      subst g6
      unfold setFdΦ at g5
      obtain ⟨cl, g7, g8⟩ := obind g5
      split at g8
      · rename_i hi
        unfold setFd at g8
        split at g8
        · rename_i c0' ns ts
          cases g7
          split at g8
          · rename_i hlen
            refine SJ.liftS (t := sFld X.K (wE X a) (wE X e2) x) ?_ (ps_fld pe_w pe_w (swapsA (.inr trivial)))
            intro B Ts F σ H aa g E kk
            refine b1 B Ts F σ H aa g _ fun B1 Ts1 yt H1 x1 a1 gg1 oy ey q1' => ?_
            refine b2 B1 Ts1 _ σ H1 a1 gg1 _ fun B2 H2 t0 u x2 a2 ht hu eu => ?_
            obtain ⟨ad, dx, tts, rfl, et⟩ := er_ins eu
            have pl := a2.place ht hu
            have rb := a2.rb pl.1 pl.2
            have hH : H2 ad = some (.ins (M.G.S.ca cl) dx ((ns.map M.G.S.nm).zip (vals tts))) := rb.tag.1
            have hl : ns.length = tts.length := rb.tag.2
            have hlv : ns.length = (vals tts).length := by unfold vals; rw [List.length_map]; exact hl
            have oy2 := oy.mono x2
            have hne : cells M.W (.nd (.ins ad dx true cl ns) tts) ≠ [] := own_of pl.1 (by rw [er_nd]; rfl)
            have cN : ∀ (nz : List Nat) (tz : List T), cells M.W (.nd (.ins ad dx true cl nz) tz) = (ad, .ins (M.G.S.ca cl) dx ((nz.map M.G.S.nm).zip (vals tz))) :: ((dx, .own ad) :: cellsL M.W tz) := fun nz tz => by rw [cells_nd]; rfl
            refine ⟨ad, M.G.S.ca cl, dx, _, rfl, hH, by rw [xo.K]; exact (mo.g.clx cl).cls, by rw [xo.K, ← en]; exact mo.g.fld cl f hi, by rw [List.length_zip, List.length_map, ← hlv, Nat.min_self]; omega, ?_⟩
            have fin : ∀ (u' : T) (junk : List Cell) (o' : HO), Ok M.W B2 u' → val u' = .ref ad → er u' = x' → ((ad, o') :: ((dx, HO.own ad) :: cellsL M.W tts ++ cells M.W yt)).Perm (junk ++ cells M.W u') → E.nx σ (upd H2 ad o') := fun u' junk o' ou hv eu' pp => by
              refine kk B2 _ σ _ (x1.trans x2) (a2.mut (cy := []) (junk := junk) (rest := (dx, HO.own ad) :: cellsL M.W tts ++ cells M.W yt) (ad := ad) (o := .ins (M.G.S.ca cl) dx ((ns.map M.G.S.nm).zip (vals tts))) (o' := o') ⟨t0, ht, hu⟩ hne ou hv (by rw [cN]; exact .refl _) pp) ?_ (OffW.refl _ _)
              rw [erC_kill, erC_putT, gg1, eu']
            subst et
            cases hn : ns.findIdx? (fun y => y == f) with
            | some n =>
              rw [hn] at g8
              cases g8
              have hlt : n < tts.length := by rw [← hl]; exact findIdx_lt hn
              have hz : tts[n]? = some tts[n] := List.getElem?_eq_getElem hlt
              rw [← en, putF_zip M.G.S.inj hlv hn]
              have ev : (vals tts).set n (val yt) = vals (tts.set n yt) := by unfold vals; rw [List.map_set]
              rw [ev]
              refine fin (.nd (.ins ad dx true cl ns) (tts.set n yt)) (cells M.W tts[n]) _ (.mk (show ns.length = _ by rw [List.length_set]; exact hl) fun zz hzz => ?_) rfl (by rw [er_nd, List.map_set, ey]; rfl) ?_
              · rcases mem_set' hzz with hzz | rfl
                · exact pl.1.kids zz hzz
                · exact oy2
              · rw [cN]
                have := (cells_at (W := M.W) (y := yt) hz)
                exact (((this.cons _).trans (List.perm_middle.symm)).cons _).trans (List.perm_middle.symm)
            | none =>
              rw [hn] at g8
              cases g8
              rw [← en, putF_new M.G.S.inj hlv hn]
              have ev : vals tts ++ [val yt] = vals (tts ++ [yt]) := by unfold vals; rw [List.map_append]; rfl
              rw [ev]
              refine fin (.nd (.ins ad dx true cl (ns ++ [f])) (tts ++ [yt])) [] _ (.mk (show (ns ++ [f]).length = _ by rw [List.length_append, List.length_append, hl]; rfl) fun zz hzz => ?_) rfl (by rw [er_nd, List.map_append]; show Tr.nd _ (_ ++ [er yt]) = _; rw [ey]; rfl) ?_
              · rcases List.mem_append.mp hzz with hzz | hzz
                · exact pl.1.kids zz hzz
                · rw [List.mem_singleton.mp hzz]; exact oy2
              · rw [cN, cellsL_append]
                show (_ :: (_ :: (cellsL M.W tts ++ cells M.W yt))).Perm (_ :: (_ :: (cellsL M.W tts ++ (cells M.W yt ++ []))))
                rw [List.append_nil]
          · cases g8
        · cases g8
      · cases g8
/-! ## x += e -/
theorem SS.augN {i : Nat} (hi : M.N[i]? = some x) (hl : locB tp sc x = true) (h : SE M sc e ce) {op : Operator} : SS M np tp sc (.AugAssign (.Name x p) op e pos) (.aug (.nm i) op ce) := fun X xo z Γ o hh => by
  cases z with
  | zero => simp [rn] at hh
  | succ z =>
    rw [rn] at hh
    split at hh
    · rename_i xd hx
      obtain ⟨r, g1, g2⟩ := obind hh
      have b1 := h tp X xo z Γ r g1
      cases r with
      | pl _ _ _ => cases g2
      | vl yd Γ' q =>
        obtain ⟨d, g3, g4⟩ := obind g2
        split at g4
        · rename_i hlen
          cases g4
          have main : ∀ (ti : TIp) (rr i1 i2 : Int) (k1 k2 : List D), xd = .nd (.int i1) k1 → yd = .nd (.int i2) k2 → d = dI rr → (∀ (H : Hp) (Q : VK), Q (.int rr) H → ti (.int i1) (.int i2) H Q) → SJ M.W (tAug i (wE X e) ti) Γ (.nx (setE Γ' i (.own d)) [i]) := by
            intro ti rr i1 i2 k1 k2 e1 e2 e3 hti B Ts F σ H aa g E kk
            subst g
            obtain ⟨t, ht, et⟩ := erC_get hx
            obtain ⟨o1, hσ⟩ := aa.ok i t ht
            refine ⟨val t, hσ, b1 B Ts F σ H aa rfl _ fun B' Ts' u H' x' a' g' o' eu q' => ?_⟩
            rw [er_int (by rw [et, e1]), er_int (by rw [eu, e2])]
            refine hti _ _ ?_
            have a2 : At M.W B' Ts' (cells M.W (tI rr) ++ F) σ H' := by rw [c_int]; exact a'.drop
            exact kk B' _ _ H' x' (a2.setV (by rw [← erC_length, g']; exact hlen) (ok_int _)) (by rw [erC_setT, g']; show setE _ i (.own (er (tI _))) = _; rw [e_int, e3]) OffW.set
          rw [augX_eq] at g3
          unfold augD at g3
          split at g3
          · cases g3
            exact SJ.liftS (main (ipI fun i j => i + j) _ _ _ _ _ rfl rfl rfl fun H Q q => ⟨_, _, rfl, rfl, q⟩) (ps_aug (by rw [xo.N]; exact xo.nd) (by rw [xo.N]; exact hi) (locB_of xo hl).1 pe_w ip_add (locB_of xo hl).2)
          · cases g3
            exact SJ.liftS (main (ipI fun i j => i - j) _ _ _ _ _ rfl rfl rfl fun H Q q => ⟨_, _, rfl, rfl, q⟩) (ps_aug (by rw [xo.N]; exact xo.nd) (by rw [xo.N]; exact hi) (locB_of xo hl).1 pe_w ip_sub (locB_of xo hl).2)
          · split at g3
            · rename_i hs
              cases g3
              have hm : PIp X .Mult (rI CMul fun i j => .int (i * j)) := fun pins s σ H x y v u Q I r1 r2 h => iop_mul pins s σ H x y v u Q I r1 r2 h
              refine SJ.liftS (main (rI CMul fun i j => .int (i * j)) _ _ _ _ _ rfl rfl rfl fun H Q q => ⟨_, _, rfl, rfl, ?_, q⟩) (ps_aug (by rw [xo.N]; exact xo.nd) (by rw [xo.N]; exact hi) (locB_of xo hl).1 pe_w hm (locB_of xo hl).2)
              rcases Bool.or_eq_true_iff.mp hs with z | z
              · exact .inl (small_iff z)
              · exact .inr (small_iff z)
            · cases g3
          · cases g3
        · cases g4
    · cases hh
/-! ## for -/
theorem offW_of {w : List Nat} (h : wipe σ' w = wipe σ w) : OffW w σ σ' := fun k hk => by
  have h1 := congrArg (fun s => s[k]?) h
  simp only [wipe_get] at h1
  rw [show w.contains k = false by rw [List.contains_eq_mem, decide_eq_false hk]] at h1
  exact h1
theorem tgOk_self (tg : Tg) : tgOk (tgs tg) tg = true := by
  unfold tgOk
  rw [List.all_eq_true]
  exact fun i hi => List.contains_iff_mem.mpr hi
theorem fo_turns {tb : TS} {body : Ctx → Option Out} (hb : ∀ Γ o, body Γ = some o → SJ W tb Γ o) {E : Ends} {B1 : Hp} {Ts1 : CtxT} {σ1 : L2.St} {H1 : Hp} (a1 : At W B1 Ts1 (c0 ++ F) σ1 H1) (itok : ItOk W B1 Ts1 c0 J xs false) {o : Out} (hr : foRun tg body xs (erC Ts1) = some o) (k : Cont W F E B1 σ1 o) :
    ∃ Wv : Nat → Nat → L2.St → Hp → Prop, (∃ m, Wv 0 m σ1 H1) ∧ ∀ i m σ H, Wv i m σ H →
      (J.stop i H ∧ E.nx σ H) ∨ (J.go i H ∧ ∃ N : L2.St → Hp → Prop, (∀ σ' H', N σ' H' → ∃ m', m' < m ∧ Wv (i + 1) m' σ' H') ∧ ∀ x H', J.yld i H x H' → tgG W.K tg x σ H' fun σ2 H2 => tb { E with nx := N, ct := N, bk := E.nx } σ2 H2) := by
  refine ⟨fun i m σ H => i + m = xs.length ∧ ∃ (B2 : Hp) (Ts2 : CtxT) (o : Out), Ext B1 B2 ∧ At W B2 Ts2 (c0 ++ F) σ H ∧ foRun tg body (xs.drop i) (erC Ts2) = some o ∧ Cont W F E B2 σ o, ⟨xs.length, by omega, B1, Ts1, o, Ext.refl _, a1, by rw [List.drop_zero]; exact hr, k⟩, ?_⟩
  rintro i m σ H ⟨hm, B2, Ts2, o, x2, a2, hr2, k2⟩
  obtain ⟨i1, i2⟩ := itok B2 Ts2 F σ H x2 a2 (fun z => by cases z)
  cases hi : xs[i]? with
  | none =>
    left
    have hl : xs.length ≤ i := List.getElem?_eq_none_iff.mp hi
    have he : i = xs.length := by omega
    subst he
    refine ⟨i1, ?_⟩
    rw [List.drop_length] at hr2
    have hr2 : some (Out.nx (erC Ts2) []) = some o := hr2
    cases hr2
    exact k2 B2 Ts2 σ H (Ext.refl _) a2.drop rfl (OffW.refl _ _)
  | some itm =>
    right
    obtain ⟨j1, j2⟩ := i2 i itm hi
    have hlt : i < xs.length := (List.getElem?_eq_some_iff.mp hi).1
    have hdrop : xs.drop i = itm :: xs.drop (i + 1) := by
      rw [List.drop_eq_getElem_cons hlt]
      congr 1
      exact (List.getElem?_eq_some_iff.mp hi).2
    rw [hdrop, foRun] at hr2
    obtain ⟨Γa, y1, y2⟩ := obind hr2
    obtain ⟨o1, y3, y4⟩ := obind y2
    refine ⟨j1, fun σ' H' => (i + 1) + (m - 1) = xs.length ∧ ∃ (B2 : Hp) (Ts2 : CtxT) (o : Out), Ext B1 B2 ∧ At W B2 Ts2 (c0 ++ F) σ' H' ∧ foRun tg body (xs.drop (i + 1)) (erC Ts2) = some o ∧ Cont W F E B2 σ' o, fun σ' H' h => ⟨m - 1, by omega, h⟩, fun x H3 hy => ?_⟩
    obtain ⟨B3, x3, a3, yl⟩ := j2 x H3 hy
    refine asg_ok a3 y1 yl fun Ts4 σ4 a4 g4 f4 => ?_
    have ow := offW_of (f4 (tgs tg) (tgOk_self tg)).2
    refine hb Γa o1 y3 B3 Ts4 (c0 ++ F) σ4 H3 a4 g4 _ ?_
    cases o1 with
    | nx Γ2 w =>
      obtain ⟨o2, g5, g6⟩ := omap y4
      subst g6
      exact fun B5 Ts5 σ5 H5 x5 a5 gg5 ow5 => ⟨by omega, B5, Ts5, o2, x2.trans (x3.trans x5), a5, by rw [gg5]; exact g5, k2.add (x3.trans x5) (ow.add ow5)⟩
    | ct Γ2 w =>
      obtain ⟨o2, g5, g6⟩ := omap y4
      subst g6
      exact fun B5 Ts5 σ5 H5 x5 a5 gg5 ow5 => ⟨by omega, B5, Ts5, o2, x2.trans (x3.trans x5), a5, by rw [gg5]; exact g5, k2.add (x3.trans x5) (ow.add ow5)⟩
    | bk Γ2 w =>
      cases y4
      exact fun B5 Ts5 σ5 H5 x5 a5 gg5 ow5 => k2 B5 Ts5 σ5 H5 (x3.trans x5) a5.drop gg5 (ow.add ow5)
    | rt d Γ2 w =>
      cases y4
      exact fun B5 Ts5 σ5 u H5 x5 a5 gg5 ow5 => k2 B5 Ts5 σ5 u H5 (x3.trans x5) (a5.perm (pswap _ _ _)).drop gg5 (ow.add ow5)
theorem varL_ok {i j : Nat} {π : List Nat} {ts : List D} (a : At W B Ts F σ H) (h : varL (erC Ts) i = some (j, π, ts)) : ∃ ad tts, Res Ts j π (.nd (.lst ad true) tts) ∧ tts.map er = ts ∧ σ[i]? = some (some (.ref ad)) := by
  unfold varL at h
  split at h
  · rename_i ts' hi
    cases h
    obtain ⟨t, ht, et⟩ := erC_get hi
    obtain ⟨ad, tts, rfl, e2⟩ := er_lst et
    exact ⟨ad, tts, ⟨_, ht, Tr.at_nil _⟩, e2, (a.ok i _ ht).2⟩
  · rename_i j' π' hi
    split at h
    · rename_i ts' hg
      cases h
      obtain ⟨t, u, g1, g2, g3⟩ := a.al i j π (erC_al hi)
      have := getE_of g1 g2
      rw [hg] at this
      obtain ⟨ad, tts, rfl, e2⟩ := er_lst (Option.some.inj this).symm
      exact ⟨ad, tts, ⟨t, g1, g2⟩, e2, g3⟩
    · cases h
  · cases h
theorem fp_turns {tb : TS} {body : Ctx → Option Out} {en : Bool} {iv : Nat} {ad : Addr} (hb : ∀ Γ o, body Γ = some o → SJ W tb Γ o) {E : Ends} {B1 : Hp} {Ts1 : CtxT} {σ1 : L2.St} {H1 : Hp} {n : Nat} (a1 : At W B1 Ts1 F σ1 H1) (hs : σ1[iv]? = some (some (.ref ad))) {o : Out} (hr : fpRun tg en iv body n 0 (erC Ts1) = some o) (k : Cont W F E B1 σ1 o) :
    ∃ Wv : Nat → Nat → L2.St → Hp → Prop, (∃ m, Wv 0 m σ1 H1) ∧ ∀ i m σ H, Wv i m σ H →
      ((if en then Ite W.K ad else Itl W.K ad).stop i H ∧ E.nx σ H) ∨ ((if en then Ite W.K ad else Itl W.K ad).go i H ∧ ∃ N : L2.St → Hp → Prop, (∀ σ' H', N σ' H' → ∃ m', m' < m ∧ Wv (i + 1) m' σ' H') ∧ ∀ x H', (if en then Ite W.K ad else Itl W.K ad).yld i H x H' → tgG W.K tg x σ H' fun σ2 H2 => tb { E with nx := N, ct := N, bk := E.nx } σ2 H2) := by
  refine ⟨fun i m σ H => ∃ (B2 : Hp) (Ts2 : CtxT) (o : Out), At W B2 Ts2 F σ H ∧ fpRun tg en iv body m i (erC Ts2) = some o ∧ Cont W F E B2 σ o ∧ σ[iv]? = some (some (.ref ad)), ⟨n, B1, Ts1, o, a1, hr, k, hs⟩, ?_⟩
  rintro i m σ H ⟨B2, Ts2, o, a2, hr2, k2, hs2⟩
  cases m with
  | zero =>
    left
    rw [fpRun] at hr2
    obtain ⟨⟨j, π, ts⟩, y1, y2⟩ := obind hr2
    obtain ⟨ad', tts, ⟨t0, r1, r2⟩, et, hs3⟩ := varL_ok a2 y1
    rw [hs2] at hs3
    cases hs3
    dsimp only at y2
    split at y2
    · rename_i hlen
      cases y2
      have rb := a2.rb (a2.place r1 r2).1 (a2.place r1 r2).2
      have hq : SqL W.K H ad (vals tts) := rb.tag
      have hl : (vals tts).length ≤ i := by unfold vals; rw [List.length_map, ← hlen, ← et, List.length_map]; exact Nat.le_refl _
      refine ⟨?_, k2 B2 Ts2 σ H (Ext.refl _) a2 rfl (OffW.refl _ _)⟩
      cases en with
      | true => exact ⟨_, hq, hl⟩
      | false => exact ⟨_, hq, hl⟩
    · cases y2
  | succ m =>
    right
    rw [fpRun] at hr2
    obtain ⟨⟨j, π, ts⟩, y1, y2⟩ := obind hr2
    obtain ⟨ad', tts, ⟨t0, r1, r2⟩, et, hs3⟩ := varL_ok a2 y1
    rw [hs2] at hs3
    cases hs3
    dsimp only at y2
    split at y2
    · rename_i hlen
      obtain ⟨xd, y3, y4⟩ := obind y2
      obtain ⟨Γa, y5, y6⟩ := obind y4
      obtain ⟨o1, y7, y8⟩ := obind y6
      have pl := a2.place r1 r2
      have rb := a2.rb pl.1 pl.2
      have hq : SqL W.K H ad (vals tts) := rb.tag
      obtain ⟨t, ht, hy⟩ := place_ents (Ts := Ts2) (j := j) (π := π) ⟨t0, r1, r2⟩ pl.1 i xd (by rw [er_nd, et]; exact y3)
      have hv : (vals tts)[i]? = some (val t) := by unfold vals; rw [List.getElem?_map, show tts[i]? = some t from ht]; rfl
      refine ⟨by cases en <;> exact ⟨_, _, hq, hv⟩, fun σ' H' => ∃ (B2 : Hp) (Ts2 : CtxT) (o : Out), At W B2 Ts2 F σ' H' ∧ fpRun tg en iv body m (i + 1) (erC Ts2) = some o ∧ Cont W F E B2 σ' o ∧ σ'[iv]? = some (some (.ref ad)), fun σ' H' h => ⟨m, Nat.lt_succ_self m, h⟩, fun x H3 hyl => ?_⟩
      have step : ∃ B3, Ext B2 B3 ∧ At W B3 Ts2 F σ H3 ∧ Yl W B3 Ts2 x H3 (pItm en j π i xd) := by
        cases en with
        | false =>
          obtain ⟨e, hx⟩ := (show H3 = H ∧ ∀ xs, SqL W.K H ad xs → xs[i]? = some x from hyl)
          have := hx _ hq
          rw [hv] at this
          cases this
          rw [e]
          exact ⟨B2, Ext.refl _, a2, hy⟩
        | true =>
          obtain ⟨T, w, e1, hT, e2, hx⟩ := (show ∃ T w, x = .ref T ∧ H T = none ∧ H3 = upd H T (.tup [.int (i : Nat), w]) ∧ ∀ xs, SqL W.K H ad xs → xs[i]? = some w from hyl)
          have hw := hx _ hq
          rw [hv] at hw
          cases hw
          subst e1 e2
          obtain ⟨B3, x3, s1, s2⟩ := Good.share (L := [(T, .tup [.int (i : Nat), val t])]) (M := cellsC W Ts2 ++ F) (a2.good.new (o := .tup [.int (i : Nat), val t]) hT)
          exact ⟨B3, x3, a2.mono x3 s2, T, .int (i : Nat), val t, rfl, .inl (.inl (s2.ext _ _ (s1 _ List.mem_cons_self))), ⟨tI _, ok_int _, c_int _, e_int _, rfl⟩, hy.mono x3⟩
      obtain ⟨B3, x3, a3, yl⟩ := step
      refine asg_ok a3 y5 yl fun Ts4 σ4 a4 g4 f4 => ?_
      have ow := offW_of (f4 (tgs tg) (tgOk_self tg)).2
      refine hb Γa o1 y7 B3 Ts4 F σ4 H3 a4 g4 _ ?_
      cases o1 with
      | nx Γ2 w =>
        dsimp only at y8
        split at y8
        · cases y8
        · rename_i hni
          obtain ⟨o2, g5, g6⟩ := omap y8
          subst g6
          exact fun B5 Ts5 σ5 H5 x5 a5 gg5 ow5 => ⟨B5, Ts5, o2, a5, by rw [gg5]; exact g5, k2.add (x3.trans x5) (ow.add ow5), by rw [(ow.add ow5) iv hni]; exact hs2⟩
      | ct Γ2 w =>
        dsimp only at y8
        split at y8
        · cases y8
        · rename_i hni
          obtain ⟨o2, g5, g6⟩ := omap y8
          subst g6
          exact fun B5 Ts5 σ5 H5 x5 a5 gg5 ow5 => ⟨B5, Ts5, o2, a5, by rw [gg5]; exact g5, k2.add (x3.trans x5) (ow.add ow5), by rw [(ow.add ow5) iv hni]; exact hs2⟩
      | bk Γ2 w =>
        cases y8
        exact fun B5 Ts5 σ5 H5 x5 a5 gg5 ow5 => k2 B5 Ts5 σ5 H5 (x3.trans x5) a5 gg5 (ow.add ow5)
      | rt d Γ2 w =>
        cases y8
        exact fun B5 Ts5 σ5 u H5 x5 a5 gg5 ow5 => k2 B5 Ts5 σ5 u H5 (x3.trans x5) a5 gg5 (ow.add ow5)
    · cases y2
theorem SS.for_ (htg : STg M tp sc tgE tg) (hi : SI M sc tgE it ci) {sb : List Stmt} {lb : List CS} (hb : SSs M np tp sc sb lb) (hset : notSetE it = true)
    (hv : ∀ en i, itVar ci = some (en, i) → ∀ X : Cx, XOk M.G M.k M.N tp sc X → PI X tgE it (if en then iEnum M.G.K (tCons (tVar i) tNil) else iList M.G.K (tVar i))) : SS M np tp sc (.For tgE it sb [] pos) (.for_ tg ci lb) := fun X xo z Γ o hh => by
  cases z with
  | zero => simp [rn] at hh
  | succ z =>
    rw [rn] at hh
    have hb' : ∀ Γ o, rnSs M.G.Φ M.cl np z lb Γ = some o → SJ M.W (wSs X sb) Γ o := fun Γ o e => hb X xo z Γ o e
    have ps : ∀ wi, PI X tgE it wi → PS X (.For tgE it sb [] pos) (tFor wi (tgG M.G.K tg) (wSs X sb)) := fun wi pi => ps_for xo.pas xo.calm pi (htg X xo) pss_w (notSet_eq hset X.env)
    split at hh
    · rename_i en i n hsel
      obtain ⟨⟨en', i'⟩, s1, s2⟩ := obind hsel
      obtain ⟨⟨j, π, ts⟩, s3, s4⟩ := omap s2
      cases s4
      refine SJ.liftS ?_ (ps _ (hv en i s1 X xo))
      intro B Ts F σ H aa g E k
      subst g
      obtain ⟨ad, tts, ⟨t0, r1, r2⟩, et, hs⟩ := varL_ok aa s3
      have rb := aa.rb (aa.place r1 r2).1 (aa.place r1 r2).2
      have fp := fp_turns (W := M.W) (tg := tg) hb' aa hs hh k
      cases en with
      | false => exact ⟨_, hs, ad, rfl, ⟨_, rb.tag⟩, fp⟩
      | true => exact ⟨_, hs, ad, _, rfl, rb.tag, fp⟩
    · obtain ⟨⟨xs, Γ1, q1, wk⟩, g1, g2⟩ := obind hh
      have wkj := hi tp X xo z Γ xs Γ1 q1 wk g1
      dsimp only at g2
      split at g2
      · obtain ⟨wi, pi, ij⟩ := wkj
        refine SJ.liftS ?_ (ps wi pi)
        intro B Ts F σ H aa g E k
        refine ij B Ts F σ H aa g _ fun B1 Ts1 c0 H1 J e1 a1 gg1 q1' itok => ?_
        subst gg1
        have k' : Cont M.W F E B1 σ o := Cont.add (w := []) (by cases o <;> exact k) e1 (OffW.refl _ _)
        exact fo_turns (W := M.W) hb' a1 itok g2 k'
      · cases g2
end
end VI
/-! WA -/
noncomputable section
namespace VI
open PySem L2 PyProof.Rows StX

section
variable {W : Wo} {B B' H H' : Hp} {F L : List Cell} {Ts Ts' : CtxT} {σ σ' : L2.St}
theorem cellsC_own : ∀ (us : List T), cellsC W (us.map fun u => some (.own u)) = cellsL W us
  | [] => rfl
  | u :: us => by
    show cells W u ++ cellsC W (us.map _) = cells W u ++ cellsL W us
    rw [cellsC_own us]
theorem cellsC_none : ∀ (n : Nat), cellsC W (List.replicate n none) = []
  | 0 => rfl
  | n + 1 => by
    rw [List.replicate_succ]
    show [] ++ cellsC W (List.replicate n none) = []
    rw [cellsC_none n]; rfl
theorem cellsC_append : ∀ (xs ys : CtxT), cellsC W (xs ++ ys) = cellsC W xs ++ cellsC W ys
  | [], ys => rfl
  | x :: xs, ys => by
    show cellsE W x ++ cellsC W (xs ++ ys) = (cellsE W x ++ cellsC W xs) ++ cellsC W ys
    rw [cellsC_append xs ys, List.append_assoc]
theorem outs_ok {w : List Nat} (a : At W B' Ts' F σ' H') (x : Ext B B') (ow : OffW w σ σ') : ∀ (us : List T) (i : Nat) (os : List D), (∀ u ∈ us, Ok W B u) → (∀ (k : Nat) (u : T), us[k]? = some u → σ[i + k]? = some (some (val u))) → outsOf w (erC Ts') i (us.map er) = some os →
    ∃ us' : List T, us'.map er = os ∧ vals us' = vals us ∧ (∀ u ∈ us', Ok W B' u) ∧ (cellsL W us').Sublist (cellsC W (Ts'.drop i))
  | [], i, os, _, _, h => by cases h; exact ⟨[], rfl, rfl, fun _ h => absurd h (by simp), List.nil_sublist _⟩
  | u :: us, i, os, ok, hσ, h => by
    rw [List.map_cons, outsOf] at h
    obtain ⟨os1, h1, h2⟩ := obind h
    obtain ⟨us', e1, e2, e3, e4⟩ := outs_ok a x ow us (i + 1) os1 (fun y hy => ok y (List.mem_cons_of_mem _ hy)) (fun k y hy => by have := hσ (k + 1) y (by simpa using hy); rwa [show i + (k + 1) = i + 1 + k by omega] at this) h1
    have sub1 : (cellsC W (Ts'.drop (i + 1))).Sublist (cellsC W (Ts'.drop i)) := by
      by_cases hl : i < Ts'.length
      · rw [List.drop_eq_getElem_cons hl]
        exact List.sublist_append_right _ _
      · rw [List.drop_eq_nil_of_le (by omega), List.drop_eq_nil_of_le (by omega)]
        exact List.Sublist.refl _
    split at h2
    · rename_i hs
      cases h2
      have o := ok u List.mem_cons_self
      refine ⟨u :: us', by rw [List.map_cons, e1], by show val u :: vals us' = _; rw [e2]; rfl, fun y hy => ?_, ?_⟩
      · rcases List.mem_cons.mp hy with rfl | hy
        · exact o.mono x
        · exact e3 y hy
      · show (cells W u ++ cellsL W us').Sublist _
        rw [o.shc hs]
        exact e4.trans sub1
    · split at h2
      · rename_i d' hd
        split at h2
        · cases h2
        · rename_i hw
          cases h2
          obtain ⟨t, ht, et⟩ := erC_get hd
          obtain ⟨o1, hs1⟩ := a.ok i t ht
          have hv : val t = val u := by
            have h3 := hσ 0 u rfl
            rw [Nat.add_zero] at h3
            rw [ow i hw, h3] at hs1
            exact (Option.some.inj (Option.some.inj hs1)).symm
          refine ⟨t :: us', by rw [List.map_cons, e1, et], by show val t :: vals us' = _; rw [e2, hv]; rfl, fun y hy => ?_, ?_⟩
          · rcases List.mem_cons.mp hy with rfl | hy
            · exact o1
            · exact e3 y hy
          · show (cells W t ++ cellsL W us').Sublist _
            obtain ⟨hl, hget⟩ := List.getElem?_eq_some_iff.mp ht
            rw [List.drop_eq_getElem_cons hl, hget]
            exact (List.Sublist.refl _).append e4
      · cases h2
end
/-- what is known of a def -/
structure FI (G : Gb) (f : Nat) (Fd0 : Fd) where
  x : Str
  qual : Str
  st : Stmt
  N : List Str
  fn : Fun G.K x qual st (G.fa f) (G.fd f)
  sc : FnScope N (G.ps f) (defScope st)
  np : (G.ps f).length = Fd0.np
  nn : N.length = Fd0.nn
  body : ∀ (cl : Cl) (k : Nat), Md.Ok ⟨G, cl, k, N⟩ → SSs ⟨G, cl, k, N⟩ Fd0.np true (defScope st) (defBody st) Fd0.body
theorem fn_sound {G : Gb} {cl : Cl} {k f : Nat} {F : Fd} (I : FI G f F) (mo : Md.Ok ⟨G, cl, k, I.N⟩) : FnG G.P G.w G.K G.mg G.base (k + 2) (G.fa f) (G.fd f) (G.ps f) (fun vs H Q => ∃ (B : Hp) (L : List Cell) (us : List T) (d : D) (outs : List D), vs = vals us ∧ (∀ u ∈ us, Ok G.W B u) ∧ Good B H (cellsL G.W us ++ L) ∧ runF G.Φ cl F (us.map er) = some (d, outs) ∧
  ∀ (B' H' : Hp) (u : T) (us' : List T), Ext B B' → Good B' H' (cells G.W u ++ (cellsL G.W us' ++ L)) → Ok G.W B' u → (∀ x ∈ us', Ok G.W B' x) → er u = d → us'.map er = outs → vals us' = vals us → Q (val u) H') := by
  refine fng_of (k := k + 1) I.fn I.sc fun cdv A l s H vs Q hroom hg hl hsp => ?_
  obtain ⟨B, L, us, d, outs, rfl, os, gd, hr, kk⟩ := hsp
  have xo : XOk G k I.N true (defScope I.st) (cxG G.P G.w G.K G.mg G.base I.N I.qual (defScope I.st) (G.fa f) cdv A l s H) :=
    ⟨rfl, rfl, rfl, rfl, rfl, I.sc.nd, rfl, rfl, rfl, hroom, hg, fun _ _ => rfl, PassesOwn.never⟩
  unfold runF at hr
  split at hr
  · rename_i hc
    obtain ⟨o, g1, g2⟩ := obind hr
    rw [List.length_map] at hc
    have sj := I.body cl k mo _ xo dfuel _ o g1
    have e0 : erC (us.map (fun u => some (Ent.own u)) ++ List.replicate (F.nn - F.np) none) = (us.map er).map (fun d => some (Ent.own d)) ++ List.replicate (F.nn - F.np) none := by
      unfold erC
      rw [List.map_append, List.map_map, List.map_map, List.map_replicate]
      rfl
    have hst : start I.N (vals us) = (us.map fun u => some (val u)) ++ List.replicate (F.nn - F.np) none := by
      unfold L2.start vals
      rw [List.map_map, List.length_map, I.nn, hc.1]; rfl
    have hget : ∀ (i : Nat) (t : T), (us.map (fun u => some (Ent.own u)) ++ List.replicate (F.nn - F.np) none : CtxT)[i]? = some (some (.own t)) → us[i]? = some t := fun i t h => by
      rw [List.getElem?_append] at h
      split at h
      · rw [List.getElem?_map] at h
        obtain ⟨u, h1, h2⟩ := omap h
        cases h2
        exact h1
      · rw [List.getElem?_replicate] at h
        split at h <;> cases h
    have hσ : ∀ (i : Nat) (u : T), us[i]? = some u → (start I.N (vals us))[i]? = some (some (val u)) := fun i u h => by
      rw [hst, List.getElem?_append_left (by rw [List.length_map]; exact (List.getElem?_eq_some_iff.mp h).1), List.getElem?_map, h]; rfl
    have at0 : At G.W B (us.map (fun u => some (Ent.own u)) ++ List.replicate (F.nn - F.np) none) L (start I.N (vals us)) H := by
      refine ⟨by rw [hst, List.length_append, List.length_append, List.length_map, List.length_map, List.length_replicate, List.length_replicate], fun i t h => ?_, fun i j π h => ?_, ?_⟩
      · have h1 := hget i t h
        exact ⟨os t (List.mem_of_getElem? h1), hσ i t h1⟩
      · rw [List.getElem?_append] at h
        split at h
        · rw [List.getElem?_map] at h
          obtain ⟨u, h1, h2⟩ := omap h
          cases h2
        · rw [List.getElem?_replicate] at h
          split at h <;> cases h
      · rw [cellsC_append, cellsC_own, cellsC_none, List.append_nil]; exact gd
    refine sj B _ L _ H at0 e0 _ ?_
    have fin : ∀ (Γ : Ctx) (w : List Nat) (B' : Hp) (Ts' : CtxT) (σ' : L2.St) (u : T) (H' : Hp), Ext B B' → At G.W B' Ts' (cells G.W u ++ L) σ' H' → erC Ts' = Γ → OffW w (start I.N (vals us)) σ' → Ok G.W B' u → er u = d → outsOf w Γ 0 (us.map er) = some outs → Q (val u) H' := by
      intro Γ w B' Ts' σ' u H' x a ge ow o eu ho
      subst ge
      obtain ⟨us', e1, e2, e3, e4⟩ := outs_ok a x ow us 0 outs os (fun k y hy => by rw [Nat.zero_add]; exact hσ k y hy) ho
      rw [List.drop_zero] at e4
      refine kk B' H' u us' x ?_ o e3 eu e1 e2
      exact (a.good.sub (e4.append (List.Sublist.refl _))).perm (pswap _ _ _)
    cases o with
    | nx Γ w =>
      obtain ⟨os', h1, h2⟩ := omap g2
      cases h2
      exact fun B' Ts' σ' H' x a ge ow => fin Γ w B' Ts' σ' tN' H' x (by rw [c_non]; exact a) ge ow ok_non e_non h1
    | rt d' Γ w =>
      obtain ⟨os', h1, h2⟩ := omap g2
      cases h2
      exact fun B' Ts' σ' u H' x a ge ow o eu => fin Γ w B' Ts' σ' u H' x a ge ow o eu h1
    | bk Γ w => cases g2
    | ct Γ w => cases g2
  · cases hr
/-- all defs of a table -/
theorem calls_sound {G : Gb} (g : GOk G) (Tb : Nat → Option Fd) (I : ∀ f F, Tb f = some F → FI G f F) : ∀ n, Calls G (callN G.Φ Tb n) (2 * n)
  | 0 => ⟨fun f => ⟨fun A l s H args us vs Q _ _ _ _ _ _ h => by obtain ⟨_, _, _, _, _, _, _, _, h, _⟩ := h; cases h⟩, fun f ds r h => by cases h⟩
  | n + 1 => by
    have ih := calls_sound g Tb I n
    refine ⟨fun f => ?_, fun f ds r h => ?_⟩
    · cases hf : Tb f with
      | none => exact ⟨fun A l s H args us vs Q _ _ _ _ _ _ h => by
          obtain ⟨_, _, _, _, _, _, _, _, h, _⟩ := h
          have h : (Tb f).bind _ = _ := h
          rw [hf] at h
          cases h⟩
      | some F =>
        have := fn_sound (I f F hf) (mo := ⟨g, ih⟩)
        refine ⟨fun A l s H args us vs Q h1 h2 h3 h4 h5 h6 h7 => this.go A l s H args us vs Q h1 h2 h3 h4 h5 h6 ?_⟩
        obtain ⟨B, L, ut, d, outs, e1, e2, e3, e4, e5⟩ := h7
        have e4 : (Tb f).bind (fun F => runF G.Φ (callN G.Φ Tb n) F (ut.map er)) = some (d, outs) := e4
        rw [hf] at e4
        exact ⟨B, L, ut, d, outs, e1, e2, e3, e4, e5⟩
    · have h : (Tb f).bind (fun F => runF G.Φ (callN G.Φ Tb n) F ds) = some r := h
      obtain ⟨F, h1, h2⟩ := obind h
      unfold runF at h2
      split at h2
      · rename_i hc
        rw [(I f F h1).np, hc.1]
      · cases h2
end VI
/-! WB -/
noncomputable section
noncomputable section
namespace VI
open PySem L2 PyProof.Rows StX

/-! ## from the program's text to the short syntax -/
def ixS (N : List Str) (x : Str) : Option Nat := N.findIdx? fun y => decide (y = x)
theorem ixS_ok {N : List Str} {x : Str} {i : Nat} (h : ixS N x = some i) : N[i]? = some x := by
  unfold ixS at h
  rw [List.findIdx?_eq_some_iff_getElem] at h
  obtain ⟨h1, h2, _⟩ := h
  rw [List.getElem?_eq_getElem h1, of_decide_eq_true h2]
def orBad (o : Option C) : C := o.getD .bad
def guardC (b : Bool) (c : C) : C := if b then c else .bad
/-- lists of items -/
def trItem (f : Expr → C) : Expr → C
  | .Starred x _ => if notStar x = true then .star (f x) else .bad
  | e => match f e with
    | .star _ => .bad
    | c => c
def trBo (f : Expr → C) (op : BoolOp) : List Expr → C
  | [] => .bad
  | [a] => f a
  | a :: b :: r => match op with
    | .And => .and (f a) (trBo f op (b :: r))
    | .Or => .or (f a) (trBo f op (b :: r))
def trNames (N : List Str) (tp : Bool) (sc : Scope) : List Expr → Option (List Nat)
  | [] => some []
  | .Name x _ :: es => match ixS N x with
    | some i => if locB tp sc x then (trNames N tp sc es).map (i :: ·) else none
    | none => none
  | _ :: _ => none
def trTg (N : List Str) (tp : Bool) (sc : Scope) : Expr → Option Tg
  | .Name x _ => match ixS N x with
    | some i => if locB tp sc x then some (.nm i) else none
    | none => none
  | .Tuple es _ _ => (trNames N tp sc es).map .tp
  | _ => none
def noVC : C → C
  | .v _ => .bad
  | .rng _ => .bad
  | .enm _ => .bad
  | c => c
def enC (f : Expr → C) (d : C) : Bool → List Expr → Expr → C
  | true, [a], .Tuple _ _ _ => if notStar a = true then .enm (f a) else .bad
  | _, _, _ => d
def ownOf (N : List Str) (scope : Scope) : List (Str × Nat) := scope.names.filterMap fun (n, k) => if k == .local || k == .cell then (ixS N n).map fun i => (n, i) else none
section
variable (Y : Sy) (N : List Str)
def blt1 (sc : Scope) (x : Str) (id : Value) : Bool := Y.blt.contains x && glB sc x && okName x && bootBuiltins x == some id
def opFn (sc : Scope) (x : Str) : Option Op :=
  if (Y.blt.contains x && glB sc x && okName x) = true then match bootBuiltins x with
    | some (.builtin "len") => some .len
    | some (.builtin "abs") => some .abs
    | some (.builtin "max") => some .max
    | some (.builtin "min") => some .min
    | some (.builtin "sorted") => some .sorted
    | some (.builtin "repr") => some .repr
    | some (.builtin "all") => some .all
    | some (.type "list") => some .list
    | some (.type "int") => some .int
    | _ => none
  else none
/-- a call of a name -/
def trCn (f : Expr → C) (sc : Scope) (x : Str) (es : List Expr) : C :=
  if (es.all notStar && okName x && glB sc x) = true then match Y.fns.lookup x with
    | some k => .call k (es.map f)
    | none => match Y.cls.lookup x with
      | some c => .make c (es.map f)
      | none => match es with
        | [] => .bad
        | e :: r => match opFn Y sc x with
          | some o => .op o ((e :: r).map f)
          | none => .bad
  else .bad
/-- a call with keywords -/
def trKw (f : Expr → C) (sc : Scope) (x : Str) (es : List Expr) (kws : List Keyword) : C :=
  if ((es ++ kws.map (·.value)).all notStar && okName x && glB sc x) = true then match kwNames kws with
    | none => .bad
    | some ks => match Y.fns.lookup x with
      | some k => match Y.kwf.lookup (k, es.length, ks) with
        | some pm => .callK k ((es ++ kws.map (·.value)).map f) pm
        | none => .bad
      | none => match Y.cls.lookup x with
        | some c => match Y.kwm.lookup (c, es.length, ks) with
          | some pm => .makeK c ((es ++ kws.map (·.value)).map f) pm
          | none => .bad
        | none => .bad
  else .bad
/-- sorted(set(xs)), or any call -/
def trSs (f : Expr → C) (sc : Scope) (x : Str) (es : List Expr) : C := match x == ("sorted" : Str) && Y.blt.contains "sorted" && glB sc "sorted" && Y.blt.contains "set" && glB sc "set", es with
  | true, [.Call (.Name r _) [a] [] _] => if (r == ("set" : Str) && notStar a) = true then .op .sortedset [f a] else trCn Y f sc x es
  | _, _ => trCn Y f sc x es
def trIsi (f : Expr → C) (sc : Scope) (a : Expr) (y : Str) : C :=
  if (notStar a && glB sc y && okName y && Y.blt.contains "isinstance" && glB sc "isinstance") = true then match tyN Y y with
    | some t => .op (.isi t) [f a]
    | none => .bad
  else .bad
def hasC : Nat → C → Bool
  | 0, _ => false
  | n + 1, .call _ _ => true
  | n + 1, .tup es => es.any (hasC n)
  | n + 1, .op _ es => es.any (hasC n)
  | _ + 1, _ => false
/-- a walk that the items change about: frozen first -/
def trIE (f : Expr → C) (ci : C) (b : Bool) (sc : Scope) (tgE it : Expr) : C := match b, it with
  | true, .Call (.Name x _) es [] _ => enC (fun e => .frz (f e)) ci (x == ("enumerate" : Str) && Y.blt.contains "enumerate" && glB sc "enumerate") es tgE
  | _, _ => ci
mutual
def tr : Nat → Scope → Expr → C
  | 0, _, _ => .bad
  | n + 1, sc, .Constant (.int i) _ _ => .k (dI i)
  | n + 1, sc, .Constant (.bool b) _ _ => .k (dB b)
  | n + 1, sc, .Constant (.str s) _ _ => .k (dS s)
  | n + 1, sc, .Constant .none _ _ => .k dN
  | n + 1, sc, .Name x _ => if okName x = true then (if visB sc x = true then (match ixS N x with
      | some i => .v i
      | none => .bad) else if glB sc x = true then (match Y.cons.lookup x with
      | some m => .g m
      | none => .bad) else .bad) else .bad
  | n + 1, sc, .BinOp a op b _ => if (notStar a && notStar b) = true then .op (.bin op) [tr n sc a, tr n sc b] else .bad
  | n + 1, sc, .UnaryOp .USub a _ => if notStar a = true then .op .neg [tr n sc a] else .bad
  | n + 1, sc, .UnaryOp .Not a _ => .not (tr n sc a)
  | n + 1, sc, .BoolOp op es _ => trBo (tr n sc) op es
  | n + 1, sc, .Compare a [op] [b] _ => if (notStar a && notStar b && !behindInMarks op b) = true then .op (.cmp op) [tr n sc a, tr n sc b] else .bad
  | n + 1, sc, .Compare a [o1, o2] [b, c] _ => if (notStar a && notStar b && notStar c && !lastMarks [o1, o2] [b, c]) = true then .chn o1 o2 (tr n sc a) (tr n sc b) (tr n sc c) else .bad
  | n + 1, sc, .IfExp c a b _ => .ife (trT n sc c) (tr n sc a) (tr n sc b)
  | n + 1, sc, .Tuple es _ _ => .tup (es.map (trItem (tr n sc)))
  | n + 1, sc, .List es _ => .lst (es.map (trItem (tr n sc)))
  | n + 1, sc, .Dict [] [] _ => .dct0
  | n + 1, sc, .Attribute a x _ => if plainBase a = true then (match ixS Y.nms x with
      | some f => .att (tr n sc a) f
      | none => .bad) else .bad
  | n + 1, sc, .Subscript a (.Slice none none (some (.UnaryOp .USub (.Constant (.int 1) _ _) _)) _) _ => if notStar a = true then .op .rev [tr n sc a] else .bad
  | n + 1, sc, .Subscript a (.Slice (some b) none none _) _ => if (notStar a && notStar b) = true then .op .slo [tr n sc a, tr n sc b] else .bad
  | n + 1, sc, .Subscript a (.Slice none (some b) none _) _ => if (notStar a && notStar b) = true then .op .shi [tr n sc a, tr n sc b] else .bad
  | n + 1, sc, .Subscript a i _ => if (notStar a && notStar i && notSlice i) = true then .idx (tr n sc a) (tr n sc i) else .bad
  | n + 1, sc, .Call (.Name x _) es [] _ => (match x == ("isinstance" : Str), es with
      | true, [a, .Name y _] => trIsi Y (tr n sc) sc a y
      | _, _ => (match x == ("list" : Str) && Y.blt.contains "list" && glB sc "list" && Y.blt.contains "range" && glB sc "range", es with
        | true, [.Call (.Name r _) [a] [] _] => if (r == ("range" : Str) && notStar a) = true then .op .listrange [tr n sc a] else trSs Y (tr n sc) sc x es
        | _, _ => trSs Y (tr n sc) sc x es))
  | n + 1, sc, .Call (.Name x _) es (kw :: kws) _ => trKw Y (tr n sc) sc x es (kw :: kws)
  | n + 1, sc, .Call (.Attribute a m apos) es [] pos => if (es.all notStar && plainBase a && decide (es.length < 30) && (apos.endLine == pos.line)) = true then (match ixS Y.nms m with
      | some k => .mth (tr n sc a) k (es.map (tr n sc))
      | none => .bad) else .bad
  | n + 1, sc, .ListComp elt [⟨tgE, it, ifs, 0⟩] scope _ => if (blkC N sc scope (ownOf N scope) && notSetE it && decide (ifs.length ≤ 1)) = true then (match trTg N false (relS scope sc) tgE with
      | some tg => .lc ((ownOf N scope).map (·.2)) tg (trIE Y (tr n sc) (trI n sc tgE it) (hasC 20 (tr n (relS scope sc) elt)) sc tgE it) (ifs.map (trT n (relS scope sc))) (tr n (relS scope sc) elt)
      | none => .bad) else .bad
  | _ + 1, _, _ => .bad
def trT : Nat → Scope → Expr → C
  | 0, _, _ => .bad
  | n + 1, sc, .IfExp _ _ _ _ => .bad
  | n + 1, sc, .UnaryOp .Not a _ => .not (trT n sc a)
  | n + 1, sc, .BoolOp op es _ => trBo (trT n sc) op es
  | n + 1, sc, e => tr n sc e
def trI : Nat → Scope → Expr → Expr → C
  | 0, _, _, _ => .bad
  | n + 1, sc, tgE, .Call (.Name x p) es [] pos => if (x == ("range" : Str) && Y.blt.contains "range" && glB sc "range" && es.all notStar && decide (1 ≤ es.length ∧ es.length ≤ 3)) = true then .rng (es.map (tr n sc)) else
      enC (tr n sc) (noVC (tr n sc (.Call (.Name x p) es [] pos))) (x == ("enumerate" : Str) && Y.blt.contains "enumerate" && glB sc "enumerate") es tgE
  | n + 1, sc, tgE, .Name x p => tr n sc (.Name x p)
  | n + 1, sc, tgE, e => noVC (tr n sc e)
end
end
end VI
/-! WC -/
noncomputable section
namespace VI
open PySem L2 PyProof.Rows StX

section
variable {M : Md} {sc scope : Scope} {e a b c it tgE elt : Expr} {ca cb cc ci ce : C} {es ifs : List Expr} {cs : List C} {pos p p2 : Pos} {tp : Bool} {f : Expr → C} {x : Str}
theorem ST.bad : ST M sc e .bad := fun tp X xo z Γ b Γ' q h => by
  obtain ⟨z', _, d, h1, _⟩ := evT_inv h
  cases z' <;> simp [evB] at h1
theorem SI.bad : SI M sc tgE it .bad := fun tp X xo z Γ xs Γ1 q1 wk h => by
  cases z with
  | zero => simp [evI] at h
  | succ z =>
    have h : (evB M.G.Φ M.cl z .bad Γ).bind (itvR Γ) = some (xs, Γ1, q1, wk) := h
    cases z <;> simp [evB] at h
theorem item_sd (hf : ∀ e, SE M sc e (f e)) : ∀ es : List Expr, SD M sc es (es.map (trItem f))
  | [] => SD.nil
  | e :: es => by
    have ih := item_sd hf es
    have badD : ∀ (e : Expr), SD M sc (e :: es) (.bad :: es.map (trItem f)) := fun e tp X xo z Γ ds Γ' q h => by
      cases z with
      | zero => simp [evDs] at h
      | succ z =>
        have h : ((evB M.G.Φ M.cl z .bad Γ).bind fun r => let (d, Γ1, q1) := settle Γ r; (evDs M.G.Φ M.cl z (es.map (trItem f)) Γ1).map fun (ds, Γ', q) => (d :: ds, Γ', q1 && q)) = some (ds, Γ', q) := h
        cases z <;> simp [evB] at h
    by_cases h : notStar e = true
    · have e1 : trItem f e = match f e with
        | .star _ => .bad
        | c => c := by cases e <;> first | rfl | cases h
      rw [List.map_cons, e1]
      split
      · exact badD e
      · rename_i hc
        exact SD.cons h hc (hf e) ih
    · cases e with
      | Starred x p =>
        rw [List.map_cons]
        show SD M sc _ ((if notStar x = true then C.star (f x) else .bad) :: _)
        split
        · rename_i hx; exact SD.star hx (hf x) ih
        · exact badD _
      | _ => exact absurd rfl h
theorem args_sa (hf : ∀ e, SE M sc e (f e)) : ∀ {es : List Expr}, es.all notStar = true → SA M sc es (es.map f)
  | [], _ => SA.nil
  | e :: es, h => by
    rw [List.all_cons, Bool.and_eq_true] at h
    exact SA.cons h.1 (hf e) (args_sa hf h.2)
theorem bo_se (hf : ∀ e, SE M sc e (f e)) {op : BoolOp} : ∀ es : List Expr, SE M sc (.BoolOp op es pos) (trBo f op es)
  | [] => SE.bad
  | [a] => SE.one (hf a)
  | a :: b :: r => by
    have ih := bo_se hf (op := op) (b :: r)
    cases op with
    | And => exact SE.and (hf a) ih
    | Or => exact SE.or (hf a) ih
theorem bo_st (hf : ∀ e, ST M sc e (f e)) {op : BoolOp} : ∀ es : List Expr, ST M sc (.BoolOp op es pos) (trBo f op es)
  | [] => ST.bad
  | [a] => by
    cases op with
    | And => exact ST.oneA (hf a)
    | Or => exact ST.oneO (hf a)
  | a :: b :: r => by
    have ih := bo_st hf (op := op) (b :: r)
    cases op with
    | And => exact ST.and (hf a) ih
    | Or => exact ST.or (hf a) ih
theorem bt3 {a b c : Bool} (h : (a && b && c) = true) : a = true ∧ b = true ∧ c = true := by
  rw [Bool.and_eq_true, Bool.and_eq_true] at h
  exact ⟨h.1.1, h.1.2, h.2⟩
theorem opFn_se (mo : M.Ok) {o : Op} (h : opFn M.G.Y sc x = some o) (sa : SA M sc (e :: es) cs) : SE M sc (.Call (.Name x p) (e :: es) [] pos) (.op o cs) := by
  unfold opFn at h
  split at h
  · rename_i hc
    obtain ⟨h1, h2, h3⟩ := bt3 hc
    split at h <;> first
      | (rename_i hv; cases h; exact SE.bfX mo (fun z => by cases z) sa (fun X => rfl) hv h1 h2 h3)
      | (rename_i hv; cases h; exact SE.bt mo (fun z => by cases z) (fun ds => rfl) sa (fun X => rfl) hv h1 h2 h3)
      | cases h
  · cases h
theorem cn_se (mo : M.Ok) (hf : ∀ e, SE M sc e (f e)) : SE M sc (.Call (.Name x p) es [] pos) (trCn M.G.Y f sc x es) := by
  unfold trCn
  split
  · rename_i hc
    obtain ⟨h1, h2, h3⟩ := bt3 hc
    have sa := args_sa hf h1
    split
    · rename_i k hk; exact SE.call mo sa hk h3 h2
    · split
      · rename_i c hc; exact SE.make mo sa hc h3 h2
      · split
        · exact SE.bad
        · split
          · rename_i ho; exact opFn_se mo ho sa
          · exact SE.bad
  · exact SE.bad
theorem ss_se (mo : M.Ok) (hf : ∀ e, SE M sc e (f e)) : SE M sc (.Call (.Name x p) es [] pos) (trSs M.G.Y f sc x es) := by
  unfold trSs
  split
  · rename_i hx
    simp only [Bool.and_eq_true] at hx
    obtain ⟨⟨⟨⟨h1, h2⟩, h3⟩, h4⟩, h5⟩ := hx
    split
    · rename_i hr
      rw [Bool.and_eq_true] at hr
      rw [beq_iff_eq.mp h1, beq_iff_eq.mp hr.1]
      exact SE.sset mo hr.2 (hf _) h2 h3 h4 h5
    · exact cn_se mo hf
  · exact cn_se mo hf
theorem kw_se {kws : List Keyword} (mo : M.Ok) (hf : ∀ e, SE M sc e (f e)) : SE M sc (.Call (.Name x p) es kws pos) (trKw M.G.Y f sc x es kws) := by
  unfold trKw
  split
  · rename_i hc
    obtain ⟨h1, h2, h3⟩ := bt3 hc
    have sa := args_sa hf h1
    split
    · exact SE.bad
    · rename_i ks hks
      split
      · rename_i k hk
        split
        · rename_i pm hpm; exact SE.callK mo sa hk hks hpm h3 h2
        · exact SE.bad
      · split
        · rename_i c hc
          split
          · rename_i pm hpm; exact SE.makeK mo sa hc hks hpm h3 h2
          · exact SE.bad
        · exact SE.bad
  · exact SE.bad
theorem isi_se (mo : M.Ok) (hf : ∀ e, SE M sc e (f e)) {y : Str} : SE M sc (.Call (.Name "isinstance" p) [a, .Name y p2] [] pos) (trIsi M.G.Y f sc a y) := by
  unfold trIsi
  split
  · rename_i hc
    simp only [Bool.and_eq_true] at hc
    obtain ⟨⟨⟨⟨h1, h2⟩, h3⟩, h4⟩, h5⟩ := hc
    split
    · rename_i t ht; exact SE.isi mo h1 (hf a) ht h2 h3 h4 h5
    · exact SE.bad
  · exact SE.bad
theorem names_ok {tp : Bool} : ∀ {es : List Expr} {is : List Nat}, trNames M.N tp sc es = some is → NmL M.N tp sc es is
  | [], is, h => by cases h; exact .nil
  | e :: es, is, h => by
    cases e with
    | Name x p =>
      rw [trNames] at h
      split at h
      · rename_i i hi
        split at h
        · rename_i hl
          obtain ⟨is', h1, h2⟩ := omap h
          subst h2
          exact .cons (ixS_ok hi) hl (names_ok h1)
        · cases h
      · cases h
    | _ => cases h
theorem tg_ok {tp : Bool} {tg : Tg} (h : trTg M.N tp sc tgE = some tg) : STg M tp sc tgE tg := by
  unfold trTg at h
  split at h
  · split at h
    · rename_i hi
      split at h
      · rename_i hl
        cases h
        exact STg.nm (ixS_ok hi) hl
      · cases h
    · cases h
  · obtain ⟨is, h1, h2⟩ := omap h
    subst h2
    exact STg.tup (names_ok h1)
  · cases h
theorem slice_plain {i : Expr} (h : notSlice i = true) : plainSub i = true := by cases i <;> first | rfl | cases h
theorem ifs_ok (hf : ∀ e, ST M sc e (f e)) (h : ifs.length ≤ 1) : SIf M sc ifs (ifs.map f) := by
  match ifs, h with
  | [], _ => exact .nil
  | [c], _ => exact .one (hf c)
structure TrOk (M : Md) (n : Nat) : Prop where
  e : ∀ sc e, SE M sc e (tr M.G.Y M.N n sc e)
  t : ∀ sc e, ST M sc e (trT M.G.Y M.N n sc e)
  i : ∀ sc tgE e, SI M sc tgE e (trI M.G.Y M.N n sc tgE e)
  c : ∀ sc a ops bs pos, ST M sc (.Compare a ops bs pos) (tr M.G.Y M.N n sc (.Compare a ops bs pos))
theorem en_ok (mo : M.Ok) (hf : ∀ e, SE M sc e (f e)) (hi : SI M sc tgE (.Call (.Name x p) es [] pos) ca) : SI M sc tgE (.Call (.Name x p) es [] pos) (enC (fun e => .frz (f e)) ca (x == ("enumerate" : Str) && M.G.Y.blt.contains "enumerate" && glB sc "enumerate") es tgE) := by
  generalize hb : (x == ("enumerate" : Str) && M.G.Y.blt.contains "enumerate" && glB sc "enumerate") = bb
  unfold enC
  split
  · split
    · rename_i hn
      simp only [Bool.and_eq_true] at hb
      obtain ⟨⟨h1, h2⟩, h3⟩ := hb
      rw [beq_iff_eq.mp h1]
      exact SI.enm mo hn (hf _).frz h2 h3
    · exact SI.bad
  · exact hi
theorem iE_ok (mo : M.Ok) (hf : ∀ e, SE M sc e (f e)) {bb : Bool} (hi : SI M sc tgE it ca) : SI M sc tgE it (trIE M.G.Y f ca bb sc tgE it) := by
  unfold trIE
  split
  · exact en_ok mo hf hi
  · exact hi
theorem tr_e {more : List Str} (mo : M.Ok) (hnm : M.G.Y.nms = stdNms ++ more) {m : Nat} (H : ∀ n, m = n + 1 → TrOk M n) (sc : Scope) (e : Expr) : SE M sc e (tr M.G.Y M.N m sc e) := by
  unfold tr
  split
  · exact SE.bad
  · exact SE.int
  · exact SE.bl
  · exact SE.str
  · exact SE.non
  · split
    · rename_i hn
      split
      · rename_i hv
        split
        · rename_i i hi; exact SE.var (ixS_ok hi) hv hn
        · exact SE.bad
      · split
        · rename_i hg
          split
          · rename_i m hm; exact SE.con mo hm hg hn
          · exact SE.bad
        · exact SE.bad
    · exact SE.bad
  · split
    · rename_i h
      rw [Bool.and_eq_true] at h
      exact SE.binX mo h.1 h.2 ((H _ rfl).e _ _) ((H _ rfl).e _ _)
    · exact SE.bad
  · split
    · rename_i h; exact SE.neg mo h ((H _ rfl).e _ _)
    · exact SE.bad
  · exact SE.not ((H _ rfl).e _ _)
  · exact bo_se ((H _ rfl).e _) _
  · split
    · rename_i h
      obtain ⟨h1, h2, h3⟩ := bt3 h
      exact SE.cmpX mo h1 h2 ((H _ rfl).e _ _) ((H _ rfl).e _ _) (by simpa using h3)
    · exact SE.bad
  · split
    · rename_i h
      rw [Bool.and_eq_true] at h
      obtain ⟨h1, h2, h3⟩ := bt3 h.1
      exact SE.chn mo h1 h2 h3 ((H _ rfl).e _ _) ((H _ rfl).e _ _) ((H _ rfl).e _ _) (by simpa using h.2)
    · exact SE.bad
  · exact SE.ife ((H _ rfl).t _ _) ((H _ rfl).e _ _) ((H _ rfl).e _ _)
  · exact SE.tup (item_sd ((H _ rfl).e _) _)
  · exact SE.lst (item_sd ((H _ rfl).e _) _)
  · exact SE.dct0
  · split
    · rename_i h
      split
      · rename_i f hf; exact SE.att mo ((H _ rfl).e _ _) h (ixS_ok hf)
      · exact SE.bad
    · exact SE.bad
  · split
    · rename_i h; exact SE.rev mo h ((H _ rfl).e _ _)
    · exact SE.bad
  · split
    · rename_i h
      rw [Bool.and_eq_true] at h
      exact SE.slo mo h.1 h.2 ((H _ rfl).e _ _) ((H _ rfl).e _ _)
    · exact SE.bad
  · split
    · rename_i h
      rw [Bool.and_eq_true] at h
      exact SE.shi mo h.1 h.2 ((H _ rfl).e _ _) ((H _ rfl).e _ _)
    · exact SE.bad
  · split
    · rename_i h
      obtain ⟨h1, h2, h3⟩ := bt3 h
      exact SE.idx mo h1 h2 ((H _ rfl).e _ _) ((H _ rfl).e _ _) (slice_plain h3)
    · exact SE.bad
  · split
    · rename_i hx
      rw [beq_iff_eq.mp hx]
      exact isi_se mo ((H _ rfl).e _)
    · split
      · rename_i hx _
        simp only [Bool.and_eq_true] at hx
        obtain ⟨⟨⟨⟨h1, h2⟩, h3⟩, h4⟩, h5⟩ := hx
        split
        · rename_i hr
          rw [Bool.and_eq_true] at hr
          rw [beq_iff_eq.mp h1, beq_iff_eq.mp hr.1]
          exact SE.lrg mo hr.2 ((H _ rfl).e _ _) h2 h3 h4 h5
        · exact ss_se mo ((H _ rfl).e _)
      · exact ss_se mo ((H _ rfl).e _)
  · exact kw_se mo ((H _ rfl).e _)
  · split
    · rename_i h
      rw [Bool.and_eq_true] at h
      obtain ⟨h1, h2, h3⟩ := bt3 h.1
      split
      · rename_i k hk
        exact SE.mth mo hnm ((H _ rfl).e _ _) (args_sa ((H _ rfl).e _) h1) (by rw [List.length_map]) h2 (of_decide_eq_true h3) h.2 (ixS_ok hk)
      · exact SE.bad
    · exact SE.bad
  · split
    · rename_i h
      obtain ⟨h1, h2, h3⟩ := bt3 h
      split
      · rename_i tg htg
        exact SE.lc (iE_ok mo ((H _ rfl).e _) ((H _ rfl).i _ _ _)) (tg_ok htg) (ifs_ok ((H _ rfl).t _) (of_decide_eq_true h3)) ((H _ rfl).e _ _) (blkOk_by h1) h2
      · exact SE.bad
    · exact SE.bad
  · exact SE.bad
theorem tr_c (mo : M.Ok) {m : Nat} (H : ∀ n, m = n + 1 → TrOk M n) (sc : Scope) {ops : List CmpOp} {bs : List Expr} : ST M sc (.Compare a ops bs pos) (tr M.G.Y M.N m sc (.Compare a ops bs pos)) := by
  cases m with
  | zero => exact ST.bad
  | succ n =>
    have ih := H n rfl
    match ops, bs with
    | [op], [b] =>
      show ST M sc _ (if (notStar a && notStar b && !behindInMarks op b) = true then C.op (.cmp op) [tr M.G.Y M.N n sc a, tr M.G.Y M.N n sc b] else .bad)
      split
      · rename_i h
        obtain ⟨h1, h2, h3⟩ := bt3 h
        exact ST.cmpX mo h1 h2 (ih.e _ _) (ih.e _ _) (by simpa using h3)
      · exact ST.bad
    | [o1, o2], [b, c] =>
      show ST M sc _ (if (notStar a && notStar b && notStar c && !lastMarks [o1, o2] [b, c]) = true then C.chn o1 o2 (tr M.G.Y M.N n sc a) (tr M.G.Y M.N n sc b) (tr M.G.Y M.N n sc c) else .bad)
      split
      · rename_i h
        rw [Bool.and_eq_true] at h
        obtain ⟨h1, h2, h3⟩ := bt3 h.1
        exact ST.chn mo h1 h2 h3 (ih.e _ _) (ih.e _ _) (ih.e _ _) (by simpa using h.2)
      · exact ST.bad
    | [], _ => exact ST.bad
    | [_], [] => exact ST.bad
    | [_], _ :: _ :: _ => exact ST.bad
    | [_, _], [] => exact ST.bad
    | [_, _], [_] => exact ST.bad
    | [_, _], _ :: _ :: _ :: _ => exact ST.bad
    | _ :: _ :: _ :: _, _ => exact ST.bad
theorem tr_t {m : Nat} (mo : M.Ok) (H : ∀ n, m = n + 1 → TrOk M n) (sc : Scope) (e : Expr) : ST M sc e (trT M.G.Y M.N m sc e) := by
  cases m with
  | zero => exact ST.bad
  | succ n =>
    have ih := H n rfl
    by_cases hp : plainT e = true
    · have e1 : trT M.G.Y M.N (n + 1) sc e = tr M.G.Y M.N n sc e := by
        cases e with
        | UnaryOp op a p => cases op <;> first | rfl | cases hp
        | BoolOp _ _ _ => cases hp
        | IfExp _ _ _ _ => cases hp
        | Compare _ _ _ _ => cases hp
        | _ => rfl
      rw [e1]
      exact ST.val (ih.e _ _) hp
    · cases e with
      | UnaryOp op a p => cases op <;> first | exact ST.not (ih.t _ _) | exact absurd rfl hp
      | BoolOp _ _ _ => exact bo_st (ih.t _) _
      | IfExp _ _ _ _ => exact ST.bad
      | Compare a ops bs p => exact ih.c sc a ops bs p
      | _ => exact absurd rfl hp
theorem noV (h1 : SE M sc it ca) : SI M sc tgE it (noVC ca) := by
  unfold noVC
  cases ca <;> first
    | exact SI.bad
    | exact SI.val h1 rfl fun i e => by cases e
theorem rng_si (mo : M.Ok) (hf : ∀ e, SE M sc e (f e)) (h4 : es.all notStar = true) (h5 : 1 ≤ es.length) (h6 : es.length ≤ 3) (h2 : M.G.Y.blt.contains "range" = true) (h3 : glB sc "range" = true) : SI M sc tgE (.Call (.Name "range" p) es [] pos) (.rng (es.map f)) := by
  match es, h4, h5, h6 with
  | [a], h4, _, _ =>
    simp only [List.all_cons, Bool.and_eq_true] at h4
    exact SI.rng1 mo h4.1 (hf _) h2 h3
  | [a, b], h4, _, _ =>
    simp only [List.all_cons, Bool.and_eq_true] at h4
    exact SI.rng2 mo h4.1 h4.2.1 (hf _) (hf _) h2 h3
  | [a, b, c], h4, _, _ =>
    simp only [List.all_cons, Bool.and_eq_true] at h4
    exact SI.rng3 mo h4.1 h4.2.1 h4.2.2.1 (hf _) (hf _) (hf _) h2 h3
theorem name_si {n : Nat} (ih : TrOk M n) : SI M sc tgE (.Name x p) (tr M.G.Y M.N n sc (.Name x p)) := by
  have h1 := ih.e sc (.Name x p)
  cases n with
  | zero => exact SI.bad
  | succ n =>
    have e1 : tr M.G.Y M.N (n + 1) sc (.Name x p) = if okName x = true then (if visB sc x = true then (match ixS M.N x with
      | some i => .v i
      | none => .bad) else if glB sc x = true then (match M.G.Y.cons.lookup x with
      | some m => .g m
      | none => .bad) else .bad) else .bad := rfl
    rw [e1] at h1 ⊢
    split at h1
    · rename_i hn
      rw [if_pos hn]
      split at h1
      · rename_i hv
        rw [if_pos hv]
        split at h1
        · rename_i i hi
          refine SI.val h1 rfl fun j e tp X xo => ?_
          cases e
          exact pe_var (by rw [xo.N]; exact ixS_ok hi) (by rw [xo.sc]; exact vis_of hv) (okName_d hn).1 (okName_d hn).2.1
        · exact SI.bad
      · rename_i hv
        rw [if_neg hv]
        split at h1
        · rename_i hg
          rw [if_pos hg]
          split at h1
          · exact SI.val h1 rfl fun j e => by cases e
          · exact SI.bad
        · rename_i hg
          rw [if_neg hg]
          exact SI.bad
    · rename_i hn
      rw [if_neg hn]
      exact SI.bad
theorem tr_i {m : Nat} (mo : M.Ok) (H : ∀ n, m = n + 1 → TrOk M n) (sc : Scope) (tgE e : Expr) : SI M sc tgE e (trI M.G.Y M.N m sc tgE e) := by
  unfold trI
  split
  · exact SI.bad
  · split
    · rename_i h
      simp only [Bool.and_eq_true, decide_eq_true_eq] at h
      obtain ⟨⟨⟨⟨h1, h2⟩, h3⟩, h4⟩, h5, h6⟩ := h
      rw [beq_iff_eq.mp h1]
      exact rng_si mo ((H _ rfl).e _) h4 h5 h6 h2 h3
    · unfold enC
      split
      · rename_i h _
        split
        · rename_i hn
          simp only [Bool.and_eq_true] at h
          obtain ⟨⟨h1, h2⟩, h3⟩ := h
          rw [beq_iff_eq.mp h1]
          exact SI.enm mo hn ((H _ rfl).e _ _) h2 h3
        · exact SI.bad
      · exact noV ((H _ rfl).e _ _)
  · exact name_si (H _ rfl)
  · exact noV ((H _ rfl).e _ _)
theorem tr_ok {more : List Str} (mo : M.Ok) (hnm : M.G.Y.nms = stdNms ++ more) : ∀ n, TrOk M n
  | 0 => ⟨fun sc e => tr_e mo hnm (fun n h => by cases h) sc e, fun sc e => tr_t mo (fun n h => by cases h) sc e, fun sc t e => tr_i mo (fun n h => by cases h) sc t e, fun sc a o b p => tr_c mo (fun n h => by cases h) sc⟩
  | n + 1 => by
    have ih := tr_ok mo hnm n
    have H : ∀ m, n + 1 = m + 1 → TrOk M m := fun m h => by cases h; exact ih
    exact ⟨fun sc e => tr_e mo hnm H sc e, fun sc e => tr_t mo H sc e, fun sc t e => tr_i mo H sc t e, fun sc a o b p => tr_c mo H sc⟩
end
end VI
/-! WD -/
noncomputable section
namespace VI
open PySem L2 PyProof.Rows StX

def noV1 : C → C
  | .v _ => .bad
  | c => c
section
variable (Y : Sy) (N : List Str)
def retC (n : Nat) (sc : Scope) : Expr → C
  | .Name x p => tr Y N n sc (.Name x p)
  | e => noV1 (tr Y N n sc e)
def forC (n : Nat) (sc : Scope) (tgE it : Expr) : C := match it with
  | .Name x p => trI Y N n sc tgE (.Name x p)
  | .Call (.Name x p) [.Name y p2] [] pos => trI Y N n sc tgE (.Call (.Name x p) [.Name y p2] [] pos)
  | it => if (itVar (trI Y N n sc tgE it)).isNone = true then trI Y N n sc tgE it else .bad
def isFn (sc : Scope) : Bool := match sc.kind with
  | .function => true
  | _ => false
mutual
def trS : Nat → Scope → Stmt → CS
  | 0, _, _ => .bad
  | n + 1, sc, .Pass _ => .pass
  | n + 1, sc, .Break _ => .brk
  | n + 1, sc, .Continue _ => .cnt
  | n + 1, sc, .Expr (.Constant (.str _) _ _) _ => .pass
  | n + 1, sc, .Expr e _ => if notComp e = true then .ex (tr Y N n sc e) else .bad
  | n + 1, sc, .Return none _ => .retN
  | n + 1, sc, .Return (some e) _ => .ret (retC Y N n sc e)
  | n + 1, sc, .Assign [.Name x p] (.ListComp elt [⟨tgE, it, ifs, 0⟩] scope p2) _ => if (isFn sc && swLc sc x p scope p2 && (blkC N sc scope (ownOf N scope) && notSetE it && decide (ifs.length ≤ 1))) = true then (match ixS N x, trTg N false (relS scope sc) tgE with
      | some i, some tg => .asg (.nm i) (.lc ((ownOf N scope).map (·.2)) tg (trIE Y (tr Y N n sc) (trI Y N n sc tgE it) (hasC 20 (tr Y N n (relS scope sc) elt)) sc tgE it) (ifs.map (trT Y N n (relS scope sc))) (tr Y N n (relS scope sc) elt))
      | _, _ => .bad) else .bad
  | n + 1, sc, .Assign [.Name x p] e _ => if (notComp e && locB true sc x) = true then (match ixS N x with
      | some i => .asg (.nm i) (tr Y N n sc e)
      | none => .bad) else .bad
  | n + 1, sc, .Assign [.Tuple es k p] (.Tuple vs k2 p2) _ => if isFn sc = true then (match swP sc es vs, trNames N true sc es with
      | some none, some is => if decide (is.length ≤ 1000) = true then .asgs is (vs.map (trItem (tr Y N n sc))) else .bad
      | some (some _), some is => (match es, vs, is with
        | [.Name x px, .Name y py], [a, b], [i, j] => if decide (swP sc [.Name x px, .Name y py] [a, b] = some (some [x, y]) ∧ sc.names.lookup x = some .local ∧ sc.names.lookup y = some .local) = true then .asgs [i, j] ([a, b].map (trItem (tr Y N n sc))) else .bad
        | [.Name x px, .Name y py, .Name z pz], [a, b, c], [i, j, l] => if decide (swP sc [.Name x px, .Name y py, .Name z pz] [a, b, c] = some (some [x, y, z]) ∧ sc.names.lookup x = some .local ∧ sc.names.lookup y = some .local ∧ sc.names.lookup z = some .local) = true then .asgs [i, j, l] ([a, b, c].map (trItem (tr Y N n sc))) else .bad
        | _, _, _ => .bad)
      | _, _ => .bad) else .bad
  | n + 1, sc, .Assign [.Tuple es k p] e _ => if (isFn sc && notTup e) = true then (match trNames N true sc es with
      | some is => .asg (.tp is) (tr Y N n sc e)
      | none => .bad) else .bad
  | n + 1, sc, .Assign [.Attribute a x p] e _ => (match ixS Y.nms x with
      | some f => .asg (.att (tr Y N n sc a) f) (tr Y N n sc e)
      | none => .bad)
  | n + 1, sc, .Assign [.Subscript a i p] e _ => if (notStar a && notStar i && (notComp e && notSlice i)) = true then .asg (.sub (tr Y N n sc a) (tr Y N n sc i)) (tr Y N n sc e) else .bad
  | n + 1, sc, .AugAssign (.Name x p) op e _ => if locB true sc x = true then (match ixS N x with
      | some i => .aug (.nm i) op (tr Y N n sc e)
      | none => .bad) else .bad
  | n + 1, sc, .If c a b _ => .ite (trT Y N n sc c) (a.map (trS n sc)) (b.map (trS n sc))
  | n + 1, sc, .While c a [] _ => .whl (trT Y N n sc c) (a.map (trS n sc))
  | n + 1, sc, .For tgE it a [] _ => if notSetE it = true then (match trTg N true sc tgE with
      | some tg => .for_ tg (forC Y N n sc tgE it) (a.map (trS n sc))
      | none => .bad) else .bad
  | _ + 1, _, _ => .bad
end
end
section
variable {M : Md} {np : Nat} {sc scope : Scope} {e a b c it tgE elt : Expr} {ca cb cc ci ce : C} {es ifs : List Expr} {cs : List C} {pos p p2 : Pos} {tp : Bool} {f : Expr → C} {x : Str}
theorem isFn_ok (h : isFn sc = true) : sc.kind = .function := by
  unfold isFn at h
  split at h
  · assumption
  · cases h
theorem map_ss {g : Stmt → CS} (h : ∀ s, SS M np tp sc s (g s)) : ∀ ss : List Stmt, SSs M np tp sc ss (ss.map g)
  | [] => SSs.nil
  | s :: ss => SSs.cons (h s) (map_ss h ss)
theorem name_v {n : Nat} {i : Nat} (h : tr M.G.Y M.N n sc (.Name x p) = .v i) {X : Cx} (xo : XOk M.G M.k M.N tp sc X) : PE X (.Name x p) (tVar i) := by
  cases n with
  | zero => cases h
  | succ n =>
    have h : (if okName x = true then (if visB sc x = true then (match ixS M.N x with
      | some i => C.v i
      | none => .bad) else if glB sc x = true then (match M.G.Y.cons.lookup x with
      | some m => .g m
      | none => .bad) else .bad) else .bad) = .v i := h
    split at h
    · rename_i hn
      split at h
      · rename_i hv
        split at h
        · rename_i i' hi
          cases h
          exact pe_var (by rw [xo.N]; exact ixS_ok hi) (by rw [xo.sc]; exact vis_of hv) (okName_d hn).1 (okName_d hn).2.1
        · cases h
      · split at h
        · split at h <;> cases h
        · cases h
    · cases h
theorem noV1_ne {i : Nat} (h : noV1 ca = .v i) : False := by
  cases ca <;> cases h
theorem noV1_se (h : SE M sc e ca) : SE M sc e (noV1 ca) := by
  cases ca <;> first | exact SE.bad | exact h
theorem ret_ok {more : List Str} (mo : M.Ok) (hnm : M.G.Y.nms = stdNms ++ more) (n : Nat) : SS M np tp sc (.Return (some e) pos) (.ret (retC M.G.Y M.N n sc e)) := by
  have h1 := (tr_ok mo hnm n).e sc e
  by_cases hn : ∃ x p, e = .Name x p
  · obtain ⟨x, p, rfl⟩ := hn
    exact SS.ret h1 fun i hi tp X xo => name_v hi xo
  · have e1 : retC M.G.Y M.N n sc e = noV1 (tr M.G.Y M.N n sc e) := by
      cases e <;> first | rfl | exact absurd ⟨_, _, rfl⟩ hn
    rw [e1]
    exact SS.ret (noV1_se h1) fun i hi => (noV1_ne hi).elim
theorem for_pi {more : List Str} (mo : M.Ok) (hnm : M.G.Y.nms = stdNms ++ more) (n : Nat) : SI M sc tgE it (forC M.G.Y M.N n sc tgE it) ∧ ∀ en i, itVar (forC M.G.Y M.N n sc tgE it) = some (en, i) → ∀ X : Cx, XOk M.G M.k M.N tp sc X → PI X tgE it (if en then iEnum M.G.K (tCons (tVar i) tNil) else iList M.G.K (tVar i)) := by
  have h1 := (tr_ok mo hnm n).i sc tgE it
  unfold forC
  split
  · rename_i x p
    refine ⟨h1, fun en i hi X xo => ?_⟩
    cases n with
    | zero => cases hi
    | succ n =>
      have hi : itVar (tr M.G.Y M.N n sc (.Name x p)) = some (en, i) := hi
      cases hc : tr M.G.Y M.N n sc (.Name x p) with
      | v j =>
        rw [hc] at hi
        cases hi
        rw [← xo.K]
        exact pi_list (name_v hc xo)
      | enm c =>
        exfalso
        cases n with
        | zero => cases hc
        | succ n =>
          have hc : (if okName x = true then (if visB sc x = true then (match ixS M.N x with
            | some i => C.v i
            | none => .bad) else if glB sc x = true then (match M.G.Y.cons.lookup x with
            | some m => .g m
            | none => .bad) else .bad) else .bad) = .enm c := hc
          split at hc
          · split at hc
            · split at hc <;> cases hc
            · split at hc
              · split at hc <;> cases hc
              · cases hc
          · cases hc
      | _ => rw [hc] at hi; cases hi
  · rename_i x p y p2 pos
    refine ⟨h1, fun en i hi X xo => ?_⟩
    cases n with
    | zero => cases hi
    | succ n =>
      have hi : itVar (if (x == ("range" : Str) && M.G.Y.blt.contains "range" && glB sc "range" && [Expr.Name y p2].all notStar && decide (1 ≤ [Expr.Name y p2].length ∧ [Expr.Name y p2].length ≤ 3)) = true then .rng ([Expr.Name y p2].map (tr M.G.Y M.N n sc)) else
        enC (tr M.G.Y M.N n sc) (noVC (tr M.G.Y M.N n sc (.Call (.Name x p) [Expr.Name y p2] [] pos))) (x == ("enumerate" : Str) && M.G.Y.blt.contains "enumerate" && glB sc "enumerate") [Expr.Name y p2] tgE) = some (en, i) := hi
      clear h1
      by_cases hr : (x == ("range" : Str) && M.G.Y.blt.contains "range" && glB sc "range" && [Expr.Name y p2].all notStar && decide (1 ≤ [Expr.Name y p2].length ∧ [Expr.Name y p2].length ≤ 3)) = true
      · rw [if_pos hr] at hi
        cases hi
      · rw [if_neg hr] at hi
        by_cases hx : (x == ("enumerate" : Str) && M.G.Y.blt.contains "enumerate" && glB sc "enumerate") = true ∧ ∃ es k p, tgE = .Tuple es k p
        · obtain ⟨hx, es, kk, pp, rfl⟩ := hx
          rw [hx] at hi
          simp only [Bool.and_eq_true] at hx
          obtain ⟨⟨e1, e2⟩, e3⟩ := hx
          have hi : itVar (.enm (tr M.G.Y M.N n sc (.Name y p2))) = some (en, i) := hi
          cases hc : tr M.G.Y M.N n sc (.Name y p2) with
          | v j =>
            rw [hc] at hi
            cases hi
            rw [beq_iff_eq.mp e1, ← xo.K]
            exact pi_enum (gl_of xo e3) (mg_of mo xo e2) (pa_cons (name_v hc xo) pa_nil rfl) rfl
          | _ => rw [hc] at hi; cases hi
        · exfalso
          have e0 : enC (tr M.G.Y M.N n sc) (noVC (tr M.G.Y M.N n sc (.Call (.Name x p) [Expr.Name y p2] [] pos))) (x == ("enumerate" : Str) && M.G.Y.blt.contains "enumerate" && glB sc "enumerate") [Expr.Name y p2] tgE = noVC (tr M.G.Y M.N n sc (.Call (.Name x p) [Expr.Name y p2] [] pos)) := by
            unfold enC
            split
            · rename_i hb _ _
              exact absurd ⟨hb, _, _, _, rfl⟩ hx
            · rfl
          rw [e0] at hi
          cases hc : tr M.G.Y M.N n sc (.Call (.Name x p) [Expr.Name y p2] [] pos) <;> rw [hc] at hi <;> cases hi
  · split
    · rename_i hnone
      refine ⟨h1, fun en i hi => ?_⟩
      rw [hi] at hnone
      cases hnone
    · exact ⟨SI.bad, fun en i hi => by cases hi⟩
theorem trS_ok {more : List Str} (mo : M.Ok) (hnm : M.G.Y.nms = stdNms ++ more) : ∀ (m : Nat) (sc : Scope) (s : Stmt), SS M np true sc s (trS M.G.Y M.N m sc s)
  | 0, sc, s => by unfold trS; exact SS.bad
  | m' + 1, sc, s => by
    have T0 := tr_ok mo hnm m'
    have ih0 := fun sc s => trS_ok mo hnm m' sc s
    generalize hm : m' + 1 = m
    have T : ∀ n, m = n + 1 → TrOk M n := fun n h => by have : n = m' := by omega
                                                        rw [this]; exact T0
    have ih : ∀ n, m = n + 1 → ∀ sc s, SS M np true sc s (trS M.G.Y M.N n sc s) := fun n h => by have : n = m' := by omega
                                                                                                 rw [this]; exact ih0
    clear T0 ih0 hm
    unfold trS
    split
    · exact SS.bad
    · exact SS.pass
    · exact SS.brk
    · exact SS.cnt
    · exact SS.doc
    · split
      · rename_i h; exact SS.ex ((T _ rfl).e _ _) h
      · exact SS.bad
    · exact SS.retN
    · exact ret_ok mo hnm _
    · split
      · rename_i h
        obtain ⟨h1, h2, h3⟩ := bt3 h
        obtain ⟨h4, h5, h6⟩ := bt3 h3
        split
        · rename_i i tg hi htg
          exact SS.asgLc (ixS_ok hi) (isFn_ok h1) h2 (iE_ok mo ((T _ rfl).e _) ((T _ rfl).i _ _ _)) (tg_ok htg) (ifs_ok ((T _ rfl).t _) (of_decide_eq_true h6)) ((T _ rfl).e _ _) (blkOk_by h4) h5
        · exact SS.bad
      · exact SS.bad
    · split
      · rename_i h
        rw [Bool.and_eq_true] at h
        split
        · rename_i i hi; exact SS.asgN (ixS_ok hi) h.2 ((T _ rfl).e _ _) h.1
        · exact SS.bad
      · exact SS.bad
    · split
      · rename_i hk
        have hk := isFn_ok hk
        split
        · rename_i hsw his
          split
          · rename_i hd
            exact SS.asgU (STg.tup (names_ok his)) (item_sd ((T _ rfl).e _) _) hsw hk (of_decide_eq_true hd)
          · exact SS.bad
        · rename_i hsw his
          split
          · split
            · rename_i hd
              obtain ⟨d1, d2, d3⟩ := of_decide_eq_true hd
              cases names_ok his with
              | cons hi _ r =>
                cases r with
                | cons hj _ r =>
                  cases r
                  exact SS.asg2 hi hj d2 d3 (item_sd ((T _ rfl).e _) _) d1 hk
            · exact SS.bad
          · split
            · rename_i hd
              obtain ⟨d1, d2, d3, d4⟩ := of_decide_eq_true hd
              cases names_ok his with
              | cons hi _ r =>
                cases r with
                | cons hj _ r =>
                  cases r with
                  | cons hl _ r =>
                    cases r
                    exact SS.asg3 hi hj hl d2 d3 d4 (item_sd ((T _ rfl).e _) _) d1 hk
            · exact SS.bad
          · exact SS.bad
        · exact SS.bad
      · exact SS.bad
    · split
      · rename_i h
        rw [Bool.and_eq_true] at h
        split
        · rename_i is his
          exact SS.asgT (STg.tup (names_ok his)) ((T _ rfl).e _ _) (.inl h.2) (isFn_ok h.1)
        · exact SS.bad
      · exact SS.bad
    · split
      · rename_i f hf; exact SS.asgF mo ((T _ rfl).e _ _) ((T _ rfl).e _ _) (ixS_ok hf)
      · exact SS.bad
    · split
      · rename_i h
        obtain ⟨h1, h2, h3⟩ := bt3 h
        rw [Bool.and_eq_true] at h3
        exact SS.asgS ((T _ rfl).e _ _) h1 h2 ((T _ rfl).e _ _) ((T _ rfl).e _ _) h3.1 h3.2
      · exact SS.bad
    · split
      · rename_i hl
        split
        · rename_i i hi; exact SS.augN (ixS_ok hi) hl ((T _ rfl).e _ _)
        · exact SS.bad
      · exact SS.bad
    · exact SS.ite ((T _ rfl).t _ _) (map_ss (ih _ rfl _) _) (map_ss (ih _ rfl _) _)
    · exact SS.whl ((T _ rfl).t _ _) (map_ss (ih _ rfl _) _)
    · split
      · rename_i hs
        split
        · rename_i tg htg
          obtain ⟨f1, f2⟩ := for_pi (tp := true) (sc := sc) mo hnm _
          exact SS.for_ (tg_ok htg) f1 (map_ss (ih _ rfl _) _) hs f2
        · exact SS.bad
      · exact SS.bad
    · exact SS.bad
end
end VI
/-! WH -/
noncomputable section
namespace VI
open PySem L2 PyProof.Rows

/-! ## the end: a law's call, its def kept by a promise with guards -/
theorem end_call {P : Program} {w : World} {K : PySem.W.Frag} {mg mb : Str → Option Value} {k : Nat} {f a : Addr} {fd : FuncData} {x : Str} {sp : Spg} {s1 : Shared} {us : List Value} {is : List Int}
    (kin : K.In s1.heap) (gm : s1.heap.Ns mainGlobals mg) (gb : s1.heap.Ns builtinsNs mb) (bb : ∀ y : Str, y ≠ "__name__" → mb y = bootBuiltins y) (nl : s1.heap.NoLimit) (gens : s1.gens = #[])
    (obj : s1.heap.get? a = some { cls := .type "list", data := .seq us.toArray }) (ia : IntsAre us is) (short : is.length ≤ sizeLine) (room : Room k callerA)
    (F : ∀ base : Heap, K.In base → base.Ns mainGlobals mg → FnG P w K mg base k f fd [x] sp) (bind1 : ∀ (s : Shared) (u : Value), BindsTo s fd ⟨[u], []⟩ [(x, u)])
    (good : ∀ H : Hp, SqL K H a (is.map V.int) → sp [.ref a] H (fun v _ => v = .bl true)) :
    codeAny (model P w) callerA (.call (.ref f) ⟨[.ref a], []⟩) (fun r s' => r = .ok (.ret (.bool true)) ∧ OldK s1.heap s'.heap ∧ s'.os = s1.os ∧ AllBare s'.gens) s1 := by
  have vi := vals_ints ia
  have li := ia.length
  have main : ∀ H : Hp, (∀ b, H b = none ∨ ∃ o xs, H b = some (.frz o (.lst xs))) → SqL K H a (is.map V.int) → HOk P w H s1.heap → (∀ b, H b ≠ none → b = a) → (H a ≠ none → K.lookup a = none) →
      codeAny (model P w) callerA (.call (.ref f) ⟨[.ref a], []⟩) (fun r s' => r = .ok (.ret (.bool true)) ∧ OldK s1.heap s'.heap ∧ s'.os = s1.os ∧ AllBare s'.gens) s1 := by
    intro H only sq hk one off
    have bo : ∀ {b : Addr} {o : Obj}, s1.heap.get? b = some o → H b = none → (hidT s1.heap H).get? b = some o := fun e n => hidT_get e n
    have nd : ∀ {b : Addr} {o : Obj} {es : Array DictEntry} {ep : Nat}, s1.heap.get? b = some o → o.data = .dict es ep → H b = none := fun {b o es ep} e d => by
      cases q : H b with
      | none => rfl
      | some u =>
        obtain rfl : b = a := one b (by rw [q]; simp)
        rw [obj] at e
        cases e
        have d' : Data.seq us.toArray _ = Data.dict es ep := d
        cases d'
    have nsk : ∀ {b : Addr} {m : Str → Option Value}, s1.heap.Ns b m → (hidT s1.heap H).Ns b m := fun {b m} ⟨o, es, ep, e, d, r⟩ => ⟨o, es, ep, bo e (nd e d), d, r⟩
    have kb : K.In (hidT s1.heap H) := fun b o e => bo (kin b o e) (by
      cases q : H b with
      | none => rfl
      | some u =>
        obtain rfl : b = a := one b (by rw [q]; simp)
        rw [off (by rw [q]; simp)] at e
        cases e)
    have md : Mod K mg (hidT s1.heap H) := ⟨kb, nsk gm, ⟨mb, nsk gb, bb⟩, let ⟨mc, h1, h2⟩ := nl; ⟨mc, nsk h1, h2⟩⟩
    have ev : Env0 P w K mg (hidT s1.heap H) callerA [] s1 H := ⟨rfl, md, fun b o e => of_hidT e, Nat.le_of_eq (hidT_size _ _), trivial, fun b hb => absurd (show b ∈ ([] : List Addr) from hb) (by simp), hk, .of_eq gens⟩
    refine codeAny_mono ((F _ kb (nsk gm)).go callerA [] s1 H ⟨[.ref a], []⟩ [.ref a] [.ref a] _ room rfl ev (bind1 s1 (.ref a)) (.cons rfl .nil) rfl (good H sq)) fun r s' h => ?_
    obtain ⟨u, rfl, v, H', os, bare, un, hk', rv, q⟩ := h
    obtain rfl : v = .bl true := q
    obtain rfl : u = Value.bool true := rv
    refine ⟨rfl, OldK.of_keep fun b o e => ?_, os, bare⟩
    cases q : H b with
    | none => exact un.keep b o e q (by intro z; exact absurd (show b ∈ ([] : List Addr) from z) (by simp)) (by simp)
    | some u =>
      rcases only b with z | ⟨ob, xs, z⟩
      · rw [q] at z; cases z
      · have z2 := un.frzs b ob _ z
        obtain ⟨e1, _⟩ := hk b _ z
        obtain ⟨e2, _⟩ := hk' b _ z2
        rw [e] at e1; cases e1
        exact e2
  cases ka : K.lookup a with
  | some o =>
    have e := kin a o ka
    rw [obj] at e; cases e
    refine main (fun _ => none) (fun _ => .inl rfl) (.inr ⟨_, us.toArray, _, ka, rfl, rfl, rfl, by rw [List.size_toArray, li]; exact short, by simpa using vi⟩) (fun b u z => by cases (show (none : Option HO) = some u from z)) (fun b z => absurd rfl z) fun z => absurd rfl z
  | none =>
    refine main (fun b => if b = a then some (.frz { cls := .type "list", data := .seq us.toArray } (.lst (is.map V.int))) else none) (fun b => ?_) (.inl (.inr ⟨_, if_pos rfl⟩)) (fun b u z => ?_) (fun b z => ?_) fun _ => ka
    · by_cases hb : b = a
      · exact .inr ⟨_, _, if_pos hb⟩
      · exact .inl (if_neg hb)
    · by_cases hb : b = a
      · cases (if_pos hb).symm.trans z
        subst hb
        exact ⟨obj, by rw [List.length_map]; exact short, us, _, vi, obj⟩
      · cases (if_neg hb).symm.trans z
    · by_cases hb : b = a
      · exact hb
      · exact absurd (if_neg hb) z
theorem end_walk {l : PySem.W.OpenLaw} {n k : Nat} {q : Program} {loose : List Str} {XP : (Str → Option Value) → Heap → Prop} {YP : World → Heap → Prop} {d : DefRec} {x : Str}
    (hn : l.most = some n) (hn2 : n ≤ sizeLine) (hdf : d.params.defaults = []) (room : Room k callerA)
    (F : ∀ (w : World) (mg : Str → Option Value) (fa : Addr) (h : Heap), YP w h → h.Ns mainGlobals mg → mg d.name = some (.ref fa) →
      ∃ (K : PySem.W.Frag) (fd : FuncData) (sp : Spg), K.In h ∧ (∀ (s : Shared) (u : Value), BindsTo s fd ⟨[u], []⟩ [(x, u)]) ∧
        (∀ (H : Hp) (a : Addr) (is : List Int), is.length ≤ n → (∀ z ∈ is, Builtin.Int.intBits z ≤ 1048576) → SqL K H a (is.map V.int) → sp [.ref a] H (fun v _ => v = .bl true)) ∧
        ∀ base : Heap, K.In base → base.Ns mainGlobals mg → FnG l.prog w K mg base k fa fd [x] sp) :
    PySem.W.WalkO q loose XP YP l.row.toRowW d [] (fun f vs => PySem.call f vs) := by
  refine Att.attach_callB hn hdf fun w s0 s1 mg mb fa o pm cd doc a us is G Y ho hd hcd hmg hobj hi hl hb hg => ?_
  obtain ⟨K, fd, sp, kin, b1, gd, hF⟩ := F w mg fa _ Y G.T.g hmg
  exact end_call kin G.T.g G.T.b G.T.builtins G.T.nolimit hg hobj hi (Nat.le_trans hl hn2) room hF b1 (fun H sq => gd H a is hl hb sq)
/-- the script, a list that is shared -/
theorem script_sp {W : Wo} {cl : Cl} {f : Nat} {H : Hp} {a : Addr} {is : List Int} {outs : List D} (sq : SqL W.K H a (is.map V.int)) (hc : cl f [dL false (is.map dI)] = some (dB true, outs)) : spV W cl f [.ref a] H (fun v _ => v = .bl true) := by
  have ev : vals (is.map tI) = is.map V.int := by
    unfold vals; rw [List.map_map]; rfl
  have ee : (is.map tI).map er = is.map dI := by
    rw [List.map_map]; exact List.map_congr_left fun i _ => e_int i
  have ec : cellsL W (is.map tI) = [] := (cellsL_nil_iff W).mpr fun x hx => by
    obtain ⟨i, _, rfl⟩ := List.mem_map.mp hx
    exact c_int i
  refine ⟨H, [], [.nd (.lst a false) (is.map tI)], dB true, outs, rfl, fun u hu => ?_, ?_, ?_, fun B' H' u us' x g o _ eu _ _ => ?_⟩
  · rw [List.mem_singleton] at hu
    subst hu
    refine .mk ⟨by rw [ev]; exact sq, ec⟩ fun t ht => ?_
    obtain ⟨i, _, rfl⟩ := List.mem_map.mp ht
    exact ok_int i
  · have : cellsL W [Tr.nd (TT'.lst a false) (is.map tI)] ++ [] = [] := by
      rw [List.append_nil, cellsL, cells_nd, ec]; rfl
    rw [this]
    exact ⟨Ext.refl H, fun c hc => by simp at hc, fun c hc => by simp at hc, by simp⟩
  · show cl f [er (Tr.nd (TT'.lst a false) (is.map tI))] = _
    rw [er_nd, ee]
    exact hc
  · obtain ⟨g', ts, rfl, h1, h2⟩ := er_inv eu
    cases g' <;> try (simp [TT'.er] at h1)
    subst h1
    rfl
end VI
/-! WJ -/
noncomputable section
namespace VI
open PySem L2 PyProof.Rows

/-! ## tables: what a program's top leaves, read off a part of the heap -/
inductive Loc where
  | fn (x : Str)
  | mt (C m : Str)
  | pr (C m : Str)
structure Df where
  key : Nat
  loc : Loc
  name : Str
  qual : Str
  st : Stmt
  N : List Str
structure Cd where
  num : Nat
  name : Str
  mro : List Str
  ini : Option Nat
  mth : List (Nat × Nat)
  prp : List (Nat × Nat)
  isf : List Nat
  dnd : List (Nat × Nat)
structure Pk where
  defs : List Df
  fns : List (Str × Nat)
  cds : List Cd
  cons : List (Str × Nat)
  cval : List (Nat × D)
  nms : List Str
  kwf : List ((Nat × Nat × List Str) × List Nat)
  kwm : List ((Nat × Nat × List Str) × List Nat)
  blt : List Str
  deflt : Cd

def adr (K : PySem.W.Frag) : Loc → Addr
  | .fn x => He.ga K x
  | .mt C m => He.ma K (He.ga K C) m
  | .pr C m => match PySem.W.recIn K (He.ma K (He.ga K C) m) "property" with
    | some (.ref g :: _) => g
    | _ => 0
def lkF (K : PySem.W.Frag) (a : Addr) : Option FuncData := match K.lookup a with
  | some ⟨_, _, .func fd, _⟩ => some fd
  | _ => none
abbrev FnO : Type := Option (Str × Str × Arguments × FuncBody × Scope × Addr × List (Str × Addr) × Addr)
def fnO (K : PySem.W.Frag) (a : Addr) : FnO := (lkF K a).map fun fd => (fd.name, fd.qualname, fd.params, fd.body, fd.scope, fd.globals, fd.closure, fd.builtins)
def Df.val (d : Df) : FnO := some (d.name, d.qual, defArgs d.st, .stmts (defBody d.st), defScope d.st, mainGlobals, [], builtinsNs)
def isNo : Value → Bool
  | .none => true
  | _ => false
def Df.ok (K : PySem.W.Frag) (d : Df) : Bool := PySem.W.keepIn K (.ref (adr K d.loc)) && match lkF K (adr K d.loc) with
  | some fd => PySem.W.codeIn K fd.code d.qual && isNo fd.defaults
  | none => false
theorem Df.fun_ {K : PySem.W.Frag} {d : Df} (e : fnO K (adr K d.loc) = d.val) (c : d.ok K = true) : Fun K d.name d.qual d.st (adr K d.loc) ((lkF K (adr K d.loc)).getD default) := by
  unfold Df.ok at c
  rw [Bool.and_eq_true] at c
  obtain ⟨kp, c⟩ := c
  unfold fnO Df.val at e
  cases q : lkF K (adr K d.loc) with
  | none => rw [q] at c; cases c
  | some fd =>
    rw [q] at c e
    have c : (PySem.W.codeIn K fd.code d.qual && isNo fd.defaults) = true := c
    rw [Bool.and_eq_true] at c
    obtain ⟨c1, c2⟩ := c
    unfold lkF at q
    split at q
    · rename_i oc od fd' osl hl
      cases q
      obtain ⟨n1, n2, n3, n4, n5, n6, n7, n8, n9, n10, n11, n12, n13, n14, n15⟩ := fd
      simp only [Option.map_some, Option.some.injEq, Prod.mk.injEq] at e
      obtain ⟨h1, h2, h3, h4, h5, h6, h7, h9⟩ := e
      have h8 : n8 = .none := by
        cases n8 <;> first | rfl | cases c2
      subst h1 h2 h3 h4 h5 h6 h7 h8 h9
      exact ⟨⟨oc, od, n9, n10, n11, n12, n13, n14, osl, rfl, hl, c1⟩, kp⟩
    · cases q

/-! ### plain parameters bind -/
def plainA (p : Arguments) : Bool := p.posonlyargs.isEmpty && p.vararg.isNone && p.kwonlyargs.isEmpty && p.kw_defaults.isEmpty && p.kwarg.isNone && p.defaults.isEmpty
def namesA (p : Arguments) : List Str := p.args.map (·.arg)

theorem lookup_zip_some {α : Type} : ∀ {ps : List Str} {us : List α} {n : Str}, us.length = ps.length → n ∈ ps → ((ps.zip us).lookup n).isNone = false
  | [], _, _, _, h => by cases h
  | p :: ps, [], _, h, _ => by cases h
  | p :: ps, u :: us, n, hl, h => by
    rw [List.zip_cons_cons, List.lookup_cons]
    by_cases e : n = p
    · subst e; simp
    · rw [show (n == p) = false from beq_eq_false_iff_ne.mpr e]
      exact lookup_zip_some (by simpa using hl) ((List.mem_cons.mp h).resolve_left e)
theorem fm_congr {α β : Type} {f g : α → Option β} : ∀ {l : List α}, (∀ x ∈ l, f x = g x) → l.filterMap f = l.filterMap g
  | [], _ => rfl
  | x :: l, h => by rw [List.filterMap_cons, List.filterMap_cons, h x List.mem_cons_self, fm_congr fun y hy => h y (List.mem_cons_of_mem _ hy)]
theorem filterMap_zip {α : Type} : ∀ {ps : List Str} {us : List α} (_ : us.length = ps.length) (_ : ps.Nodup), ps.filterMap (fun n => ((ps.zip us).lookup n).map (n, ·)) = ps.zip us
  | [], us, _, _ => by cases us <;> rfl
  | p :: ps, [], h, _ => by cases h
  | p :: ps, u :: us, hl, hd => by
    rw [List.nodup_cons] at hd
    have e1 : ((p :: ps).zip (u :: us)).lookup p = some u := by rw [List.zip_cons_cons, List.lookup_cons]; simp
    rw [List.filterMap_cons, e1, List.zip_cons_cons]
    show (p, u) :: _ = _
    congr 1
    refine Eq.trans (fm_congr fun n hn => ?_) (filterMap_zip (ps := ps) (us := us) (by simpa using hl) hd.2)
    rw [List.lookup_cons, show (n == p) = false from beq_eq_false_iff_ne.mpr fun e => hd.1 (e ▸ hn)]
theorem bind_plain {x qual : Str} {p : Arguments} {body : List Stmt} {scope : Scope} {kV doc pm cdv ct : Value} {an : Option Addr} {us : List Value} (hp : plainA p = true) (hn : (namesA p).Nodup) (hl : us.length = (namesA p).length) :
    bindArgs (PySem.W.fnOf x qual p body scope .none kV doc pm an cdv ct) ⟨us, []⟩ = pure ((namesA p).zip us) := by
  obtain ⟨po, ar, va, ko, kd, kw, df⟩ := p
  unfold plainA at hp
  simp only [Bool.and_eq_true, List.isEmpty_iff, Option.isNone_iff_eq_none] at hp
  obtain ⟨⟨⟨⟨⟨h1, h2⟩, h3⟩, h4⟩, h5⟩, h6⟩ := hp
  subst h1 h2 h3 h4 h5 h6
  have hlen : us.length = (ar.map (·.arg)).length := hl
  have hmis : (ar.map (·.arg)).filter (fun n => (((ar.map (·.arg)).zip us).lookup n).isNone) = [] := by
    rw [List.filter_eq_nil_iff]
    intro n hn'
    rw [lookup_zip_some hlen hn']
    simp
  have hbi : (ar.map (·.arg)).filterMap (fun n => (((ar.map (·.arg)).zip us).lookup n).map (n, ·)) = (ar.map (·.arg)).zip us := filterMap_zip hlen hn
  have hst : notAStandIn Value.none = pure () := rfl
  unfold bindArgs PySem.W.fnOf namesA
  simp only [List.map_nil, List.nil_append, List.append_nil, List.forIn_nil, pure_bind, seqItems?, hst, Option.getD_none, List.length_nil, Nat.sub_zero, List.drop_nil, List.zip_nil_right, hlen, gt_iff_lt, Nat.lt_irrefl, decide_false, Bool.false_and, Bool.false_eq_true, if_false, List.take_length, hmis, List.isEmpty_nil, Bool.not_true, hbi]

/-! ### the static part of a package -/
section
variable (pk : Pk)
def Pk.cd (c : Nat) : Option Cd := pk.cds.find? fun d => d.num == c
def Pk.cdN (c : Nat) : Cd := (pk.cd c).getD pk.deflt
def Pk.phi : Prg where
  mth c m := (pk.cd c).bind fun d => d.mth.lookup m
  prp c m := (pk.cd c).bind fun d => d.prp.lookup m
  ini c := (pk.cd c).bind fun d => d.ini
  con n := pk.cval.lookup n
  isf c f := match pk.cd c with
    | some d => d.isf.contains f
    | none => false
  dnd c k := (pk.cd c).bind fun d => d.dnd.lookup k
  sub a b := (pk.cdN a).mro.contains (pk.cdN b).name
def Pk.sy : Sy := ⟨pk.fns, pk.cds.map fun d => (d.name, d.num), pk.cons, stdNms ++ pk.nms, pk.kwf, pk.kwm, pk.blt⟩
def Pk.df (k : Nat) : Option Df := pk.defs.find? fun d => d.key == k
def Pk.fa (K : PySem.W.Frag) (k : Nat) : Addr := match pk.df k with
  | some d => adr K d.loc
  | none => 0
def Pk.fd (K : PySem.W.Frag) (k : Nat) : FuncData := (lkF K (pk.fa K k)).getD default
def Pk.ps (k : Nat) : List Str := match pk.df k with
  | some d => namesA (defArgs d.st)
  | none => []
def Pk.ca (K : PySem.W.Frag) (c : Nat) : Addr := He.ga K (pk.cdN c).name
def freshN (i : Nat) : Str := ⟨(List.replicate (1000 + i) 35).toArray⟩
def Pk.nm (i : Nat) : Str := ((stdNms ++ pk.nms)[i]?).getD (freshN i)
def Pk.nmOk : Bool := decide (stdNms ++ pk.nms).Nodup && List.all (stdNms ++ pk.nms) (fun (x : Str) => decide (x.cps.size < 1000))
end
theorem Pk.inj {pk : Pk} (h : pk.nmOk = true) (a b : Nat) (e : pk.nm a = pk.nm b) : a = b := by
  unfold Pk.nmOk at h
  rw [Bool.and_eq_true] at h
  obtain ⟨h1, h2⟩ := h
  have h1 := of_decide_eq_true h1
  have lt : ∀ (i : Nat) (x : Str), (stdNms ++ pk.nms)[i]? = some x → x.cps.size < 1000 := fun i x hx => of_decide_eq_true (List.all_eq_true.mp h2 x (List.mem_of_getElem? hx))
  have fs : ∀ i, (freshN i).cps.size = 1000 + i := fun i => by simp [freshN]
  unfold Pk.nm at e
  cases ha : (stdNms ++ pk.nms)[a]? with
  | some x =>
    cases hb : (stdNms ++ pk.nms)[b]? with
    | some y =>
      rw [ha, hb] at e
      have e : x = y := e
      subst e
      obtain ⟨la, ea⟩ := List.getElem?_eq_some_iff.mp ha
      obtain ⟨lb, eb⟩ := List.getElem?_eq_some_iff.mp hb
      exact (List.getElem_inj h1).mp (ea.trans eb.symm)
    | none =>
      rw [ha, hb] at e
      have e : x = freshN b := e
      have := lt a x ha
      rw [e, fs] at this
      omega
  | none =>
    cases hb : (stdNms ++ pk.nms)[b]? with
    | some y =>
      rw [ha, hb] at e
      have e : freshN a = y := e
      have := lt b y hb
      rw [← e, fs] at this
      omega
    | none =>
      rw [ha, hb] at e
      have e : freshN a = freshN b := e
      have := congrArg (fun (z : Str) => z.cps.size) e
      have this : (freshN a).cps.size = (freshN b).cps.size := this
      rw [fs, fs] at this
      omega

/-! ### constants -/
def atomT : D → Option T
  | .nd (.int i) [] => some (tI i)
  | .nd (.str s) [] => some (.nd (.str s) [])
  | .nd (.bl b) [] => some (tB' b)
  | _ => none
def atomsT : List D → Option (List T)
  | [] => some []
  | d :: ds => (atomT d).bind fun t => (atomsT ds).map fun ts => t :: ts
def tupV (K : PySem.W.Frag) (a : Addr) (vs : List V) : Bool := match K.lookup a with
  | some ⟨.type c, _, .seq its _, _⟩ => decide (c = "tuple") && (decide (its.size ≤ sizeLine) && He.relAll vs its.toList)
  | _ => false
theorem tupV_ok {K : PySem.W.Frag} {a : Addr} {vs : List V} (h : tupV K a vs = true) (H : Hp) : SqT K H a vs := by
  unfold tupV at h
  split at h
  · rename_i c od its n osl q
    rw [Bool.and_eq_true, Bool.and_eq_true] at h
    exact .inr ⟨_, its, n, q, congrArg Value.type (of_decide_eq_true h.1), rfl, of_decide_eq_true h.2.1, He.relAll_ok h.2.2⟩
  · cases h
def valB (K : PySem.W.Frag) (x : Str) (v : V) : Bool := match PySem.W.nsIn K mainGlobals x with
  | some (some u) => He.relB v u
  | _ => false
def conB (K : PySem.W.Frag) (x : Str) (d : D) : Bool := match d with
  | .nd .tup ds => match atomsT ds with
    | some ts => valB K x (.ref (He.ga K x)) && tupV K (He.ga K x) (vals ts)
    | none => false
  | d => match atomT d with
    | some t => valB K x (val t)
    | none => false
theorem atomT_ok {W : Wo} {d : D} {t : T} (h : atomT d = some t) : er t = d ∧ cells W t = [] ∧ ∀ B, Ok W B t := by
  unfold atomT at h
  split at h
  · cases h; exact ⟨e_int _, c_int _, fun B => ok_int _⟩
  · cases h
    refine ⟨by rw [er_nd]; rfl, by rw [cells_nd]; rfl, fun B => .mk rfl fun _ h => absurd h (by simp)⟩
  · cases h; exact ⟨e_bl _, c_bl _, fun B => ok_bl _⟩
  · cases h
theorem atomsT_ok {W : Wo} : ∀ {ds : List D} {ts : List T}, atomsT ds = some ts → ts.map er = ds ∧ cellsL W ts = [] ∧ ∀ B, ∀ t ∈ ts, Ok W B t
  | [], ts, h => by cases h; exact ⟨rfl, rfl, fun B t h => absurd h (by simp)⟩
  | d :: ds, ts, h => by
    rw [atomsT] at h
    obtain ⟨t, h1, h2⟩ := obind h
    obtain ⟨ts', h3, h4⟩ := omap h2
    subst h4
    obtain ⟨a1, a2, a3⟩ := atomT_ok (W := W) h1
    obtain ⟨b1, b2, b3⟩ := atomsT_ok (W := W) h3
    refine ⟨by rw [List.map_cons, a1, b1], by rw [cellsL, a2, b2]; rfl, fun B u hu => ?_⟩
    rcases List.mem_cons.mp hu with rfl | hu
    · exact a3 B
    · exact b3 B u hu
theorem valB_ok {K : PySem.W.Frag} {h : Heap} {mg : Str → Option Value} {x : Str} {v : V} (X : K.In h) (G : h.Ns mainGlobals mg) (c : valB K x v = true) : ∃ u, mg x = some u ∧ RelV v u := by
  unfold valB at c
  split at c
  · rename_i u hu
    exact ⟨u, PySem.W.mg_of X G hu, He.relB_ok c⟩
  · cases c
theorem conB_ok {W : Wo} {h : Heap} {mg : Str → Option Value} {x : Str} {d : D} (X : W.K.In h) (G : h.Ns mainGlobals mg) (c : conB W.K x d = true) :
    ∃ (t : T) (u : Value), mg x = some u ∧ RelV (val t) u ∧ er t = d ∧ cells W t = [] ∧ ∀ B, Ok W B t := by
  unfold conB at c
  split at c
  · rename_i ds
    split at c
    · rename_i ts hts
      rw [Bool.and_eq_true] at c
      obtain ⟨b1, b2, b3⟩ := atomsT_ok (W := W) hts
      obtain ⟨u, h1, h2⟩ := valB_ok X G c.1
      refine ⟨.nd (.tup (He.ga W.K x)) ts, u, h1, h2, by rw [er_nd, b1]; rfl, by rw [cells_nd, b2]; rfl, fun B => .mk ⟨tupV_ok c.2 B, b2⟩ (b3 B)⟩
    · cases c
  · split at c
    · rename_i t ht
      obtain ⟨a1, a2, a3⟩ := atomT_ok (W := W) ht
      obtain ⟨u, h1, h2⟩ := valB_ok X G c
      exact ⟨t, u, h1, h2, a1, a2, a3⟩
    · cases c
end VI
/-! WL -/
noncomputable section
namespace VI
open PySem L2 PyProof.Rows
open He (eqO eqO_ok ga ma)

/-! ## what is looked at: one answer, yes or no -/
def bTys : List Ty := [.int, .bool, .str, .list, .tuple, .dict]
def oTys : List (Option Ty) := [none, some .int, some .bool, some .str, some .list, some .tuple, some .dict]
def phi0 : Prg := ⟨fun _ _ => none, fun _ _ => none, fun _ => none, fun _ => none, fun _ _ => false, fun _ _ => none, fun _ _ => false⟩
def is1 (o : Option Bool) (b : Bool) : Bool := decide (o = some b)
def metB (K : PySem.W.Frag) (C : Addr) (m : Str) (f : Addr) : Bool := eqO (PySem.W.findIn K (.ref C) m) (some (some (.ref f))) && (PySem.W.isFn K (.ref f) && PySem.W.keepIn K (.ref f))
def prpB (K : PySem.W.Frag) (C : Addr) (m : Str) (f : Addr) : Bool := eqO (PySem.W.findIn K (.ref C) m) (some (some (.ref (ma K C m)))) && (eqO (PySem.W.specialIn K (.ref (ma K C m)) "__get__") (some (some (.builtin "property.__get__"))) &&
  (is1 (PySem.W.takesIn K (.ref (ma K C m))) true && match PySem.W.recIn K (ma K C m) "property" with
    | some (.ref g :: _) => decide (g = f)
    | _ => false))
def iniB (K : PySem.W.Frag) (C f : Addr) : Bool := PySem.W.makesIn K C && (eqO (PySem.W.findIn K (.ref C) "__init__") (some (some (.ref f))) && (PySem.W.isFn K (.ref f) && PySem.W.keepIn K (.ref C)))
def dndB (K : PySem.W.Frag) (C f : Addr) (m : Str) : Bool := eqO (PySem.W.findIn K (.ref C) m) (some (some (.ref f))) && (PySem.W.isFn K (.ref f) && PySem.W.selfFirst K C)
def clsB (K : PySem.W.Frag) (C : Addr) : Bool := PySem.W.plainGet K C Str.empty && (PySem.W.hasDictIn K C && (PySem.W.plainOver K C && (eqO (PySem.W.findIn K (.ref C) "__setattr__") (some (some (.builtin "object.__setattr__"))) &&
  (eqO (PySem.W.findIn K (.ref C) "__class__") (some (some (.builtin "object.__class__"))) && (eqO (PySem.W.specialIn K (.builtin "object.__class__") "__get__") (some (some (.builtin "getset_descriptor.__get__"))) &&
  (is1 (PySem.W.takesIn K (.builtin "object.__class__")) true && is1 (PySem.W.mroIn K C (.type "object")) true))))))
section
variable (pk : Pk) (K : PySem.W.Frag)
def Pk.has (k : Nat) : Bool := (pk.df k).isSome
def Pk.cdB (d : Cd) : Bool := eqO (PySem.W.nsIn K mainGlobals d.name) (some (some (.ref (ga K d.name)))) && (clsB K (ga K d.name) && ((match d.ini with
    | some f => iniB K (ga K d.name) (pk.fa K f) && pk.has f
    | none => true) && ((d.mth.all fun e => metB K (ga K d.name) (pk.nm e.1) (pk.fa K e.2) && pk.has e.2) && ((d.prp.all fun e => prpB K (ga K d.name) (pk.nm e.1) (pk.fa K e.2) && pk.has e.2) &&
    ((d.isf.all fun f => eqO (PySem.W.findIn K (.ref (ga K d.name)) (pk.nm f)) (some none)) && (d.dnd.all fun e => dndB K (ga K d.name) (pk.fa K e.2) (dndN e.1) && pk.has e.2))))))
def Pk.all : List Cd := pk.deflt :: pk.cds
def Pk.tyB : Bool := (oTys.all fun a => bTys.all fun t => is1 (PySem.W.kitOne K (tyO (fun _ => 0) a) (tyU (fun _ => 0) t)) (isiO phi0 a t)) && (
  (oTys.all fun a => pk.all.all fun d => is1 (PySem.W.kitOne K (tyO (fun _ => 0) a) (.ref (ga K d.name))) false && is1 (PySem.W.subIn K (tyO (fun _ => 0) a) (.ref (ga K d.name))) false) && (
  (pk.all.all fun d => bTys.all fun t => is1 (PySem.W.kitOne K (.ref (ga K d.name)) (tyU (fun _ => 0) t)) false) && (
  (pk.all.all fun d => pk.all.all fun d' => is1 (PySem.W.kitOne K (.ref (ga K d.name)) (.ref (ga K d'.name))) (d.mro.contains d'.name) && is1 (PySem.W.subIn K (.ref (ga K d.name)) (.ref (ga K d'.name))) (d.mro.contains d'.name)) &&
  (pk.cds.all fun d => pk.cds.all fun d' => decide (d.num = d'.num) || decide (ga K d.name ≠ ga K d'.name)))))
def Pk.okB : Bool := (pk.fns.all fun e => eqO (PySem.W.nsIn K mainGlobals e.1) (some (some (.ref (pk.fa K e.2)))) && pk.has e.2) && ((pk.all.all fun d => pk.cdB K d && decide ((pk.cdN d.num).name = d.name)) && ((pk.cons.all fun e => match pk.cval.lookup e.2 with
    | some d => conB K e.1 d
    | none => true) && ((pk.blt.all fun x => eqO (PySem.W.nsIn K mainGlobals x) (some none)) && pk.tyB K)))
end
/-- what is said of calls with keywords -/
def BindKw (d : Df) (n : Nat) (ks : List Str) (pm : List Nat) : Prop := ∀ (x qual : Str) (kV doc md cdv ct : Value) (an : Option Addr) (us ws l : List Value), us.length = n → ws.length = ks.length → permL pm (us ++ ws) = some l →
  bindArgs (PySem.W.fnOf x qual (defArgs d.st) (defBody d.st) (defScope d.st) .none kV doc md an cdv ct) ⟨us, ks.zip ws⟩ = pure ((namesA (defArgs d.st)).zip l)
def BindKwM (d : Df) (n : Nat) (ks : List Str) (pm : List Nat) : Prop := ∀ (x qual : Str) (kV doc md cdv ct : Value) (an : Option Addr) (u : Value) (us ws l : List Value), us.length = n → ws.length = ks.length → permL pm (us ++ ws) = some l →
  bindArgs (PySem.W.fnOf x qual (defArgs d.st) (defBody d.st) (defScope d.st) .none kV doc md an cdv ct) ⟨u :: us, ks.zip ws⟩ = pure ((namesA (defArgs d.st)).zip (u :: l))
/-- what is true of the text alone -/
structure Pk.Static (pk : Pk) : Prop where
  nm : pk.nmOk = true
  plain : ∀ d ∈ pk.defs, plainA (defArgs d.st) = true ∧ (namesA (defArgs d.st)).Nodup
  kwf : ∀ f n ks pm, pk.kwf.lookup (f, n, ks) = some pm → ∃ d, pk.df f = some d ∧ BindKw d n ks pm
  kwm : ∀ c f n ks pm, pk.phi.ini c = some f → pk.kwm.lookup (c, n, ks) = some pm → ∃ d, pk.df f = some d ∧ BindKwM d n ks pm
structure Pk.Says (pk : Pk) (K : PySem.W.Frag) : Prop where
  ok : pk.okB K = true
  defs : ∀ d ∈ pk.defs, d.ok K = true ∧ fnO K (adr K d.loc) = d.val
def Pk.gb (pk : Pk) (st : pk.Static) (P : Program) (w : World) (K : PySem.W.Frag) (mg : Str → Option Value) (base : Heap) : Gb :=
  ⟨P, w, K, mg, base, ⟨pk.ca K, pk.nm, Pk.inj st.nm⟩, pk.sy, pk.phi, pk.fa K, pk.fd K, pk.ps⟩

section
variable {pk : Pk} {K : PySem.W.Frag} {h : Heap} {mg : Str → Option Value} {P : Program} {w : World} {base : Heap}
theorem and2 {a b : Bool} (h : (a && b) = true) : a = true ∧ b = true := Bool.and_eq_true_iff.mp h
theorem is1_ok {o : Option Bool} {b : Bool} (h : is1 o b = true) : o = some b := of_decide_eq_true h
theorem Pk.df_mem {k : Nat} {d : Df} (h : pk.df k = some d) : d ∈ pk.defs := List.mem_of_find?_eq_some h
theorem Pk.cd_mem {c : Nat} {d : Cd} (h : pk.cd c = some d) : d ∈ pk.cds ∧ d.num = c := ⟨List.mem_of_find?_eq_some h, by have := List.find?_some h; exact beq_iff_eq.mp this⟩
theorem Pk.cd_all {c : Nat} {d : Cd} (h : pk.cd c = some d) : d ∈ pk.all := List.mem_cons_of_mem _ (Pk.cd_mem h).1
theorem Pk.cdN_all (c : Nat) : pk.cdN c ∈ pk.all := by
  unfold Pk.cdN
  cases h : pk.cd c with
  | none => exact List.mem_cons_self
  | some d => exact Pk.cd_all h
theorem Pk.cd_ca {c : Nat} {d : Cd} (h : pk.cd c = some d) : pk.ca K c = ga K d.name := by
  unfold Pk.ca Pk.cdN
  rw [h]; rfl
theorem lookup_memL {α β : Type} [BEq α] [LawfulBEq α] : ∀ {l : List (α × β)} {a : α} {b : β}, l.lookup a = some b → (a, b) ∈ l
  | [], _, _, h => by cases h
  | (x, y) :: l, a, b, h => by
    rw [List.lookup_cons] at h
    split at h
    · rename_i e
      cases h
      rw [beq_iff_eq.mp e]
      exact List.mem_cons_self
    · exact List.mem_cons_of_mem _ (lookup_memL h)
theorem Pk.has_df {k : Nat} (h : pk.has k = true) : ∃ d, pk.df k = some d := Option.isSome_iff_exists.mp h
theorem Pk.fun_ (s : pk.Says K) {k : Nat} {d : Df} (h : pk.df k = some d) : Fun K d.name d.qual d.st (pk.fa K k) (pk.fd K k) := by
  have e : pk.fa K k = adr K d.loc := by unfold Pk.fa; rw [h]
  unfold Pk.fd
  rw [e]
  obtain ⟨c, v⟩ := s.defs d (Pk.df_mem h)
  exact Df.fun_ v c
theorem Pk.binds (st : pk.Static) (s : pk.Says K) {k : Nat} (h : pk.has k = true) : BindsG K (pk.fd K k) (pk.ps k) := by
  obtain ⟨d, hd⟩ := Pk.has_df h
  obtain ⟨p1, p2⟩ := st.plain d (Pk.df_mem hd)
  have F := Pk.fun_ s hd
  obtain ⟨oc, od, kV, doc, pm, an, cdv, ct, osl, e, _⟩ := F.ex
  rw [e]
  have ep : pk.ps k = namesA (defArgs d.st) := by unfold Pk.ps; rw [hd]
  rw [ep]
  exact fun s us _ hl => .of_eq (bind_plain p1 p2 hl)
theorem Pk.keep (s : pk.Says K) {k : Nat} (h : pk.has k = true) : PySem.W.keepIn K (.ref (pk.fa K k)) = true := by
  obtain ⟨d, hd⟩ := Pk.has_df h
  exact (Pk.fun_ s hd).kp
theorem Pk.cdB_ok (s : pk.Says K) {d : Cd} (h : d ∈ pk.all) : pk.cdB K d = true := (and2 (List.all_eq_true.mp (and2 (and2 s.ok).2).1 d h)).1
theorem Pk.tyB_ok (s : pk.Says K) : pk.tyB K = true := (and2 (and2 (and2 (and2 s.ok).2).2).2).2
theorem clsB_ok {C : Addr} (c : clsB K C = true) : ClsX K C := by
  obtain ⟨c1, c⟩ := and2 c
  obtain ⟨c2, c⟩ := and2 c
  obtain ⟨c3, c⟩ := and2 c
  obtain ⟨c4, c⟩ := and2 c
  obtain ⟨c5, c⟩ := and2 c
  obtain ⟨c6, c⟩ := and2 c
  obtain ⟨c7, c8⟩ := and2 c
  exact ⟨⟨c1, c2, c3, eqO_ok c4⟩, eqO_ok c5, eqO_ok c6, is1_ok c7, is1_ok c8⟩
theorem tyO_b {ca ca' : Nat → Addr} {a : Option Ty} (h : ∀ c, a ≠ some (.cls c)) : tyO ca a = tyO ca' a ∧ a ∈ oTys := by
  cases a with
  | none => exact ⟨rfl, by decide⟩
  | some t => cases t <;> first | exact ⟨rfl, by decide⟩ | exact absurd rfl (h _)
theorem tyU_b {ca ca' : Nat → Addr} {t : Ty} (h : ∀ c, t ≠ .cls c) : tyU ca t = tyU ca' t ∧ t ∈ bTys := by
  cases t <;> first | exact ⟨rfl, by decide⟩ | exact absurd rfl (h _)
theorem Pk.gok (st : pk.Static) (s : pk.Says K) (X : K.In h) (G : h.Ns mainGlobals mg) : GOk (pk.gb st P w K mg base) where
  blt x hx := PySem.W.mg_none_of X G (eqO_ok (List.all_eq_true.mp (and2 (and2 (and2 (and2 s.ok).2).2).2).1 x hx))
  nm i x hx := by
    show pk.nm i = x
    unfold Pk.nm
    rw [show (stdNms ++ pk.nms)[i]? = some x from hx]; rfl
  con x n d hx hn := by
    have h1 := List.all_eq_true.mp (and2 (and2 (and2 s.ok).2).2).1 (x, n) (lookup_memL hx)
    have h2 : pk.cval.lookup n = some d := hn
    simp only [h2] at h1
    exact conB_ok (W := (pk.gb st P w K mg base).W) X G h1
  fn x f hx := by
    have h1 := List.all_eq_true.mp (and2 s.ok).1 (x, f) (lookup_memL hx)
    obtain ⟨h2, h3⟩ := and2 h1
    exact ⟨PySem.W.mg_of X G (eqO_ok h2), Pk.keep s h3, Pk.binds st s h3⟩
  cl x c hx := by
    have h1 : (x, c) ∈ pk.cds.map fun d => (d.name, d.num) := lookup_memL hx
    obtain ⟨d, hd, e⟩ := List.mem_map.mp h1
    cases e
    have h2 := of_decide_eq_true (and2 (List.all_eq_true.mp (and2 (and2 s.ok).2).1 d (List.mem_cons_of_mem _ hd))).2
    have h3 := eqO_ok (and2 (Pk.cdB_ok s (List.mem_cons_of_mem _ hd))).1
    show mg d.name = some (.ref (ga K (pk.cdN d.num).name))
    rw [h2]
    exact PySem.W.mg_of X G h3
  clx c := clsB_ok (and2 (and2 (Pk.cdB_ok s (Pk.cdN_all c))).2).1
  mke c f hf := by
    obtain ⟨d, h1, h2⟩ := obind hf
    have hc := Pk.cdB_ok s (Pk.cd_all h1)
    obtain ⟨c1, _⟩ := and2 (and2 (and2 hc).2).2
    rw [h2] at c1
    obtain ⟨c2, c3⟩ := and2 c1
    show Mk K (pk.ca K c) (pk.fa K f) ∧ BindsG K (pk.fd K f) (pk.ps f)
    rw [Pk.cd_ca h1]
    obtain ⟨a1, a⟩ := and2 c2
    obtain ⟨a2, a⟩ := and2 a
    obtain ⟨a3, a4⟩ := and2 a
    exact ⟨⟨a1, eqO_ok a2, a3, a4⟩, Pk.binds st s c3⟩
  mth c m f hf := by
    obtain ⟨d, h1, h2⟩ := obind hf
    have hc := Pk.cdB_ok s (Pk.cd_all h1)
    obtain ⟨_, c⟩ := and2 (and2 (and2 hc).2).2
    obtain ⟨c1, _⟩ := and2 c
    obtain ⟨c2, c3⟩ := and2 (List.all_eq_true.mp c1 (m, f) (lookup_memL h2))
    show Meth K (pk.ca K _) (pk.nm m) (pk.fa K f) ∧ BindsG K (pk.fd K f) (pk.ps f)
    rw [Pk.cd_ca h1]
    obtain ⟨a1, a⟩ := and2 c2
    obtain ⟨a2, a3⟩ := and2 a
    exact ⟨⟨eqO_ok a1, a2, a3⟩, Pk.binds st s c3⟩
  prp c m f hf := by
    obtain ⟨d, h1, h2⟩ := obind hf
    have hc := Pk.cdB_ok s (Pk.cd_all h1)
    obtain ⟨_, c⟩ := and2 (and2 (and2 hc).2).2
    obtain ⟨_, c⟩ := and2 c
    obtain ⟨c1, _⟩ := and2 c
    obtain ⟨c2, c3⟩ := and2 (List.all_eq_true.mp c1 (m, f) (lookup_memL h2))
    show ∃ q, PropOf K (pk.ca K _) (pk.nm m) q (pk.fa K f) ∧ BindsG K (pk.fd K f) (pk.ps f)
    rw [Pk.cd_ca h1]
    obtain ⟨a1, a⟩ := and2 c2
    obtain ⟨a2, a⟩ := and2 a
    obtain ⟨a3, a4⟩ := and2 a
    refine ⟨_, ⟨eqO_ok a1, eqO_ok a2, is1_ok a3, ?_⟩, Pk.binds st s c3⟩
    split at a4
    · rename_i g rest hg
      rw [← of_decide_eq_true a4]
      exact ⟨rest, hg⟩
    · cases a4
  fld c f hf := by
    have hf : (match pk.cd c with
      | some d => d.isf.contains f
      | none => false) = true := hf
    split at hf
    · rename_i d h1
      have hc := Pk.cdB_ok s (Pk.cd_all h1)
      obtain ⟨_, c⟩ := and2 (and2 (and2 hc).2).2
      obtain ⟨_, c⟩ := and2 c
      obtain ⟨_, c⟩ := and2 c
      obtain ⟨c1, _⟩ := and2 c
      show NoAttr K (pk.ca K _) (pk.nm f)
      rw [Pk.cd_ca h1]
      exact eqO_ok (List.all_eq_true.mp c1 f (by simpa using hf))
    · cases hf
  dnd c k f hf := by
    obtain ⟨d, h1, h2⟩ := obind hf
    have hc := Pk.cdB_ok s (Pk.cd_all h1)
    obtain ⟨_, c⟩ := and2 (and2 (and2 hc).2).2
    obtain ⟨_, c⟩ := and2 c
    obtain ⟨_, c⟩ := and2 c
    obtain ⟨_, c1⟩ := and2 c
    obtain ⟨c2, c3⟩ := and2 (List.all_eq_true.mp c1 (k, f) (lookup_memL h2))
    obtain ⟨a1, a⟩ := and2 c2
    obtain ⟨a2, a3⟩ := and2 a
    show PySem.W.findIn K (.ref (pk.ca K _)) (dndN k) = some (some (.ref (pk.fa K f))) ∧ PySem.W.isFn K (.ref (pk.fa K f)) = true ∧ PySem.W.selfFirst K (pk.ca K _) = true ∧ BindsG K (pk.fd K f) (pk.ps f)
    rw [Pk.cd_ca h1]
    exact ⟨eqO_ok a1, a2, a3, Pk.binds st s c3⟩
  sbk a c f hf := by
    obtain ⟨d, h1, h2⟩ := obind hf
    have ht := Pk.tyB_ok s
    show PySem.W.subIn K (tyO (pk.ca K) a) (.ref (pk.ca K c)) = some (subO pk.phi a c)
    obtain ⟨t1, t⟩ := and2 ht
    obtain ⟨t2, t⟩ := and2 t
    obtain ⟨t3, t⟩ := and2 t
    obtain ⟨t4, t5⟩ := and2 t
    by_cases hc : ∃ c', a = some (.cls c')
    · obtain ⟨c', rfl⟩ := hc
      exact is1_ok (and2 (List.all_eq_true.mp (List.all_eq_true.mp t4 _ (Pk.cdN_all c')) _ (Pk.cdN_all c))).2
    · obtain ⟨e1, e2⟩ := tyO_b (ca := pk.ca K) (ca' := fun _ => 0) (a := a) fun c' e => hc ⟨c', e⟩
      rw [e1]
      have := is1_ok (and2 (List.all_eq_true.mp (List.all_eq_true.mp t2 _ e2) _ (Pk.cdN_all c))).2
      refine this.trans ?_
      cases a with
      | none => rfl
      | some t => cases t <;> first | rfl | exact absurd ⟨_, rfl⟩ hc
  sne c c' f f' hf hf' ne := by
    obtain ⟨d, h1, h2⟩ := obind hf
    obtain ⟨d', h1', h2'⟩ := obind hf'
    obtain ⟨_, t⟩ := and2 (Pk.tyB_ok s)
    obtain ⟨_, t⟩ := and2 t
    obtain ⟨_, t⟩ := and2 t
    obtain ⟨_, t5⟩ := and2 t
    show pk.ca K c' ≠ pk.ca K c
    rw [Pk.cd_ca h1, Pk.cd_ca h1']
    have := List.all_eq_true.mp (List.all_eq_true.mp t5 d' (Pk.cd_mem h1').1) d (Pk.cd_mem h1).1
    rw [Bool.or_eq_true] at this
    rcases this with z | z
    · have z := of_decide_eq_true z
      rw [(Pk.cd_mem h1').2, (Pk.cd_mem h1).2] at z
      exact absurd z ne
    · exact of_decide_eq_true z
  kwf f n ks pm hk s' us ws l _ h1 h2 h3 := by
    obtain ⟨d, hd, hb⟩ := st.kwf f n ks pm hk
    have F := Pk.fun_ s hd
    obtain ⟨oc, od, kV, doc, md, an, cdv, ct, osl, e, _⟩ := F.ex
    show BindsTo s' (pk.fd K f) _ ((pk.ps f).zip l)
    rw [e, show pk.ps f = namesA (defArgs d.st) by unfold Pk.ps; rw [hd]]
    exact .of_eq (hb _ _ kV doc md cdv ct an us ws l h1 h2 h3)
  kwm c f n ks pm hi hk s' x us ws l _ h1 h2 h3 := by
    obtain ⟨d, hd, hb⟩ := st.kwm c f n ks pm hi hk
    have F := Pk.fun_ s hd
    obtain ⟨oc, od, kV, doc, md, an, cdv, ct, osl, e, _⟩ := F.ex
    show BindsTo s' (pk.fd K f) _ ((pk.ps f).zip (x :: l))
    rw [e, show pk.ps f = namesA (defArgs d.st) by unfold Pk.ps; rw [hd]]
    exact .of_eq (hb _ _ kV doc md cdv ct an x us ws l h1 h2 h3)
  isi a t := by
    obtain ⟨t1, t'⟩ := and2 (Pk.tyB_ok s)
    obtain ⟨t2, t'⟩ := and2 t'
    obtain ⟨t3, t'⟩ := and2 t'
    obtain ⟨t4, _⟩ := and2 t'
    show PySem.W.kitOne K (tyO (pk.ca K) a) (tyU (pk.ca K) t) = some (isiO pk.phi a t)
    by_cases hc : ∃ c', a = some (.cls c')
    · obtain ⟨c', rfl⟩ := hc
      by_cases hd : ∃ c, t = .cls c
      · obtain ⟨c, rfl⟩ := hd
        exact is1_ok (and2 (List.all_eq_true.mp (List.all_eq_true.mp t4 _ (Pk.cdN_all c')) _ (Pk.cdN_all c))).1
      · obtain ⟨e1, e2⟩ := tyU_b (ca := pk.ca K) (ca' := fun _ => 0) (t := t) fun c e => hd ⟨c, e⟩
        rw [e1]
        refine (is1_ok (List.all_eq_true.mp (List.all_eq_true.mp t3 _ (Pk.cdN_all c')) _ e2)).trans ?_
        cases t <;> first | rfl | exact absurd ⟨_, rfl⟩ hd
    · obtain ⟨e1, e2⟩ := tyO_b (ca := pk.ca K) (ca' := fun _ => 0) (a := a) fun c' e => hc ⟨c', e⟩
      rw [e1]
      by_cases hd : ∃ c, t = .cls c
      · obtain ⟨c, rfl⟩ := hd
        refine (is1_ok (and2 (List.all_eq_true.mp (List.all_eq_true.mp t2 _ e2) _ (Pk.cdN_all c))).1).trans ?_
        cases a with
        | none => rfl
        | some t => cases t <;> first | rfl | exact absurd ⟨_, rfl⟩ hc
      · obtain ⟨g1, g2⟩ := tyU_b (ca := pk.ca K) (ca' := fun _ => 0) (t := t) fun c e => hd ⟨c, e⟩
        rw [g1]
        refine (is1_ok (List.all_eq_true.mp (List.all_eq_true.mp t1 _ e2) _ g2)).trans ?_
        cases a with
        | none => cases t <;> rfl
        | some t' => cases t' <;> first | (cases t <;> first | rfl | exact absurd ⟨_, rfl⟩ hd) | exact absurd ⟨_, rfl⟩ hc
end
end VI
/-! WM -/
noncomputable section
namespace VI
open PySem L2 PyProof.Rows

/-! ## the whole: from the top's run and the evaluator's answer to the law -/
def scB (N ps : List Str) (sc : Scope) : Bool := decide (sc.kind = .function) && (!sc.isCoroutine && (!sc.isGenerator && (decide N.Nodup && (decide (N.take ps.length = ps) && ((ps.all fun x => decide (sc.names.lookup x = some .local) || decide (sc.names.lookup x = some .cell)) && sc.names.all fun y => decide (y.2 ≠ .free))))))
theorem scB_ok {N ps : List Str} {sc : Scope} (h : scB N ps sc = true) : FnScope N ps sc := by
  obtain ⟨h1, h⟩ := and2 h
  obtain ⟨h2, h⟩ := and2 h
  obtain ⟨h3, h⟩ := and2 h
  obtain ⟨h4, h⟩ := and2 h
  obtain ⟨h5, h⟩ := and2 h
  obtain ⟨h6, h7⟩ := and2 h
  refine ⟨of_decide_eq_true h1, by simpa using h2, by simpa using h3, of_decide_eq_true h4, of_decide_eq_true h5, fun x hx => ?_, fun y hy => of_decide_eq_true (List.all_eq_true.mp h7 y hy)⟩
  have := List.all_eq_true.mp h6 x hx
  rw [Bool.or_eq_true] at this
  exact this.imp of_decide_eq_true of_decide_eq_true
/-- a def's short form -/
structure DefOk (pk : Pk) (k : Nat) (F : Fd) : Prop where
  ex : ∃ d, pk.df k = some d ∧ scB d.N (namesA (defArgs d.st)) (defScope d.st) = true ∧ (namesA (defArgs d.st)).length = F.np ∧ d.N.length = F.nn ∧ (defBody d.st).map (trS pk.sy d.N 100 (defScope d.st)) = F.body
noncomputable def fi_of {pk : Pk} (st : pk.Static) {K : PySem.W.Frag} (s : pk.Says K) {P : Program} {w : World} {mg : Str → Option Value} {base : Heap} {k : Nat} {F : Fd} (h : DefOk pk k F) : FI (pk.gb st P w K mg base) k F :=
  have e := h.ex
  let d := Classical.choose e
  have g := Classical.choose_spec e
  have ep : pk.ps k = namesA (defArgs d.st) := by unfold Pk.ps; rw [g.1]
  { x := d.name, qual := d.qual, st := d.st, N := d.N
    fn := Pk.fun_ s g.1
    sc := by
      show FnScope d.N (pk.ps k) _
      rw [ep]; exact scB_ok g.2.1
    np := by
      show (pk.ps k).length = _
      rw [ep]; exact g.2.2.1
    nn := g.2.2.2.1
    body := fun cl k' mo => by
      rw [← g.2.2.2.2]
      exact map_ss (fun s => trS_ok mo (more := pk.nms) rfl 100 _ s) _ }
/-! ### the hook -/
def obsP (pk : Pk) (K : PySem.W.Frag) : Bool × List FnO := (pk.okB K && pk.defs.all (Df.ok K), pk.defs.map fun d => fnO K (adr K d.loc))
theorem says_of {pk : Pk} {K : PySem.W.Frag} (e : obsP pk K = (true, pk.defs.map Df.val)) : pk.Says K := by
  unfold obsP at e
  obtain ⟨e1, e2⟩ := Prod.mk.inj e
  obtain ⟨h1, h2⟩ := and2 e1
  refine ⟨h1, fun d hd => ⟨List.all_eq_true.mp h2 d hd, ?_⟩⟩
  exact List.map_inj_left.mp e2 d hd
def hookP (n : Nat) (pk : Pk) : PySem.W.Hook where
  α := Bool × List FnO
  obs := fun s => obsP pk (He.frG s.heap.get? (He.asD s.heap.get? n))
  val := fun _ => (true, pk.defs.map Df.val)
  says := fun _ h => ∃ K : PySem.W.Frag, K.In h ∧ pk.Says K
  of := fun _ _ e => ⟨_, He.frG_in, says_of e⟩
  keeps := fun _ _ _ ⟨K, hK, c⟩ k => ⟨K, PySem.W.Frag.In.keeps hK k, c⟩
def obP (n : Nat) (pk : Pk) (s : PySem.W.SharedT) : Bool × List FnO := obsP pk (He.frG (HandSHeadRun.getT s) (He.asD (HandSHeadRun.getT s) n))
theorem obP_eq (n : Nat) (pk : Pk) (s : PySem.W.SharedT) : obP n pk s = (hookP n pk).obs s.abs := by
  unfold obP
  have e : HandSHeadRun.getT s = s.abs.heap.get? := funext (HandSHeadRun.getT_eq s)
  rw [e]; rfl
theorem law_end {pk : Pk} (st : pk.Static) {Tb : Nat → Option Fd} (I : ∀ k F, Tb k = some F → DefOk pk k F) {l : PySem.W.OpenLaw} {q : Program} {loose : List Str} {XP : (Str → Option Value) → Heap → Prop} {d : DefRec} {n dep kl : Nat}
    (hn : l.most = some 63) (hdf : d.params.defaults = []) (room : Room (2 * dep) callerA) (hl : pk.fns.lookup d.name = some kl) (hs : pk.ps kl = (["script"] : List Str))
    (plain : ∀ is : List Int, is.length ≤ 63 → (∀ z ∈ is, Builtin.Int.intBits z ≤ 1048576) → ∃ outs, callN pk.phi Tb dep kl [dL false (is.map dI)] = some (dB true, outs)) :
    PySem.W.WalkO q loose XP (hookP n pk).says l.row.toRowW d [] (fun f vs => PySem.call f vs) := by
  refine end_walk (n := 63) (x := "script") hn (by decide) hdf room fun w mg fa h Y G hmg => ?_
  obtain ⟨K, X, s⟩ := Y
  have gk : ∀ base : Heap, GOk (pk.gb st l.prog w K mg base) := fun base => Pk.gok st s X G
  obtain ⟨f1, f2, f3⟩ := (gk default).fn d.name kl hl
  have efa : fa = pk.fa K kl := by
    have := hmg.symm.trans f1
    injection this with this
    injection this
  subst efa
  refine ⟨K, pk.fd K kl, spV (pk.gb st l.prog w K mg default).W (callN pk.phi Tb dep) kl, X, fun s' u => ?_, fun H a is h1 h2 sq => ?_, fun base kb gb => ?_⟩
  · have hp := (Option.isSome_iff_exists.mpr (Pk.has_df (k := kl) (and2 (List.all_eq_true.mp (and2 s.ok).1 _ (lookup_memL hl))).2))
    obtain ⟨dd, hd⟩ := Option.isSome_iff_exists.mp hp
    have F := Pk.fun_ s hd
    obtain ⟨oc, od, kV, doc, md, an, cdv, ct, osl, e, _⟩ := F.ex
    obtain ⟨p1, p2⟩ := st.plain dd (Pk.df_mem hd)
    have ep : pk.ps kl = namesA (defArgs dd.st) := by unfold Pk.ps; rw [hd]
    have e1 : namesA (defArgs dd.st) = (["script"] : List Str) := ep ▸ hs
    rw [e]
    have := bind_plain (x := dd.name) (qual := dd.qual) (body := defBody dd.st) (scope := defScope dd.st) (kV := kV) (doc := doc) (pm := md) (cdv := cdv) (ct := ct) (an := an) (us := [u]) p1 p2 (by rw [e1]; rfl)
    rw [e1] at this
    exact .of_eq this
  · obtain ⟨outs, ho⟩ := plain is h1 h2
    exact script_sp sq ho
  · have := (calls_sound (G := pk.gb st l.prog w K mg base) (Pk.gok st s X G) Tb (fun k F hk => fi_of st s (I k F hk)) dep).go kl
    rw [show (pk.gb st l.prog w K mg base).ps kl = (["script"] : List Str) from hs] at this
    exact this
end VI
/-! XA -/
noncomputable section
namespace VI
open PySem L2

/-! ## reasoning about the evaluator: what is wanted of a suite's end -/
structure Post where
  nx : Ctx → Prop
  rt : D → Ctx → Prop
  bk : Ctx → Prop := fun _ => False
  ct : Ctx → Prop := fun _ => False
def Post.at_ (Q : Post) : Out → Prop
  | .nx Γ _ => Q.nx Γ
  | .rt d Γ _ => Q.rt d Γ
  | .bk Γ _ => Q.bk Γ
  | .ct Γ _ => Q.ct Γ
def Out.ws : Out → List Nat
  | .nx _ w => w
  | .rt _ _ w => w
  | .bk _ w => w
  | .ct _ w => w
theorem Out.add_ws (w : List Nat) (o : Out) : (o.add w).ws = w ++ o.ws := by cases o <;> rfl
theorem Post.at_add (Q : Post) (w : List Nat) (o : Out) : Q.at_ (o.add w) = Q.at_ o := by cases o <;> rfl
/-- the slots written all satisfy P, the end is as Q wants -/
structure WO (P : Nat → Prop) (r : Option Out) (Q : Post) : Prop where
  ex : ∃ o, r = some o ∧ (∀ j ∈ o.ws, P j) ∧ Q.at_ o
structure WSs (Φ : Prg) (cl : Cl) (np : Nat) (P : Nat → Prop) (z : Nat) (ss : List CS) (Γ : Ctx) (Q : Post) : Prop where
  wo : WO P (rnSs Φ cl np z ss Γ) Q
structure WS (Φ : Prg) (cl : Cl) (np : Nat) (P : Nat → Prop) (z : Nat) (s : CS) (Γ : Ctx) (Q : Post) : Prop where
  wo : WO P (rn Φ cl np z s Γ) Q
section
variable {Φ : Prg} {cl : Cl} {np : Nat} {P : Nat → Prop} {z : Nat} {s : CS} {ss a e body : List CS} {Γ Γ1 Γ2 : Ctx} {Q : Post} {w : List Nat} {d : D} {c it : C} {b q : Bool} {tg : Tg}
theorem WO.mono {r : Option Out} {Q Q' : Post} (h : WO P r Q) (n : ∀ Γ, Q.nx Γ → Q'.nx Γ) (t : ∀ d Γ, Q.rt d Γ → Q'.rt d Γ) (bk : ∀ Γ, Q.bk Γ → Q'.bk Γ) (ct : ∀ Γ, Q.ct Γ → Q'.ct Γ) : WO P r Q' := by
  obtain ⟨o, h1, h2, h3⟩ := h.ex
  refine ⟨o, h1, h2, ?_⟩
  cases o
  · exact n _ h3
  · exact t _ _ h3
  · exact bk _ h3
  · exact ct _ h3
theorem WSs.nil (h : Q.nx Γ) : WSs Φ cl np P (z + 1) [] Γ Q := ⟨⟨.nx Γ [], by rw [rnSs], fun j hj => absurd hj (by simp [Out.ws]), h⟩⟩
theorem WSs.cons (h : WS Φ cl np P z s Γ { nx := fun Γ1 => WSs Φ cl np P z ss Γ1 Q, rt := Q.rt, bk := Q.bk, ct := Q.ct }) : WSs Φ cl np P (z + 1) (s :: ss) Γ Q := by
  obtain ⟨o, h1, h2, h3⟩ := h.wo.ex
  constructor
  rw [rnSs, h1]
  cases o with
  | nx Γ1 w =>
    obtain ⟨o2, g1, g2, g3⟩ := (show WSs Φ cl np P z ss Γ1 Q from h3).wo.ex
    refine ⟨o2.add w, ?_, fun j hj => ?_, by rw [Post.at_add]; exact g3⟩
    · show ((rnSs Φ cl np z ss Γ1).map (Out.add w)) = _
      rw [g1]; rfl
    · rw [Out.add_ws] at hj
      exact (List.mem_append.mp hj).elim (h2 j) (g2 j)
  | _ => exact ⟨_, rfl, h2, h3⟩
/-- a statement that ends at once -/
theorem WSs.step (h : rn Φ cl np z s Γ = some (.nx Γ1 w)) (k : WSs Φ cl np P z ss Γ1 Q) (p : ∀ j ∈ w, P j) : WSs Φ cl np P (z + 1) (s :: ss) Γ Q :=
  WSs.cons ⟨⟨_, h, p, k⟩⟩
theorem WSs.ret (h : rn Φ cl np z s Γ = some (.rt d Γ1 w)) (k : Q.rt d Γ1) (p : ∀ j ∈ w, P j) : WSs Φ cl np P (z + 1) (s :: ss) Γ Q :=
  WSs.cons ⟨⟨_, h, p, k⟩⟩
theorem WSs.brk (k : Q.bk Γ) : WSs Φ cl np P (z + 1 + 1) (.brk :: ss) Γ Q := WSs.cons ⟨⟨.bk Γ [], by rw [rn], fun j hj => absurd hj (by simp [Out.ws]), k⟩⟩
theorem WSs.cnt (k : Q.ct Γ) : WSs Φ cl np P (z + 1 + 1) (.cnt :: ss) Γ Q := WSs.cons ⟨⟨.ct Γ [], by rw [rn], fun j hj => absurd hj (by simp [Out.ws]), k⟩⟩
theorem WS.ite (h : evT Φ cl z c Γ = some (b, Γ1, q)) (t : b = true → WSs Φ cl np P z a Γ1 Q) (f : b = false → WSs Φ cl np P z e Γ1 Q) : WS Φ cl np P (z + 1) (.ite c a e) Γ Q := by
  constructor
  rw [rn, h]
  cases b with
  | true => exact (t rfl).wo
  | false => exact (f rfl).wo
theorem WSs.mono {Q Q' : Post} (h : WSs Φ cl np P z ss Γ Q) (n : ∀ Γ, Q.nx Γ → Q'.nx Γ) (t : ∀ d Γ, Q.rt d Γ → Q'.rt d Γ) (bk : ∀ Γ, Q.bk Γ → Q'.bk Γ) (ct : ∀ Γ, Q.ct Γ → Q'.ct Γ) : WSs Φ cl np P z ss Γ Q' := ⟨h.wo.mono n t bk ct⟩
/-- a test, then the rest behind it -/
theorem WSs.ite (h : evT Φ cl z c Γ = some (b, Γ1, q)) (t : b = true → WSs Φ cl np P z a Γ1 { nx := fun Γ1 => WSs Φ cl np P (z + 1) ss Γ1 Q, rt := Q.rt, bk := Q.bk, ct := Q.ct })
    (f : b = false → WSs Φ cl np P z e Γ1 { nx := fun Γ1 => WSs Φ cl np P (z + 1) ss Γ1 Q, rt := Q.rt, bk := Q.bk, ct := Q.ct }) : WSs Φ cl np P (z + 1 + 1) (.ite c a e :: ss) Γ Q :=
  WSs.cons (WS.ite h t f)

/-! ### loops -/
structure WFo (Φ : Prg) (cl : Cl) (np : Nat) (P : Nat → Prop) (tg : Tg) (z : Nat) (body : List CS) (xs : List Itm) (Γ : Ctx) (Q : Post) : Prop where
  wo : WO P (foRun tg (rnSs Φ cl np z body) xs Γ) Q
theorem WS.for_ {xs : List Itm} (h0 : ((itVar it).bind fun (en, i) => (varL Γ i).map fun (_, _, ts) => (en, i, ts.length)) = none) (h : evI Φ cl z it Γ = some (xs, Γ1, q, .free)) (k : WFo Φ cl np P tg z body xs Γ1 Q) : WS Φ cl np P (z + 1) (.for_ tg it body) Γ Q := by
  constructor
  rw [rn, h0, h]
  exact k.wo
theorem wfo_nil (h : Q.nx Γ) : WO P (foRun tg (rnSs Φ cl np z body) [] Γ) Q := ⟨.nx Γ [], by rw [foRun], fun j hj => absurd hj (by simp [Out.ws]), h⟩
theorem wfo_cons {x : Itm} {xs : List Itm} (h : asgI tg x Γ = some Γ1) (tp : ∀ j ∈ tgs tg, P j)
    (k : WSs Φ cl np P z body Γ1 { nx := fun Γ2 => WO P (foRun tg (rnSs Φ cl np z body) xs Γ2) Q, ct := fun Γ2 => WO P (foRun tg (rnSs Φ cl np z body) xs Γ2) Q, bk := Q.nx, rt := Q.rt }) : WO P (foRun tg (rnSs Φ cl np z body) (x :: xs) Γ) Q := by
  rw [foRun, h]
  obtain ⟨o, h1, h2, h3⟩ := k.wo.ex
  show WO P ((rnSs Φ cl np z body Γ1).bind _) Q
  rw [h1]
  have tw : ∀ {w : List Nat}, (∀ j ∈ w, P j) → ∀ j ∈ tgs tg ++ w, P j := fun hw j hj => (List.mem_append.mp hj).elim (tp j) (hw j)
  have go : ∀ Γ2 w, (∀ j ∈ w, P j) → WO P (foRun tg (rnSs Φ cl np z body) xs Γ2) Q → WO P ((foRun tg (rnSs Φ cl np z body) xs Γ2).map (Out.add (tgs tg ++ w))) Q := fun Γ2 w hw h => by
    obtain ⟨o, g1, g2, g3⟩ := h.ex
    refine ⟨o.add (tgs tg ++ w), by rw [g1]; rfl, fun j hj => ?_, by rw [Post.at_add]; exact g3⟩
    rw [Out.add_ws] at hj
    exact (List.mem_append.mp hj).elim (tw hw j) (g2 j)
  cases o with
  | nx Γ2 w => exact go Γ2 w h2 h3
  | ct Γ2 w => exact go Γ2 w h2 h3
  | bk Γ2 w => exact ⟨_, rfl, tw h2, h3⟩
  | rt d Γ2 w => exact ⟨_, rfl, tw h2, h3⟩
/-- a loop by its invariant: pre are the items gone through -/
theorem WFo.inv {α : Type} {f : α → Itm} (I : List α → Ctx → Prop) {l : List α} (h0 : I [] Γ) (tp : ∀ j ∈ tgs tg, P j)
    (step : ∀ pre x post, l = pre ++ x :: post → ∀ Γ, I pre Γ → ∃ Γ1, asgI tg (f x) Γ = some Γ1 ∧ WSs Φ cl np P z body Γ1 { nx := I (pre ++ [x]), ct := I (pre ++ [x]), bk := Q.nx, rt := Q.rt })
    (done : ∀ Γ, I l Γ → Q.nx Γ) : WFo Φ cl np P tg z body (l.map f) Γ Q := by
  constructor
  have go : ∀ (post pre : List α) (Γ : Ctx), l = pre ++ post → I pre Γ → WO P (foRun tg (rnSs Φ cl np z body) (post.map f) Γ) Q := by
    intro post
    induction post with
    | nil => exact fun pre Γ e h => wfo_nil (done Γ (by rw [e, List.append_nil]; exact h))
    | cons x post ih =>
      intro pre Γ e h
      obtain ⟨Γ1, g1, g2⟩ := step pre x post e Γ h
      have nxt : ∀ Γ2, I (pre ++ [x]) Γ2 → WO P (foRun tg (rnSs Φ cl np z body) (post.map f) Γ2) Q := fun Γ2 h2 => ih (pre ++ [x]) Γ2 (by rw [e]; simp) h2
      exact wfo_cons g1 tp (g2.mono nxt (fun _ _ h => h) (fun _ h => h) nxt)
  exact go l [] Γ rfl h0
/-- a while by a number that falls -/
theorem WS.whl (I : Nat → Ctx → Prop) {n : Nat} (hn : n < wfuel) (h0 : I n Γ)
    (step : ∀ n Γ, I n Γ → ∃ b Γ1 q, evT Φ cl z c Γ = some (b, Γ1, q) ∧ (b = false → Q.nx Γ1) ∧ (b = true → ∃ m, n = m + 1 ∧ WSs Φ cl np P z body Γ1 { nx := I m, ct := I m, bk := Q.nx, rt := Q.rt })) : WS Φ cl np P (z + 1) (.whl c body) Γ Q := by
  constructor
  rw [rn]
  have go : ∀ (k n : Nat) (Γ : Ctx), n < k → I n Γ → WO P (whRun (evT Φ cl z c) (rnSs Φ cl np z body) k Γ) Q := by
    intro k
    induction k with
    | zero => exact fun n Γ h => absurd h (by omega)
    | succ k ih =>
      intro n Γ hk h
      obtain ⟨b, Γ1, q, h1, h2, h3⟩ := step n Γ h
      rw [whRun, h1]
      cases b with
      | false => exact ⟨_, rfl, fun j hj => absurd hj (by simp [Out.ws]), h2 rfl⟩
      | true =>
        obtain ⟨m, rfl, g⟩ := h3 rfl
        obtain ⟨o, g1, g2, g3⟩ := g.wo.ex
        show WO P ((rnSs Φ cl np z body Γ1).bind _) Q
        rw [g1]
        have nxt : ∀ Γ2 w, (∀ j ∈ w, P j) → I m Γ2 → WO P ((whRun (evT Φ cl z c) (rnSs Φ cl np z body) k Γ2).map (Out.add w)) Q := fun Γ2 w hw h => by
          obtain ⟨o, a1, a2, a3⟩ := (ih m Γ2 (by omega) h).ex
          refine ⟨o.add w, by rw [a1]; rfl, fun j hj => ?_, by rw [Post.at_add]; exact a3⟩
          rw [Out.add_ws] at hj
          exact (List.mem_append.mp hj).elim (hw j) (a2 j)
        cases o with
        | nx Γ2 w => exact nxt Γ2 w g2 g3
        | ct Γ2 w => exact nxt Γ2 w g2 g3
        | bk Γ2 w => exact ⟨_, rfl, g2, g3⟩
        | rt d Γ2 w => exact ⟨_, rfl, g2, g3⟩
  exact go wfuel n Γ hn h0

/-! ### a def -/
def outs0 (Γ : Ctx) : Nat → List D → Option (List D)
  | _, [] => some []
  | i, d :: ds => (outs0 Γ (i + 1) ds).bind fun os => if isSh d then some (d :: os) else match Γ[i]? with
    | some (some (.own d')) => some (d' :: os)
    | _ => none
theorem outs0_of {w : List Nat} : ∀ {i : Nat} {ds : List D}, (∀ j ∈ w, i + ds.length ≤ j) → outsOf w Γ i ds = outs0 Γ i ds
  | i, [], _ => rfl
  | i, d :: ds, h => by
    rw [outsOf, outs0, outs0_of (i := i + 1) (ds := ds) fun j hj => by have := h j hj; rw [List.length_cons] at this; omega]
    have hi : i ∉ w := fun hm => by have := h i hm; rw [List.length_cons] at this; omega
    simp only [hi, if_false]
    all_goals congr 1
def start0 (F : Fd) (ds : List D) : Ctx := ds.map (fun d => some (.own d)) ++ List.replicate (F.nn - F.np) none
theorem run_fn {F : Fd} {ds : List D} {R : D → List D → Prop} (hl : ds.length = F.np ∧ F.np ≤ F.nn)
    (h : WSs Φ cl F.np (F.np ≤ ·) dfuel F.body (start0 F ds) { nx := fun Γ => ∃ os, outs0 Γ 0 ds = some os ∧ R dN os, rt := fun d Γ => ∃ os, outs0 Γ 0 ds = some os ∧ R d os }) : ∃ d os, runF Φ cl F ds = some (d, os) ∧ R d os := by
  obtain ⟨o, h1, h2, h3⟩ := h.wo.ex
  unfold runF
  rw [if_pos hl]
  show ∃ d os, (rnSs Φ cl F.np dfuel F.body (start0 F ds)).bind _ = some (d, os) ∧ _
  rw [h1]
  cases o with
  | nx Γ w =>
    obtain ⟨os, g1, g2⟩ := h3
    refine ⟨dN, os, ?_, g2⟩
    show (outsOf w Γ 0 ds).map _ = _
    rw [outs0_of fun j hj => by rw [Nat.zero_add, hl.1]; exact h2 j hj, g1]; rfl
  | rt d Γ w =>
    obtain ⟨os, g1, g2⟩ := h3
    refine ⟨d, os, ?_, g2⟩
    show (outsOf w Γ 0 ds).map _ = _
    rw [outs0_of fun j hj => by rw [Nat.zero_add, hl.1]; exact h2 j hj, g1]; rfl
  | bk Γ w => exact h3.elim
  | ct Γ w => exact h3.elim
theorem call_fn {Tb : Nat → Option Fd} {n f : Nat} {F : Fd} {ds : List D} {R : D → List D → Prop} (hf : Tb f = some F) (hl : ds.length = F.np ∧ F.np ≤ F.nn)
    (h : WSs Φ (callN Φ Tb n) F.np (F.np ≤ ·) dfuel F.body (start0 F ds) { nx := fun Γ => ∃ os, outs0 Γ 0 ds = some os ∧ R dN os, rt := fun d Γ => ∃ os, outs0 Γ 0 ds = some os ∧ R d os }) : ∃ d os, callN Φ Tb (n + 1) f ds = some (d, os) ∧ R d os := by
  obtain ⟨d, os, h1, h2⟩ := run_fn hl h
  refine ⟨d, os, ?_, h2⟩
  show (Tb f).bind _ = _
  rw [hf]; exact h1
/-- the answer as a function of the arguments -/
theorem call_eq {Tb : Nat → Option Fd} {n f : Nat} {F : Fd} {ds : List D} {r : D} {outs : List D} (hf : Tb f = some F) (hl : ds.length = F.np ∧ F.np ≤ F.nn)
    (h : WSs Φ (callN Φ Tb n) F.np (F.np ≤ ·) dfuel F.body (start0 F ds) { nx := fun Γ => outs0 Γ 0 ds = some outs ∧ dN = r, rt := fun d Γ => outs0 Γ 0 ds = some outs ∧ d = r }) : callN Φ Tb (n + 1) f ds = some (r, outs) := by
  obtain ⟨d, os, h1, rfl, rfl⟩ := call_fn (R := fun d os => os = outs ∧ d = r) hf hl (h.mono (fun Γ g => ⟨_, g.1, rfl, g.2⟩) (fun d Γ g => ⟨_, g.1, rfl, g.2⟩) (fun _ g => g) (fun _ g => g))
  exact h1
end
end VI
/-! XB -/
noncomputable section
namespace VI
open PySem L2

/-! ## equations of the evaluator, for rewriting on written contexts -/
section
variable {Φ : Prg} {cl : Cl} {np z i j : Nat} {Γ Γ' : Ctx} {d x y : D} {π : List Nat} {q : Bool} {rs : List Rd'} {es : List C} {e a b c it elt : C} {o : Op}
theorem ev_k : evB Φ cl (z + 1) (.k d) Γ = some (.vl d Γ true) := by rw [evB]
def ev1 (i : Nat) (Γ : Ctx) : Option (Option (Ent D)) → Option BR
  | some (some (.own d)) => if isSh d then some (.vl d Γ true) else some (.pl i [] d)
  | some (some (.al j π)) => (getE Γ j π).bind fun d => if isSh d then some (.vl d Γ true) else some (.pl j π d)
  | _ => none
theorem ev_v : evB Φ cl (z + 1) (.v i) Γ = ev1 i Γ Γ[i]? := by
  rw [evB]
  cases Γ[i]? with
  | none => rfl
  | some x => cases x with
    | none => rfl
    | some y => cases y <;> rfl
theorem ev1_own : ev1 i Γ (some (some (.own d))) = if isSh d then some (.vl d Γ true) else some (.pl i [] d) := (rfl)
theorem ev1_al : ev1 i Γ (some (some (.al j π))) = (getE Γ j π).bind fun d => if isSh d then some (.vl d Γ true) else some (.pl j π d) := (rfl)
theorem ev_g {x : Nat} : evB Φ cl (z + 1) (.g x) Γ = (Φ.con x).map fun d => .vl d Γ true := by rw [evB]
/-- an operation on data, or a class's own -/
def opK (Φ : Prg) (cl : Cl) (o : Op) (ds : List D) (rs : List Rd') (Γ' : Ctx) (q : Bool) : Option D → Option BR
  | some d => some (.vl d Γ' q)
  | none => (dspD Φ o ds).bind fun (key, sw) => if free Γ' (swL sw rs) then (cl key (swL sw ds)).bind fun (r, outs) => (dspQ o r).map fun d => .vl d (wrB Γ' (swL sw rs) outs) (q && noPl (swL sw rs)) else none
theorem opK_some {ds : List D} : opK Φ cl o ds rs Γ' q (some d) = some (.vl d Γ' q) := (rfl)
def opG (Φ : Prg) (cl : Cl) (o : Op) : List Rd' × Ctx × Bool → Option BR
  | (rs, Γ', q) => (resL Γ' rs).bind fun ds => opK Φ cl o ds rs Γ' q (opX Φ o ds)
theorem ev_op : evB Φ cl (z + 1) (.op o es) Γ = (evAs Φ cl z es Γ).bind (opG Φ cl o) := by
  rw [evB]
  refine congrArg _ (funext fun x => ?_)
  obtain ⟨rs, Γ', q⟩ := x
  show (resL Γ' rs).bind _ = (resL Γ' rs).bind _
  refine congrArg (Option.bind (resL Γ' rs)) (funext fun ds => ?_)
  show (match opX Φ o ds with | some d => _ | none => _) = opK Φ cl o ds rs Γ' q (opX Φ o ds)
  cases opX Φ o ds <;> rfl
theorem opG_eq : opG Φ cl o (rs, Γ', q) = (resL Γ' rs).bind fun ds => opK Φ cl o ds rs Γ' q (opX Φ o ds) := (rfl)
theorem ev_not : evB Φ cl (z + 1) (.not a) Γ = (evT Φ cl z a Γ).map fun (b, Γ', q) => .vl (dB (!b)) Γ' q := by rw [evB]
theorem ev_and : evB Φ cl (z + 1) (.and a b) Γ = (evT Φ cl z a Γ).bind fun (x, Γ1, q1) => if x then (evT Φ cl z b Γ1).map fun (y, Γ2, q2) => .vl (dB y) Γ2 (q1 && q2) else some (.vl (dB false) Γ1 q1) := by rw [evB]
theorem ev_or : evB Φ cl (z + 1) (.or a b) Γ = (evT Φ cl z a Γ).bind fun (x, Γ1, q1) => if x then some (.vl (dB true) Γ1 q1) else (evT Φ cl z b Γ1).map fun (y, Γ2, q2) => .vl (dB y) Γ2 (q1 && q2) := by rw [evB]
def setV (q1 : Bool) (Γ1 : Ctx) (r : BR) : BR := .vl (settle Γ1 r).1 (settle Γ1 r).2.1 (q1 && (settle Γ1 r).2.2)
theorem setV_vl {q1 : Bool} {Γ1 : Ctx} : setV q1 Γ1 (.vl d Γ' q) = .vl d Γ' (q1 && q) := (rfl)
theorem setV_pl {q1 : Bool} {Γ1 : Ctx} : setV q1 Γ1 (.pl j π d) = if isSh d then .vl d Γ1 (q1 && true) else .vl (fz d) (putE Γ1 j π (fz d)) (q1 && false) := by
  show BR.vl (if isSh d then (d, Γ1, true) else (fz d, putE Γ1 j π (fz d), false)).1 (if isSh d then (d, Γ1, true) else (fz d, putE Γ1 j π (fz d), false)).2.1 (q1 && (if isSh d then (d, Γ1, true) else (fz d, putE Γ1 j π (fz d), false)).2.2) = _
  cases isSh d <;> rfl
theorem ev_ife : evB Φ cl (z + 1) (.ife c a b) Γ = (evT Φ cl z c Γ).bind fun (x, Γ1, q1) => if x then (evB Φ cl z a Γ1).map (setV q1 Γ1) else (evB Φ cl z b Γ1).map (setV q1 Γ1) := by rw [evB]; rfl
theorem ev_tup : evB Φ cl (z + 1) (.tup es) Γ = (evDs Φ cl z es Γ).bind fun (ds, Γ', q) => if allSh ds && decide (ds.length ≤ lim) then some (.vl (dT ds) Γ' q) else none := by rw [evB]
theorem ev_lst : evB Φ cl (z + 1) (.lst es) Γ = (evDs Φ cl z es Γ).bind fun (ds, Γ', q) => if decide (ds.length ≤ lim) then some (.vl (dL true ds) Γ' q) else none := by rw [evB]
theorem ev_dct0 : evB Φ cl (z + 1) .dct0 Γ = some (.vl (dD true [] []) Γ true) := by rw [evB]
/-- an item of a thing -/
def idxK (Γ' : Ctx) (q : Bool) : List Rd' → Option BR
  | [.pl j π, .vl k] => (getE Γ' j π).bind fun d => (ixOf d k).bind fun n => ((d.kids)[n]?).bind fun x => if isSh x then some (.vl x Γ' q) else if q then some (.pl j (π ++ [n]) x) else none
  | [.vl d, .vl k] => (ixOf d k).bind fun n => ((d.kids)[n]?).map fun x => .vl x Γ' q
  | _ => none
theorem ev_idx : evB Φ cl (z + 1) (.idx e a) Γ = (evAs Φ cl z [e, a] Γ).bind fun (rs, Γ', q) => idxK Γ' q rs := by
  rw [evB]
  refine congrArg _ (funext fun x => ?_)
  obtain ⟨rs, Γ', q⟩ := x
  match rs with
  | [] => rfl
  | [.pl _ _] => rfl
  | [.vl _] => rfl
  | [.pl _ _, .pl _ _] => rfl
  | [.pl _ _, .vl _] => rfl
  | [.vl _, .pl _ _] => rfl
  | [.vl _, .vl _] => rfl
  | .pl _ _ :: .pl _ _ :: _ :: _ => rfl
  | .pl _ _ :: .vl _ :: _ :: _ => rfl
  | .vl _ :: .pl _ _ :: _ :: _ => rfl
  | .vl _ :: .vl _ :: _ :: _ => rfl
theorem idxK_pl {k : D} : idxK Γ' q [.pl j π, .vl k] = (getE Γ' j π).bind fun d => (ixOf d k).bind fun n => ((d.kids)[n]?).bind fun x => if isSh x then some (.vl x Γ' q) else if q then some (.pl j (π ++ [n]) x) else none := (rfl)
theorem idxK_vl {k : D} : idxK Γ' q [.vl d, .vl k] = (ixOf d k).bind fun n => ((d.kids)[n]?).map fun x => .vl x Γ' q := (rfl)
def callK1 (cl : Cl) (f : Nat) : List Rd' × Ctx × Bool → Option BR
  | (rs, Γ', q) => (resL Γ' rs).bind fun ds => if free Γ' rs then (cl f ds).bind fun (r, outs) => some (.vl r (wrB Γ' rs outs) (q && noPl rs)) else none
theorem ev_call {f : Nat} : evB Φ cl (z + 1) (.call f es) Γ = (evAs Φ cl z es Γ).bind (callK1 cl f) := by rw [evB]; rfl
theorem callK1_eq {f : Nat} : callK1 cl f (rs, Γ', q) = (resL Γ' rs).bind fun ds => if free Γ' rs then (cl f ds).bind fun (r, outs) => some (.vl r (wrB Γ' rs outs) (q && noPl rs)) else none := (rfl)
theorem ev_callK {f : Nat} {pm : List Nat} : evB Φ cl (z + 1) (.callK f es pm) Γ = (evAs Φ cl z es Γ).bind fun (rs0, Γ', q) => (permL pm rs0).bind fun rs => callK1 cl f (rs, Γ', q) := by rw [evB]; rfl
def makeK1 (Φ : Prg) (cl : Cl) (c : Nat) : List Rd' × Ctx × Bool → Option BR
  | (rs, Γ', q) => (resL Γ' rs).bind fun ds => if free Γ' rs then (Φ.ini c).bind fun f => (cl f (dO true c [] [] :: ds)).bind fun (r, outs) => match outs with
    | self :: outs => if isNon r then some (.vl self (wrB Γ' rs outs) (q && noPl rs)) else none
    | _ => none else none
theorem ev_make {c : Nat} : evB Φ cl (z + 1) (.make c es) Γ = (evAs Φ cl z es Γ).bind (makeK1 Φ cl c) := by rw [evB]; rfl
theorem ev_makeK {c : Nat} {pm : List Nat} : evB Φ cl (z + 1) (.makeK c es pm) Γ = (evAs Φ cl z es Γ).bind fun (rs0, Γ', q) => (permL pm rs0).bind fun rs => makeK1 Φ cl c (rs, Γ', q) := by rw [evB]; rfl
theorem makeK1_eq {c : Nat} : makeK1 Φ cl c (rs, Γ', q) = (resL Γ' rs).bind fun ds => if free Γ' rs then (Φ.ini c).bind fun f => (cl f (dO true c [] [] :: ds)).bind fun (r, outs) => match outs with
    | self :: outs => if isNon r then some (.vl self (wrB Γ' rs outs) (q && noPl rs)) else none
    | _ => none else none := (rfl)
/-- attributes -/
def attK (Φ : Prg) (cl : Cl) (f : Nat) (Γ : Ctx) : BR → Option BR
  | .pl j π d => (clsOf d).bind fun c => match Φ.prp c f with
      | some key => if live Γ [.pl j π] then (cl key [d]).bind fun (r, outs) => if outs.length = 1 then some (.vl r (wrB Γ [.pl j π] outs) false) else none else none
      | none => if Φ.isf c f then (fldIx d f).bind fun n => ((d.kids)[n]?).map fun x => if isSh x then .vl x Γ true else .pl j (π ++ [n]) x else none
  | .vl d Γ' q => (clsOf d).bind fun c => match Φ.prp c f with
      | some key => (cl key [d]).bind fun (r, outs) => if outs.length = 1 then some (.vl r Γ' q) else none
      | none => if Φ.isf c f then (fldIx d f).bind fun n => ((d.kids)[n]?).map fun x => .vl x Γ' q else none
theorem ev_att {f : Nat} : evB Φ cl (z + 1) (.att e f) Γ = (evB Φ cl z e Γ).bind (attK Φ cl f Γ) := by
  rw [evB]
  refine congrArg _ (funext fun r => ?_)
  cases r <;> rfl
theorem attK_pl {f : Nat} : attK Φ cl f Γ (.pl j π d) = (clsOf d).bind fun c => match Φ.prp c f with
      | some key => if live Γ [.pl j π] then (cl key [d]).bind fun (r, outs) => if outs.length = 1 then some (.vl r (wrB Γ [.pl j π] outs) false) else none else none
      | none => if Φ.isf c f then (fldIx d f).bind fun n => ((d.kids)[n]?).map fun x => if isSh x then .vl x Γ true else .pl j (π ++ [n]) x else none := (rfl)
theorem attK_vl {f : Nat} : attK Φ cl f Γ (.vl d Γ' q) = (clsOf d).bind fun c => match Φ.prp c f with
      | some key => (cl key [d]).bind fun (r, outs) => if outs.length = 1 then some (.vl r Γ' q) else none
      | none => if Φ.isf c f then (fldIx d f).bind fun n => ((d.kids)[n]?).map fun x => .vl x Γ' q else none := (rfl)
/-- methods -/
def mthP (Φ : Prg) (cl : Cl) (m j : Nat) (π : List Nat) (d0 : D) : List Rd' × Ctx × Bool → Option BR
  | (rs, Γ', q) => if !(q || decide (π = [])) then none else (getE Γ' j π).bind fun d => (resL Γ' rs).bind fun ds => match clsOf d0 with
      | some c => if free Γ' (.pl j π :: rs) then (Φ.mth c m).bind fun key => if fldIx d0 m = none then (cl key (d :: ds)).bind fun (r, outs) => some (.vl r (wrB Γ' (.pl j π :: rs) outs) false) else none else none
      | none => match (if isDct d0 then rdM m d ds else if isL d0 then cntM m d ds else none) with
        | some x => some (.vl x Γ' q)
        | none => if isL d0 && (noPl rs && live Γ' [.pl j π]) then (muX m d ds).map fun (x, d') => .vl x (kill (putE Γ' j π d') j π) false else none
def mthV (Φ : Prg) (cl : Cl) (m : Nat) (d : D) (q1 : Bool) : List Rd' × Ctx × Bool → Option BR
  | (rs, Γ', q) => (resL Γ' rs).bind fun ds => match clsOf d with
      | some c => if free Γ' rs then (Φ.mth c m).bind fun key => if fldIx d m = none then (cl key (d :: ds)).bind fun (r, outs) => match outs with
        | _ :: outs => some (.vl r (wrB Γ' rs outs) (q1 && q && noPl rs))
        | _ => none else none else none
      | none => (rdM m d ds).map fun x => .vl x Γ' (q1 && q)
def mthK (Φ : Prg) (cl : Cl) (z m : Nat) (es : List C) (Γ : Ctx) : BR → Option BR
  | .pl j π d0 => (evAs Φ cl z es Γ).bind (mthP Φ cl m j π d0)
  | .vl d Γ1 q1 => (evAs Φ cl z es Γ1).bind (mthV Φ cl m d q1)
theorem ev_mth {m : Nat} : evB Φ cl (z + 1) (.mth e m es) Γ = (evB Φ cl z e Γ).bind (mthK Φ cl z m es Γ) := by
  rw [evB]
  refine congrArg _ (funext fun r => ?_)
  cases r with
  | pl j π d =>
    rfl
  | vl d Γ1 q1 =>
    rfl
theorem mthK_pl {m : Nat} : mthK Φ cl z m es Γ (.pl j π d) = (evAs Φ cl z es Γ).bind (mthP Φ cl m j π d) := (rfl)
theorem mthK_vl {m : Nat} {q1 : Bool} {Γ1 : Ctx} : mthK Φ cl z m es Γ (.vl d Γ1 q1) = (evAs Φ cl z es Γ1).bind (mthV Φ cl m d q1) := (rfl)
theorem mthP_c {m c : Nat} {d0 : D} (h : clsOf d0 = some c) : mthP Φ cl m j π d0 (rs, Γ', q) = if !(q || decide (π = [])) then none else (getE Γ' j π).bind fun d => (resL Γ' rs).bind fun ds =>
    if free Γ' (.pl j π :: rs) then (Φ.mth c m).bind fun key => if fldIx d0 m = none then (cl key (d :: ds)).bind fun (r, outs) => some (.vl r (wrB Γ' (.pl j π :: rs) outs) false) else none else none := by
  unfold mthP; rw [h]
def mthL (m j : Nat) (π : List Nat) (rs : List Rd') (Γ' : Ctx) (q : Bool) (d : D) (ds : List D) : Option D → Option BR
  | some x => some (.vl x Γ' q)
  | none => if noPl rs && live Γ' [.pl j π] then (muX m d ds).map fun (x, d') => .vl x (kill (putE Γ' j π d') j π) false else none
theorem mthP_l {m : Nat} {o : Bool} {ts : List D} : mthP Φ cl m j π (dL o ts) (rs, Γ', q) = if !(q || decide (π = [])) then none else (getE Γ' j π).bind fun d => (resL Γ' rs).bind fun ds => mthL m j π rs Γ' q d ds (cntM m d ds) := by
  show (if !(q || decide (π = [])) then none else (getE Γ' j π).bind fun d => (resL Γ' rs).bind fun ds => _) = _
  refine congrArg (fun k => if !(q || decide (π = [])) then none else (getE Γ' j π).bind k) (funext fun d => ?_)
  refine congrArg _ (funext fun ds => ?_)
  show (match cntM m d ds with | some x => _ | none => _) = _
  cases cntM m d ds <;> rfl
theorem mthL_some {m : Nat} {ds : List D} : mthL m j π rs Γ' q d ds (some x) = some (.vl x Γ' q) := (rfl)
theorem mthL_none {m : Nat} {ds : List D} : mthL m j π rs Γ' q d ds none = if noPl rs && live Γ' [.pl j π] then (muX m d ds).map fun (x, d') => .vl x (kill (putE Γ' j π d') j π) false else none := (rfl)
theorem mthP_d {m : Nat} {o l : Bool} {ks : List Key} {ts : List D} : mthP Φ cl m j π (.nd (.dct o l ks) ts) (rs, Γ', q) = if !(q || decide (π = [])) then none else (getE Γ' j π).bind fun d => (resL Γ' rs).bind fun ds => (rdM m d ds).map fun x => .vl x Γ' q := by
  show (if !(q || decide (π = [])) then none else (getE Γ' j π).bind fun d => (resL Γ' rs).bind fun ds => _) = _
  refine congrArg (fun k => if !(q || decide (π = [])) then none else (getE Γ' j π).bind k) (funext fun d => ?_)
  refine congrArg _ (funext fun ds => ?_)
  show (match rdM m d ds with | some x => _ | none => _) = _
  cases rdM m d ds <;> rfl
theorem mthV_c {m c : Nat} {q1 : Bool} (h : clsOf d = some c) : mthV Φ cl m d q1 (rs, Γ', q) = (resL Γ' rs).bind fun ds => if free Γ' rs then (Φ.mth c m).bind fun key => if fldIx d m = none then (cl key (d :: ds)).bind fun (r, outs) => match outs with
        | _ :: outs => some (.vl r (wrB Γ' rs outs) (q1 && q && noPl rs))
        | _ => none else none else none := by
  unfold mthV; rw [h]
theorem ev_frz : evB Φ cl (z + 1) (.frz e) Γ = (evB Φ cl z e Γ).map (setV true Γ) := by
  rw [evB]
  refine congrArg (fun k => (evB Φ cl z e Γ).map k) (funext fun r => ?_)
  unfold setV
  rw [Bool.true_and]
/-! ### comprehensions: the turns behind a name -/
def lcGo (Φ : Prg) (cl : Cl) (z : Nat) (own : List Nat) (tg : Tg) (ifs : List C) (elt : C) (xs : List Itm) (acc : List D) (Γ : Ctx) (q : Bool) : Option (List D × Ctx × Bool) :=
  lcRun own tg (fun Γ => evTs Φ cl z ifs Γ) (fun Γ => (evB Φ cl z elt Γ).map (settle Γ)) xs acc Γ q
def lcK (Φ : Prg) (cl : Cl) (z : Nat) (own : List Nat) (tg : Tg) (ifs : List C) (elt : C) : List Itm × Ctx × Bool × Wk → Option BR
  | (xs, Γ1, q1, .free) => (lcGo Φ cl z own tg ifs elt xs [] (forget Γ1 own) true).bind fun (ds, Γ2, q2) => some (.vl (dL true ds) Γ2 (q1 && q2 && clean Γ1 own))
  | (xs, Γ1, q1, .still) => (lcGo Φ cl z own tg ifs elt xs [] (forget Γ1 own) true).bind fun (ds, _, q2) => if q2 && clean Γ1 own then some (.vl (dL true ds) Γ1 q1) else none
  | (xs, Γ1, q1, .lock j π l) => if own.contains j then none else (lcGo Φ cl z own tg ifs elt xs [] (forget (putE Γ1 j π l) own) true).bind fun (ds, _, q2) => if q2 && clean Γ1 own then some (.vl (dL true ds) Γ1 q1) else none
theorem ev_lc {own : List Nat} {tg : Tg} {ifs : List C} : evB Φ cl (z + 1) (.lc own tg it ifs elt) Γ = if tgOk own tg then (evI Φ cl z it Γ).bind (lcK Φ cl z own tg ifs elt) else none := by
  rw [evB]
  refine congrArg (fun k => if tgOk own tg then (evI Φ cl z it Γ).bind k else none) (funext fun x => ?_)
  obtain ⟨xs, Γ1, q1, pl⟩ := x
  cases pl <;> rfl
theorem lcK_free {own : List Nat} {tg : Tg} {ifs : List C} {xs : List Itm} : lcK Φ cl z own tg ifs elt (xs, Γ, q, .free) = (lcGo Φ cl z own tg ifs elt xs [] (forget Γ own) true).bind fun (ds, Γ2, q2) => some (.vl (dL true ds) Γ2 (q && q2 && clean Γ own)) := (rfl)
theorem lcK_still {own : List Nat} {tg : Tg} {ifs : List C} {xs : List Itm} : lcK Φ cl z own tg ifs elt (xs, Γ, q, .still) = (lcGo Φ cl z own tg ifs elt xs [] (forget Γ own) true).bind fun (ds, _, q2) => if q2 && clean Γ own then some (.vl (dL true ds) Γ q) else none := (rfl)
theorem lcK_lock {own : List Nat} {tg : Tg} {ifs : List C} {xs : List Itm} {l : D} : lcK Φ cl z own tg ifs elt (xs, Γ, q, .lock j π l) = if own.contains j then none else (lcGo Φ cl z own tg ifs elt xs [] (forget (putE Γ j π l) own) true).bind fun (ds, _, q2) => if q2 && clean Γ own then some (.vl (dL true ds) Γ q) else none := (rfl)
def chn2 (o2 : CmpOp) (y : D) (q1 : Bool) : List Rd' × Ctx × Bool → Option BR
  | (rs2, Γ2, q2) => (resL Γ2 rs2).bind fun es => match es with
        | [x] => (cmpD o2 y x).map fun r => .vl r Γ2 (q1 && q2)
        | _ => none
def chn1 (Φ : Prg) (cl : Cl) (z : Nat) (o1 o2 : CmpOp) (c : C) (Γ1 : Ctx) (q1 : Bool) : List D → Option BR
    | [x, .nd (.int j) k] => (cmpD o1 x (.nd (.int j) k)).bind fun r => (truth r).bind fun t => if t then (evAs Φ cl z [c] Γ1).bind (chn2 o2 (.nd (.int j) k) q1)
      else some (.vl (dB false) Γ1 q1)
    | _ => none
theorem ev_chn {o1 o2 : CmpOp} : evB Φ cl (z + 1) (.chn o1 o2 a b c) Γ = (evAs Φ cl z [a, b] Γ).bind fun (rs, Γ1, q1) => (resL Γ1 rs).bind (chn1 Φ cl z o1 o2 c Γ1 q1) := by
  rw [evB]
  refine congrArg _ (funext fun x => ?_)
  obtain ⟨rs, Γ1, q1⟩ := x
  show (resL Γ1 rs).bind _ = (resL Γ1 rs).bind _
  refine congrArg (Option.bind (resL Γ1 rs)) (funext fun ds => ?_)
  have e2 : ∀ (y : D) (x : List Rd' × Ctx × Bool), (match x with | (rs2, Γ2, q2) => (resL Γ2 rs2).bind fun es => match es with
        | [x] => (cmpD o2 y x).map fun r => BR.vl r Γ2 (q1 && q2)
        | _ => none) = chn2 o2 y q1 x := fun y x => by
    obtain ⟨rs2, Γ2, q2⟩ := x
    show (resL Γ2 rs2).bind _ = (resL Γ2 rs2).bind _
    refine congrArg (Option.bind (resL Γ2 rs2)) (funext fun es => ?_)
    match es with
    | [] => rfl
    | [_] => rfl
    | _ :: _ :: _ => rfl
  match ds with
  | [] => rfl
  | [_] => rfl
  | [x, .nd (.int j) k] =>
    show (cmpD o1 x (.nd (.int j) k)).bind _ = (cmpD o1 x (.nd (.int j) k)).bind _
    refine congrArg (Option.bind (cmpD o1 x (.nd (.int j) k))) (funext fun r => ?_)
    refine congrArg (Option.bind (truth r)) (funext fun t => ?_)
    refine congrArg (fun k => if t = true then (evAs Φ cl z [c] Γ1).bind k else some (BR.vl (dB false) Γ1 q1)) (funext fun x => ?_)
    exact e2 _ x
  | [x, .nd .non k] => rfl
  | [x, .nd (.bl _) k] => rfl
  | [x, .nd (.str _) k] => rfl
  | [x, .nd .tup k] => rfl
  | [x, .nd (.lst _) k] => rfl
  | [x, .nd (.dct _ _ _) k] => rfl
  | [x, .nd (.ins _ _ _) k] => rfl
  | _ :: _ :: _ :: _ => rfl
theorem chn1_eq {o1 o2 : CmpOp} {q1 : Bool} {j : Int} {k : List D} : chn1 Φ cl z o1 o2 c Γ q1 [x, .nd (.int j) k] = (cmpD o1 x (.nd (.int j) k)).bind fun r => (truth r).bind fun t => if t then (evAs Φ cl z [c] Γ).bind (chn2 o2 (.nd (.int j) k) q1) else some (.vl (dB false) Γ q1) := (rfl)
def chn3 (o2 : CmpOp) (y : D) (q : Bool) (Γ : Ctx) : List D → Option BR
  | [x] => (cmpD o2 y x).map fun r => .vl r Γ q
  | _ => none
theorem chn2_eq {o2 : CmpOp} {q1 : Bool} : chn2 o2 y q1 (rs, Γ, q) = (resL Γ rs).bind (chn3 o2 y (q1 && q) Γ) := by
  show (resL Γ rs).bind _ = _
  refine congrArg (Option.bind (resL Γ rs)) (funext fun es => ?_)
  match es with
  | [] => rfl
  | [_] => rfl
  | _ :: _ :: _ => rfl
theorem chn3_eq {o2 : CmpOp} : chn3 o2 y q Γ [x] = (cmpD o2 y x).map fun r => .vl r Γ q := (rfl)
/-- tests -/
def tst : BR → Option (Bool × Ctx × Bool)
  | .vl d Γ' q => (truth d).map fun b => (b, Γ', q)
  | .pl _ _ _ => none
theorem ev_T : evT Φ cl (z + 1) e Γ = (evB Φ cl z e Γ).bind tst := by
  rw [evT]
  refine congrArg _ (funext fun r => ?_)
  cases r <;> rfl
theorem tst_vl : tst (.vl d Γ' q) = (truth d).map fun b => (b, Γ', q) := (rfl)
theorem truth_b {b : Bool} : truth (dB b) = some b := (rfl)
theorem ev_Ts0 : evTs Φ cl (z + 1) [] Γ = some (true, Γ, true) := by rw [evTs]
theorem ev_Ts1 : evTs Φ cl (z + 1) [e] Γ = evT Φ cl z e Γ := by rw [evTs]
theorem ev_A0 : evAs Φ cl (z + 1) [] Γ = some ([], Γ, true) := by rw [evAs]
def argK (Φ : Prg) (cl : Cl) (z : Nat) (es : List C) (Γ : Ctx) : BR → Option (List Rd' × Ctx × Bool)
  | .pl j π _ => (evAs Φ cl z es Γ).bind fun (rs, Γ', q) => if q || decide (π = []) then some (.pl j π :: rs, Γ', q) else none
  | .vl d Γ1 q1 => (evAs Φ cl z es Γ1).map fun (rs, Γ', q) => (.vl d :: rs, Γ', q1 && q)
theorem ev_A1 : evAs Φ cl (z + 1) (e :: es) Γ = (evB Φ cl z e Γ).bind (argK Φ cl z es Γ) := by
  rw [evAs]
  refine congrArg _ (funext fun r => ?_)
  cases r <;> rfl
theorem argK_pl : argK Φ cl z es Γ (.pl j π d) = (evAs Φ cl z es Γ).bind fun (rs, Γ', q) => if q || decide (π = []) then some (.pl j π :: rs, Γ', q) else none := (rfl)
theorem argK_vl : argK Φ cl z es Γ (.vl d Γ' q) = (evAs Φ cl z es Γ').map fun (rs, Γ2, q2) => (.vl d :: rs, Γ2, q && q2) := (rfl)
theorem ev_D0 : evDs Φ cl (z + 1) [] Γ = some ([], Γ, true) := by rw [evDs]
def starK (Φ : Prg) (cl : Cl) (z : Nat) (es : List C) : List Rd' × Ctx × Bool → Option (List D × Ctx × Bool)
  | ([r], Γ1, q1) => (res Γ1 r).bind fun d => (seqOf d).bind fun xs => if allSh xs then (evDs Φ cl z es Γ1).map fun (ds, Γ', q) => (xs ++ ds, Γ', q1 && q) else none
  | _ => none
theorem ev_Ds : evDs Φ cl (z + 1) (.star e :: es) Γ = (evAs Φ cl z [e] Γ).bind (starK Φ cl z es) := by
  rw [evDs]
  refine congrArg _ (funext fun x => ?_)
  obtain ⟨rs, Γ1, q1⟩ := x
  match rs with
  | [] => rfl
  | [_] => rfl
  | _ :: _ :: _ => rfl
theorem starK_eq {r : Rd'} : starK Φ cl z es ([r], Γ, q) = (res Γ r).bind fun d => (seqOf d).bind fun xs => if allSh xs then (evDs Φ cl z es Γ).map fun (ds, Γ', q2) => (xs ++ ds, Γ', q && q2) else none := (rfl)
def dspK (Φ : Prg) (cl : Cl) (z : Nat) (es : List C) (Γ : Ctx) (r : BR) : Option (List D × Ctx × Bool) := (evDs Φ cl z es (settle Γ r).2.1).map fun (ds, Γ', q) => ((settle Γ r).1 :: ds, Γ', (settle Γ r).2.2 && q)
theorem ev_D1 (h : ∀ e', e ≠ .star e') : evDs Φ cl (z + 1) (e :: es) Γ = (evB Φ cl z e Γ).bind (dspK Φ cl z es Γ) := by
  cases e <;> first | exact absurd rfl (h _) | (rw [evDs] <;> first | rfl | (intro _ hh; cases hh))
theorem dspK_vl : dspK Φ cl z es Γ (.vl d Γ' q) = (evDs Φ cl z es Γ').map fun (ds, Γ2, q2) => (d :: ds, Γ2, q && q2) := (rfl)
theorem dspK_pl (h : isSh d = false) : dspK Φ cl z es Γ (.pl j π d) = (evDs Φ cl z es (putE Γ j π (fz d))).map fun (ds, Γ2, q2) => (fz d :: ds, Γ2, false && q2) := by
  have e : settle Γ (.pl j π d) = (fz d, putE Γ j π (fz d), false) := by
    show (if isSh d = true then (d, Γ, true) else (fz d, putE Γ j π (fz d), false)) = _
    rw [h]; rfl
  unfold dspK
  rw [e]
theorem ev_Irng : evI Φ cl (z + 1) (.rng es) Γ = (evAs Φ cl z es Γ).bind fun (rs, Γ', q) => (resL Γ' rs).bind fun ds => (rngX ds).map fun xs => (xs.map fun d => .one (.own d), Γ', q, .free) := by rw [evI]
theorem ev_Ienm : evI Φ cl (z + 1) (.enm e) Γ = (evB Φ cl z e Γ).bind (enmR Γ) := by rw [evI]
def itB (Φ : Prg) (cl : Cl) (z : Nat) (e : C) (Γ : Ctx) : Option (Nat × List Key × List D) → Option (List Itm × Ctx × Bool × Wk)
  | some (i, ks, ts) => some (ks.map fun k => .one (.own (keyD k)), Γ, true, .lock i [] (.nd (.dct true true ks) ts))
  | none => (evB Φ cl z e Γ).bind (itvR Γ)
theorem ev_Iany (h1 : ∀ es, e ≠ .rng es) (h2 : ∀ a, e ≠ .enm a) : evI Φ cl (z + 1) e Γ = itB Φ cl z e Γ (dctAt Γ e) := by
  cases e with
  | rng es => exact absurd rfl (h1 _)
  | enm a => exact absurd rfl (h2 _)
  | _ => (rw [evI]; (cases dctAt Γ _ <;> rfl); (intro _ hh; cases hh); (intro _ hh; cases hh))
theorem itB_none : itB Φ cl z e Γ none = (evB Φ cl z e Γ).bind (itvR Γ) := (rfl)
theorem itB_some {ks : List Key} {ts : List D} : itB Φ cl z e Γ (some (i, ks, ts)) = some (ks.map fun k => .one (.own (keyD k)), Γ, true, .lock i [] (.nd (.dct true true ks) ts)) := (rfl)
end
end VI
/-! XC -/
noncomputable section
namespace VI
open PySem L2

section
variable {Φ : Prg} {cl : Cl} {np z i j : Nat} {Γ Γ' Γ1 : Ctx} {d x y : D} {π : List Nat} {q : Bool} {rs : List Rd'} {es : List C} {e a b c it elt : C} {o : Op} {is : List Nat}
def exK (Γ : Ctx) : BR → Out
  | .vl _ Γ' _ => .nx Γ' []
  | .pl _ _ _ => .nx Γ []
theorem rn_ex : rn Φ cl np (z + 1) (.ex e) Γ = (evB Φ cl z e Γ).map (exK Γ) := by
  rw [rn]
  refine congrArg (fun k => (evB Φ cl z e Γ).map k) (funext fun r => ?_)
  cases r <;> rfl
theorem exK_vl : exK Γ (.vl d Γ' q) = .nx Γ' [] := (rfl)
theorem exK_pl : exK Γ (.pl j π d) = .nx Γ [] := (rfl)
def asgN (np : Nat) (Γ : Ctx) (i : Nat) : BR → Option Out
  | .vl d Γ' _ => if i < Γ'.length then some (.nx (setE Γ' i (.own d)) [i]) else none
  | .pl j π d => if i < Γ.length ∧ j ≠ i then (if π = [] ∧ np ≤ j then (getE Γ j []).map fun d0 => .nx (mvE Γ i j d0) [i] else some (.nx (setE Γ i (.al j π)) [i])) else none
theorem rn_asgN : rn Φ cl np (z + 1) (.asg (.nm i) e) Γ = (evB Φ cl z e Γ).bind (asgN np Γ i) := by
  rw [rn]
  refine congrArg _ (funext fun r => ?_)
  cases r <;> rfl
theorem asgN_vl : asgN np Γ i (.vl d Γ' q) = if i < Γ'.length then some (.nx (setE Γ' i (.own d)) [i]) else none := (rfl)
theorem asgN_pl : asgN np Γ i (.pl j π d) = if i < Γ.length ∧ j ≠ i then (if π = [] ∧ np ≤ j then (getE Γ j []).map fun d0 => .nx (mvE Γ i j d0) [i] else some (.nx (setE Γ i (.al j π)) [i])) else none := (rfl)
def asgT (is : List Nat) : BR → Option Out
  | .vl (.nd .tup ds) Γ' _ => (setL Γ' is ds).map fun Γ2 => .nx Γ2 is
  | _ => none
theorem rn_asgT : rn Φ cl np (z + 1) (.asg (.tp is) e) Γ = (evB Φ cl z e Γ).bind (asgT is) := by
  rw [rn]
  refine congrArg _ (funext fun r => ?_)
  match r with
  | .pl _ _ _ => rfl
  | .vl (.nd .tup _) _ _ => rfl
  | .vl (.nd .non _) _ _ => rfl
  | .vl (.nd (.bl _) _) _ _ => rfl
  | .vl (.nd (.int _) _) _ _ => rfl
  | .vl (.nd (.str _) _) _ _ => rfl
  | .vl (.nd (.lst _) _) _ _ => rfl
  | .vl (.nd (.dct _ _ _) _) _ _ => rfl
  | .vl (.nd (.ins _ _ _) _) _ _ => rfl
theorem asgT_vl {ds : List D} : asgT is (.vl (.nd .tup ds) Γ' q) = (setL Γ' is ds).map fun Γ2 => .nx Γ2 is := (rfl)
theorem rn_asgs : rn Φ cl np (z + 1) (.asgs is es) Γ = (evDs Φ cl z es Γ).bind fun (ds, Γ', _) => (setL Γ' is ds).map fun Γ2 => .nx Γ2 is := by rw [rn]
def asgA (Φ : Prg) (Γ1 : Ctx) (f : Nat) (v : D) : BR → Option Out
  | .pl j π x => (setFdΦ Φ x f v).map fun x' => .nx (kill (putE Γ1 j π x') j π) []
  | .vl _ _ _ => none
def asgA1 (Φ : Prg) (cl : Cl) (z : Nat) (e : C) (f : Nat) (Γ : Ctx) (r : BR) : Option Out := (evB Φ cl z e (settle Γ r).2.1).bind (asgA Φ (settle Γ r).2.1 f (settle Γ r).1)
theorem rn_asgA {f : Nat} : rn Φ cl np (z + 1) (.asg (.att e f) a) Γ = (evB Φ cl z a Γ).bind (asgA1 Φ cl z e f Γ) := by
  rw [rn]
  refine congrArg _ (funext fun r => ?_)
  show (evB Φ cl z e (settle Γ r).2.1).bind _ = (evB Φ cl z e (settle Γ r).2.1).bind _
  refine congrArg _ (funext fun r2 => ?_)
  cases r2 <;> rfl
theorem asgA1_vl {f : Nat} : asgA1 Φ cl z e f Γ (.vl d Γ' q) = (evB Φ cl z e Γ').bind (asgA Φ Γ' f d) := (rfl)
theorem stl_pl (h : isSh d = false) : settle Γ (.pl j π d) = (fz d, putE Γ j π (fz d), false) := by
  show (if isSh d = true then (d, Γ, true) else (fz d, putE Γ j π (fz d), false)) = _
  rw [h]; rfl
theorem asgA1_pl {f : Nat} (h : isSh d = false) : asgA1 Φ cl z e f Γ (.pl j π d) = (evB Φ cl z e (putE Γ j π (fz d))).bind (asgA Φ (putE Γ j π (fz d)) f (fz d)) := by
  unfold asgA1; rw [stl_pl h]
theorem asgA_pl {f : Nat} : asgA Φ Γ1 f y (.pl j π x) = (setFdΦ Φ x f y).map fun x' => .nx (kill (putE Γ1 j π x') j π) [] := (rfl)
def asgS (v : D) : List Rd' × Ctx × Bool → Option Out
  | ([.pl j π, .vl k], Γ2, _) => if live Γ2 [.pl j π] then (getE Γ2 j π).bind fun x => (setIx x k v).map fun x' => .nx (kill (putE Γ2 j π x') j π) [] else none
  | _ => none
def asgS1 (Φ : Prg) (cl : Cl) (z : Nat) (e i : C) (Γ : Ctx) (r : BR) : Option Out := (evAs Φ cl z [e, i] (settle Γ r).2.1).bind (asgS (settle Γ r).1)
theorem rn_asgS : rn Φ cl np (z + 1) (.asg (.sub e b) a) Γ = (evB Φ cl z a Γ).bind (asgS1 Φ cl z e b Γ) := by
  rw [rn]
  refine congrArg _ (funext fun r => ?_)
  show (evAs Φ cl z [e, b] (settle Γ r).2.1).bind _ = (evAs Φ cl z [e, b] (settle Γ r).2.1).bind _
  refine congrArg _ (funext fun x => ?_)
  obtain ⟨rs, Γ2, q⟩ := x
  match rs with
  | [] => rfl
  | [.pl _ _] => rfl
  | [.vl _] => rfl
  | [.pl _ _, .pl _ _] => rfl
  | [.pl _ _, .vl _] => rfl
  | [.vl _, .pl _ _] => rfl
  | [.vl _, .vl _] => rfl
  | .pl _ _ :: .pl _ _ :: _ :: _ => rfl
  | .pl _ _ :: .vl _ :: _ :: _ => rfl
  | .vl _ :: .pl _ _ :: _ :: _ => rfl
  | .vl _ :: .vl _ :: _ :: _ => rfl
theorem asgS1_vl : asgS1 Φ cl z e b Γ (.vl d Γ' q) = (evAs Φ cl z [e, b] Γ').bind (asgS d) := (rfl)
theorem asgS1_pl (h : isSh d = false) : asgS1 Φ cl z e b Γ (.pl j π d) = (evAs Φ cl z [e, b] (putE Γ j π (fz d))).bind (asgS (fz d)) := by
  unfold asgS1; rw [stl_pl h]
theorem asgS_eq {k : D} : asgS d ([.pl j π, .vl k], Γ, q) = if live Γ [.pl j π] then (getE Γ j π).bind fun x => (setIx x k d).map fun x' => .nx (kill (putE Γ j π x') j π) [] else none := (rfl)
def augK (o : Operator) (i : Nat) (x : D) : BR → Option Out
  | .vl y Γ' _ => (augX o x y).bind fun d => if i < Γ'.length then some (.nx (setE Γ' i (.own d)) [i]) else none
  | .pl _ _ _ => none
def aug1 (Φ : Prg) (cl : Cl) (z i : Nat) (o : Operator) (e : C) (Γ : Ctx) : Option (Option (Ent D)) → Option Out
  | some (some (.own x)) => (evB Φ cl z e Γ).bind (augK o i x)
  | _ => none
theorem rn_aug {o : Operator} : rn Φ cl np (z + 1) (.aug (.nm i) o e) Γ = aug1 Φ cl z i o e Γ Γ[i]? := by
  rw [rn]
  have h : ∀ (x : D) (r : BR), (match r with
      | .vl y Γ' _ => (augX o x y).bind fun d => if i < Γ'.length then some (Out.nx (setE Γ' i (.own d)) [i]) else none
      | .pl _ _ _ => none) = augK o i x r := fun x r => by cases r <;> rfl
  match Γ[i]? with
  | none => rfl
  | some none => rfl
  | some (some (.al _ _)) => rfl
  | some (some (.own x)) => exact congrArg (Option.bind (evB Φ cl z e Γ)) (funext (h x))
theorem aug1_own {o : Operator} : aug1 Φ cl z i o e Γ (some (some (.own x))) = (evB Φ cl z e Γ).bind (augK o i x) := (rfl)
theorem augK_vl {o : Operator} : augK o i x (.vl y Γ' q) = (augX o x y).bind fun d => if i < Γ'.length then some (.nx (setE Γ' i (.own d)) [i]) else none := (rfl)
/-- return -/
def retE (Γ : Ctx) (r : BR) : Out := .rt (settle Γ r).1 (settle Γ r).2.1 []
theorem retE_vl : retE Γ (.vl d Γ' q) = .rt d Γ' [] := (rfl)
theorem retE_pl (h : isSh d = false) : retE Γ (.pl j π d) = .rt (fz d) (putE Γ j π (fz d)) [] := by
  unfold retE; rw [stl_pl h]
def notV : C → Bool
  | .v _ => false
  | _ => true
theorem rn_ret (h : notV e = true) : rn Φ cl np (z + 1) (.ret e) Γ = (evB Φ cl z e Γ).map (retE Γ) := by
  cases e <;> first | (rw [rn]; rfl; done) | (rw [rn] <;> first | rfl | (intro _ hh; cases hh)) | (exact absurd h (by decide)) | cases h
theorem rn_ret_k {d : D} : rn Φ cl np (z + 1) (.ret (.k d)) Γ = (evB Φ cl z (.k d) Γ).map (retE Γ) := rn_ret rfl
theorem rn_ret_g {x : Nat} : rn Φ cl np (z + 1) (.ret (.g x)) Γ = (evB Φ cl z (.g x) Γ).map (retE Γ) := rn_ret rfl
theorem rn_ret_op {o : Op} {es : List C} : rn Φ cl np (z + 1) (.ret (.op o es)) Γ = (evB Φ cl z (.op o es) Γ).map (retE Γ) := rn_ret rfl
theorem rn_ret_chn {o1 o2 : CmpOp} {a b c : C} : rn Φ cl np (z + 1) (.ret (.chn o1 o2 a b c)) Γ = (evB Φ cl z (.chn o1 o2 a b c) Γ).map (retE Γ) := rn_ret rfl
theorem rn_ret_and {a b : C} : rn Φ cl np (z + 1) (.ret (.and a b)) Γ = (evB Φ cl z (.and a b) Γ).map (retE Γ) := rn_ret rfl
theorem rn_ret_or {a b : C} : rn Φ cl np (z + 1) (.ret (.or a b)) Γ = (evB Φ cl z (.or a b) Γ).map (retE Γ) := rn_ret rfl
theorem rn_ret_not {a : C} : rn Φ cl np (z + 1) (.ret (.not a)) Γ = (evB Φ cl z (.not a) Γ).map (retE Γ) := rn_ret rfl
theorem rn_ret_ife {a b c : C} : rn Φ cl np (z + 1) (.ret (.ife a b c)) Γ = (evB Φ cl z (.ife a b c) Γ).map (retE Γ) := rn_ret rfl
theorem rn_ret_tup {es : List C} : rn Φ cl np (z + 1) (.ret (.tup es)) Γ = (evB Φ cl z (.tup es) Γ).map (retE Γ) := rn_ret rfl
theorem rn_ret_lst {es : List C} : rn Φ cl np (z + 1) (.ret (.lst es)) Γ = (evB Φ cl z (.lst es) Γ).map (retE Γ) := rn_ret rfl
theorem rn_ret_dct0  : rn Φ cl np (z + 1) (.ret .dct0) Γ = (evB Φ cl z .dct0 Γ).map (retE Γ) := rn_ret rfl
theorem rn_ret_att {e : C} {f : Nat} : rn Φ cl np (z + 1) (.ret (.att e f)) Γ = (evB Φ cl z (.att e f) Γ).map (retE Γ) := rn_ret rfl
theorem rn_ret_idx {a b : C} : rn Φ cl np (z + 1) (.ret (.idx a b)) Γ = (evB Φ cl z (.idx a b) Γ).map (retE Γ) := rn_ret rfl
theorem rn_ret_call {f : Nat} {es : List C} : rn Φ cl np (z + 1) (.ret (.call f es)) Γ = (evB Φ cl z (.call f es) Γ).map (retE Γ) := rn_ret rfl
theorem rn_ret_make {f : Nat} {es : List C} : rn Φ cl np (z + 1) (.ret (.make f es)) Γ = (evB Φ cl z (.make f es) Γ).map (retE Γ) := rn_ret rfl
theorem rn_ret_callK {f : Nat} {es : List C} {p : List Nat} : rn Φ cl np (z + 1) (.ret (.callK f es p)) Γ = (evB Φ cl z (.callK f es p) Γ).map (retE Γ) := rn_ret rfl
theorem rn_ret_makeK {f : Nat} {es : List C} {p : List Nat} : rn Φ cl np (z + 1) (.ret (.makeK f es p)) Γ = (evB Φ cl z (.makeK f es p) Γ).map (retE Γ) := rn_ret rfl
theorem rn_ret_mth {e : C} {m : Nat} {es : List C} : rn Φ cl np (z + 1) (.ret (.mth e m es)) Γ = (evB Φ cl z (.mth e m es) Γ).map (retE Γ) := rn_ret rfl
theorem rn_ret_frz {e : C} : rn Φ cl np (z + 1) (.ret (.frz e)) Γ = (evB Φ cl z (.frz e) Γ).map (retE Γ) := rn_ret rfl
theorem rn_ret_lc {own : List Nat} {tg : Tg} {it : C} {ifs : List C} {e : C} : rn Φ cl np (z + 1) (.ret (.lc own tg it ifs e)) Γ = (evB Φ cl z (.lc own tg it ifs e) Γ).map (retE Γ) := rn_ret rfl
theorem rn_ret_slc {e : C} {l h : List C} : rn Φ cl np (z + 1) (.ret (.slc e l h)) Γ = (evB Φ cl z (.slc e l h) Γ).map (retE Γ) := rn_ret rfl
def retV (Φ : Prg) (cl : Cl) (np z i : Nat) (Γ : Ctx) : Option (Option (Ent D)) → Option Out
  | some (some (.own d)) => if np ≤ i ∧ isSh d = false then some (.rt d ((killAll Γ i).set i none) []) else (evB Φ cl z (.v i) Γ).map (retE Γ)
  | _ => (evB Φ cl z (.v i) Γ).map (retE Γ)
theorem rn_retV : rn Φ cl np (z + 1) (.ret (.v i)) Γ = retV Φ cl np z i Γ Γ[i]? := by
  rw [rn]
  match Γ[i]? with
  | none => rfl
  | some none => rfl
  | some (some (.al _ _)) => rfl
  | some (some (.own x)) => rfl
theorem retV_own : retV Φ cl np z i Γ (some (some (.own d))) = if np ≤ i ∧ isSh d = false then some (.rt d ((killAll Γ i).set i none) []) else (evB Φ cl z (.v i) Γ).map (retE Γ) := (rfl)
theorem retV_al : retV Φ cl np z i Γ (some (some (.al j π))) = (evB Φ cl z (.v i) Γ).map (retE Γ) := (rfl)
theorem rn_retN : rn Φ cl np (z + 1) .retN Γ = some (.rt dN Γ []) := by rw [rn]
theorem rn_pass : rn Φ cl np (z + 1) .pass Γ = some (.nx Γ []) := by rw [rn]

/-! ### written contexts -/
variable {Δ : Ctx} {m n : Nat}
theorem getE_eq : getE Γ j π = match Γ[j]? with
  | some (some (.own d)) => d.at_ π
  | _ => none := (rfl)
theorem putE_eq : putE Γ j π d = match Γ[j]? with
  | some (some (.own d0)) => Γ.set j (some (.own (d0.put π d)))
  | _ => Γ := (rfl)
theorem killA_nil : killAll ([] : Ctx) j = [] := (rfl)
theorem killA_own : killAll (some (.own d) :: Γ : Ctx) j = some (.own d) :: killAll Γ j := (rfl)
theorem killA_none : killAll (none :: Γ : Ctx) j = none :: killAll Γ j := (rfl)
theorem killA_al : killAll (some (.al i π) :: Γ : Ctx) j = (if i = j then none else some (.al i π)) :: killAll Γ j := (rfl)
theorem kil_nil {ρ : List Nat} : kill ([] : Ctx) j ρ = [] := (rfl)
theorem kil_own {ρ : List Nat} : kill (some (.own d) :: Γ : Ctx) j ρ = some (.own d) :: kill Γ j ρ := (rfl)
theorem kil_none {ρ : List Nat} : kill (none :: Γ : Ctx) j ρ = none :: kill Γ j ρ := (rfl)
theorem kil_al {ρ : List Nat} : kill (some (.al i π) :: Γ : Ctx) j ρ = (if i = j ∧ below ρ π = true then none else some (.al i π)) :: kill Γ j ρ := (rfl)
theorem setE_eq {en : Ent D} : setE Γ i en = (killAll Γ i).set i (some en) := (rfl)
theorem mvE_eq : mvE Γ i j d = setE (setE ((killAll Γ j).set j none) i (.own d)) j (.al i []) := (rfl)
theorem setL_nil : setL Γ [] [] = some Γ := (rfl)
theorem setL_cons {ds : List D} : setL Γ (i :: is) (d :: ds) = if i < Γ.length ∧ i ∉ is then setL (setE Γ i (.own d)) is ds else none := (rfl)
theorem at_c {g : DT} {ts : List D} : Tr.at_ (.nd g ts) (n :: π) = (ts[n]?).bind fun t => Tr.at_ t π := (rfl)
theorem put_c {g : DT} {ts : List D} {t u : D} (h : ts[n]? = some t) : Tr.put (.nd g ts) (n :: π) u = .nd g (ts.set n (t.put π u)) := Tr.put_cons h π u
theorem res_pl : res Γ (.pl j π) = getE Γ j π := (rfl)
theorem res_vl : res Γ (.vl d) = some d := (rfl)
theorem resL_0 : resL Γ [] = some [] := (rfl)
theorem resL_v : resL Γ (.vl d :: rs) = (resL Γ rs).map fun ds => d :: ds := (rfl)
theorem resL_p : resL Γ (.pl j π :: rs) = (getE Γ j π).bind fun d => (resL Γ rs).map fun ds => d :: ds := (rfl)
theorem wrB_0 : wrB Γ [] [] = Γ := (rfl)
theorem wrB_v {os : List D} : wrB Γ (.vl d :: rs) (x :: os) = wrB Γ rs os := (rfl)
theorem wrB_p {os : List D} : wrB Γ (.pl j π :: rs) (x :: os) = kill (putE (wrB Γ rs os) j π x) j π := (rfl)
theorem live_0 : live Γ [] = true := (rfl)
theorem live_v : live Γ (.vl d :: rs) = live Γ rs := (rfl)
theorem live_p : live Γ (.pl j π :: rs) = ((match getE Γ j π with
    | some d => !isSh d
    | none => false) && live Γ rs) := (rfl)
theorem free_eq : free Γ rs = (apart rs && live Γ rs) := (rfl)
theorem apart_0 : apart [] = true := (rfl)
theorem apart_v : apart (.vl d :: rs) = apart rs := (rfl)
theorem apart_p : apart (.pl j π :: rs) = (apart2 j π rs && apart rs) := (rfl)
theorem apart2_0 : apart2 j π [] = true := (rfl)
theorem apart2_v : apart2 j π (.vl d :: rs) = apart2 j π rs := (rfl)
theorem apart2_p {ρ : List Nat} : apart2 j π (.pl i ρ :: rs) = ((decide (i ≠ j) || (!π.isPrefixOf ρ && !ρ.isPrefixOf π)) && apart2 j π rs) := (rfl)
theorem noPl_0 : noPl [] = true := (rfl)
theorem noPl_v : noPl (.vl d :: rs) = noPl rs := (rfl)
theorem noPl_p : noPl (.pl j π :: rs) = false := (rfl)
theorem sh_I {v : Int} : isSh (dI v) = true := (rfl)
theorem sh_B {v : Bool} : isSh (dB v) = true := (rfl)
theorem sh_N : isSh dN = true := (rfl)
theorem sh_S {v : Str} : isSh (dS v) = true := (rfl)
theorem sh_T {ts : List D} : isSh (dT ts) = true := (rfl)
theorem sh_L {o : Bool} {ts : List D} : isSh (dL o ts) = !o := (rfl)
theorem sh_D {o l : Bool} {ks : List Key} {ts : List D} : isSh (.nd (.dct o l ks) ts) = !o := (rfl)
theorem sh_O {o : Bool} {k : Nat} {ns : List Nat} {ts : List D} : isSh (dO o k ns ts) = !o := (rfl)
theorem cls_O {o : Bool} {k : Nat} {ns : List Nat} {ts : List D} : clsOf (dO o k ns ts) = some k := (rfl)
theorem kids_e {g : DT} {ts : List D} : Tr.kids (.nd g ts) = ts := (rfl)
theorem outs0_0 : outs0 Γ i [] = some [] := (rfl)
theorem outs0_c {ds : List D} : outs0 Γ i (d :: ds) = (outs0 Γ (i + 1) ds).bind fun os => if isSh d then some (d :: os) else match Γ[i]? with
    | some (some (.own d')) => some (d' :: os)
    | _ => none := (rfl)
theorem isNon_N : isNon dN = true := (rfl)
theorem forg_0 : forget ([] : Ctx) is = [] := (rfl)
theorem clean_eq : clean Γ is = is.all fun i => match Γ[i]? with
  | some (some _) => false
  | _ => true := (rfl)
theorem forget_eq : forget Γ is = Γ.mapIdx (forgE is) := (rfl)
theorem frg_none {k : Nat} : forgE (α := D) is k none = none := (rfl)
theorem frg_own {k : Nat} : forgE is k (some (.own d)) = if is.contains k then none else some (.own d) := (rfl)
theorem frg_al {k : Nat} : forgE (α := D) is k (some (.al j π)) = if is.contains k || is.contains j then none else some (.al j π) := (rfl)
end
end VI
/-! XD -/
noncomputable section
namespace VI
open PySem L2

section
variable {Φ : Prg} {a b : Int} {x y d : D} {xs ys ts : List D} {o : Bool} {i : Nat}
theorem opd_add : opX Φ (.bin .Add) [dI a, dI b] = some (dI (a + b)) := by rw [opX_eq]; rfl
theorem opd_sub : opX Φ (.bin .Sub) [dI a, dI b] = some (dI (a - b)) := by rw [opX_eq]; rfl
theorem opd_mul (h : small64 a = true ∨ small64 b = true) : opX Φ (.bin .Mult) [dI a, dI b] = some (dI (a * b)) := by
  rw [opX_eq]
  show (if (small64 a || small64 b) = true then some (dI (a * b)) else none) = _
  rw [if_pos (by rw [Bool.or_eq_true]; exact h)]
theorem opd_div (h0 : b ≠ 0) (h : b.natAbs < 1073741824) : opX Φ (.bin .FloorDiv) [dI a, dI b] = some (dI (a.fdiv b)) := by rw [opX_eq]; exact if_pos ⟨h0, h⟩
theorem opd_mod (h0 : b ≠ 0) : opX Φ (.bin .Mod) [dI a, dI b] = some (dI (a.fmod b)) := by rw [opX_eq]; exact if_pos h0
theorem opd_pow (h0 : 0 ≤ b ∧ (Builtin.Int.intBits a : Int) * b ≤ 2 ^ 27) : opX Φ (.bin .Pow) [dI a, dI b] = some (dI (a ^ b.toNat)) := by rw [opX_eq]; exact if_pos h0
theorem opd_lt : opX Φ (.cmp .Lt) [dI a, dI b] = some (dB (decide (a < b))) := by rw [opX_eq]; rfl
theorem opd_le : opX Φ (.cmp .LtE) [dI a, dI b] = some (dB (decide (a ≤ b))) := by rw [opX_eq]; rfl
theorem opd_gt : opX Φ (.cmp .Gt) [dI a, dI b] = some (dB (decide (b < a))) := by rw [opX_eq]; rfl
theorem opd_ge : opX Φ (.cmp .GtE) [dI a, dI b] = some (dB (decide (b ≤ a))) := by rw [opX_eq]; rfl
theorem cm_lt : cmpD .Lt (dI a) (dI b) = some (dB (decide (a < b))) := (rfl)
theorem cm_le : cmpD .LtE (dI a) (dI b) = some (dB (decide (a ≤ b))) := (rfl)
theorem cm_eqI : cmpD .Eq (dI a) (dI b) = some (dB (decide (a = b))) := by
  show (if (SeqAt.shaped (.int a) && SeqAt.shaped (.int b)) = true then some (dB (PyData.eqv (.int a) (.int b))) else none) = _
  have h : ∀ i : Int, SeqAt.shaped (.int i) = true := fun i => by simp [SeqAt.shaped, PyData.canLay0, PyData.depth]
  rw [h, h, PyData.eqv, show (a == b) = decide (a = b) from rfl]; rfl
theorem cm_neI : cmpD .NotEq (dI a) (dI b) = some (dB (!decide (a = b))) := by
  show (if (SeqAt.shaped (.int a) && SeqAt.shaped (.int b)) = true then some (dB (!PyData.eqv (.int a) (.int b))) else none) = _
  have h : ∀ i : Int, SeqAt.shaped (.int i) = true := fun i => by simp [SeqAt.shaped, PyData.canLay0, PyData.depth]
  rw [h, h, PyData.eqv, show (a == b) = decide (a = b) from rfl]; rfl
theorem opd_eqI : opX Φ (.cmp .Eq) [dI a, dI b] = some (dB (decide (a = b))) := by rw [opX_eq]; exact cm_eqI
theorem opd_neI : opX Φ (.cmp .NotEq) [dI a, dI b] = some (dB (!decide (a = b))) := by rw [opX_eq]; exact cm_neI
theorem opd_isN : opX Φ (.cmp .Is) [x, dN] = some (dB (isNon x)) := by rw [opX_eq]; cases x with | nd g k => cases g <;> rfl
theorem opd_neg : opX Φ .neg [dI a] = some (dI (-a)) := by rw [opX_eq]; rfl
theorem opd_lenL : opX Φ .len [dL o xs] = some (dI (xs.length : Int)) := by rw [opX_eq]; rfl
theorem opd_lenT : opX Φ .len [dT xs] = some (dI (xs.length : Int)) := by rw [opX_eq]; rfl
theorem opd_lenD {l : Bool} {ks : List Key} : opX Φ .len [.nd (.dct o l ks) xs] = some (dI (xs.length : Int)) := by rw [opX_eq]; rfl
theorem opd_abs : opX Φ .abs [dI a] = some (dI (if a < 0 then -a else a)) := by rw [opX_eq]; rfl
theorem opd_max : opX Φ .max [dI a, dI b] = some (dI (if b > a then b else a)) := by rw [opX_eq]; rfl
theorem opd_min : opX Φ .min [dI a, dI b] = some (dI (if b < a then b else a)) := by rw [opX_eq]; rfl
theorem opd_int : opX Φ .int [dI a] = some (dI a) := by rw [opX_eq]; rfl
theorem opd_intB {b : Bool} : opX Φ .int [dB b] = some (dI (if b then 1 else 0)) := by rw [opX_eq]; rfl
theorem opd_listL (h : allSh xs = true) : opX Φ .list [dL o xs] = some (dL true xs) := by rw [opX_eq]; exact if_pos h
theorem opd_listT (h : allSh xs = true) : opX Φ .list [dT xs] = some (dL true xs) := by rw [opX_eq]; exact if_pos h
theorem opd_set0 : opX Φ .sortedset [dL o []] = some (dL true []) := by rw [opX_eq]; rfl
theorem opd_rev (h : allSh xs = true) : opX Φ .rev [dL o xs] = some (dL true xs.reverse) := by rw [opX_eq]; exact if_pos h
theorem opd_lrg (h : -(2 ^ 62) ≤ a ∧ a ≤ lim) : opX Φ .listrange [dI a] = some (dL true ((List.range a.toNat).map fun (i : Nat) => dI (i : Int))) := by rw [opX_eq]; exact if_pos h
theorem opd_cat {o' : Bool} (h : allSh xs = true) (h' : allSh ys = true) (hl : xs.length + ys.length ≤ lim) : opX Φ (.bin .Add) [dL o xs, dL o' ys] = some (dL true (xs ++ ys)) := by
  rw [opX_eq]
  show (if (allSh xs && allSh ys && decide (xs.length + ys.length ≤ lim)) = true then some (dL true (xs ++ ys)) else none) = _
  rw [h, h', decide_eq_true hl]; rfl
theorem opd_rep (h : allSh xs = true) (h2 : -(2 ^ 63) ≤ a ∧ a < 2 ^ 63) (hl : xs.length * a.toNat ≤ lim) : opX Φ (.bin .Mult) [dL o xs, dI a] = some (dL true (List.replicate a.toNat xs).flatten) := by rw [opX_eq]; exact if_pos ⟨h, h2.1, h2.2, hl⟩
theorem opd_slo (h : allSh xs = true) : opX Φ .slo [dL o xs, dI a] = some (dL true (cutD xs (some a) none)) := by rw [opX_eq]; exact if_pos h
theorem opd_shi (h : allSh xs = true) : opX Φ .shi [dL o xs, dI a] = some (dL true (cutD xs none (some a))) := by rw [opX_eq]; exact if_pos h
theorem opd_all (h : boolsOf xs = some bs) : opX Φ .all [dL o xs] = some (dB (bs.all id)) := by
  rw [opX_eq]
  show (boolsOf xs).map _ = _
  rw [h]; rfl
theorem opd_isi {t : Ty} : opX Φ (.isi t) [x] = some (dB (isiD Φ x t)) := by rw [opX_eq]; rfl
theorem opd_sorted {ss : List D} (h : sortD xs = some ss) : opX Φ .sorted [dL o xs] = some (dL true ss) := by
  rw [opX_eq]
  show (sortD xs).map _ = _
  rw [h]; rfl
theorem opd_sortedD {l : Bool} {ks : List Key} {ss : List D} (hl : ks.length ≤ ts.length) (h : sortD (ks.map keyD) = some ss) : opX Φ .sorted [.nd (.dct o l ks) ts] = some (dL true ss) := by
  rw [opX_eq]
  show (if ks.length ≤ ts.length then (sortD (ks.map keyD)).map (dL true) else none) = _
  rw [if_pos hl, h]; rfl
theorem boolsOf_map {α : Type} {f : α → Bool} : ∀ {l : List α}, boolsOf (l.map fun x => dB (f x)) = some (l.map f)
  | [] => rfl
  | x :: l => by
    show (boolsOf (l.map fun x => dB (f x))).map _ = _
    rw [boolsOf_map]; rfl
theorem isi_int : isiD Φ (dI a) .int = true := (rfl)
theorem isi_intB : isiD Φ (dI a) .bool = false := (rfl)
theorem isi_T : isiD Φ (dT xs) .tuple = true := (rfl)
theorem isi_L : isiD Φ (dL o xs) .list = true := (rfl)
theorem isi_cls {k c : Nat} {ns : List Nat} : isiD Φ (dO o k ns xs) (.cls c) = Φ.sub k c := (rfl)
theorem aug_add : augX .Add (dI a) (dI b) = some (dI (a + b)) := by rw [augX_eq]; rfl
theorem aug_sub : augX .Sub (dI a) (dI b) = some (dI (a - b)) := by rw [augX_eq]; rfl
theorem aug_mul (h : small64 a = true ∨ small64 b = true) : augX .Mult (dI a) (dI b) = some (dI (a * b)) := by
  rw [augX_eq]
  show (if (small64 a || small64 b) = true then some (dI (a * b)) else none) = _
  rw [if_pos (by rw [Bool.or_eq_true]; exact h)]
theorem small_of (h : -(2 ^ 64) < a ∧ a < 2 ^ 64) : small64 a = true := by
  unfold small64
  rw [decide_eq_true h.1, decide_eq_true h.2]; rfl
/-! items -/
theorem ixN_of {n : Nat} {k : Int} (h : 0 ≤ k) (h2 : k < n) : ixN n k = some k.toNat := by unfold ixN; rw [if_pos h, if_pos h2]
theorem ix_L {k : Int} {n : Nat} (hn : k = n) (h : n < xs.length) : ixOf (dL o xs) (dI k) = some n := by
  subst hn
  show ((ixN xs.length (n : Int)).bind fun n => if n < xs.length then some n else none) = _
  rw [ixN_of (by omega) (by omega)]
  show (if (n : Int).toNat < xs.length then some (n : Int).toNat else none) = _
  rw [Int.toNat_natCast, if_pos h]
theorem ix_T {k : Int} {n : Nat} (hn : k = n) (h : n < xs.length) : ixOf (dT xs) (dI k) = some n := by
  subst hn
  show ((ixN xs.length (n : Int)).bind fun n => if n < xs.length then some n else none) = _
  rw [ixN_of (by omega) (by omega)]
  show (if (n : Int).toNat < xs.length then some (n : Int).toNat else none) = _
  rw [Int.toNat_natCast, if_pos h]
theorem ix_neg {k : Int} (h0 : k < 0) (h : -(xs.length : Int) ≤ k) : ixOf (dL o xs) (dI k) = some (k + xs.length).toNat := by
  show ((ixN xs.length k).bind fun n => if n < xs.length then some n else none) = _
  unfold ixN
  rw [if_neg (by omega), if_pos h]
  show (if (k + xs.length).toNat < xs.length then _ else none) = _
  rw [if_pos (by omega)]
theorem six_L {k : Int} {n : Nat} (hn : k = n) (h : n < xs.length) : setIx (dL true xs) (dI k) d = some (dL true (xs.set n d)) := by
  subst hn
  show ((ixN xs.length (n : Int)).bind fun n => if n < xs.length then some (dL true (xs.set n d)) else none) = _
  rw [ixN_of (by omega) (by omega)]
  show (if (n : Int).toNat < xs.length then some (dL true (xs.set (n : Int).toNat d)) else none) = _
  rw [Int.toNat_natCast, if_pos h]
theorem mu_app (h : xs.length < lim) : muX 0 (dL true xs) [d] = some (dN, dL true (xs ++ [d])) := by rw [muX_eq]; exact if_pos h
theorem mu_clr : muX 1 (dL true xs) [] = some (dN, dL true []) := by rw [muX_eq]; rfl
theorem mu_popN {k : Int} {n : Nat} (hk : k = n) (hn : xs[n]? = some d) (h2 : n < 2 ^ 62) : muX 2 (dL true xs) [dI k] = some (d, dL true (xs.eraseIdx n)) := by
  rw [muX_eq]
  subst hk
  have hl : n < xs.length := (List.getElem?_eq_some_iff.mp hn).1
  have e : seqIndex? (n : Int) xs.length = some n := by
    unfold seqIndex?
    simp only [show ¬ (n : Int) < 0 by omega, if_false]
    rw [if_pos (by simp; omega), Int.toNat_natCast]
  have h3 : -(2 ^ 63) ≤ (n : Int) ∧ (n : Int) < 2 ^ 63 := by omega
  simp only [muM, e, Option.bind_some, hn, h3, and_self, if_true]
theorem mu_pop0 (hn : xs[xs.length - 1]? = some d) : muX 2 (dL true xs) [] = some (d, dL true xs.dropLast) := by
  rw [muX_eq]
  show (xs[xs.length - 1]?).map _ = _
  rw [hn]; rfl
theorem cnt_app : cntM 0 (dL o xs) ys = none := by unfold cntM; rfl
theorem cnt_clr : cntM 1 (dL o xs) ys = none := by unfold cntM; rfl
theorem cnt_pop : cntM 2 (dL o xs) ys = none := by unfold cntM; rfl
theorem intsOf_map : ∀ {l : List Int}, intsOf (l.map dI) = some l
  | [] => rfl
  | x :: l => by
    show (intsOf (l.map dI)).map _ = _
    rw [intsOf_map]; rfl
theorem cnt_cnt {l : List Int} {k : Int} : cntM 8 (dL o (l.map dI)) [dI k] = some (dI ((l.count k : Nat) : Int)) := by
  show (intsOf (l.map dI)).map _ = _
  rw [intsOf_map]; rfl
theorem allSh_map {α : Type} {f : α → D} {l : List α} (h : ∀ x, isSh (f x) = true) : allSh (l.map f) = true := by
  unfold allSh
  rw [List.all_eq_true]
  intro d hd
  obtain ⟨x, _, rfl⟩ := List.mem_map.mp hd
  exact h x
theorem allSh_ints {l : List Int} : allSh (l.map dI) = true := allSh_map fun _ => rfl
theorem allSh_nil : allSh [] = true := (rfl)
theorem allSh_cons : allSh (x :: xs) = (isSh x && allSh xs) := (rfl)
theorem allSh_append : allSh (xs ++ ys) = (allSh xs && allSh ys) := List.all_append
theorem fz_L : fz (dL o xs) = dL false (xs.map fz) := Tr.map_nd _ _ _
theorem fz_T : fz (dT xs) = dT (xs.map fz) := Tr.map_nd _ _ _
theorem fz_I : fz (dI a) = dI a := Tr.map_nd _ _ _
theorem fz_ints : ∀ {l : List Int}, (l.map dI).map fz = l.map dI
  | [] => rfl
  | x :: l => by rw [List.map_cons, List.map_cons, fz_I, fz_ints]
/-! ranges -/
theorem rng_1 (h : a < 2 ^ 62 ∧ -(2 ^ 62) ≤ a) : rngX [dI a] = some ((List.range a.toNat).map fun (i : Nat) => dI (0 + (i : Int))) := by rw [rngX_eq]; exact if_pos h
theorem rng_2 (h : a < 2 ^ 62 ∧ -(2 ^ 62) ≤ a ∧ b < 2 ^ 62 ∧ -(2 ^ 62) ≤ b) : rngX [dI a, dI b] = some ((List.range (b - a).toNat).map fun (i : Nat) => dI (a + (i : Int))) := by rw [rngX_eq]; exact if_pos h
theorem asg_nm {Γ : Ctx} {e : Ent D} (h : i < Γ.length) (h2 : notAl i e = true) : asgI (.nm i) (.one e) Γ = some (setE Γ i e) := if_pos ⟨h, h2⟩
end
end VI
/-! XE -/
namespace VI
open PySem L2

/-! ## comprehensions, walks -/
def fgt (is : List Nat) : Nat → Ctx → Ctx
  | _, [] => []
  | k, x :: Γ => forgE is k x :: fgt is (k + 1) Γ
theorem mapIdx_fgt {is : List Nat} : ∀ {Γ : Ctx} {k : Nat}, Γ.mapIdx (fun i => forgE is (k + i)) = fgt is k Γ
  | [], _ => rfl
  | x :: Γ, k => by
    rw [List.mapIdx_cons, fgt, ← mapIdx_fgt (Γ := Γ) (k := k + 1)]
    congr 1
    congr 1
    funext i
    rw [show k + (i + 1) = k + 1 + i by omega]
theorem forget_fgt {is : List Nat} {Γ : Ctx} : forget Γ is = fgt is 0 Γ := by
  unfold forget
  rw [← mapIdx_fgt]
  congr 1
  funext i
  rw [Nat.zero_add]
section
variable {Φ : Prg} {cl : Cl} {z i j k : Nat} {Γ Γ0 Γ1 : Ctx} {d : D} {is own : List Nat} {tg : Tg} {ifs : List C} {elt : C} {π : List Nat} {o : Bool} {ts : List D}
theorem stl_vl {q : Bool} : settle Γ (.vl d Γ1 q) = (d, Γ1, q) := (rfl)
theorem fgt_nil : fgt is k [] = [] := (rfl)
theorem fgt_none : fgt is k (none :: Γ) = none :: fgt is (k + 1) Γ := (rfl)
theorem fgt_own : fgt is k (some (.own d) :: Γ) = (if is.contains k then none else some (.own d)) :: fgt is (k + 1) Γ := (rfl)
theorem fgt_al : fgt is k (some (.al j π) :: Γ) = (if is.contains k || is.contains j then none else some (.al j π)) :: fgt is (k + 1) Γ := (rfl)
def dctV (i : Nat) : Option (Option (Ent D)) → Option (Nat × List Key × List D)
  | some (some (.own (.nd (.dct true false ks) ts))) => some (i, ks, ts)
  | _ => none
theorem dct_v : dctAt Γ (.v i) = dctV i Γ[i]? := by
  show (match Γ[i]? with
    | some (some (.own (.nd (.dct true false ks) ts))) => some (i, ks, ts)
    | _ => none) = dctV i Γ[i]?
  unfold dctV
  rfl
theorem dctV_d {ks : List Key} : dctV i (some (some (.own (.nd (.dct true false ks) ts)))) = some (i, ks, ts) := (rfl)
theorem dctV_l : dctV i (some (some (.own (dL o ts)))) = none := (rfl)
theorem dctV_t : dctV i (some (some (.own (dT ts)))) = none := (rfl)
theorem dctV_al : dctV i (some (some (.al j π))) = none := (rfl)
theorem dct_op {p : Op} {es : List C} : dctAt Γ (.op p es) = none := (rfl)
theorem dct_att {e : C} {f : Nat} : dctAt Γ (.att e f) = none := (rfl)
theorem dct_idx {e f : C} : dctAt Γ (.idx e f) = none := (rfl)
theorem dct_call {f : Nat} {es : List C} : dctAt Γ (.call f es) = none := (rfl)
theorem dct_mth {e : C} {f : Nat} {es : List C} : dctAt Γ (.mth e f es) = none := (rfl)
theorem dct_lst {es : List C} : dctAt Γ (.lst es) = none := (rfl)
theorem dct_g {x : Nat} : dctAt Γ (.g x) = none := (rfl)
theorem mapIdx_sh {f : Nat → D → Itm} {g : D → Itm} : ∀ {ts : List D}, allSh ts = true → (∀ k x, isSh x = true → f k x = g x) → ts.mapIdx f = ts.map g
  | [], _, _ => rfl
  | t :: ts, h, hf => by
    rw [allSh_cons, Bool.and_eq_true] at h
    rw [List.mapIdx_cons, List.map_cons, hf 0 t h.1, mapIdx_sh (f := fun i => f (i + 1)) (g := g) h.2 fun k x hx => hf (k + 1) x hx]
theorem itv_pl (h : allSh ts = true) : itvR Γ (.pl j π (dL o ts)) = some (ts.map fun x => .one (.own x), Γ, true, .still) := by
  show some ((ts.mapIdx fun k x => Itm.one (if isSh x then .own x else .al j (π ++ [k]))), Γ, true, Wk.still) = _
  rw [mapIdx_sh (g := fun x => .one (.own x)) h fun k x hx => by rw [hx]; rfl]
theorem itv_vl {q : Bool} (h : allSh ts = true) : itvR Γ (.vl (dL o ts) Γ1 q) = some (ts.map fun x => .one (.own x), Γ1, q, .free) := if_pos h
theorem itv_T {q : Bool} : itvR Γ (.vl (dT ts) Γ1 q) = some (ts.map fun x => .one (.own x), Γ1, q, .free) := (rfl)
/-- items with their numbers -/
def enI (ts : List D) : List Itm := ts.mapIdx fun k x => .two (.own (dI (k : Int))) (.own x)
theorem enI_eq {ts : List D} : enI ts = ts.zipIdx.map fun p => .two (.own (dI ((p.2 : Nat) : Int))) (.own p.1) := by
  unfold enI
  rw [List.mapIdx_eq_zipIdx_map]
theorem enm_pl (h : allSh ts = true) : enmR Γ (.pl j π (dL o ts)) = some (enI ts, Γ, true, .still) := by
  show some ((ts.mapIdx fun k x => Itm.two (.own (dI (k : Int))) (if isSh x then .own x else .al j (π ++ [k]))), Γ, true, Wk.still) = _
  have : ∀ {ts : List D} {f g : Nat → D → Itm}, allSh ts = true → (∀ k x, isSh x = true → f k x = g k x) → ts.mapIdx f = ts.mapIdx g := by
    intro ts
    induction ts with
    | nil => intros; rfl
    | cons t ts ih =>
      intro f g h hf
      rw [allSh_cons, Bool.and_eq_true] at h
      rw [List.mapIdx_cons, List.mapIdx_cons, hf 0 t h.1, ih h.2 fun k x hx => hf (k + 1) x hx]
  rw [this (g := fun k x => .two (.own (dI (k : Int))) (.own x)) h fun k x hx => by simp only [hx, if_true]]; try rfl
theorem enm_vl {q : Bool} (h : allSh ts = true) : enmR Γ (.vl (dL o ts) Γ1 q) = some (enI ts, Γ1, q, .free) := if_pos h
/-- a comprehension whose turns leave the frame as it is -/
theorem lcGo_pure {α : Type} {it : α → Itm} {G : α → Ctx} {keep : α → Bool} {g : α → D} {xs : List α}
    (h1 : ∀ x ∈ xs, asgI tg (it x) Γ0 = some (G x)) (h2 : ∀ x ∈ xs, evTs Φ cl z ifs (G x) = some (keep x, G x, true))
    (h3 : ∀ x ∈ xs, keep x = true → ∃ r, evB Φ cl z elt (G x) = some r ∧ settle (G x) r = (g x, G x, true)) (h4 : ∀ x ∈ xs, forget (G x) own = Γ0) (hl : xs.length ≤ lim) :
    lcGo Φ cl z own tg ifs elt (xs.map it) [] Γ0 true = some ((xs.filter keep).map g, Γ0, true) := by
  have go : ∀ (ys : List α) (acc : List D), (∀ x ∈ ys, x ∈ xs) → acc.length + ys.length ≤ lim → lcGo Φ cl z own tg ifs elt (ys.map it) acc Γ0 true = some (acc ++ (ys.filter keep).map g, Γ0, true) := by
    intro ys
    induction ys with
    | nil => intro acc _ _; simp [lcGo, lcRun]
    | cons y ys ih =>
      intro acc hm ha
      have my := hm y List.mem_cons_self
      unfold lcGo
      rw [List.map_cons, lcRun, h1 y my]
      show (evTs Φ cl z ifs (G y)).bind _ = _
      rw [h2 y my]
      show (if keep y = true then _ else _) = _
      cases hk : keep y with
      | false =>
        simp only [Bool.false_eq_true, if_false, h4 y my, Bool.and_self]
        have := ih acc (fun x hx => hm x (List.mem_cons_of_mem _ hx)) (by simp at ha; omega)
        unfold lcGo at this
        rw [this, List.filter_cons_of_neg (by simp [hk])]
      | true =>
        obtain ⟨r, e1, e2⟩ := h3 y my hk
        simp only [if_true, e1, Option.map_some, Option.bind_some, e2, h4 y my, Bool.and_self]
        have hlt : acc.length < lim := by simp at ha; omega
        rw [if_pos hlt]
        have := ih (acc ++ [g y]) (fun x hx => hm x (List.mem_cons_of_mem _ hx)) (by simp at ha ⊢; omega)
        unfold lcGo at this
        rw [this, List.filter_cons_of_pos (by simp [hk])]
        simp
  have := go xs [] (fun _ h => h) (by simpa using hl)
  simpa using this
/-- a comprehension whose turns change the frame -/
theorem lcGo_inv {α : Type} {it : α → Itm} {q0 : Bool} (I : List α → List D → Ctx → Prop) {xs : List α} (h0 : I [] [] Γ0)
    (step : ∀ pre x post acc Γ, xs = pre ++ x :: post → I pre acc Γ → ∃ Γ1 Γ2 d Γ3 q2 q3 r, asgI tg (it x) Γ = some Γ1 ∧ evTs Φ cl z ifs Γ1 = some (true, Γ2, q2) ∧ evB Φ cl z elt Γ2 = some r ∧ settle Γ2 r = (d, Γ3, q3) ∧ acc.length < lim ∧ I (pre ++ [x]) (acc ++ [d]) (forget Γ3 own)) :
    ∃ ds Γ' q', lcGo Φ cl z own tg ifs elt (xs.map it) [] Γ0 q0 = some (ds, Γ', q') ∧ I xs ds Γ' := by
  have go : ∀ (ys pre : List α) (acc : List D) (Γ : Ctx) (q : Bool), xs = pre ++ ys → I pre acc Γ → ∃ ds Γ' q', lcGo Φ cl z own tg ifs elt (ys.map it) acc Γ q = some (ds, Γ', q') ∧ I xs ds Γ' := by
    intro ys
    induction ys with
    | nil =>
      intro pre acc Γ q e h
      rw [List.append_nil] at e
      subst e
      exact ⟨acc, Γ, q, by simp [lcGo, lcRun], h⟩
    | cons y ys ih =>
      intro pre acc Γ q e h
      obtain ⟨Γ1, Γ2, d, Γ3, q2, q3, r, a1, a2, a3, a4, a5, a6⟩ := step pre y ys acc Γ e h
      obtain ⟨ds, Γ', q', b1, b2⟩ := ih (pre ++ [y]) (acc ++ [d]) (forget Γ3 own) (q && q2 && q3) (by rw [e]; simp) a6
      refine ⟨ds, Γ', q', ?_, b2⟩
      unfold lcGo at b1 ⊢
      rw [List.map_cons, lcRun, a1]
      show (evTs Φ cl z ifs Γ1).bind _ = _
      rw [a2]
      simp only [Option.bind_some, if_true, a3, Option.map_some, a4, a5]
      exact b1
  exact go xs [] [] Γ0 q0 rfl h0
/-- without tests, to a value that is shared -/
theorem lcGo_map {α : Type} {it : α → Itm} {G : α → Ctx} {g : α → D} {xs : List α}
    (h1 : ∀ x ∈ xs, asgI tg (it x) Γ0 = some (G x)) (h3 : ∀ x ∈ xs, evB Φ cl (z + 1) elt (G x) = some (.vl (g x) (G x) true)) (h4 : ∀ x ∈ xs, forget (G x) own = Γ0) (hl : xs.length ≤ lim) :
    lcGo Φ cl (z + 1) own tg [] elt (xs.map it) [] Γ0 true = some (xs.map g, Γ0, true) := by
  have := lcGo_pure (Φ := Φ) (cl := cl) (z := z + 1) (own := own) (tg := tg) (ifs := []) (elt := elt) (Γ0 := Γ0) (it := it) (G := G) (keep := fun _ => true) (g := g) (xs := xs) h1 (fun x hx => by rw [ev_Ts0]) (fun x hx _ => ⟨_, h3 x hx, rfl⟩) h4 hl
  rwa [List.filter_eq_self.mpr fun _ _ => rfl] at this
end
/-! by constructors -/
section
variable {Φ : Prg} {cl : Cl} {z : Nat} {Γ : Ctx} {rs : List C}
theorem ev_D_k {d : D} : evDs Φ cl (z + 1) ((.k d) :: rs) Γ = (evB Φ cl z (.k d) Γ).bind (dspK Φ cl z rs Γ) := ev_D1 fun _ h => nomatch h
theorem ev_I_k {d : D} : evI Φ cl (z + 1) (.k d) Γ = itB Φ cl z (.k d) Γ (dctAt Γ (.k d)) := ev_Iany (fun _ h => nomatch h) (fun _ h => nomatch h)
theorem ev_D_v {i : Nat} : evDs Φ cl (z + 1) ((.v i) :: rs) Γ = (evB Φ cl z (.v i) Γ).bind (dspK Φ cl z rs Γ) := ev_D1 fun _ h => nomatch h
theorem ev_I_v {i : Nat} : evI Φ cl (z + 1) (.v i) Γ = itB Φ cl z (.v i) Γ (dctAt Γ (.v i)) := ev_Iany (fun _ h => nomatch h) (fun _ h => nomatch h)
theorem ev_D_g {x : Nat} : evDs Φ cl (z + 1) ((.g x) :: rs) Γ = (evB Φ cl z (.g x) Γ).bind (dspK Φ cl z rs Γ) := ev_D1 fun _ h => nomatch h
theorem ev_I_g {x : Nat} : evI Φ cl (z + 1) (.g x) Γ = itB Φ cl z (.g x) Γ (dctAt Γ (.g x)) := ev_Iany (fun _ h => nomatch h) (fun _ h => nomatch h)
theorem ev_D_op {o : Op} {es : List C} : evDs Φ cl (z + 1) ((.op o es) :: rs) Γ = (evB Φ cl z (.op o es) Γ).bind (dspK Φ cl z rs Γ) := ev_D1 fun _ h => nomatch h
theorem ev_I_op {o : Op} {es : List C} : evI Φ cl (z + 1) (.op o es) Γ = itB Φ cl z (.op o es) Γ (dctAt Γ (.op o es)) := ev_Iany (fun _ h => nomatch h) (fun _ h => nomatch h)
theorem ev_D_chn {o1 o2 : CmpOp} {a b c : C} : evDs Φ cl (z + 1) ((.chn o1 o2 a b c) :: rs) Γ = (evB Φ cl z (.chn o1 o2 a b c) Γ).bind (dspK Φ cl z rs Γ) := ev_D1 fun _ h => nomatch h
theorem ev_I_chn {o1 o2 : CmpOp} {a b c : C} : evI Φ cl (z + 1) (.chn o1 o2 a b c) Γ = itB Φ cl z (.chn o1 o2 a b c) Γ (dctAt Γ (.chn o1 o2 a b c)) := ev_Iany (fun _ h => nomatch h) (fun _ h => nomatch h)
theorem ev_D_and {a b : C} : evDs Φ cl (z + 1) ((.and a b) :: rs) Γ = (evB Φ cl z (.and a b) Γ).bind (dspK Φ cl z rs Γ) := ev_D1 fun _ h => nomatch h
theorem ev_I_and {a b : C} : evI Φ cl (z + 1) (.and a b) Γ = itB Φ cl z (.and a b) Γ (dctAt Γ (.and a b)) := ev_Iany (fun _ h => nomatch h) (fun _ h => nomatch h)
theorem ev_D_or {a b : C} : evDs Φ cl (z + 1) ((.or a b) :: rs) Γ = (evB Φ cl z (.or a b) Γ).bind (dspK Φ cl z rs Γ) := ev_D1 fun _ h => nomatch h
theorem ev_I_or {a b : C} : evI Φ cl (z + 1) (.or a b) Γ = itB Φ cl z (.or a b) Γ (dctAt Γ (.or a b)) := ev_Iany (fun _ h => nomatch h) (fun _ h => nomatch h)
theorem ev_D_not {a : C} : evDs Φ cl (z + 1) ((.not a) :: rs) Γ = (evB Φ cl z (.not a) Γ).bind (dspK Φ cl z rs Γ) := ev_D1 fun _ h => nomatch h
theorem ev_I_not {a : C} : evI Φ cl (z + 1) (.not a) Γ = itB Φ cl z (.not a) Γ (dctAt Γ (.not a)) := ev_Iany (fun _ h => nomatch h) (fun _ h => nomatch h)
theorem ev_D_ife {a b c : C} : evDs Φ cl (z + 1) ((.ife a b c) :: rs) Γ = (evB Φ cl z (.ife a b c) Γ).bind (dspK Φ cl z rs Γ) := ev_D1 fun _ h => nomatch h
theorem ev_I_ife {a b c : C} : evI Φ cl (z + 1) (.ife a b c) Γ = itB Φ cl z (.ife a b c) Γ (dctAt Γ (.ife a b c)) := ev_Iany (fun _ h => nomatch h) (fun _ h => nomatch h)
theorem ev_D_tup {es : List C} : evDs Φ cl (z + 1) ((.tup es) :: rs) Γ = (evB Φ cl z (.tup es) Γ).bind (dspK Φ cl z rs Γ) := ev_D1 fun _ h => nomatch h
theorem ev_I_tup {es : List C} : evI Φ cl (z + 1) (.tup es) Γ = itB Φ cl z (.tup es) Γ (dctAt Γ (.tup es)) := ev_Iany (fun _ h => nomatch h) (fun _ h => nomatch h)
theorem ev_D_lst {es : List C} : evDs Φ cl (z + 1) ((.lst es) :: rs) Γ = (evB Φ cl z (.lst es) Γ).bind (dspK Φ cl z rs Γ) := ev_D1 fun _ h => nomatch h
theorem ev_I_lst {es : List C} : evI Φ cl (z + 1) (.lst es) Γ = itB Φ cl z (.lst es) Γ (dctAt Γ (.lst es)) := ev_Iany (fun _ h => nomatch h) (fun _ h => nomatch h)
theorem ev_D_dct0  : evDs Φ cl (z + 1) (.dct0 :: rs) Γ = (evB Φ cl z .dct0 Γ).bind (dspK Φ cl z rs Γ) := ev_D1 fun _ h => nomatch h
theorem ev_I_dct0  : evI Φ cl (z + 1) .dct0 Γ = itB Φ cl z .dct0 Γ (dctAt Γ .dct0) := ev_Iany (fun _ h => nomatch h) (fun _ h => nomatch h)
theorem ev_D_att {e : C} {f : Nat} : evDs Φ cl (z + 1) ((.att e f) :: rs) Γ = (evB Φ cl z (.att e f) Γ).bind (dspK Φ cl z rs Γ) := ev_D1 fun _ h => nomatch h
theorem ev_I_att {e : C} {f : Nat} : evI Φ cl (z + 1) (.att e f) Γ = itB Φ cl z (.att e f) Γ (dctAt Γ (.att e f)) := ev_Iany (fun _ h => nomatch h) (fun _ h => nomatch h)
theorem ev_D_idx {a b : C} : evDs Φ cl (z + 1) ((.idx a b) :: rs) Γ = (evB Φ cl z (.idx a b) Γ).bind (dspK Φ cl z rs Γ) := ev_D1 fun _ h => nomatch h
theorem ev_I_idx {a b : C} : evI Φ cl (z + 1) (.idx a b) Γ = itB Φ cl z (.idx a b) Γ (dctAt Γ (.idx a b)) := ev_Iany (fun _ h => nomatch h) (fun _ h => nomatch h)
theorem ev_D_call {f : Nat} {es : List C} : evDs Φ cl (z + 1) ((.call f es) :: rs) Γ = (evB Φ cl z (.call f es) Γ).bind (dspK Φ cl z rs Γ) := ev_D1 fun _ h => nomatch h
theorem ev_I_call {f : Nat} {es : List C} : evI Φ cl (z + 1) (.call f es) Γ = itB Φ cl z (.call f es) Γ (dctAt Γ (.call f es)) := ev_Iany (fun _ h => nomatch h) (fun _ h => nomatch h)
theorem ev_D_make {f : Nat} {es : List C} : evDs Φ cl (z + 1) ((.make f es) :: rs) Γ = (evB Φ cl z (.make f es) Γ).bind (dspK Φ cl z rs Γ) := ev_D1 fun _ h => nomatch h
theorem ev_I_make {f : Nat} {es : List C} : evI Φ cl (z + 1) (.make f es) Γ = itB Φ cl z (.make f es) Γ (dctAt Γ (.make f es)) := ev_Iany (fun _ h => nomatch h) (fun _ h => nomatch h)
theorem ev_D_callK {f : Nat} {es : List C} {p : List Nat} : evDs Φ cl (z + 1) ((.callK f es p) :: rs) Γ = (evB Φ cl z (.callK f es p) Γ).bind (dspK Φ cl z rs Γ) := ev_D1 fun _ h => nomatch h
theorem ev_I_callK {f : Nat} {es : List C} {p : List Nat} : evI Φ cl (z + 1) (.callK f es p) Γ = itB Φ cl z (.callK f es p) Γ (dctAt Γ (.callK f es p)) := ev_Iany (fun _ h => nomatch h) (fun _ h => nomatch h)
theorem ev_D_makeK {f : Nat} {es : List C} {p : List Nat} : evDs Φ cl (z + 1) ((.makeK f es p) :: rs) Γ = (evB Φ cl z (.makeK f es p) Γ).bind (dspK Φ cl z rs Γ) := ev_D1 fun _ h => nomatch h
theorem ev_I_makeK {f : Nat} {es : List C} {p : List Nat} : evI Φ cl (z + 1) (.makeK f es p) Γ = itB Φ cl z (.makeK f es p) Γ (dctAt Γ (.makeK f es p)) := ev_Iany (fun _ h => nomatch h) (fun _ h => nomatch h)
theorem ev_D_mth {e : C} {m : Nat} {es : List C} : evDs Φ cl (z + 1) ((.mth e m es) :: rs) Γ = (evB Φ cl z (.mth e m es) Γ).bind (dspK Φ cl z rs Γ) := ev_D1 fun _ h => nomatch h
theorem ev_I_mth {e : C} {m : Nat} {es : List C} : evI Φ cl (z + 1) (.mth e m es) Γ = itB Φ cl z (.mth e m es) Γ (dctAt Γ (.mth e m es)) := ev_Iany (fun _ h => nomatch h) (fun _ h => nomatch h)
theorem ev_D_frz {e : C} : evDs Φ cl (z + 1) ((.frz e) :: rs) Γ = (evB Φ cl z (.frz e) Γ).bind (dspK Φ cl z rs Γ) := ev_D1 fun _ h => nomatch h
theorem ev_I_frz {e : C} : evI Φ cl (z + 1) (.frz e) Γ = itB Φ cl z (.frz e) Γ (dctAt Γ (.frz e)) := ev_Iany (fun _ h => nomatch h) (fun _ h => nomatch h)
theorem ev_D_lc {own : List Nat} {tg : Tg} {it : C} {ifs : List C} {e : C} : evDs Φ cl (z + 1) ((.lc own tg it ifs e) :: rs) Γ = (evB Φ cl z (.lc own tg it ifs e) Γ).bind (dspK Φ cl z rs Γ) := ev_D1 fun _ h => nomatch h
theorem ev_I_lc {own : List Nat} {tg : Tg} {it : C} {ifs : List C} {e : C} : evI Φ cl (z + 1) (.lc own tg it ifs e) Γ = itB Φ cl z (.lc own tg it ifs e) Γ (dctAt Γ (.lc own tg it ifs e)) := ev_Iany (fun _ h => nomatch h) (fun _ h => nomatch h)
theorem ev_D_slc {e : C} {l h : List C} : evDs Φ cl (z + 1) ((.slc e l h) :: rs) Γ = (evB Φ cl z (.slc e l h) Γ).bind (dspK Φ cl z rs Γ) := ev_D1 fun _ h => nomatch h
theorem ev_I_slc {e : C} {l h : List C} : evI Φ cl (z + 1) (.slc e l h) Γ = itB Φ cl z (.slc e l h) Γ (dctAt Γ (.slc e l h)) := ev_Iany (fun _ h => nomatch h) (fun _ h => nomatch h)
end
end VI
/-! XF -/
namespace VI
open PySem L2

/-! ## sorting -/
def leI (a b : Int) : Bool := decide (a ≤ b)
def srt (l : List Int) : List Int := l.mergeSort leI
theorem leI_trans (a b c : Int) (h1 : leI a b = true) (h2 : leI b c = true) : leI a c = true := by
  unfold leI at *; simp only [decide_eq_true_eq] at *; omega
theorem leI_total (a b : Int) : (leI a b || leI b a) = true := by
  unfold leI; rw [Bool.or_eq_true, decide_eq_true_eq, decide_eq_true_eq]; omega
theorem srt_perm (l : List Int) : (srt l).Perm l := List.mergeSort_perm l leI
theorem srt_sorted (l : List Int) : (srt l).Pairwise (· ≤ ·) := by
  refine (List.pairwise_mergeSort leI_trans leI_total l).imp fun h => ?_
  exact of_decide_eq_true h
theorem srt_length (l : List Int) : (srt l).length = l.length := (srt_perm l).length_eq
theorem leD_int (a b : Int) : leD (dI a) (dI b) = leI a b := congrFun (congrFun (PySem.W.dataLe_int (fun i : Int => i)) a) b
theorem toPL_ints : ∀ l : List Int, toPL (l.map dI) = some (l.map .int)
  | [] => rfl
  | x :: l => by
    rw [List.map_cons, toPL, toPL_ints l]; rfl
theorem sortOk_ints {l : List Int} (h : l.length ≤ lim) : sortOk (l.map PyData.int) = true := by
  unfold sortOk
  have h1 : alikeAllB (l.map PyData.int) = true := by
    unfold alikeAllB
    rw [List.all_eq_true]
    intro p hp
    obtain ⟨a, _, rfl⟩ := List.mem_map.mp hp
    rw [List.all_eq_true]
    intro q hq
    obtain ⟨b, _, rfl⟩ := List.mem_map.mp hq
    rfl
  have h2 : (l.map PyData.int).all noTup = true := by
    rw [List.all_eq_true]
    intro p hp
    obtain ⟨a, _, rfl⟩ := List.mem_map.mp hp
    rfl
  have h3 : (l.map PyData.int).all (fun p => decide (p.depth ≤ 60)) = true := by
    rw [List.all_eq_true]
    intro p hp
    obtain ⟨a, _, rfl⟩ := List.mem_map.mp hp
    simp [PyData.depth]
  rw [h1, h2, h3, List.length_map, decide_eq_true h]
  simp
theorem sortD_ints {l : List Int} (h : l.length ≤ lim) : sortD (l.map dI) = some ((srt l).map dI) := by
  unfold sortD
  rw [toPL_ints]
  show (if (sortOk (l.map PyData.int) && allSh (l.map dI)) = true then some ((l.map dI).mergeSort leD) else none) = _
  rw [sortOk_ints h, allSh_ints]
  show some ((l.map dI).mergeSort leD) = _
  unfold srt
  rw [List.map_mergeSort (s := leD) fun a _ b _ => (leD_int a b).symm]
/-- an ascending list is told by its members -/
theorem asc_ext {l m : List Int} (h1 : l.Pairwise (· < ·)) (h2 : m.Pairwise (· < ·)) (h : ∀ x, x ∈ l ↔ x ∈ m) : l = m := by
  have n1 : l.Nodup := h1.imp fun h => by omega
  have n2 : m.Nodup := h2.imp fun h => by omega
  exact List.Perm.eq_of_pairwise (le := (· < ·)) (fun a b _ _ h1 h2 => by omega) h1 h2 ((List.perm_ext_iff_of_nodup n1 n2).mpr h)
theorem srt_asc {l : List Int} (h : l.Nodup) : (srt l).Pairwise (· < ·) := by
  have h1 := srt_sorted l
  have h2 : (srt l).Nodup := (srt_perm l).nodup_iff.mpr h
  exact (List.Pairwise.and h1 h2).imp fun h => by omega
theorem mem_srt {l : List Int} {x : Int} : x ∈ srt l ↔ x ∈ l := (srt_perm l).mem_iff
/-- the ints below n -/
def upto (n : Nat) : List Int := (List.range n).map fun (i : Nat) => (i : Int)
theorem mem_upto {n : Nat} {x : Int} : x ∈ upto n ↔ 0 ≤ x ∧ x < n := by
  unfold upto
  rw [List.mem_map]
  constructor
  · rintro ⟨i, hi, rfl⟩
    rw [List.mem_range] at hi
    omega
  · intro h
    exact ⟨x.toNat, by rw [List.mem_range]; omega, by omega⟩
theorem upto_asc (n : Nat) : (upto n).Pairwise (· < ·) := by
  unfold upto
  rw [List.pairwise_map]
  exact List.pairwise_lt_range.imp fun h => by omega
theorem upto_length (n : Nat) : (upto n).length = n := by simp [upto]

/-! ## dicts with int keys -/
def dictD (K : List Int) (f : Int → D) : D := dD true (K.map .inl) (K.map f)
theorem dict_idx {K : List Int} {p : Int} : (K.map (Sum.inl : Int → Key)).findIdx? (fun q => decide (q = Sum.inl p)) = K.findIdx? (· == p) := by
  rw [List.findIdx?_map]
  congr 1
  funext x
  exact key_ll x p
theorem idx_mem {K : List Int} {p : Int} (h : p ∈ K) : ∃ n, K.findIdx? (· == p) = some n ∧ K[n]? = some p := by
  cases e : K.findIdx? (· == p) with
  | none =>
    rw [List.findIdx?_eq_none_iff] at e
    exact absurd (e p h) (by simp)
  | some n =>
    rw [List.findIdx?_eq_some_iff_getElem] at e
    obtain ⟨h1, h2, _⟩ := e
    exact ⟨n, rfl, by rw [List.getElem?_eq_getElem h1, beq_iff_eq.mp h2]⟩
theorem idx_not {K : List Int} {p : Int} (h : p ∉ K) : K.findIdx? (· == p) = none := by
  rw [List.findIdx?_eq_none_iff]
  intro x hx
  exact beq_eq_false_iff_ne.mpr fun e => h (e ▸ hx)
/-- d[p] -/
theorem dict_ix {K : List Int} {f : Int → D} {p : Int} (h : p ∈ K) : ∃ n, ixOf (dictD K f) (dI p) = some n ∧ (Tr.kids (dictD K f))[n]? = some (f p) := by
  obtain ⟨n, h1, h2⟩ := idx_mem h
  refine ⟨n, ?_, ?_⟩
  · show ((K.map (Sum.inl : Int → Key)).findIdx? (fun q => decide (q = Sum.inl p))).bind (fun n => if n < (K.map f).length then some n else none) = _
    rw [dict_idx, h1]
    show (if n < (K.map f).length then some n else none) = _
    rw [if_pos (by rw [List.length_map]; exact (List.getElem?_eq_some_iff.mp h2).1)]
  · show (K.map f)[n]? = _
    rw [List.getElem?_map, h2]; rfl
/-- d.get(p, e) -/
theorem dict_get {K : List Int} {f : Int → D} {p : Int} {e : D} (hf : isSh (f p) = true) (he : isSh e = true) : rdM 4 (dictD K f) [dI p, e] = some (if p ∈ K then f p else e) := by
  show (match (K.map (Sum.inl : Int → Key)).findIdx? (fun q => decide (q = Sum.inl p)) with
    | some n => ((K.map f)[n]?).bind fun t => if isSh t then some t else none
    | none => if isSh e then some e else none) = _
  rw [dict_idx]
  by_cases h : p ∈ K
  · obtain ⟨n, h1, h2⟩ := idx_mem h
    rw [h1, if_pos h]
    show ((K.map f)[n]?).bind _ = _
    rw [List.getElem?_map, h2]
    show (if isSh (f p) = true then some (f p) else none) = _
    rw [if_pos hf]
  · rw [idx_not h, if_neg h]
    show (if isSh e = true then some e else none) = _
    rw [if_pos he]
/-- d[p] = v -/
theorem dict_set {K : List Int} {f : Int → D} {p : Int} {v : D} (hl : K.length < lim) (nd : K.Nodup) : setIx (dictD K f) (dI p) v = some (dictD (if p ∈ K then K else K ++ [p]) fun q => if q = p then v else f q) := by
  show (if (K.map (Sum.inl : Int → Key)).length < lim then (match (K.map (Sum.inl : Int → Key)).findIdx? (fun q => decide (q = Sum.inl p)) with
    | some n => some (dD true (K.map .inl) ((K.map f).set n v))
    | none => some (dD true (K.map .inl ++ [.inl p]) (K.map f ++ [v]))) else none) = _
  rw [if_pos (by rw [List.length_map]; exact hl), dict_idx]
  by_cases h : p ∈ K
  · obtain ⟨n, h1, h2⟩ := idx_mem h
    rw [h1, if_pos h]
    show some (dD true (K.map .inl) ((K.map f).set n v)) = some (dD true _ _)
    congr 2
    refine List.ext_getElem (by simp) fun i a b => ?_
    obtain ⟨hn, en⟩ := List.getElem?_eq_some_iff.mp h2
    rw [List.getElem_set, List.getElem_map]
    have hi : i < K.length := by simpa using b
    by_cases e : n = i
    · subst e
      rw [if_pos rfl, List.getElem_map, en, if_pos rfl]
    · rw [if_neg e, List.getElem_map, if_neg]
      intro q
      exact e ((List.getElem_inj nd).mp (en.trans q.symm))
  · rw [idx_not h, if_neg h]
    show some (dD true (K.map .inl ++ [.inl p]) (K.map f ++ [v])) = some (dD true _ _)
    rw [List.map_append, List.map_append]
    congr 3
    · refine List.map_congr_left fun q hq => ?_
      have hne : q ≠ p := fun e => h (e ▸ hq)
      rw [if_neg hne]
    · show [v] = [if p = p then v else f p]
      rw [if_pos rfl]
theorem keyD_map {K : List Int} : (K.map (Sum.inl : Int → Key)).map keyD = K.map dI := by
  rw [List.map_map]; rfl
theorem dict_sorted {Φ : Prg} {K : List Int} {f : Int → D} (h : K.length ≤ lim) : opX Φ .sorted [dictD K f] = some (dL true ((srt K).map dI)) := by
  refine opd_sortedD (by rw [List.length_map, List.length_map]; exact Nat.le_refl _) ?_
  rw [keyD_map]
  exact sortD_ints h

/-! ## slots that may be empty -/
def oD (e : Option D) : Option (Ent D) := e.map .own
section
variable {Γ : Ctx} {e : Option D} {j k : Nat} {d : D} {is π : List Nat}
theorem killA_o : killAll (oD e :: Γ) j = oD e :: killAll Γ j := by cases e <;> rfl
theorem kil_o : kill (oD e :: Γ) j π = oD e :: kill Γ j π := by cases e <;> rfl
theorem fgt_o : fgt is k (oD e :: Γ) = (if is.contains k then none else oD e) :: fgt is (k + 1) Γ := by
  cases e with
  | none => show none :: _ = _; cases is.contains k <;> rfl
  | some d => rfl
theorem oD_some : some (.own d) = oD (some d) := (rfl)
theorem oD_none : none = oD none := (rfl)
end
end VI
/-! XG -/
namespace VI
open PySem L2

/-! ## walks over a variable's list -/
section
variable {Φ : Prg} {cl : Cl} {np : Nat} {P P' : Nat → Prop} {z i : Nat} {body : List CS} {Γ Γ1 : Ctx} {Q : Post} {tg : Tg} {o : Bool}
def itmE (en : Bool) (k : Nat) (x : D) : Itm := if en then .two (.own (dI (k : Int))) (.own x) else .one (.own x)
theorem varL_own {ts : List D} (h : Γ[i]? = some (some (.own (dL true ts)))) : varL Γ i = some (i, [], ts) := by
  unfold varL; rw [h]
theorem varL_sh {ts : List D} (h : Γ[i]? = some (some (.own (dL false ts)))) : varL Γ i = none := by
  unfold varL; rw [h]
theorem WSs.weak {ss : List CS} (h : WSs Φ cl np P' z ss Γ Q) (hP : ∀ j, P' j → P j) : WSs Φ cl np P z ss Γ Q := by
  obtain ⟨o, h1, h2, h3⟩ := h.wo.ex
  exact ⟨⟨o, h1, fun j hj => hP j (h2 j hj), h3⟩⟩
theorem fp_go {α : Type} {f : α → D} {en : Bool} (I : List α → Ctx → Prop) {l : List α} (hf : ∀ x, isSh (f x) = true) (hv : ∀ pre Γ, I pre Γ → Γ[i]? = some (some (.own (dL true (l.map f)))))
    (hP : ∀ j, P' j → P j) (hi : ¬ P' i) (tp : ∀ j ∈ tgs tg, P' j)
    (step : ∀ pre x post, l = pre ++ x :: post → ∀ Γ, I pre Γ → ∃ Γ1, asgI tg (itmE en pre.length (f x)) Γ = some Γ1 ∧ WSs Φ cl np P' z body Γ1 { nx := I (pre ++ [x]), ct := I (pre ++ [x]), bk := Q.nx, rt := Q.rt })
    (done : ∀ Γ, I l Γ → Q.nx Γ) : ∀ (post pre : List α) (Γ : Ctx), l = pre ++ post → I pre Γ → WO P (fpRun tg en i (rnSs Φ cl np z body) post.length pre.length Γ) Q := by
  intro post
  induction post with
  | nil =>
    intro pre Γ e h
    rw [List.length_nil, fpRun, varL_own (hv pre Γ h)]
    have : (l.map f).length = pre.length := by rw [e]; simp
    show WO P (if (l.map f).length = pre.length then some (Out.nx Γ []) else none) Q
    rw [if_pos this]
    exact ⟨_, rfl, fun j hj => absurd hj (by simp [Out.ws]), done Γ (by rw [e, List.append_nil]; exact h)⟩
  | cons x post ih =>
    intro pre Γ e h
    obtain ⟨Γ1, g1, g2⟩ := step pre x post e Γ h
    rw [List.length_cons, fpRun, varL_own (hv pre Γ h)]
    have e1 : (l.map f).length = pre.length + (post.length + 1) := by rw [e]; simp
    have e2 : (l.map f)[pre.length]? = some (f x) := by rw [e]; simp
    show WO P (if (l.map f).length = pre.length + (post.length + 1) then ((l.map f)[pre.length]?).bind _ else none) Q
    rw [if_pos e1, e2]
    have e3 : pItm en i [] pre.length (f x) = itmE en pre.length (f x) := by
      unfold pItm itmE
      rw [hf x]; rfl
    show WO P ((asgI tg (pItm en i [] pre.length (f x)) Γ).bind _) Q
    rw [e3, g1]
    obtain ⟨o, h1, h2, h3⟩ := g2.wo.ex
    show WO P ((rnSs Φ cl np z body Γ1).bind _) Q
    rw [h1]
    have tw : ∀ {w : List Nat}, (∀ j ∈ w, P' j) → ∀ j ∈ tgs tg ++ w, P' j := fun hw j hj => (List.mem_append.mp hj).elim (tp j) (hw j)
    have go : ∀ Γ2 w, (∀ j ∈ w, P' j) → I (pre ++ [x]) Γ2 → WO P (if i ∈ tgs tg ++ w then none else (fpRun tg en i (rnSs Φ cl np z body) post.length (pre.length + 1) Γ2).map (Out.add (tgs tg ++ w))) Q := fun Γ2 w hw h => by
      rw [if_neg fun hm => hi (tw hw i hm)]
      have := ih (pre ++ [x]) Γ2 (by rw [e]; simp) h
      rw [List.length_append] at this
      obtain ⟨o, a1, a2, a3⟩ := this.ex
      refine ⟨o.add (tgs tg ++ w), by rw [show pre.length + 1 = pre.length + [x].length from rfl, a1]; rfl, fun j hj => ?_, by rw [Post.at_add]; exact a3⟩
      rw [Out.add_ws] at hj
      exact (List.mem_append.mp hj).elim (fun h => hP j (tw hw j h)) (a2 j)
    cases o with
    | nx Γ2 w => exact go Γ2 w h2 h3
    | ct Γ2 w => exact go Γ2 w h2 h3
    | bk Γ2 w => exact ⟨_, rfl, fun j hj => hP j (tw h2 j hj), h3⟩
    | rt d Γ2 w => exact ⟨_, rfl, fun j hj => hP j (tw h2 j hj), h3⟩
/-- for x in xs, xs a name -/
theorem WS.forL {α : Type} {f : α → D} (P' : Nat → Prop) (I : List α → Ctx → Prop) {l : List α} (hf : ∀ x, isSh (f x) = true) (hv : ∀ pre Γ, I pre Γ → Γ[i]? = some (some (.own (dL o (l.map f)))))
    (hP : ∀ j, P' j → P j) (hi : ¬ P' i) (tp : ∀ j ∈ tgs tg, P' j) (h0 : I [] Γ)
    (step : ∀ pre x post, l = pre ++ x :: post → ∀ Γ, I pre Γ → ∃ Γ1, asgI tg (.one (.own (f x))) Γ = some Γ1 ∧ WSs Φ cl np P' (z + 2) body Γ1 { nx := I (pre ++ [x]), ct := I (pre ++ [x]), bk := Q.nx, rt := Q.rt })
    (done : ∀ Γ, I l Γ → Q.nx Γ) : WS Φ cl np P (z + 3) (.for_ tg (.v i) body) Γ Q := by
  cases o with
  | true =>
    constructor
    rw [rn, show itVar (.v i) = some (false, i) from rfl]
    show WO P (match (varL Γ i).map (fun x => (false, i, x.2.2.length)) with
      | some (en, i, n) => fpRun tg en i (rnSs Φ cl np (z + 2) body) n 0 Γ
      | none => _) Q
    rw [varL_own (hv [] Γ h0)]
    show WO P (fpRun tg false i (rnSs Φ cl np (z + 2) body) (l.map f).length 0 Γ) Q
    rw [List.length_map]
    exact fp_go (en := false) I hf hv hP hi tp step done l [] Γ rfl h0
  | false =>
    refine WS.for_ (q := true) (Γ1 := Γ) (xs := l.map fun x => .one (.own (f x))) ?_ ?_ (WFo.inv I h0 (fun j hj => hP j (tp j hj)) (fun pre x post e Γ h => ?_) done)
    · show ((varL Γ i).map (fun x => (false, i, x.2.2.length))) = none
      rw [varL_sh (hv [] Γ h0)]; rfl
    · rw [ev_I_v, dct_v, hv [] Γ h0, dctV_l, itB_none, ev_v, hv [] Γ h0, ev1_own, sh_L]
      show itvR Γ (.vl (dL false (l.map f)) Γ true) = _
      rw [itv_vl (allSh_map hf), List.map_map]
      rfl
    · obtain ⟨Γ1, g1, g2⟩ := step pre x post e Γ h
      exact ⟨Γ1, g1, g2.weak hP⟩
/-- a statement whose ways meet again -/
theorem WSs.cut {s : CS} {ss : List CS} (I : Ctx → Prop) (h : WS Φ cl np P z s Γ { nx := I, rt := Q.rt, bk := Q.bk, ct := Q.ct }) (k : ∀ Γ, I Γ → WSs Φ cl np P z ss Γ Q) : WSs Φ cl np P (z + 1) (s :: ss) Γ Q :=
  WSs.cons ⟨h.wo.mono k (fun _ _ h => h) (fun _ h => h) (fun _ h => h)⟩
theorem asg_tp {x y : D} {k : Nat} (h1 : i < Γ.length) (h2 : k < Γ.length) (h3 : i ≠ k) : asgI (.tp [i, k]) (.one (.own (dT [x, y]))) Γ = some (setE (setE Γ i (.own x)) k (.own y)) := if_pos ⟨h1, h2, h3⟩
theorem asg_two {a b : D} {k : Nat} (h1 : i < Γ.length) (h2 : k < Γ.length) (h3 : i ≠ k) (ha : isSh a = true) (hb : isSh b = true) : asgI (.tp [i, k]) (.two (.own a) (.own b)) Γ = some (setE (setE Γ i (.own a)) k (.own b)) := if_pos ⟨h1, h2, h3, ha, hb, hb⟩
end
/-! small lengths -/
theorem lim_ge : 100000 ≤ lim := by rw [lim_val]; exact Nat.le_of_ble_eq_true rfl
theorem le_lim {n : Nat} (h : n ≤ 100000) : n ≤ lim := Nat.le_trans h lim_ge
theorem lt_lim {n : Nat} (h : n < 100000) : n < lim := Nat.lt_of_lt_of_le h lim_ge
theorem lim_0 : (0 ≤ lim) = True := eq_true (le_lim (by decide))
theorem lim_1 : (1 ≤ lim) = True := eq_true (le_lim (by decide))
theorem lim_2 : (2 ≤ lim) = True := eq_true (le_lim (by decide))
theorem lim_3 : (3 ≤ lim) = True := eq_true (le_lim (by decide))
theorem lim_4 : (4 ≤ lim) = True := eq_true (le_lim (by decide))
theorem lim_5 : (5 ≤ lim) = True := eq_true (le_lim (by decide))
theorem lim_6 : (6 ≤ lim) = True := eq_true (le_lim (by decide))
theorem lim_7 : (7 ≤ lim) = True := eq_true (le_lim (by decide))
theorem lim_8 : (8 ≤ lim) = True := eq_true (le_lim (by decide))
theorem lim_9 : (9 ≤ lim) = True := eq_true (le_lim (by decide))
theorem lim_10 : (10 ≤ lim) = True := eq_true (le_lim (by decide))
theorem lim_11 : (11 ≤ lim) = True := eq_true (le_lim (by decide))
theorem liml_0 : (0 < lim) = True := eq_true (lt_lim (by decide))
theorem liml_1 : (1 < lim) = True := eq_true (lt_lim (by decide))
theorem liml_2 : (2 < lim) = True := eq_true (lt_lim (by decide))
theorem liml_3 : (3 < lim) = True := eq_true (lt_lim (by decide))
theorem liml_4 : (4 < lim) = True := eq_true (lt_lim (by decide))
theorem liml_5 : (5 < lim) = True := eq_true (lt_lim (by decide))
theorem liml_6 : (6 < lim) = True := eq_true (lt_lim (by decide))
theorem liml_7 : (7 < lim) = True := eq_true (lt_lim (by decide))
theorem liml_8 : (8 < lim) = True := eq_true (lt_lim (by decide))
theorem liml_9 : (9 < lim) = True := eq_true (lt_lim (by decide))
theorem liml_10 : (10 < lim) = True := eq_true (lt_lim (by decide))
theorem liml_11 : (11 < lim) = True := eq_true (lt_lim (by decide))
end VI
/-! XV -/
namespace VI
open PySem L2
/-! the rewriting rules in one -/
theorem EVB : type_of% @ev_k ∧ type_of% @ev_v ∧ type_of% @ev1_own ∧ type_of% @ev1_al ∧ type_of% @ev_g ∧ type_of% @opK_some ∧ type_of% @ev_op ∧ type_of% @opG_eq ∧ type_of% @ev_not ∧ type_of% @ev_and ∧ type_of% @ev_or ∧ type_of% @setV_vl ∧ type_of% @setV_pl ∧ type_of% @ev_ife ∧ type_of% @ev_tup ∧ type_of% @ev_lst ∧ type_of% @ev_dct0 ∧ type_of% @ev_idx ∧ type_of% @idxK_pl ∧ type_of% @idxK_vl ∧ type_of% @ev_call ∧ type_of% @callK1_eq ∧ type_of% @ev_callK ∧ type_of% @ev_make ∧ type_of% @ev_makeK ∧ type_of% @makeK1_eq ∧ type_of% @attK_pl ∧ type_of% @attK_vl ∧ type_of% @ev_att ∧ type_of% @ev_mth ∧ type_of% @mthK_pl ∧ type_of% @mthK_vl ∧ type_of% @mthP_c ∧ type_of% @mthP_l ∧ type_of% @mthL_some ∧ type_of% @mthL_none ∧ type_of% @mthP_d ∧ type_of% @mthV_c ∧ type_of% @ev_frz ∧ type_of% @ev_lc ∧ type_of% @lcK_free ∧ type_of% @lcK_still ∧ type_of% @lcK_lock ∧ type_of% @ev_chn ∧ type_of% @chn1_eq ∧ type_of% @chn2_eq ∧ type_of% @chn3_eq ∧ type_of% @ev_T ∧ type_of% @tst_vl ∧ type_of% @truth_b ∧ type_of% @ev_Ts0 ∧ type_of% @ev_Ts1 ∧ type_of% @ev_A0 ∧ type_of% @ev_A1 ∧ type_of% @argK_pl ∧ type_of% @argK_vl ∧ type_of% @ev_D0 ∧ type_of% @ev_Ds ∧ type_of% @ev_D_k ∧ type_of% @ev_D_v ∧ type_of% @ev_D_g ∧ type_of% @ev_D_op ∧ type_of% @ev_D_chn ∧ type_of% @ev_D_and ∧ type_of% @ev_D_or ∧ type_of% @ev_D_not ∧ type_of% @ev_D_ife ∧ type_of% @ev_D_tup ∧ type_of% @ev_D_lst ∧ type_of% @ev_D_dct0 ∧ type_of% @ev_D_att ∧ type_of% @ev_D_idx ∧ type_of% @ev_D_call ∧ type_of% @ev_D_make ∧ type_of% @ev_D_callK ∧ type_of% @ev_D_makeK ∧ type_of% @ev_D_mth ∧ type_of% @ev_D_frz ∧ type_of% @ev_D_lc ∧ type_of% @ev_D_slc ∧ type_of% @starK_eq ∧ type_of% @dspK_vl ∧ type_of% @dspK_pl ∧ type_of% @ev_Irng ∧ type_of% @ev_Ienm ∧ type_of% @ev_I_k ∧ type_of% @ev_I_v ∧ type_of% @ev_I_g ∧ type_of% @ev_I_op ∧ type_of% @ev_I_chn ∧ type_of% @ev_I_and ∧ type_of% @ev_I_or ∧ type_of% @ev_I_not ∧ type_of% @ev_I_ife ∧ type_of% @ev_I_tup ∧ type_of% @ev_I_lst ∧ type_of% @ev_I_dct0 ∧ type_of% @ev_I_att ∧ type_of% @ev_I_idx ∧ type_of% @ev_I_call ∧ type_of% @ev_I_make ∧ type_of% @ev_I_callK ∧ type_of% @ev_I_makeK ∧ type_of% @ev_I_mth ∧ type_of% @ev_I_frz ∧ type_of% @ev_I_lc ∧ type_of% @ev_I_slc ∧ type_of% @itB_none ∧ type_of% @itB_some ∧ type_of% @rn_ex ∧ type_of% @exK_vl ∧ type_of% @exK_pl ∧ type_of% @rn_asgN ∧ type_of% @asgN_vl ∧ type_of% @asgN_pl ∧ type_of% @rn_asgT ∧ type_of% @asgT_vl ∧ type_of% @rn_asgs ∧ type_of% @rn_asgA ∧ type_of% @asgA1_vl ∧ type_of% @asgA1_pl ∧ type_of% @asgA_pl ∧ type_of% @rn_asgS ∧ type_of% @asgS1_vl ∧ type_of% @asgS1_pl ∧ type_of% @asgS_eq ∧ type_of% @rn_aug ∧ type_of% @aug1_own ∧ type_of% @augK_vl ∧ type_of% @retE_vl ∧ type_of% @retE_pl ∧ type_of% @rn_ret_k ∧ type_of% @rn_ret_g ∧ type_of% @rn_ret_op ∧ type_of% @rn_ret_chn ∧ type_of% @rn_ret_and ∧ type_of% @rn_ret_or ∧ type_of% @rn_ret_not ∧ type_of% @rn_ret_ife ∧ type_of% @rn_ret_tup ∧ type_of% @rn_ret_lst ∧ type_of% @rn_ret_dct0 ∧ type_of% @rn_ret_att ∧ type_of% @rn_ret_idx ∧ type_of% @rn_ret_call ∧ type_of% @rn_ret_make ∧ type_of% @rn_ret_callK ∧ type_of% @rn_ret_makeK ∧ type_of% @rn_ret_mth ∧ type_of% @rn_ret_frz ∧ type_of% @rn_ret_lc ∧ type_of% @rn_ret_slc ∧ type_of% @rn_retV ∧ type_of% @retV_own ∧ type_of% @retV_al ∧ type_of% @rn_retN ∧ type_of% @rn_pass ∧ type_of% @getE_eq ∧ type_of% @putE_eq ∧ type_of% @killA_nil ∧ type_of% @killA_own ∧ type_of% @killA_none ∧ type_of% @killA_al ∧ type_of% @kil_nil ∧ type_of% @kil_own ∧ type_of% @kil_none ∧ type_of% @kil_al ∧ type_of% @setE_eq ∧ type_of% @mvE_eq ∧ type_of% @setL_nil ∧ type_of% @setL_cons ∧ type_of% @at_c ∧ type_of% @Tr.at_nil ∧ type_of% @Tr.put_nil ∧ type_of% @put_c ∧ type_of% @res_pl ∧ type_of% @res_vl ∧ type_of% @resL_0 ∧ type_of% @resL_v ∧ type_of% @resL_p ∧ type_of% @wrB_0 ∧ type_of% @wrB_v ∧ type_of% @wrB_p ∧ type_of% @live_0 ∧ type_of% @live_v ∧ type_of% @live_p ∧ type_of% @free_eq ∧ type_of% @apart_0 ∧ type_of% @apart_v ∧ type_of% @apart_p ∧ type_of% @apart2_0 ∧ type_of% @apart2_v ∧ type_of% @apart2_p ∧ type_of% @noPl_0 ∧ type_of% @noPl_v ∧ type_of% @noPl_p ∧ type_of% @sh_I ∧ type_of% @sh_B ∧ type_of% @sh_N ∧ type_of% @sh_S ∧ type_of% @sh_T ∧ type_of% @sh_L ∧ type_of% @sh_D ∧ type_of% @sh_O ∧ type_of% @cls_O ∧ type_of% @kids_e ∧ type_of% @outs0_0 ∧ type_of% @outs0_c ∧ type_of% @isNon_N ∧ type_of% @opd_add ∧ type_of% @opd_sub ∧ type_of% @opd_div ∧ type_of% @opd_mod ∧ type_of% @opd_lt ∧ type_of% @opd_le ∧ type_of% @opd_gt ∧ type_of% @opd_ge ∧ type_of% @cm_lt ∧ type_of% @cm_le ∧ type_of% @cm_eqI ∧ type_of% @cm_neI ∧ type_of% @opd_eqI ∧ type_of% @opd_neI ∧ type_of% @opd_isN ∧ type_of% @opd_neg ∧ type_of% @opd_lenL ∧ type_of% @opd_lenT ∧ type_of% @opd_lenD ∧ type_of% @opd_abs ∧ type_of% @opd_max ∧ type_of% @opd_min ∧ type_of% @opd_int ∧ type_of% @opd_intB ∧ type_of% @opd_isi ∧ type_of% @isi_int ∧ type_of% @isi_intB ∧ type_of% @isi_T ∧ type_of% @isi_L ∧ type_of% @aug_add ∧ type_of% @aug_sub ∧ type_of% @lim_0 ∧ type_of% @liml_0 ∧ type_of% @lim_1 ∧ type_of% @liml_1 ∧ type_of% @lim_2 ∧ type_of% @liml_2 ∧ type_of% @lim_3 ∧ type_of% @liml_3 ∧ type_of% @lim_4 ∧ type_of% @liml_4 ∧ type_of% @lim_5 ∧ type_of% @liml_5 ∧ type_of% @lim_6 ∧ type_of% @liml_6 ∧ type_of% @lim_7 ∧ type_of% @liml_7 ∧ type_of% @lim_8 ∧ type_of% @liml_8 ∧ type_of% @lim_9 ∧ type_of% @liml_9 ∧ type_of% @lim_10 ∧ type_of% @liml_10 ∧ type_of% @lim_11 ∧ type_of% @liml_11 ∧ type_of% @allSh_cons ∧ type_of% @allSh_nil ∧ type_of% @killA_o ∧ type_of% @kil_o ∧ type_of% @fgt_o ∧ type_of% @stl_vl ∧ type_of% @forget_fgt ∧ type_of% @fgt_nil ∧ type_of% @fgt_none ∧ type_of% @fgt_own ∧ type_of% @fgt_al ∧ type_of% @dct_v ∧ type_of% @dctV_d ∧ type_of% @dctV_l ∧ type_of% @dctV_t ∧ type_of% @dctV_al ∧ type_of% @dct_op ∧ type_of% @dct_att ∧ type_of% @dct_idx ∧ type_of% @dct_call ∧ type_of% @dct_mth ∧ type_of% @dct_lst ∧ type_of% @dct_g ∧ type_of% @itv_T ∧ type_of% @clean_eq ∧ type_of% @List.all_cons.{0} ∧ type_of% @List.all_nil.{0} ∧ type_of% @List.contains_cons.{0} ∧ type_of% @List.contains_nil.{0} ∧ type_of% @beq_self_eq_true.{0} ∧ type_of% @Option.bind_some.{0,0} ∧ type_of% @Option.map_some.{0,0} ∧ type_of% @Option.bind_none.{0,0} ∧ type_of% @Option.map_none.{0,0} ∧ type_of% @Bool.and_true ∧ type_of% @Bool.true_and ∧ type_of% @Bool.and_false ∧ type_of% @Bool.false_and ∧ type_of% @Bool.or_true ∧ type_of% @Bool.true_or ∧ type_of% @Bool.or_false ∧ type_of% @Bool.false_or ∧ type_of% @Bool.not_true ∧ type_of% @Bool.not_false ∧ type_of% @Bool.false_eq_true ∧ type_of% @if_true.{1} ∧ type_of% @if_false.{1} ∧ type_of% @ite_true.{1} ∧ type_of% @ite_false.{1} ∧ type_of% @decide_true ∧ type_of% @decide_false ∧ type_of% @List.getElem?_cons_zero.{0} ∧ type_of% @List.getElem?_cons_succ.{0} ∧ type_of% @List.getElem?_nil.{0} ∧ type_of% @List.set_cons_zero.{0} ∧ type_of% @List.set_cons_succ.{0} ∧ type_of% @List.length_cons.{0} ∧ type_of% @List.length_nil.{0} ∧ type_of% @List.map_cons.{0,0} ∧ type_of% @List.map_nil.{0,0} ∧ type_of% @List.append_nil.{0} ∧ type_of% @List.nil_append.{0} ∧ type_of% @List.cons_append.{0} ∧ type_of% @List.cons.injEq.{0} ∧ type_of% @and_true ∧ type_of% @true_and ∧ type_of% @and_self ∧ type_of% @and_false ∧ type_of% @false_and ∧ type_of% @not_true_eq_false ∧ type_of% @not_false_eq_true ∧ type_of% @List.eraseIdx_cons_zero.{0} ∧ type_of% @List.eraseIdx_cons_succ.{0} ∧ type_of% @eq_self.{1} ∧ type_of% @List.replicate_succ.{0} ∧ type_of% @List.replicate_zero.{0} ∧ type_of% @ne_eq.{1} ∧ type_of% @List.mem_cons.{0} ∧ type_of% @List.not_mem_nil.{0} ∧ type_of% @or_false ∧ type_of% @false_or ∧ type_of% @or_self ∧ type_of% @or_true ∧ type_of% @true_or ∧ type_of% @Nat.zero_add ∧ type_of% @Nat.lt_irrefl ∧ type_of% @Nat.zero_lt_succ ∧ type_of% @Nat.lt_add_one ∧ type_of% @Nat.not_lt_zero :=
  ⟨@ev_k, @ev_v, @ev1_own, @ev1_al, @ev_g, @opK_some, @ev_op, @opG_eq, @ev_not, @ev_and, @ev_or, @setV_vl, @setV_pl, @ev_ife, @ev_tup, @ev_lst, @ev_dct0, @ev_idx, @idxK_pl, @idxK_vl, @ev_call, @callK1_eq, @ev_callK, @ev_make, @ev_makeK, @makeK1_eq, @attK_pl, @attK_vl, @ev_att, @ev_mth, @mthK_pl, @mthK_vl, @mthP_c, @mthP_l, @mthL_some, @mthL_none, @mthP_d, @mthV_c, @ev_frz, @ev_lc, @lcK_free, @lcK_still, @lcK_lock, @ev_chn, @chn1_eq, @chn2_eq, @chn3_eq, @ev_T, @tst_vl, @truth_b, @ev_Ts0, @ev_Ts1, @ev_A0, @ev_A1, @argK_pl, @argK_vl, @ev_D0, @ev_Ds, @ev_D_k, @ev_D_v, @ev_D_g, @ev_D_op, @ev_D_chn, @ev_D_and, @ev_D_or, @ev_D_not, @ev_D_ife, @ev_D_tup, @ev_D_lst, @ev_D_dct0, @ev_D_att, @ev_D_idx, @ev_D_call, @ev_D_make, @ev_D_callK, @ev_D_makeK, @ev_D_mth, @ev_D_frz, @ev_D_lc, @ev_D_slc, @starK_eq, @dspK_vl, @dspK_pl, @ev_Irng, @ev_Ienm, @ev_I_k, @ev_I_v, @ev_I_g, @ev_I_op, @ev_I_chn, @ev_I_and, @ev_I_or, @ev_I_not, @ev_I_ife, @ev_I_tup, @ev_I_lst, @ev_I_dct0, @ev_I_att, @ev_I_idx, @ev_I_call, @ev_I_make, @ev_I_callK, @ev_I_makeK, @ev_I_mth, @ev_I_frz, @ev_I_lc, @ev_I_slc, @itB_none, @itB_some, @rn_ex, @exK_vl, @exK_pl, @rn_asgN, @asgN_vl, @asgN_pl, @rn_asgT, @asgT_vl, @rn_asgs, @rn_asgA, @asgA1_vl, @asgA1_pl, @asgA_pl, @rn_asgS, @asgS1_vl, @asgS1_pl, @asgS_eq, @rn_aug, @aug1_own, @augK_vl, @retE_vl, @retE_pl, @rn_ret_k, @rn_ret_g, @rn_ret_op, @rn_ret_chn, @rn_ret_and, @rn_ret_or, @rn_ret_not, @rn_ret_ife, @rn_ret_tup, @rn_ret_lst, @rn_ret_dct0, @rn_ret_att, @rn_ret_idx, @rn_ret_call, @rn_ret_make, @rn_ret_callK, @rn_ret_makeK, @rn_ret_mth, @rn_ret_frz, @rn_ret_lc, @rn_ret_slc, @rn_retV, @retV_own, @retV_al, @rn_retN, @rn_pass, @getE_eq, @putE_eq, @killA_nil, @killA_own, @killA_none, @killA_al, @kil_nil, @kil_own, @kil_none, @kil_al, @setE_eq, @mvE_eq, @setL_nil, @setL_cons, @at_c, @Tr.at_nil, @Tr.put_nil, @put_c, @res_pl, @res_vl, @resL_0, @resL_v, @resL_p, @wrB_0, @wrB_v, @wrB_p, @live_0, @live_v, @live_p, @free_eq, @apart_0, @apart_v, @apart_p, @apart2_0, @apart2_v, @apart2_p, @noPl_0, @noPl_v, @noPl_p, @sh_I, @sh_B, @sh_N, @sh_S, @sh_T, @sh_L, @sh_D, @sh_O, @cls_O, @kids_e, @outs0_0, @outs0_c, @isNon_N, @opd_add, @opd_sub, @opd_div, @opd_mod, @opd_lt, @opd_le, @opd_gt, @opd_ge, @cm_lt, @cm_le, @cm_eqI, @cm_neI, @opd_eqI, @opd_neI, @opd_isN, @opd_neg, @opd_lenL, @opd_lenT, @opd_lenD, @opd_abs, @opd_max, @opd_min, @opd_int, @opd_intB, @opd_isi, @isi_int, @isi_intB, @isi_T, @isi_L, @aug_add, @aug_sub, @lim_0, @liml_0, @lim_1, @liml_1, @lim_2, @liml_2, @lim_3, @liml_3, @lim_4, @liml_4, @lim_5, @liml_5, @lim_6, @liml_6, @lim_7, @liml_7, @lim_8, @liml_8, @lim_9, @liml_9, @lim_10, @liml_10, @lim_11, @liml_11, @allSh_cons, @allSh_nil, @killA_o, @kil_o, @fgt_o, @stl_vl, @forget_fgt, @fgt_nil, @fgt_none, @fgt_own, @fgt_al, @dct_v, @dctV_d, @dctV_l, @dctV_t, @dctV_al, @dct_op, @dct_att, @dct_idx, @dct_call, @dct_mth, @dct_lst, @dct_g, @itv_T, @clean_eq, @List.all_cons.{0}, @List.all_nil.{0}, @List.contains_cons.{0}, @List.contains_nil.{0}, @beq_self_eq_true.{0}, @Option.bind_some.{0,0}, @Option.map_some.{0,0}, @Option.bind_none.{0,0}, @Option.map_none.{0,0}, @Bool.and_true, @Bool.true_and, @Bool.and_false, @Bool.false_and, @Bool.or_true, @Bool.true_or, @Bool.or_false, @Bool.false_or, @Bool.not_true, @Bool.not_false, @Bool.false_eq_true, @if_true.{1}, @if_false.{1}, @ite_true.{1}, @ite_false.{1}, @decide_true, @decide_false, @List.getElem?_cons_zero.{0}, @List.getElem?_cons_succ.{0}, @List.getElem?_nil.{0}, @List.set_cons_zero.{0}, @List.set_cons_succ.{0}, @List.length_cons.{0}, @List.length_nil.{0}, @List.map_cons.{0,0}, @List.map_nil.{0,0}, @List.append_nil.{0}, @List.nil_append.{0}, @List.cons_append.{0}, @List.cons.injEq.{0}, @and_true, @true_and, @and_self, @and_false, @false_and, @not_true_eq_false, @not_false_eq_true, @List.eraseIdx_cons_zero.{0}, @List.eraseIdx_cons_succ.{0}, @eq_self.{1}, @List.replicate_succ.{0}, @List.replicate_zero.{0}, @ne_eq.{1}, @List.mem_cons.{0}, @List.not_mem_nil.{0}, @or_false, @false_or, @or_self, @or_true, @true_or, @Nat.zero_add, @Nat.lt_irrefl, @Nat.zero_lt_succ, @Nat.lt_add_one, @Nat.not_lt_zero⟩
end VI
/-! PF -/
/-! the program's defs in short form: written by pf.py -/
namespace PF
open PySem L2 VI
/-- 2 is_integer: 0:thing -/
def F_is_integer : Fd := ⟨1, 1, [
  .ret (.and (.op (.isi .int) [(.v 0)]) (.not (.op (.isi .bool) [(.v 0)])))]⟩
/-- 3 is_size: 0:thing -/
def F_is_size : Fd := ⟨1, 1, [
  .ret (.and (.call 2 [(.v 0)]) (.chn .LtE .LtE (.k (dI 0)) (.v 0) (.g 0)))]⟩
/-- 4 is_player: 0:size 1:thing -/
def F_is_player : Fd := ⟨2, 2, [
  .ret (.and (.call 2 [(.v 1)]) (.chn .LtE .Lt (.k (dI 0)) (.v 1) (.idx (.g 2) (.v 0))))]⟩
/-- 5 is_result: 0:size 1:thing -/
def F_is_result : Fd := ⟨2, 2, [
  .ite (.or (.not (.op (.isi .tuple) [(.v 1)])) (.op (.cmp .NotEq) [(.op .len [(.v 1)]), (.k (dI 2))])) [.ret (.k (dB false))] [],
  .ret (.and (.call 4 [(.v 0), (.idx (.v 1) (.k (dI 0)))]) (.and (.call 4 [(.v 0), (.idx (.v 1) (.k (dI 1)))]) (.op (.cmp .NotEq) [(.idx (.v 1) (.k (dI 0))), (.idx (.v 1) (.k (dI 1)))])))]⟩
/-- 6 is_claim: 0:size 1:thing -/
def F_is_claim : Fd := ⟨2, 2, [
  .ite (.or (.not (.op (.isi .tuple) [(.v 1)])) (.op (.cmp .NotEq) [(.op .len [(.v 1)]), (.k (dI 2))])) [.ret (.k (dB false))] [],
  .ret (.and (.call 4 [(.v 0), (.idx (.v 1) (.k (dI 0)))]) (.and (.call 2 [(.idx (.v 1) (.k (dI 1)))]) (.chn .LtE .LtE (.k (dI 0)) (.idx (.v 1) (.k (dI 1))) (.v 0))))]⟩
/-- 7 are_results: 0:size 1:thing 2:.0 3:one -/
def F_are_results : Fd := ⟨2, 4, [
  .ret (.and (.op (.isi .list) [(.v 1)]) (.and (.op (.cmp .LtE) [(.op .len [(.v 1)]), (.g 1)]) (.op .all [(.lc [2, 3] (.nm 3) (.v 1) [] (.call 5 [(.v 0), (.v 3)]))])))]⟩
/-- 8 are_claims: 0:size 1:thing 2:.0 3:one -/
def F_are_claims : Fd := ⟨2, 4, [
  .ret (.and (.op (.isi .list) [(.v 1)]) (.and (.op (.cmp .LtE) [(.op .len [(.v 1)]), (.g 1)]) (.op .all [(.lc [2, 3] (.nm 3) (.v 1) [] (.call 6 [(.v 0), (.v 3)]))])))]⟩
/-- 9 plain_results: 0:results -/
def F_plain_results : Fd := ⟨1, 1, [
  .ret (.op .sortedset [(.v 0)])]⟩
/-- 10 plain_claims: 0:claims 1:greatest 2:player 3:number 4:.0 -/
def F_plain_claims : Fd := ⟨1, 5, [
  .asg (.nm 1) .dct0,
  .for_ (.tp [2, 3]) (.v 0) [.asg (.sub (.v 1) (.v 2)) (.op .max [(.v 3), (.mth (.v 1) 4 [(.v 2), (.k (dI 0))])])],
  .ret (.lc [4, 2] (.nm 2) (.op .sorted [(.v 1)]) [(.op (.cmp .Gt) [(.idx (.v 1) (.v 2)), (.k (dI 0))])] (.tup [(.v 2), (.idx (.v 1) (.v 2))]))]⟩
/-- 11 Talk.__init__: 0:self 1:size 2:results 3:claims -/
def F_Talk___init__ : Fd := ⟨4, 4, [
  .ite (.not (.call 3 [(.v 1)])) [.bad] [],
  .ite (.not (.call 7 [(.v 1), (.v 2)])) [.bad] [],
  .ite (.not (.call 8 [(.v 1), (.v 3)])) [.bad] [],
  .asg (.att (.v 0) 23) (.v 1),
  .asg (.att (.v 0) 24) (.call 9 [(.v 2)]),
  .asg (.att (.v 0) 25) (.call 10 [(.v 3)])]⟩
/-- 12 Talk.size: 0:self -/
def F_Talk_size : Fd := ⟨1, 1, [
  .ret (.att (.v 0) 23)]⟩
/-- 13 Talk.results: 0:self -/
def F_Talk_results : Fd := ⟨1, 1, [
  .ret (.op .list [(.att (.v 0) 24)])]⟩
/-- 14 Talk.claims: 0:self -/
def F_Talk_claims : Fd := ⟨1, 1, [
  .ret (.op .list [(.att (.v 0) 25)])]⟩
/-- 15 Talk.__len__: 0:self -/
def F_Talk___len__ : Fd := ⟨1, 1, [
  .ret (.op .len [(.lst [(.star (.att (.v 0) 24)), (.star (.att (.v 0) 25))])])]⟩
/-- 16 Talk.__add__: 0:self 1:other 2:results -/
def F_Talk___add__ : Fd := ⟨2, 3, [
  .ite (.or (.not (.op (.isi (.cls 12)) [(.v 1)])) (.op (.cmp .NotEq) [(.att (.v 1) 23), (.att (.v 0) 23)])) [.bad] [],
  .asg (.nm 2) (.lst [(.star (.att (.v 0) 24)), (.star (.att (.v 1) 24))]),
  .ret (.make 13 [(.att (.v 0) 23), (.v 2), (.lst [(.star (.att (.v 0) 25)), (.star (.att (.v 1) 25))])])]⟩
/-- 17 Talk.__eq__: 0:self 1:other -/
def F_Talk___eq__ : Fd := ⟨2, 2, [
  .ite (.or (.not (.op (.isi (.cls 12)) [(.v 1)])) (.op (.cmp .NotEq) [(.att (.v 1) 23), (.att (.v 0) 23)])) [.ret (.k (dB false))] [],
  .ret (.and (.op (.cmp .Eq) [(.att (.v 1) 24), (.att (.v 0) 24)]) (.op (.cmp .Eq) [(.att (.v 1) 25), (.att (.v 0) 25)]))]⟩
/-- 18 Talk.__contains__: 0:self 1:thing -/
def F_Talk___contains__ : Fd := ⟨2, 2, [
  .ret (.and (.call 5 [(.att (.v 0) 23), (.v 1)]) (.op (.cmp .In) [(.v 1), (.att (.v 0) 24)]))]⟩
/-- 19 Talk.with_result: 0:self 1:one 2:other -/
def F_Talk_with_result : Fd := ⟨3, 3, [
  .ite (.or (.not (.call 4 [(.att (.v 0) 23), (.v 1)])) (.or (.not (.call 4 [(.att (.v 0) 23), (.v 2)])) (.op (.cmp .Eq) [(.v 1), (.v 2)]))) [.bad] [],
  .ret (.make 13 [(.att (.v 0) 23), (.lst [(.star (.att (.v 0) 24)), (.tup [(.v 1), (.v 2)])]), (.att (.v 0) 25)])]⟩
/-- 20 Talk.with_claim: 0:self 1:player 2:number -/
def F_Talk_with_claim : Fd := ⟨3, 3, [
  .ite (.not (.call 4 [(.att (.v 0) 23), (.v 1)])) [.bad] [],
  .ite (.not (.chn .LtE .LtE (.k (dI 0)) (.v 2) (.att (.v 0) 23))) [.bad] [],
  .ret (.make 13 [(.att (.v 0) 23), (.att (.v 0) 24), (.lst [(.star (.att (.v 0) 25)), (.tup [(.v 1), (.v 2)])])])]⟩
/-- 21 LongTalk.__init__: 0:self 1:size 2:results 3:claims -/
def F_LongTalk___init__ : Fd := ⟨4, 4, [
  .asg (.att (.v 0) 23) (.v 1),
  .asg (.att (.v 0) 24) (.call 9 [(.v 2)]),
  .asg (.att (.v 0) 25) (.call 10 [(.v 3)])]⟩
/-- 22 size_of: 0:many -/
def F_size_of : Fd := ⟨1, 1, [
  .ret (.ife (.op (.cmp .In) [(.v 0), (.g 2)]) (.mth (.g 2) 9 [(.v 0)]) (.k (dN)))]⟩
/-- 23 is_cup_order: 0:thing 1:.0 2:player -/
def F_is_cup_order : Fd := ⟨1, 3, [
  .ite (.or (.not (.op (.isi .list) [(.v 0)])) (.op (.cmp .Is) [(.call 22 [(.op .len [(.v 0)])]), (.k (dN))])) [.ret (.k (dB false))] [],
  .ret (.and (.op .all [(.lc [1, 2] (.nm 2) (.v 0) [] (.call 2 [(.v 2)]))]) (.op (.cmp .Eq) [(.op .sorted [(.v 0)]), (.op .listrange [(.op .len [(.v 0)])])]))]⟩
/-- 24 wins_at: 0:place 1:size 2:found -/
def F_wins_at : Fd := ⟨2, 3, [
  .asg (.nm 2) (.k (dI 0)),
  .whl (.and (.op (.cmp .Lt) [(.v 2), (.v 1)]) (.op (.cmp .Eq) [(.op (.bin .Mod) [(.v 0), (.k (dI 2))]), (.k (dI 0))])) [.asg (.nm 0) (.op (.bin .FloorDiv) [(.v 0), (.k (dI 2))]), .aug (.nm 2) .Add (.k (dI 1))],
  .ret (.v 2)]⟩
/-- 25 is_round_list: 0:thing 1:size 2:index 3:row 4:.0 5:match -/
def F_is_round_list : Fd := ⟨1, 6, [
  .ite (.or (.not (.op (.isi .list) [(.v 0)])) (.op (.cmp .Gt) [(.op .len [(.v 0)]), (.g 0)])) [.ret (.k (dB false))] [],
  .asg (.nm 1) (.op .len [(.v 0)]),
  .for_ (.tp [2, 3]) (.enm (.v 0)) [.ite (.or (.not (.op (.isi .list) [(.v 3)])) (.op (.cmp .NotEq) [(.op .len [(.v 3)]), (.idx (.g 2) (.op (.bin .Sub) [(.op (.bin .Sub) [(.v 1), (.k (dI 1))]), (.v 2)]))])) [.ret (.k (dB false))] [], .ite (.not (.op .all [(.lc [4, 5] (.nm 5) (.v 3) [] (.call 5 [(.v 1), (.v 5)]))])) [.ret (.k (dB false))] []],
  .ret (.k (dB true))]⟩
/-- 26 order_in: 0:rounds 1:blocks 2:row 3:later 4:winner 5:loser 6:.0 7:player 8:block -/
def F_order_in : Fd := ⟨1, 9, [
  .bad,
  .for_ (.nm 2) (.v 0) [.asg (.nm 3) .dct0, .for_ (.tp [4, 5]) (.v 2) [.ite (.or (.op (.cmp .NotIn) [(.v 4), (.v 1)]) (.op (.cmp .NotIn) [(.v 5), (.v 1)])) [.ret (.k (dN))] [], .asg (.sub (.v 3) (.v 4)) (.op (.bin .Add) [(.mth (.v 1) 2 [(.v 4)]), (.mth (.v 1) 2 [(.v 5)])])], .asg (.nm 1) (.v 3)],
  .ret .bad]⟩
/-- 27 Cup.__init__: 0:self 1:order 2:.0 3:place 4:player -/
def F_Cup___init__ : Fd := ⟨2, 5, [
  .ite (.not (.call 23 [(.v 1)])) [.bad] [],
  .asg (.att (.v 0) 39) (.op .list [(.v 1)]),
  .asg (.att (.v 0) 23) (.call 22 [(.op .len [(.v 1)])]),
  .asg (.att (.v 0) 40) .bad]⟩
/-- 29 Cup.order: 0:self -/
def F_Cup_order : Fd := ⟨1, 1, [
  .ret (.op .list [(.att (.v 0) 39)])]⟩
/-- 30 Cup.size: 0:self -/
def F_Cup_size : Fd := ⟨1, 1, [
  .ret (.att (.v 0) 23)]⟩
/-- 31 Cup.champion: 0:self -/
def F_Cup_champion : Fd := ⟨1, 1, [
  .ret (.idx (.att (.v 0) 39) (.k (dI 0)))]⟩
/-- 32 Cup.__eq__: 0:self 1:other -/
def F_Cup___eq__ : Fd := ⟨2, 2, [
  .ret (.and (.op (.isi (.cls 14)) [(.v 1)]) (.op (.cmp .Eq) [(.att (.v 1) 39), (.att (.v 0) 39)]))]⟩
/-- 33 Cup.__call__: 0:self 1:thing 2:.0 3:one 4:other 5:player 6:number -/
def F_Cup___call__ : Fd := ⟨2, 7, [
  .ite (.or (.not (.op (.isi (.cls 12)) [(.v 1)])) (.op (.cmp .NotEq) [(.att (.v 1) 14), (.att (.v 0) 23)])) [.ret (.k (dB false))] [],
  .ite (.not (.op .all [(.lc [2, 3, 4] (.tp [3, 4]) (.att (.v 1) 15) [] (.op (.cmp .Gt) [(.mth (.v 0) 30 [(.v 3), (.v 4)]), (.k (dI 0))]))])) [.ret (.k (dB false))] [],
  .ret (.op .all [(.lc [2, 5, 6] (.tp [5, 6]) (.att (.v 1) 16) [] (.op (.cmp .GtE) [(.call 24 [(.idx (.att (.v 0) 40) (.v 5)), (.att (.v 0) 23)]), (.v 6)]))])]⟩
/-- 34 Cup.meeting_of: 0:self 1:one 2:other 3:distance 4:number -/
def F_Cup_meeting_of : Fd := ⟨3, 5, [
  .asg (.nm 3) (.op (.bin .Sub) [(.idx (.att (.v 0) 40) (.v 2)), (.idx (.att (.v 0) 40) (.v 1))]),
  .asg (.nm 4) (.call 24 [(.idx (.att (.v 0) 40) (.v 2)), (.att (.v 0) 23)]),
  .ret (.ife (.and (.op (.cmp .Lt) [(.v 4), (.att (.v 0) 23)]) (.op (.cmp .Eq) [(.v 3), (.idx (.g 2) (.v 4))])) (.op (.bin .Add) [(.v 4), (.k (dI 1))]) (.k (dI 0)))]⟩
/-- 35 Cup.need_player: 0:self 1:player -/
def F_Cup_need_player : Fd := ⟨2, 2, [
  .ite (.not (.call 4 [(.att (.v 0) 23), (.v 1)])) [.bad] []]⟩
/-- 36 Cup.wins: 0:self 1:player -/
def F_Cup_wins : Fd := ⟨2, 2, [
  .ex (.mth (.v 0) 31 [(.v 1)]),
  .ret (.call 24 [(.idx (.att (.v 0) 40) (.v 1)), (.att (.v 0) 23)])]⟩
/-- 37 Cup.conqueror: 0:self 1:player 2:place -/
def F_Cup_conqueror : Fd := ⟨2, 3, [
  .ex (.mth (.v 0) 31 [(.v 1)]),
  .asg (.nm 2) (.idx (.att (.v 0) 40) (.v 1)),
  .ite (.op (.cmp .Eq) [(.v 2), (.k (dI 0))]) [.ret (.k (dN))] [],
  .ret (.idx (.att (.v 0) 39) (.op (.bin .Sub) [(.v 2), (.idx (.g 2) (.call 24 [(.v 2), (.att (.v 0) 23)]))]))]⟩
/-- 38 Cup.beaten: 0:self 1:player 2:place 3:.0 4:number -/
def F_Cup_beaten : Fd := ⟨2, 5, [
  .ex (.mth (.v 0) 31 [(.v 1)]),
  .asg (.nm 2) (.idx (.att (.v 0) 40) (.v 1)),
  .ret (.lc [3, 4] (.nm 4) (.rng [(.call 24 [(.v 2), (.att (.v 0) 23)])]) [] (.idx (.att (.v 0) 39) (.op (.bin .Add) [(.v 2), (.idx (.g 2) (.v 4))])))]⟩
/-- 39 Cup.round_of: 0:self 1:one 2:other 3:found -/
def F_Cup_round_of : Fd := ⟨3, 4, [
  .ex (.mth (.v 0) 31 [(.v 1)]),
  .ex (.mth (.v 0) 31 [(.v 2)]),
  .ite (.op (.cmp .Eq) [(.v 1), (.v 2)]) [.ret (.k (dN))] [],
  .asg (.nm 3) (.op .max [(.mth (.v 0) 30 [(.v 1), (.v 2)]), (.mth (.v 0) 30 [(.v 2), (.v 1)])]),
  .ret (.ife (.op (.cmp .Gt) [(.v 3), (.k (dI 0))]) (.v 3) (.k (dN)))]⟩
/-- 40 Cup.rounds: 0:self 1:found 2:index 3:step 4:row 5:place -/
def F_Cup_rounds : Fd := ⟨1, 6, [
  .asg (.nm 1) (.lst []),
  .for_ (.nm 2) (.rng [(.att (.v 0) 23)]) [.asg (.nm 3) (.idx (.g 2) (.v 2)), .asg (.nm 4) (.lst []), .for_ (.nm 5) (.rng [(.k (dI 0)), (.op .len [(.att (.v 0) 39)]), (.op (.bin .Mult) [(.k (dI 2)), (.v 3)])]) [.ex (.mth (.v 4) 0 [(.tup [(.idx (.att (.v 0) 39) (.v 5)), (.idx (.att (.v 0) 39) (.op (.bin .Add) [(.v 5), (.v 3)]))])])], .ex (.mth (.v 1) 0 [(.op .sorted [(.v 4)])])],
  .ret (.v 1)]⟩
/-- 41 Cup.matches: 0:self 1:row 2:match -/
def F_Cup_matches : Fd := ⟨1, 3, [
  .for_ (.nm 1) (.mth (.v 0) 36 []) [.for_ (.nm 2) (.v 1) [.ex .bad]]]⟩
/-- 42 Cup.talk: 0:self 1:.0 2:row 3:match -/
def F_Cup_talk : Fd := ⟨1, 4, [
  .ret (.make 12 [(.att (.v 0) 23), .bad, (.lst [])])]⟩
/-- 43 is_whole: 0:thing -/
def F_is_whole : Fd := ⟨1, 1, [
  .ret (.and (.op (.isi .int) [(.v 0)]) (.not (.op (.isi .bool) [(.v 0)])))]⟩
/-- 44 most_from: 0:size 1:number -/
def F_most_from : Fd := ⟨2, 2, [
  .ret (.ife (.op (.cmp .LtE) [(.v 1), (.v 0)]) (.op (.bin .LShift) [(.k (dI 1)), (.op (.bin .Sub) [(.v 0), (.v 1)])]) (.k (dI 0)))]⟩
/-- 45 Forest.__init__: 0:self 1:talk 2:player 3:number 4:one 5:other 6:row 7:.0 -/
def F_Forest___init__ : Fd := ⟨2, 8, [
  .asg (.att (.v 0) 48) (.att (.v 1) 14),
  .asg (.att (.v 0) 49) (.op (.bin .LShift) [(.k (dI 1)), (.att (.v 1) 14)]),
  .asg (.att (.v 0) 50) (.lc [7, 2] (.nm 2) (.rng [(.att (.v 0) 49)]) [] (.k (dN))),
  .asg (.att (.v 0) 51) (.lc [7, 2] (.nm 2) (.rng [(.att (.v 0) 49)]) [] (.lst [])),
  .asg (.att (.v 0) 52) (.lc [7, 2] (.nm 2) (.rng [(.att (.v 0) 49)]) [] (.k (dI 0))),
  .asg (.att (.v 0) 53) (.k (dN)),
  .for_ (.tp [2, 3]) (.att (.v 1) 16) [.asg (.sub (.att (.v 0) 52) (.v 2)) (.v 3)],
  .for_ (.tp [4, 5]) (.att (.v 1) 15) [.ite (.op (.cmp .Is) [(.idx (.att (.v 0) 50) (.v 5)), (.k (dN))]) [.asg (.sub (.att (.v 0) 50) (.v 5)) (.v 4), .asg (.nm 6) (.idx (.att (.v 0) 51) (.v 4)), .ex (.mth (.v 6) 0 [(.v 5)])] [.ite (.op (.cmp .Is) [(.att (.v 0) 53), (.k (dN))]) [.asg (.att (.v 0) 53) (.tup [(.g 3), (.idx (.att (.v 0) 50) (.v 5)), (.v 4), (.v 5)])] []]],
  .ite (.op (.cmp .Is) [(.att (.v 0) 53), (.k (dN))]) [.asg (.att (.v 0) 53) (.mth (.v 0) 41 [])] []]⟩
/-- 46 Forest.ring: 0:self 1:done 2:begin 3:way 4:here 5:.0 6:player -/
def F_Forest_ring : Fd := ⟨1, 7, [
  .asg (.nm 1) (.lc [5, 6] (.nm 6) (.rng [(.att (.v 0) 49)]) [] (.k (dB false))),
  .for_ (.nm 2) (.rng [(.att (.v 0) 49)]) [.asgs [3, 4] [(.lst []), (.v 2)], .whl (.and (.op (.cmp .IsNot) [(.v 4), (.k (dN))]) (.not (.idx (.v 1) (.v 4)))) [.asg (.sub (.v 1) (.v 4)) (.k (dB true)), .ex (.mth (.v 3) 0 [(.v 4)]), .asg (.nm 4) (.idx (.att (.v 0) 50) (.v 4))], .ite (.and (.op (.cmp .IsNot) [(.v 4), (.k (dN))]) (.op (.cmp .In) [(.v 4), (.v 3)])) [.ret (.tup [(.g 4), (.op .rev [(.op .slo [(.v 3), (.mth (.v 3) 9 [(.v 4)])])])])] []],
  .ret (.k (dN))]⟩
/-- 47 Forest.from_leaves: 0:self 1:found 2:spot -/
def F_Forest_from_leaves : Fd := ⟨1, 3, [
  .asgs [1, 2] [(.mth (.v 0) 44 []), (.k (dI 0))],
  .whl (.op (.cmp .Lt) [(.v 2), (.op .len [(.v 1)])]) [.ex (.mth (.v 1) 3 [(.idx (.att (.v 0) 51) (.idx (.v 1) (.v 2)))]), .aug (.nm 2) .Add (.k (dI 1))],
  .ret (.op .rev [(.v 1)])]⟩
/-- 48 Forest.levels: 0:self 1:player 2:least 3:given 4:last 5:need 6:beaten_one 7:.0 8:one -/
def F_Forest_levels : Fd := ⟨1, 9, [
  .asgs [2, 3] [(.op .list [(.att (.v 0) 52)]), (.lc [7, 1] (.nm 1) (.rng [(.att (.v 0) 49)]) [] (.k (dI 0)))],
  .for_ (.nm 1) (.mth (.v 0) 42 []) [.asg (.nm 4) (.op .neg [(.k (dI 1))]), .for_ (.tp [5, 6]) (.op .sorted [(.lc [7, 8] (.nm 8) (.idx (.att (.v 0) 51) (.v 1)) [] (.tup [(.idx (.v 2) (.v 8)), (.v 8)]))]) [.asg (.nm 4) (.op .max [(.v 5), (.op (.bin .Add) [(.v 4), (.k (dI 1))])]), .asg (.sub (.v 3) (.v 6)) (.v 4)], .asg (.sub (.v 2) (.v 1)) (.op .max [(.idx (.v 2) (.v 1)), (.op (.bin .Add) [(.v 4), (.k (dI 1))])]), .asg (.sub (.v 3) (.v 1)) (.idx (.v 2) (.v 1))],
  .ret (.tup [(.v 2), (.v 3)])]⟩
/-- 49 Forest.undefeated: 0:self 1:.0 2:player -/
def F_Forest_undefeated : Fd := ⟨1, 3, [
  .ret (.lc [1, 2] (.nm 2) (.rng [(.att (.v 0) 49)]) [(.op (.cmp .Is) [(.idx (.att (.v 0) 50) (.v 2)), (.k (dN))])] (.v 2))]⟩
/-- 50 Forest.lowered: 0:self 1:least 2:given 3:player 4:found 5:last 6:one 7:beside 8:need 9:.0 -/
def F_Forest_lowered : Fd := ⟨4, 10, [
  .asg (.nm 4) (.op .list [(.v 2)]),
  .asg (.sub (.v 4) (.v 3)) (.idx (.v 1) (.v 3)),
  .ite (.op (.cmp .IsNot) [(.idx (.att (.v 0) 50) (.v 3)), (.k (dN))]) [.asg (.nm 5) (.op .neg [(.k (dI 1))]), .asg (.nm 7) (.lc [9, 6] (.nm 6) (.idx (.att (.v 0) 51) (.idx (.att (.v 0) 50) (.v 3))) [(.op (.cmp .NotEq) [(.v 6), (.v 3)])] (.v 6)), .for_ (.tp [8, 6]) (.op .sorted [(.lc [9, 6] (.nm 6) (.v 7) [] (.tup [(.idx (.v 1) (.v 6)), (.v 6)]))]) [.asg (.nm 5) (.op .max [(.v 8), (.op (.bin .Add) [(.v 5), (.k (dI 1))])]), .ite (.op (.cmp .Eq) [(.v 5), (.idx (.v 1) (.v 3))]) [.aug (.nm 5) .Add (.k (dI 1))] [], .asg (.sub (.v 4) (.v 6)) (.v 5)]] [],
  .ret (.v 4)]⟩
/-- 51 Forest.raised: 0:self 1:given 2:kept 3:found 4:number 5:one 6:lack 7:free 8:.0 -/
def F_Forest_raised : Fd := ⟨3, 9, [
  .asg (.nm 3) (.op .list [(.v 1)]),
  .for_ (.nm 4) (.rng [(.k (dI 1)), (.op (.bin .Add) [(.att (.v 0) 48), (.k (dI 1))])]) [.asg (.nm 6) (.op (.bin .Sub) [(.call 44 [(.att (.v 0) 48), (.v 4)]), (.op .len [(.lc [8, 5] (.nm 5) (.v 3) [(.op (.cmp .GtE) [(.v 5), (.v 4)])] (.v 5))])]), .asg (.nm 7) (.lc [8, 5] (.nm 5) (.mth (.v 0) 44 []) [(.and (.op (.cmp .Eq) [(.idx (.v 3) (.v 5)), (.op (.bin .Sub) [(.v 4), (.k (dI 1))])]) (.op (.cmp .NotEq) [(.v 5), (.v 2)]))] (.v 5)), .for_ (.nm 5) (.op .shi [(.v 7), (.v 6)]) [.asg (.sub (.v 3) (.v 5)) (.v 4)]],
  .ret (.v 3)]⟩
/-- 52 Forest.cup_of: 0:self 1:won 2:player 3:number 4:beats 5:free 6:row 7:found 8:beaten_one 9:.0 -/
def F_Forest_cup_of : Fd := ⟨2, 10, [
  .asg (.nm 4) (.lc [9, 2] (.nm 2) (.rng [(.att (.v 0) 49)]) [] (.lc [9, 3] (.nm 3) (.rng [(.idx (.v 1) (.v 2))]) [] (.k (dN)))),
  .asg (.nm 5) (.lc [9, 3] (.nm 3) (.rng [(.op (.bin .Add) [(.att (.v 0) 48), (.k (dI 1))])]) [] (.lst [])),
  .for_ (.nm 2) (.rng [(.att (.v 0) 49)]) [.asg (.nm 6) (.ife (.op (.cmp .Is) [(.idx (.att (.v 0) 50) (.v 2)), (.k (dN))]) (.idx (.v 5) (.idx (.v 1) (.v 2))) (.idx (.v 4) (.idx (.att (.v 0) 50) (.v 2)))), .ite (.op (.cmp .Is) [(.idx (.att (.v 0) 50) (.v 2)), (.k (dN))]) [.ex (.mth (.v 6) 0 [(.v 2)])] [.asg (.sub (.v 6) (.idx (.v 1) (.v 2))) (.v 2)]],
  .asg (.nm 7) (.lst []),
  .for_ (.nm 2) (.rng [(.att (.v 0) 49)]) [.asg (.nm 6) (.lst []), .for_ (.tp [3, 8]) (.enm (.idx (.v 4) (.v 2))) [.ex (.mth (.v 6) 0 [(.ife (.op (.cmp .Is) [(.v 8), (.k (dN))]) (.mth (.idx (.v 5) (.v 3)) 2 []) (.v 8))])], .ex (.mth (.v 7) 0 [(.v 6)])],
  .ret (.make 14 [(.call 53 [(.v 7), (.idx (.idx (.v 5) (.att (.v 0) 48)) (.k (dI 0))), (.att (.v 0) 48)])])]⟩
/-- 53 block_of: 0:beats 1:player 2:number -/
def F_block_of : Fd := ⟨3, 3, [
  .ite (.op (.cmp .Eq) [(.v 2), (.k (dI 0))]) [.ret (.lst [(.v 1)])] [],
  .ret (.op (.bin .Add) [(.call 53 [(.v 0), (.v 1), (.op (.bin .Sub) [(.v 2), (.k (dI 1))])]), (.call 53 [(.v 0), (.idx (.idx (.v 0) (.v 1)) (.op (.bin .Sub) [(.v 2), (.k (dI 1))])), (.op (.bin .Sub) [(.v 2), (.k (dI 1))])])])]⟩
/-- 54 obstacle_in: 0:forest 1:given 2:number 3:found 4:.0 5:player 6:one -/
def F_obstacle_in : Fd := ⟨1, 7, [
  .ite (.op (.cmp .IsNot) [(.att (.v 0) 53), (.k (dN))]) [.ret (.att (.v 0) 53)] [],
  .asg (.nm 1) (.idx (.mth (.v 0) 43 []) (.k (dI 1))),
  .for_ (.nm 2) (.rng [(.k (dI 1)), (.op (.bin .Add) [(.att (.v 0) 48), (.k (dI 2))])]) [.asg (.nm 3) (.lc [4, 5, 6] (.tp [5, 6]) (.enm (.v 1)) [(.op (.cmp .GtE) [(.v 6), (.v 2)])] (.v 5)), .ite (.op (.cmp .Gt) [(.op .len [(.v 3)]), (.call 44 [(.att (.v 0) 48), (.v 2)])]) [.ret (.tup [(.g 5), (.v 2), (.v 3)])] []],
  .ret (.k (dN))]⟩
/-- 55 obstacle: 0:talk -/
def F_obstacle : Fd := ⟨1, 1, [
  .ret (.call 54 [(.make 15 [(.v 0)])])]⟩
/-- 56 is_twice: 0:talk 1:thing 2:.0 3:one -/
def F_is_twice : Fd := ⟨2, 4, [
  .ite (.or (.op (.cmp .NotEq) [(.op .len [(.v 1)]), (.k (dI 4))]) (.not (.op .all [(.lc [2, 3] (.nm 3) (.op .slo [(.v 1), (.k (dI 1))]) [] (.call 43 [(.v 3)]))]))) [.ret (.k (dB false))] [],
  .ret (.and (.op (.cmp .Lt) [(.idx (.v 1) (.k (dI 1))), (.idx (.v 1) (.k (dI 2)))]) (.and (.op (.cmp .In) [(.tup [(.idx (.v 1) (.k (dI 1))), (.idx (.v 1) (.k (dI 3)))]), (.v 0)]) (.op (.cmp .In) [(.tup [(.idx (.v 1) (.k (dI 2))), (.idx (.v 1) (.k (dI 3)))]), (.v 0)])))]⟩
/-- 57 is_ring: 0:talk 1:players 2:.0 3:one 4:other -/
def F_is_ring : Fd := ⟨2, 5, [
  .ite (.or (.not (.op (.isi .list) [(.v 1)])) (.or (.op (.cmp .Lt) [(.op .len [(.v 1)]), (.k (dI 2))]) (.not (.op .all [(.lc [2, 3] (.nm 3) (.v 1) [] (.call 43 [(.v 3)]))])))) [.ret (.k (dB false))] [],
  .ite (.op (.cmp .Lt) [(.op .len [.bad]), (.op .len [(.v 1)])]) [.ret (.k (dB false))] [],
  .ret (.op .all [(.lc [2, 3, 4] (.tp [3, 4]) .bad [] (.op (.cmp .In) [(.tup [(.v 3), (.v 4)]), (.v 0)]))])]⟩
/-- 58 is_full: 0:talk 1:number 2:players 3:forest 4:given 5:.0 6:one 7:other -/
def F_is_full : Fd := ⟨3, 8, [
  .asg (.nm 3) (.make 15 [(.v 0)]),
  .ite (.or (.op (.cmp .IsNot) [(.att (.v 3) 53), (.k (dN))]) (.or (.not (.call 43 [(.v 1)])) (.not (.chn .LtE .LtE (.k (dI 1)) (.v 1) (.op (.bin .Add) [(.att (.v 3) 48), (.k (dI 1))]))))) [.ret (.k (dB false))] [],
  .ite (.or (.not (.op (.isi .list) [(.v 2)])) (.not (.op .all [(.lc [5, 6] (.nm 6) (.v 2) [] (.and (.call 43 [(.v 6)]) (.chn .LtE .Lt (.k (dI 0)) (.v 6) (.att (.v 3) 49))))]))) [.ret (.k (dB false))] [],
  .ite (.not (.op .all [(.lc [5, 6, 7] (.tp [6, 7]) .bad [] (.op (.cmp .Lt) [(.v 6), (.v 7)]))])) [.ret (.k (dB false))] [],
  .asg (.nm 4) (.idx (.mth (.v 3) 43 []) (.k (dI 1))),
  .ret (.and (.op .all [(.lc [5, 6] (.nm 6) (.v 2) [] (.op (.cmp .GtE) [(.idx (.v 4) (.v 6)), (.v 1)]))]) (.op (.cmp .Gt) [(.op .len [(.v 2)]), (.call 44 [(.att (.v 3) 48), (.v 1)])]))]⟩
/-- 59 shows_obstacle: 0:talk 1:thing -/
def F_shows_obstacle : Fd := ⟨2, 2, [
  .ite (.or (.not (.op (.isi .tuple) [(.v 1)])) (.or (.op (.cmp .Eq) [(.v 1), (.tup [])]) (.not (.op (.isi .str) [(.idx (.v 1) (.k (dI 0)))])))) [.ret (.k (dB false))] [],
  .ite (.op (.cmp .Eq) [(.idx (.v 1) (.k (dI 0))), (.g 3)]) [.ret (.call 56 [(.v 0), (.v 1)])] [],
  .ite (.op (.cmp .Eq) [(.idx (.v 1) (.k (dI 0))), (.g 4)]) [.ret (.and (.op (.cmp .Eq) [(.op .len [(.v 1)]), (.k (dI 2))]) (.call 57 [(.v 0), (.idx (.v 1) (.k (dI 1)))]))] [],
  .ret (.and (.op (.cmp .Eq) [(.idx (.v 1) (.k (dI 0))), (.g 5)]) (.and (.op (.cmp .Eq) [(.op .len [(.v 1)]), (.k (dI 3))]) (.call 58 [(.v 0), (.idx (.v 1) (.k (dI 1))), (.idx (.v 1) (.k (dI 2)))])))]⟩
/-- 60 sound_levels: 0:talk 1:forest -/
def F_sound_levels : Fd := ⟨1, 2, [
  .asg (.nm 1) (.make 15 [(.v 0)]),
  .ite (.op (.cmp .IsNot) [(.att (.v 1) 53), (.k (dN))]) [.bad] [],
  .ret (.mth (.v 1) 43 [])]⟩
/-- 61 needs: 0:talk -/
def F_needs : Fd := ⟨1, 1, [
  .ret (.idx (.call 60 [(.v 0)]) (.k (dI 0)))]⟩
/-- 62 slots: 0:talk -/
def F_slots : Fd := ⟨1, 1, [
  .ret (.idx (.call 60 [(.v 0)]) (.k (dI 1)))]⟩
/-- 63 fitting_forest: 0:talk 1:forest 2:found -/
def F_fitting_forest : Fd := ⟨1, 3, [
  .asg (.nm 1) (.make 15 [(.v 0)]),
  .asg (.nm 2) (.call 54 [(.v 1)]),
  .ite (.op (.cmp .IsNot) [(.v 2), (.k (dN))]) [.bad] [],
  .ret (.v 1)]⟩
/-- 64 cup_for: 0:talk 1:forest -/
def F_cup_for : Fd := ⟨1, 2, [
  .asg (.nm 1) (.call 63 [(.v 0)]),
  .ret (.mth (.v 1) 47 [(.mth (.v 1) 46 [(.idx (.mth (.v 1) 43 []) (.k (dI 1))), (.k (dN))])])]⟩
/-- 65 cup_with: 0:talk 1:player 2:number 3:forest 4:least 5:given -/
def F_cup_with : Fd := ⟨3, 6, [
  .ite (.not (.chn .LtE .Lt (.k (dI 0)) (.v 1) (.op (.bin .LShift) [(.k (dI 1)), (.att (.v 0) 14)]))) [.bad] [],
  .ex (.call 63 [(.v 0)]),
  .ite (.not (.chn .LtE .LtE (.k (dI 0)) (.v 2) (.att (.v 0) 14))) [.bad] [],
  .asg (.nm 3) (.make 15 [(.mth (.v 0) 22 [(.v 1), (.v 2)])]),
  .ite (.or (.op (.cmp .IsNot) [(.call 54 [(.v 3)]), (.k (dN))]) (.op (.cmp .NotEq) [(.idx (.idx (.mth (.v 3) 43 []) (.k (dI 0))) (.v 1)), (.v 2)])) [.bad] [],
  .asg (.tp [4, 5]) (.mth (.v 3) 43 []),
  .ret (.mth (.v 3) 47 [(.mth (.v 3) 46 [(.mth (.v 3) 45 [(.v 4), (.v 5), (.v 1)]), (.v 1)])])]⟩
/-- 66 Seats.__init__: 0:self 1:talk 2:player 3:number 4:.0 -/
def F_Seats___init__ : Fd := ⟨2, 5, [
  .asg (.att (.v 0) 57) (.att (.v 1) 14),
  .asg (.att (.v 0) 58) (.op (.bin .Mult) [(.lst [(.k (dI 0))]), (.idx (.g 2) (.att (.v 1) 14))]),
  .for_ (.tp [2, 3]) (.att (.v 1) 16) [.asg (.sub (.att (.v 0) 58) (.v 2)) (.v 3)],
  .asg (.att (.v 0) 59) (.lc [4, 3] (.nm 3) (.rng [(.op (.bin .Add) [(.att (.v 1) 14), (.k (dI 1))])]) [] (.mth (.att (.v 0) 58) 8 [(.v 3)])),
  .asg (.att (.v 0) 60) (.k (dI 0))]⟩
/-- 67 Seats.ways: 0:self 1:place 2:found 3:above 4:number 5:step 6:free 7:taken -/
def F_Seats_ways : Fd := ⟨2, 8, [
  .asgs [2, 3] [(.k (dI 1)), (.k (dI 0))],
  .for_ (.nm 4) (.rng [(.att (.v 0) 57), (.op .neg [(.k (dI 1))]), (.op .neg [(.k (dI 1))])]) [.asg (.nm 5) (.idx (.g 2) (.v 4)), .asg (.nm 6) (.op (.bin .Sub) [(.op (.bin .Sub) [(.idx (.g 2) (.op (.bin .Sub) [(.att (.v 0) 57), (.v 4)])), (.op (.bin .FloorDiv) [(.op (.bin .Sub) [(.op (.bin .Add) [(.v 1), (.v 5)]), (.k (dI 1))]), (.v 5)])]), (.v 3)]), .for_ (.nm 7) (.rng [(.idx (.att (.v 0) 59) (.v 4))]) [.ite (.op (.cmp .LtE) [(.v 6), (.v 7)]) [.ret (.k (dI 0))] [], .aug (.nm 2) .Mult (.op (.bin .Sub) [(.v 6), (.v 7)])], .aug (.nm 3) .Add (.idx (.att (.v 0) 59) (.v 4))],
  .ret (.v 2)]⟩
/-- 68 Seats.ways_with: 0:self 1:number 2:found -/
def F_Seats_ways_with : Fd := ⟨2, 3, [
  .ite (.or (.op (.cmp .Gt) [(.v 1), (.call 24 [(.att (.v 0) 60), (.att (.v 0) 57)])]) (.op (.cmp .Eq) [(.idx (.att (.v 0) 59) (.v 1)), (.k (dI 0))])) [.ret (.k (dI 0))] [],
  .bad,
  .asg (.nm 2) (.mth (.v 0) 54 [(.op (.bin .Add) [(.att (.v 0) 60), (.k (dI 1))])]),
  .bad,
  .ret (.v 2)]⟩
/-- 69 Seats.put: 0:self 1:player -/
def F_Seats_put : Fd := ⟨2, 2, [
  .bad,
  .bad]⟩
/-- 70 count_cups: 0:size 1:claims -/
def F_count_cups : Fd := ⟨2, 2, [
  .ret (.mth (.make 16 [(.make 12 [(.v 0), (.lst []), (.v 1)])]) 54 [(.k (dI 0))])]⟩
/-- 71 nth_cup: 0:size 1:claims 2:index 3:seats 4:order 5:left 6:rest 7:many 8:spot 9:player 10:.0 11:number -/
def F_nth_cup : Fd := ⟨3, 12, [
  .asg (.nm 3) (.make 16 [(.make 12 [(.v 0), (.lst []), (.v 1)])]),
  .ite (.not (.chn .LtE .Lt (.k (dI 0)) (.v 2) (.mth (.v 3) 54 [(.k (dI 0))]))) [.bad] [],
  .asgs [4, 5, 6] [(.lst []), (.op .listrange [(.idx (.g 2) (.v 0))]), (.v 2)],
  .whl (.op (.cmp .NotEq) [(.v 5), (.lst [])]) [.asg (.nm 7) (.lc [10, 11] (.nm 11) (.rng [(.op (.bin .Add) [(.v 0), (.k (dI 1))])]) [] (.mth (.v 3) 55 [(.v 11)])), .asg (.nm 8) (.k (dI 0)), .whl (.op (.cmp .GtE) [(.v 6), (.idx (.v 7) (.idx (.att (.v 3) 58) (.idx (.v 5) (.v 8))))]) [.aug (.nm 6) .Sub (.idx (.v 7) (.idx (.att (.v 3) 58) (.idx (.v 5) (.v 8)))), .aug (.nm 8) .Add (.k (dI 1))], .asg (.nm 9) (.mth (.v 5) 2 [(.v 8)]), .ex (.mth (.v 4) 0 [(.v 9)]), .ex (.mth (.v 3) 56 [(.v 9)])],
  .ret (.make 14 [(.v 4)])]⟩
/-- 72 cup_index: 0:size 1:claims 2:cup 3:talk 4:seats 5:left 6:found 7:player 8:many 9:.0 10:number 11:lesser -/
def F_cup_index : Fd := ⟨3, 12, [
  .asg (.nm 3) (.make 12 [(.v 0), (.lst []), (.v 1)]),
  .ite (.or (.not (.op (.isi (.cls 14)) [(.v 2)])) (.not .bad)) [.bad] [],
  .asgs [4, 5, 6] [(.make 16 [(.v 3)]), (.op .listrange [(.idx (.g 2) (.v 0))]), (.k (dI 0))],
  .for_ (.nm 7) (.att (.v 2) 27) [.bad, .aug (.nm 6) .Add .bad, .ex (.mth (.v 5) 7 [(.v 7)]), .ex (.mth (.v 4) 56 [(.v 7)])],
  .ret (.v 6)]⟩
/-- 73 LiveTalk.__init__: 0:self 1:size -/
def F_LiveTalk___init__ : Fd := ⟨2, 2, [
  .asg (.att (.v 0) 71) (.lst [(.make 12 [(.v 1), (.lst []), (.lst [])])]),
  .asg (.att (.v 0) 72) (.lst []),
  .asg (.att (.v 0) 73) (.k (dI 0))]⟩
/-- 74 LiveTalk.refused: 0:self -/
def F_LiveTalk_refused : Fd := ⟨1, 1, [
  .ret (.att (.v 0) 73)]⟩
/-- 75 LiveTalk.take: 0:self 1:longer 2:found -/
def F_LiveTalk_take : Fd := ⟨2, 3, [
  .asg (.nm 2) (.call 55 [(.v 1)]),
  .ite (.op (.cmp .IsNot) [(.v 2), (.k (dN))]) [.bad] [],
  .ex (.mth (.att (.v 0) 71) 0 [(.v 1)]),
  .ret (.k (dB true))]⟩
/-- 76 LiveTalk.beat: 0:self 1:one 2:other -/
def F_LiveTalk_beat : Fd := ⟨3, 3, [
  .ret (.mth (.v 0) 62 [(.mth (.idx (.att (.v 0) 71) (.op .neg [(.k (dI 1))])) 21 [(.v 1), (.v 2)])])]⟩
/-- 77 LiveTalk.claim: 0:self 1:player 2:number -/
def F_LiveTalk_claim : Fd := ⟨3, 3, [
  .ret (.mth (.v 0) 62 [(.mth (.idx (.att (.v 0) 71) (.op .neg [(.k (dI 1))])) 22 [(.v 1), (.v 2)])])]⟩
/-- 78 LiveTalk.now: 0:self -/
def F_LiveTalk_now : Fd := ⟨1, 1, [
  .ret (.idx (.att (.v 0) 71) (.op .neg [(.k (dI 1))]))]⟩
/-- 79 LiveTalk.undo: 0:self 1:.0 2:many -/
def F_LiveTalk_undo : Fd := ⟨1, 3, [
  .ite (.op (.cmp .Eq) [(.op .len [(.att (.v 0) 71)]), (.k (dI 1))]) [.bad] [],
  .asg (.att (.v 0) 71) (.op .shi [(.att (.v 0) 71), (.op .neg [(.k (dI 1))])]),
  .asg (.att (.v 0) 72) (.lc [1, 2] (.nm 2) (.att (.v 0) 72) [(.op (.cmp .LtE) [(.v 2), (.op .len [(.att (.v 0) 71)])])] (.v 2))]⟩
/-- 80 LiveTalk.mark: 0:self -/
def F_LiveTalk_mark : Fd := ⟨1, 1, [
  .ex (.mth (.att (.v 0) 72) 0 [(.op .len [(.att (.v 0) 71)])]),
  .ret (.op (.bin .Sub) [(.op .len [(.att (.v 0) 72)]), (.k (dI 1))])]⟩
/-- 81 LiveTalk.undo_to: 0:self 1:index -/
def F_LiveTalk_undo_to : Fd := ⟨2, 2, [
  .ite (.not (.chn .LtE .Lt (.k (dI 0)) (.v 1) (.op .len [(.att (.v 0) 72)]))) [.bad] [],
  .asg (.att (.v 0) 71) (.op .shi [(.att (.v 0) 71), (.idx (.att (.v 0) 72) (.v 1))]),
  .asg (.att (.v 0) 72) (.op .shi [(.att (.v 0) 72), (.op (.bin .Add) [(.v 1), (.k (dI 1))])])]⟩
/-- 82 LiveTalk.__len__: 0:self -/
def F_LiveTalk___len__ : Fd := ⟨1, 1, [
  .ret (.op .len [(.op .slo [(.att (.v 0) 71), (.k (dI 1))])])]⟩
/-- 83 LiveTalk.begun: 0:self -/
def F_LiveTalk_begun : Fd := ⟨1, 1, [
  .ret (.make 17 [(.att (.idx (.att (.v 0) 71) (.k (dI 0))) 14)])]⟩
/-- 84 LiveTalk.twin: 0:self 1:other -/
def F_LiveTalk_twin : Fd := ⟨1, 2, [
  .asg (.nm 1) (.mth (.v 0) 69 []),
  .asg (.att (.v 1) 71) (.op .list [(.att (.v 0) 71)]),
  .asg (.att (.v 1) 72) (.op .list [(.att (.v 0) 72)]),
  .asg (.att (.v 1) 73) (.att (.v 0) 73),
  .ret (.v 1)]⟩
/-- 85 QuietTalk.take: 0:self 1:longer -/
def F_QuietTalk_take : Fd := ⟨2, 2, [
  .bad,
  .ret (.k (dB false))]⟩
/-- 86 QuietTalk.begun: 0:self -/
def F_QuietTalk_begun : Fd := ⟨1, 1, [
  .ret (.make 18 [(.att (.idx (.att (.v 0) 71) (.k (dI 0))) 14)])]⟩
/-- 87 need_player: 0:talk 1:player -/
def F_need_player : Fd := ⟨2, 2, [
  .ite (.or (.op (.isi .bool) [(.v 1)]) (.not (.chn .LtE .Lt (.k (dI 0)) (.v 1) (.call 88 [(.att (.v 0) 14)])))) [.bad] []]⟩
/-- 88 players_in: 0:size 1:found 2:turn -/
def F_players_in : Fd := ⟨1, 3, [
  .asg (.nm 1) (.k (dI 1)),
  .for_ (.nm 2) (.rng [(.v 0)]) [.aug (.nm 1) .Mult (.k (dI 2))],
  .ret (.v 1)]⟩
/-- 89 need_fitting: 0:talk 1:barred -/
def F_need_fitting : Fd := ⟨1, 2, [
  .asg (.nm 1) (.call 55 [(.v 0)]),
  .ite (.op (.cmp .IsNot) [(.v 1), (.k (dN))]) [.bad] []]⟩
/-- 90 can_win: 0:talk 1:player 2:number -/
def F_can_win : Fd := ⟨3, 3, [
  .ret (.op (.cmp .Is) [(.call 55 [(.mth (.v 0) 22 [(.v 1), (.v 2)])]), (.k (dN))])]⟩
/-- 91 greatest_number: 0:talk 1:player 2:least 3:found -/
def F_greatest_number : Fd := ⟨3, 4, [
  .asg (.nm 3) (.v 2),
  .whl (.and (.op (.cmp .Lt) [(.v 3), (.att (.v 0) 14)]) (.call 90 [(.v 0), (.v 1), (.op (.bin .Add) [(.v 3), (.k (dI 1))])])) [.aug (.nm 3) .Add (.k (dI 1))],
  .ret (.v 3)]⟩
/-- 92 least_wins: 0:talk 1:player -/
def F_least_wins : Fd := ⟨2, 2, [
  .ex (.call 87 [(.v 0), (.v 1)]),
  .ex (.call 89 [(.v 0)]),
  .ret (.idx (.call 61 [(.v 0)]) (.v 1))]⟩
/-- 93 greatest_wins: 0:talk 1:player -/
def F_greatest_wins : Fd := ⟨2, 2, [
  .ex (.call 87 [(.v 0), (.v 1)]),
  .ex (.call 89 [(.v 0)]),
  .ret (.call 91 [(.v 0), (.v 1), (.idx (.call 61 [(.v 0)]) (.v 1))])]⟩
/-- 94 wins_table: 0:talk 1:.0 2:player 3:least -/
def F_wins_table : Fd := ⟨1, 4, [
  .ex (.call 89 [(.v 0)]),
  .ret (.lc [1, 2, 3] (.tp [2, 3]) (.enm (.frz (.call 61 [(.v 0)]))) [] (.tup [(.v 3), (.call 91 [(.v 0), (.v 2), (.v 3)])]))]⟩
/-- 95 champions: 0:talk 1:.0 2:player 3:least -/
def F_champions : Fd := ⟨1, 4, [
  .ex (.call 89 [(.v 0)]),
  .ret (.lc [1, 2, 3] (.tp [2, 3]) (.enm (.call 61 [(.v 0)])) [(.call 90 [(.v 0), (.v 2), (.att (.v 0) 14)])] (.v 2))]⟩
/-- 96 sure_champion: 0:talk 1:found -/
def F_sure_champion : Fd := ⟨1, 2, [
  .asg (.nm 1) (.call 95 [(.v 0)]),
  .ret (.ife (.op (.cmp .Eq) [(.op .len [(.v 1)]), (.k (dI 1))]) (.idx (.v 1) (.k (dI 0))) (.k (dN)))]⟩
/-- 97 need_both: 0:talk 1:one 2:other -/
def F_need_both : Fd := ⟨3, 3, [
  .ex (.call 87 [(.v 0), (.v 1)]),
  .ex (.call 87 [(.v 0), (.v 2)]),
  .ex (.call 89 [(.v 0)])]⟩
/-- 98 can_beat: 0:talk 1:one 2:other -/
def F_can_beat : Fd := ⟨3, 3, [
  .ret (.and (.op (.cmp .NotEq) [(.v 1), (.v 2)]) (.op (.cmp .Is) [(.call 55 [(.mth (.v 0) 21 [(.v 1), (.v 2)])]), (.k (dN))]))]⟩
/-- 99 could_beat: 0:talk 1:one 2:other -/
def F_could_beat : Fd := ⟨3, 3, [
  .ex (.call 97 [(.v 0), (.v 1), (.v 2)]),
  .ret (.call 98 [(.v 0), (.v 1), (.v 2)])]⟩
/-- 100 rounds_of: 0:talk 1:one 2:other 3:wider 4:least -/
def F_rounds_of : Fd := ⟨3, 5, [
  .ex (.call 97 [(.v 0), (.v 1), (.v 2)]),
  .ite (.not (.call 98 [(.v 0), (.v 1), (.v 2)])) [.ret (.k (dN))] [],
  .asg (.nm 3) (.mth (.v 0) 21 [(.v 1), (.v 2)]),
  .asg (.nm 4) (.idx (.call 61 [(.v 3)]) (.v 2)),
  .ret (.tup [(.op (.bin .Add) [(.v 4), (.k (dI 1))]), (.op (.bin .Add) [(.call 91 [(.v 3), (.v 2), (.v 4)]), (.k (dI 1))])])]⟩
/-- 101 winners_over: 0:talk 1:player 2:.0 3:one -/
def F_winners_over : Fd := ⟨2, 4, [
  .ret (.lc [2, 3] (.nm 3) (.rng [(.call 88 [(.att (.v 0) 14)])]) [(.call 98 [(.v 0), (.v 3), (.v 1)])] (.v 3))]⟩
/-- 102 conquerors: 0:talk 1:player -/
def F_conquerors : Fd := ⟨2, 2, [
  .ex (.call 87 [(.v 0), (.v 1)]),
  .ex (.call 89 [(.v 0)]),
  .ret (.call 101 [(.v 0), (.v 1)])]⟩
/-- 103 could_meet: 0:talk 1:one 2:other -/
def F_could_meet : Fd := ⟨3, 3, [
  .ex (.call 97 [(.v 0), (.v 1), (.v 2)]),
  .ret (.or (.call 98 [(.v 0), (.v 1), (.v 2)]) (.call 98 [(.v 0), (.v 2), (.v 1)]))]⟩
/-- 105 number_in: 0:word 1:most 2:.0 3:sign -/
def F_number_in : Fd := ⟨2, 4, [
  .ite (.or (.not (.chn .LtE .LtE (.k (dI 1)) (.op .len [(.v 0)]) (.k (dI 2)))) (.not (.op .all [(.lc [2, 3] (.nm 3) (.v 0) [] (.op (.cmp .In) [(.v 3), (.g 6)]))]))) [.ret (.k (dN))] [],
  .ite (.or (.and (.op (.cmp .Eq) [(.op .len [(.v 0)]), (.k (dI 2))]) (.op (.cmp .Eq) [(.idx (.v 0) (.k (dI 0))), (.k (dS "0"))])) (.op (.cmp .Gt) [(.op .int [(.v 0)]), (.v 1)])) [.ret (.k (dN))] [],
  .ret (.op .int [(.v 0)])]⟩
/-- 106 pair_in: 0:word 1:sign 2:most 3:most_second 4:parts 5:first 6:second -/
def F_pair_in : Fd := ⟨4, 7, [
  .asg (.nm 4) (.mth (.v 0) 74 [(.v 1)]),
  .ite (.op (.cmp .NotEq) [(.op .len [(.v 4)]), (.k (dI 2))]) [.ret (.k (dN))] [],
  .asgs [5, 6] [(.call 105 [(.idx (.v 4) (.k (dI 0))), (.v 2)]), (.call 105 [(.idx (.v 4) (.k (dI 1))), (.v 3)])],
  .ret (.ife (.or (.op (.cmp .Is) [(.v 5), (.k (dN))]) (.op (.cmp .Is) [(.v 6), (.k (dN))])) (.k (dN)) (.tup [(.v 5), (.v 6)]))]⟩
/-- 107 write_talk: 0:talk 1:results 2:claims 3:.0 4:one 5:other 6:player 7:number -/
def F_write_talk : Fd := ⟨1, 8, [
  .asg (.nm 1) (.lc [3, 4, 5] (.tp [4, 5]) (.att (.v 0) 15) [] .bad),
  .asg (.nm 2) (.lc [3, 6, 7] (.tp [6, 7]) (.att (.v 0) 16) [] .bad),
  .ret (.mth (.k (dS " ")) 75 [(.lst [.bad, (.star (.v 1)), (.star (.v 2))])])]⟩
/-- 108 read_talk: 0:text 1:words 2:size 3:last 4:results 5:claims 6:spot 7:word 8:result 9:claim -/
def F_read_talk : Fd := ⟨1, 10, [
  .asg (.nm 1) (.mth (.v 0) 74 [(.k (dS " "))]),
  .asg (.nm 2) (.call 105 [(.idx (.v 1) (.k (dI 0))), (.g 0)]),
  .ite (.op (.cmp .Is) [(.v 2), (.k (dN))]) [.bad] [],
  .asgs [3, 4, 5] [(.op (.bin .Sub) [(.idx (.g 2) (.v 2)), (.k (dI 1))]), (.lst []), (.lst [])],
  .for_ (.tp [6, 7]) (.enm (.v 1)) [.asgs [8, 9] [(.call 106 [(.v 7), (.k (dS ">")), (.v 3), (.v 3)]), (.call 106 [(.v 7), (.k (dS "+")), (.v 3), (.v 2)])], .ite (.and (.op (.cmp .IsNot) [(.v 8), (.k (dN))]) (.and (.op (.cmp .NotEq) [(.idx (.v 8) (.k (dI 0))), (.idx (.v 8) (.k (dI 1)))]) (.and (.op (.cmp .Eq) [(.v 5), (.lst [])]) (.op (.cmp .Lt) [(.op .slo [(.v 4), (.op .neg [(.k (dI 1))])]), (.lst [(.v 8)])])))) [.ex (.mth (.v 4) 0 [(.v 8)])] [.ite (.and (.op (.cmp .IsNot) [(.v 9), (.k (dN))]) (.and (.op (.cmp .Gt) [(.idx (.v 9) (.k (dI 1))), (.k (dI 0))]) (.or (.op (.cmp .Eq) [(.v 5), (.lst [])]) (.op (.cmp .Lt) [(.idx (.idx (.v 5) (.op .neg [(.k (dI 1))])) (.k (dI 0))), (.idx (.v 9) (.k (dI 0)))])))) [.ex (.mth (.v 5) 0 [(.v 9)])] [.ite (.op (.cmp .Gt) [(.v 6), (.k (dI 0))]) [.bad] []]]],
  .ret (.make 13 [(.v 2), (.v 4), (.v 5)])]⟩
/-- 109 nested: 0:order 1:half -/
def F_nested : Fd := ⟨1, 2, [
  .ite (.op (.cmp .Eq) [(.op .len [(.v 0)]), (.k (dI 1))]) [.ret .bad] [],
  .asg (.nm 1) (.op (.bin .FloorDiv) [(.op .len [(.v 0)]), (.k (dI 2))]),
  .ret .bad]⟩
/-- 110 write_cup: 0:cup -/
def F_write_cup : Fd := ⟨1, 1, [
  .ite (.not (.op (.isi (.cls 14)) [(.v 0)])) [.bad] [],
  .ret (.call 109 [(.att (.v 0) 27)])]⟩
/-- 111 cup_in: 0:order -/
def F_cup_in : Fd := ⟨1, 1, [
  .bad]⟩
/-- 112 read_cup: 0:text 1:words 2:cup 3:.0 4:word -/
def F_read_cup : Fd := ⟨1, 5, [
  .asg (.nm 1) (.mth (.mth (.mth (.v 0) 76 [(.k (dS "(")), (.k (dS ""))]) 76 [(.k (dS ")")), (.k (dS ""))]) 74 [(.k (dS " "))]),
  .asg (.nm 2) (.call 111 [(.lc [3, 4] (.nm 4) (.v 1) [] (.call 105 [(.v 4), (.op (.bin .Sub) [(.g 7), (.k (dI 1))])]))]),
  .ite (.or (.op (.cmp .Is) [(.v 2), (.k (dN))]) (.op (.cmp .NotEq) [(.call 110 [(.v 2)]), (.v 0)])) [.bad] [],
  .ret (.v 2)]⟩
end PF
/-! PT -/
namespace VI
open PySem L2

/-! ## talks by claims -/
def cD (c : Int × Int) : D := dT [dI c.1, dI c.2]
def ValidC (s : Nat) (c : Int × Int) : Prop := 0 ≤ c.1 ∧ c.1 < 2 ^ s ∧ 0 ≤ c.2 ∧ c.2 ≤ s
def pwD : D := dT [dI 1, dI 2, dI 4, dI 8, dI 16, dI 32, dI 64]
structure TalkP (Φ : Prg) (Tb : Nat → Option Fd) : Prop where
  t2 : Tb 2 = some PF.F_is_integer
  t3 : Tb 3 = some PF.F_is_size
  t4 : Tb 4 = some PF.F_is_player
  t6 : Tb 6 = some PF.F_is_claim
  t7 : Tb 7 = some PF.F_are_results
  t8 : Tb 8 = some PF.F_are_claims
  t9 : Tb 9 = some PF.F_plain_results
  t10 : Tb 10 = some PF.F_plain_claims
  t11 : Tb 11 = some PF.F_Talk___init__
  t12 : Tb 12 = some PF.F_Talk_size
  t14 : Tb 14 = some PF.F_Talk_claims
  g0 : Φ.con 0 = some (dI 6)
  g1 : Φ.con 1 = some (dI 200)
  g2 : Φ.con 2 = some pwD
  ini : Φ.ini 12 = some 11
  pz : Φ.prp 12 14 = some 12
  pc : Φ.prp 12 16 = some 14
  p23 : Φ.prp 12 23 = none
  p24 : Φ.prp 12 24 = none
  p25 : Φ.prp 12 25 = none
  f23 : Φ.isf 12 23 = true
  f24 : Φ.isf 12 24 = true
  f25 : Φ.isf 12 25 = true
theorem pw_ix {s : Nat} (h : s ≤ 6) : ixOf pwD (dI s) = some s := ix_T rfl (by show s < 7; omega)
theorem pw_at {s : Nat} (h : s ≤ 6) : (Tr.kids pwD)[s]? = some (dI (2 ^ s)) := by
  match s, h with
  | 0, _ => rfl
  | 1, _ => rfl
  | 2, _ => rfl
  | 3, _ => rfl
  | 4, _ => rfl
  | 5, _ => rfl
  | 6, _ => rfl
  | n + 7, h => omega
section
variable {Φ : Prg} {Tb : Nat → Option Fd} {n s : Nat} {i j : Int} (T : TalkP Φ Tb)
include T in
theorem is_integer_ok : callN Φ Tb (n + 1) 2 [dI i] = some (dB true, [dI i]) := by
  refine call_eq T.t2 ⟨rfl, by decide⟩ ?_
  simp only [PF.F_is_integer, dfuel, start0, List.map_cons, List.map_nil, List.replicate_succ, List.replicate_zero, List.cons_append, List.nil_append, Nat.reduceSub]
  (refine' WSs.ret ?h1_1 ?h2_1 ?h3_1; (case h1_1 => (simp only [EVB, below, permL, tgOk, tgs, reduceCtorEq, List.isPrefixOf, start0, Nat.reduceAdd, Nat.reduceSub, Nat.reduceLT, Nat.reduceLeDiff, Nat.reduceEqDiff, Nat.reduceBEq, Nat.reduceBNe] <;> rfl)); (case h3_1 => first | decide | (intro j hj; simp at hj; try omega)))
  exact ⟨by simp only [EVB, below, permL, tgOk, tgs, reduceCtorEq, List.isPrefixOf, start0, Nat.reduceAdd, Nat.reduceSub, Nat.reduceLT, Nat.reduceLeDiff, Nat.reduceEqDiff, Nat.reduceBEq, Nat.reduceBNe], rfl⟩
include T in
theorem is_size_ok (h : s ≤ 6) : callN Φ Tb (n + 2) 3 [dI s] = some (dB true, [dI s]) := by
  refine call_eq T.t3 ⟨rfl, by decide⟩ ?_
  simp only [PF.F_is_size, dfuel, start0, List.map_cons, List.map_nil, List.replicate_succ, List.replicate_zero, List.cons_append, List.nil_append, Nat.reduceSub]
  have h1 : (0 : Int) ≤ (s : Int) := by omega
  have h2 : (s : Int) ≤ 6 := by omega
  (refine' WSs.ret ?h1_2 ?h2_2 ?h3_2; (case h1_2 => (simp only [EVB, below, permL, tgOk, tgs, reduceCtorEq, List.isPrefixOf, start0, Nat.reduceAdd, Nat.reduceSub, Nat.reduceLT, Nat.reduceLeDiff, Nat.reduceEqDiff, Nat.reduceBEq, Nat.reduceBNe, is_integer_ok T, T.g0, h1, h2] <;> rfl)); (case h3_2 => first | decide | (intro j hj; simp at hj; try omega)))
  exact ⟨by simp only [EVB, below, permL, tgOk, tgs, reduceCtorEq, List.isPrefixOf, start0, Nat.reduceAdd, Nat.reduceSub, Nat.reduceLT, Nat.reduceLeDiff, Nat.reduceEqDiff, Nat.reduceBEq, Nat.reduceBNe], rfl⟩
include T in
theorem is_player_ok (h : s ≤ 6) : callN Φ Tb (n + 2) 4 [dI s, dI i] = some (dB (decide (0 ≤ i ∧ i < 2 ^ s)), [dI s, dI i]) := by
  refine call_eq T.t4 ⟨rfl, by decide⟩ ?_
  simp only [PF.F_is_player, dfuel, start0, List.map_cons, List.map_nil, List.replicate_succ, List.replicate_zero, List.cons_append, List.nil_append, Nat.reduceSub]
  by_cases h1 : 0 ≤ i
  · (refine' WSs.ret ?h1_3 ?h2_3 ?h3_3; (case h1_3 => (simp only [EVB, below, permL, tgOk, tgs, reduceCtorEq, List.isPrefixOf, start0, Nat.reduceAdd, Nat.reduceSub, Nat.reduceLT, Nat.reduceLeDiff, Nat.reduceEqDiff, Nat.reduceBEq, Nat.reduceBNe, is_integer_ok T, T.g2, pw_ix h, pw_at h, h1] <;> rfl)); (case h3_3 => first | decide | (intro j hj; simp at hj; try omega)))
    exact ⟨by simp only [EVB, below, permL, tgOk, tgs, reduceCtorEq, List.isPrefixOf, start0, Nat.reduceAdd, Nat.reduceSub, Nat.reduceLT, Nat.reduceLeDiff, Nat.reduceEqDiff, Nat.reduceBEq, Nat.reduceBNe], by simp [h1]⟩
  · (refine' WSs.ret ?h1_4 ?h2_4 ?h3_4; (case h1_4 => (simp only [EVB, below, permL, tgOk, tgs, reduceCtorEq, List.isPrefixOf, start0, Nat.reduceAdd, Nat.reduceSub, Nat.reduceLT, Nat.reduceLeDiff, Nat.reduceEqDiff, Nat.reduceBEq, Nat.reduceBNe, is_integer_ok T, T.g2, pw_ix h, pw_at h, h1] <;> rfl)); (case h3_4 => first | decide | (intro j hj; simp at hj; try omega)))
    exact ⟨by simp only [EVB, below, permL, tgOk, tgs, reduceCtorEq, List.isPrefixOf, start0, Nat.reduceAdd, Nat.reduceSub, Nat.reduceLT, Nat.reduceLeDiff, Nat.reduceEqDiff, Nat.reduceBEq, Nat.reduceBNe], by simp [h1]⟩
include T in
theorem is_claim_ok (h : s ≤ 6) : callN Φ Tb (n + 3) 6 [dI s, cD (i, j)] = some (dB (decide (0 ≤ i ∧ i < 2 ^ s ∧ 0 ≤ j ∧ j ≤ s)), [dI s, cD (i, j)]) := by
  refine call_eq T.t6 ⟨rfl, by decide⟩ ?_
  simp only [PF.F_is_claim, dfuel, start0, List.map_cons, List.map_nil, List.replicate_succ, List.replicate_zero, List.cons_append, List.nil_append, Nat.reduceSub, cD]
  have x0 : ixOf (dT [dI i, dI j]) (dI 0) = some 0 := ix_T rfl (by simp)
  have x1 : ixOf (dT [dI i, dI j]) (dI 1) = some 1 := ix_T rfl (by simp)
  (refine' WSs.ite ?h1_5 ?h2_5 ?h3_5; (case h1_5 => (simp only [EVB, below, permL, tgOk, tgs, reduceCtorEq, List.isPrefixOf, start0, Nat.reduceAdd, Nat.reduceSub, Nat.reduceLT, Nat.reduceLeDiff, Nat.reduceEqDiff, Nat.reduceBEq, Nat.reduceBNe, (show ((1 + 1 : Nat) : Int) = 2 from rfl)] <;> rfl)))
  · intro h; exact absurd h (by decide)
  intro _
  refine WSs.nil ?_
  by_cases h1 : 0 ≤ i ∧ i < 2 ^ s
  · by_cases h2 : 0 ≤ j
    · (refine' WSs.ret ?h1_6 ?h2_6 ?h3_6; (case h1_6 => (simp only [EVB, below, permL, tgOk, tgs, reduceCtorEq, List.isPrefixOf, start0, Nat.reduceAdd, Nat.reduceSub, Nat.reduceLT, Nat.reduceLeDiff, Nat.reduceEqDiff, Nat.reduceBEq, Nat.reduceBNe, is_player_ok T h, is_integer_ok T, x0, x1, h1, h2] <;> rfl)); (case h3_6 => first | decide | (intro j hj; simp at hj; try omega)))
      exact ⟨by simp only [EVB, below, permL, tgOk, tgs, reduceCtorEq, List.isPrefixOf, start0, Nat.reduceAdd, Nat.reduceSub, Nat.reduceLT, Nat.reduceLeDiff, Nat.reduceEqDiff, Nat.reduceBEq, Nat.reduceBNe], by simp [h1, h2]⟩
    · (refine' WSs.ret ?h1_7 ?h2_7 ?h3_7; (case h1_7 => (simp only [EVB, below, permL, tgOk, tgs, reduceCtorEq, List.isPrefixOf, start0, Nat.reduceAdd, Nat.reduceSub, Nat.reduceLT, Nat.reduceLeDiff, Nat.reduceEqDiff, Nat.reduceBEq, Nat.reduceBNe, is_player_ok T h, is_integer_ok T, x0, x1, h1, h2] <;> rfl)); (case h3_7 => first | decide | (intro j hj; simp at hj; try omega)))
      exact ⟨by simp only [EVB, below, permL, tgOk, tgs, reduceCtorEq, List.isPrefixOf, start0, Nat.reduceAdd, Nat.reduceSub, Nat.reduceLT, Nat.reduceLeDiff, Nat.reduceEqDiff, Nat.reduceBEq, Nat.reduceBNe], by simp [h1, h2]⟩
  · (refine' WSs.ret ?h1_8 ?h2_8 ?h3_8; (case h1_8 => (simp only [EVB, below, permL, tgOk, tgs, reduceCtorEq, List.isPrefixOf, start0, Nat.reduceAdd, Nat.reduceSub, Nat.reduceLT, Nat.reduceLeDiff, Nat.reduceEqDiff, Nat.reduceBEq, Nat.reduceBNe, is_player_ok T h, is_integer_ok T, x0, x1, h1] <;> rfl)); (case h3_8 => first | decide | (intro j hj; simp at hj; try omega)))
    have e : decide (0 ≤ i ∧ i < 2 ^ s ∧ 0 ≤ j ∧ j ≤ s) = false := decide_eq_false fun h => h1 ⟨h.1, h.2.1⟩
    rw [e]
    exact ⟨by simp only [EVB, below, permL, tgOk, tgs, reduceCtorEq, List.isPrefixOf, start0, Nat.reduceAdd, Nat.reduceSub, Nat.reduceLT, Nat.reduceLeDiff, Nat.reduceEqDiff, Nat.reduceBEq, Nat.reduceBNe], rfl⟩
include T in
theorem are_results0_ok {o : Bool} : callN Φ Tb (n + 1) 7 [dI s, dL o []] = some (dB true, [dI s, dL o []]) := by
  refine call_eq T.t7 ⟨rfl, by decide⟩ ?_
  simp only [PF.F_are_results, dfuel, start0, List.map_cons, List.map_nil, List.replicate_succ, List.replicate_zero, List.cons_append, List.nil_append, Nat.reduceSub]
  cases o
  · have hb : boolsOf [] = some [] := rfl
    have hi : ∀ Γ, itvR Γ (.vl (dL false []) Γ true) = some ([], Γ, true, .free) := fun Γ => rfl
    have hl : ∀ z own elt (Γ : VI.Ctx), lcGo Φ (callN Φ Tb n) z own (.nm 3) [] elt [] [] Γ true = some ([], Γ, true) := fun _ _ _ _ => rfl
    (refine' WSs.ret ?h1_9 ?h2_9 ?h3_9; (case h1_9 => (simp only [EVB, below, permL, tgOk, tgs, reduceCtorEq, List.isPrefixOf, start0, Nat.reduceAdd, Nat.reduceSub, Nat.reduceLT, Nat.reduceLeDiff, Nat.reduceEqDiff, Nat.reduceBEq, Nat.reduceBNe, T.g1, opd_all hb, hi, hl] <;> rfl)); (case h3_9 => first | decide | (intro j hj; simp at hj; try omega)))
    exact ⟨by simp only [EVB, below, permL, tgOk, tgs, reduceCtorEq, List.isPrefixOf, start0, Nat.reduceAdd, Nat.reduceSub, Nat.reduceLT, Nat.reduceLeDiff, Nat.reduceEqDiff, Nat.reduceBEq, Nat.reduceBNe], rfl⟩
  · have hb : boolsOf [] = some [] := rfl
    have hi : ∀ Γ, itvR Γ (.pl 1 [] (dL true [])) = some ([], Γ, true, .still) := fun Γ => rfl
    have hl : ∀ z own elt (Γ : VI.Ctx), lcGo Φ (callN Φ Tb n) z own (.nm 3) [] elt [] [] Γ true = some ([], Γ, true) := fun _ _ _ _ => rfl
    (refine' WSs.ret ?h1_10 ?h2_10 ?h3_10; (case h1_10 => (simp only [EVB, below, permL, tgOk, tgs, reduceCtorEq, List.isPrefixOf, start0, Nat.reduceAdd, Nat.reduceSub, Nat.reduceLT, Nat.reduceLeDiff, Nat.reduceEqDiff, Nat.reduceBEq, Nat.reduceBNe, T.g1, opd_all hb, hi, hl] <;> rfl)); (case h3_10 => first | decide | (intro j hj; simp at hj; try omega)))
    exact ⟨by simp only [EVB, below, permL, tgOk, tgs, reduceCtorEq, List.isPrefixOf, start0, Nat.reduceAdd, Nat.reduceSub, Nat.reduceLT, Nat.reduceLeDiff, Nat.reduceEqDiff, Nat.reduceBEq, Nat.reduceBNe], rfl⟩
theorem itv_pm {α : Type} {f : α → D} {l : List α} {o : Bool} {Γ : VI.Ctx} {j : Nat} {π : List Nat} (h : ∀ x, isSh (f x) = true) : itvR Γ (.pl j π (dL o (l.map f))) = some (l.map (fun x => .one (.own (f x))), Γ, true, .still) := by
  rw [itv_pl (allSh_map h), List.map_map]; rfl
theorem itv_vm {α : Type} {f : α → D} {l : List α} {o q : Bool} {Γ Γ1 : VI.Ctx} (h : ∀ x, isSh (f x) = true) : itvR Γ (.vl (dL o (l.map f)) Γ1 q) = some (l.map (fun x => .one (.own (f x))), Γ1, q, .free) := by
  rw [itv_vl (allSh_map h), List.map_map]; rfl
include T in
theorem are_claims_ok {o : Bool} {cs : List (Int × Int)} (hs : s ≤ 6) (hc : ∀ c ∈ cs, ValidC s c) (hl : cs.length ≤ 200) : callN Φ Tb (n + 4) 8 [dI s, dL o (cs.map cD)] = some (dB true, [dI s, dL o (cs.map cD)]) := by
  refine call_eq T.t8 ⟨rfl, by decide⟩ ?_
  simp only [PF.F_are_claims, dfuel, start0, List.map_cons, List.map_nil, List.replicate_succ, List.replicate_zero, List.cons_append, List.nil_append, Nat.reduceSub]
  have hb : boolsOf (cs.map fun _ => dB true) = some (cs.map fun _ => true) := boolsOf_map
  have hall : (cs.map fun _ => true).all id = true := by simp
  have hlen : ((cs.map cD).length : Int) ≤ 200 := by rw [List.length_map]; omega
  have hG : ∀ (L : D) z, lcGo Φ (callN Φ Tb (n + 3)) (z + 10) [2, 3] (.nm 3) [] (.call 6 [.v 0, .v 3]) (cs.map fun c => .one (.own (cD c))) [] [some (.own (dI s)), some (.own L), none, none] true
      = some (cs.map fun _ => dB true, [some (.own (dI s)), some (.own L), none, none], true) := by
    intro L z
    refine lcGo_map (G := fun c => [some (.own (dI s)), some (.own L), none, some (.own (cD c))]) (fun c _ => ?_) (fun c hcm => ?_) (fun c _ => ?_) (le_lim (by omega))
    · rw [asg_nm (by simp) (by rfl)]
      simp only [EVB, below, permL, tgOk, tgs, reduceCtorEq, List.isPrefixOf, start0, Nat.reduceAdd, Nat.reduceSub, Nat.reduceLT, Nat.reduceLeDiff, Nat.reduceEqDiff, Nat.reduceBEq, Nat.reduceBNe]
    · have v : decide (0 ≤ c.1 ∧ c.1 < 2 ^ s ∧ 0 ≤ c.2 ∧ c.2 ≤ s) = true := decide_eq_true (hc c hcm)
      have e : callN Φ Tb (n + 3) 6 [dI s, cD c] = some (dB true, [dI s, cD c]) := by rw [← v]; exact is_claim_ok T hs
      have hsh : isSh (cD c) = true := rfl
      simp only [EVB, below, permL, tgOk, tgs, reduceCtorEq, List.isPrefixOf, start0, Nat.reduceAdd, Nat.reduceSub, Nat.reduceLT, Nat.reduceLeDiff, Nat.reduceEqDiff, Nat.reduceBEq, Nat.reduceBNe, e, hsh]
    · simp only [EVB, below, permL, tgOk, tgs, reduceCtorEq, List.isPrefixOf, start0, Nat.reduceAdd, Nat.reduceSub, Nat.reduceLT, Nat.reduceLeDiff, Nat.reduceEqDiff, Nat.reduceBEq, Nat.reduceBNe]
  have hi : ∀ Γ : VI.Ctx, itvR Γ (.pl 1 [] (dL true (cs.map cD))) = some (cs.map (fun c => .one (.own (cD c))), Γ, true, .still) := fun Γ => itv_pm fun _ => rfl
  have hi' : ∀ Γ : VI.Ctx, itvR Γ (.vl (dL false (cs.map cD)) Γ true) = some (cs.map (fun c => .one (.own (cD c))), Γ, true, .free) := fun Γ => itv_vm fun _ => rfl
  cases o
  · (refine' WSs.ret ?h1_11 ?h2_11 ?h3_11; (case h1_11 => (simp only [EVB, below, permL, tgOk, tgs, reduceCtorEq, List.isPrefixOf, start0, Nat.reduceAdd, Nat.reduceSub, Nat.reduceLT, Nat.reduceLeDiff, Nat.reduceEqDiff, Nat.reduceBEq, Nat.reduceBNe, T.g1, opd_all hb, hi', hG, hlen, hall] <;> rfl)); (case h3_11 => first | decide | (intro j hj; simp at hj; try omega)))
    exact ⟨by simp only [EVB, below, permL, tgOk, tgs, reduceCtorEq, List.isPrefixOf, start0, Nat.reduceAdd, Nat.reduceSub, Nat.reduceLT, Nat.reduceLeDiff, Nat.reduceEqDiff, Nat.reduceBEq, Nat.reduceBNe], rfl⟩
  · (refine' WSs.ret ?h1_12 ?h2_12 ?h3_12; (case h1_12 => (simp only [EVB, below, permL, tgOk, tgs, reduceCtorEq, List.isPrefixOf, start0, Nat.reduceAdd, Nat.reduceSub, Nat.reduceLT, Nat.reduceLeDiff, Nat.reduceEqDiff, Nat.reduceBEq, Nat.reduceBNe, T.g1, opd_all hb, hi, hG, hlen, hall] <;> rfl)); (case h3_12 => first | decide | (intro j hj; simp at hj; try omega)))
    exact ⟨by simp only [EVB, below, permL, tgOk, tgs, reduceCtorEq, List.isPrefixOf, start0, Nat.reduceAdd, Nat.reduceSub, Nat.reduceLT, Nat.reduceLeDiff, Nat.reduceEqDiff, Nat.reduceBEq, Nat.reduceBNe], rfl⟩
end
/-- the greatest claim of a player -/
def bestC (cs : List (Int × Int)) (p : Int) : Int := cs.foldl (fun m c => if c.1 = p then max m c.2 else m) 0
def keysC (cs : List (Int × Int)) : List Int := cs.foldl (fun K c => if c.1 ∈ K then K else K ++ [c.1]) []
theorem bestC_snoc {cs : List (Int × Int)} {c : Int × Int} {p : Int} : bestC (cs ++ [c]) p = if c.1 = p then max (bestC cs p) c.2 else bestC cs p := by
  unfold bestC; rw [List.foldl_append]; rfl
theorem keysC_snoc {cs : List (Int × Int)} {c : Int × Int} : keysC (cs ++ [c]) = if c.1 ∈ keysC cs then keysC cs else keysC cs ++ [c.1] := by
  unfold keysC; rw [List.foldl_append]; rfl
theorem snoc_ind {α : Type} {P : List α → Prop} (h0 : P []) (h : ∀ l x, P l → P (l ++ [x])) (l : List α) : P l := by
  have : ∀ m : List α, P m.reverse := by
    intro m
    induction m with
    | nil => exact h0
    | cons x m ih => rw [List.reverse_cons]; exact h _ _ ih
  have := this l.reverse
  rwa [List.reverse_reverse] at this
theorem keysC_nodup (cs : List (Int × Int)) : (keysC cs).Nodup := by
  refine snoc_ind (P := fun cs => (keysC cs).Nodup) List.nodup_nil (fun cs c ih => ?_) cs
  show (keysC (cs ++ [c])).Nodup
  rw [keysC_snoc]
  split
  · exact ih
  · rename_i h
    rw [List.nodup_append]
    exact ⟨ih, by simp, fun a ha b hb e => h (by simp at hb; rw [← hb, ← e]; exact ha)⟩
theorem mem_keysC {cs : List (Int × Int)} {p : Int} : p ∈ keysC cs ↔ ∃ c ∈ cs, c.1 = p := by
  refine snoc_ind (P := fun cs => p ∈ keysC cs ↔ ∃ c ∈ cs, c.1 = p) (by simp [keysC]) (fun cs c ih => ?_) cs
  show p ∈ keysC (cs ++ [c]) ↔ _
  rw [keysC_snoc]
  constructor
  · intro h
    split at h
    · obtain ⟨x, h1, h2⟩ := ih.mp h
      exact ⟨x, List.mem_append_left _ h1, h2⟩
    · rcases List.mem_append.mp h with h | h
      · obtain ⟨x, h1, h2⟩ := ih.mp h
        exact ⟨x, List.mem_append_left _ h1, h2⟩
      · exact ⟨c, by simp, (List.mem_singleton.mp h).symm⟩
  · rintro ⟨x, h1, h2⟩
    rcases List.mem_append.mp h1 with h | h
    · have := ih.mpr ⟨x, h, h2⟩
      split
      · exact this
      · exact List.mem_append_left _ this
    · rw [List.mem_singleton.mp h] at h2
      split
      · rw [← h2]; assumption
      · exact List.mem_append_right _ (by simp [h2])
theorem keysC_length (cs : List (Int × Int)) : (keysC cs).length ≤ cs.length := by
  refine snoc_ind (P := fun cs => (keysC cs).length ≤ cs.length) (Nat.le_refl 0) (fun cs c ih => ?_) cs
  show (keysC (cs ++ [c])).length ≤ _
  rw [keysC_snoc]
  split <;> simp <;> omega
theorem bestC_nonneg (cs : List (Int × Int)) (p : Int) : 0 ≤ bestC cs p := by
  refine snoc_ind (P := fun cs => 0 ≤ bestC cs p) (Int.le_refl 0) (fun cs c ih => ?_) cs
  show 0 ≤ bestC (cs ++ [c]) p
  rw [bestC_snoc]
  split <;> omega
theorem bestC_out {cs : List (Int × Int)} {p : Int} (h : p ∉ keysC cs) : bestC cs p = 0 := by
  have : ∀ cs : List (Int × Int), (∀ c ∈ cs, c.1 ≠ p) → bestC cs p = 0 := by
    intro cs
    refine snoc_ind (P := fun cs => (∀ c ∈ cs, c.1 ≠ p) → bestC cs p = 0) (fun _ => rfl) (fun cs c ih hc => ?_) cs
    show bestC (cs ++ [c]) p = 0
    rw [bestC_snoc, if_neg (hc c (by simp))]
    exact ih fun x hx => hc x (List.mem_append_left _ hx)
  exact this cs fun c hc e => h (mem_keysC.mpr ⟨c, hc, e⟩)
/-- claims as a talk keeps them -/
def plC (N : Nat) (f : Int → Int) : List (Int × Int) := ((upto N).filter fun p => decide (0 < f p)).map fun p => (p, f p)
theorem plC_of {cs : List (Int × Int)} {s : Nat} (hc : ∀ c ∈ cs, ValidC s c) : ((srt (keysC cs)).filter fun p => decide (0 < bestC cs p)) = (upto (2 ^ s)).filter fun p => decide (0 < bestC cs p) := by
  refine asc_ext ((srt_asc (keysC_nodup cs)).filter _) ((upto_asc _).filter _) fun x => ?_
  rw [List.mem_filter, List.mem_filter, mem_srt, mem_upto, decide_eq_true_eq]
  constructor
  · rintro ⟨h1, h2⟩
    obtain ⟨c, h3, rfl⟩ := mem_keysC.mp h1
    have := hc c h3
    refine ⟨⟨this.1, ?_⟩, h2⟩
    have := this.2.1
    simpa using this
  · rintro ⟨h1, h2⟩
    refine ⟨?_, h2⟩
    refine Classical.byContradiction fun h => ?_
    rw [bestC_out h] at h2
    exact absurd h2 (by decide)
section
variable {Φ : Prg} {Tb : Nat → Option Fd} {n s : Nat} {i j : Int} (T : TalkP Φ Tb)
include T in
theorem plain_claims_ok {o : Bool} {cs : List (Int × Int)} (hc : ∀ c ∈ cs, ValidC s c) (hl : cs.length ≤ 200) : callN Φ Tb (n + 1) 10 [dL o (cs.map cD)] = some (dL true ((plC (2 ^ s) (bestC cs)).map cD), [dL o (cs.map cD)]) := by
  refine call_eq T.t10 ⟨rfl, by decide⟩ ?_
  simp only [PF.F_plain_claims, dfuel, start0, List.map_cons, List.map_nil, List.replicate_succ, List.replicate_zero, List.cons_append, List.nil_append, Nat.reduceSub]
  (refine' WSs.step ?h1_13 ?h2_13 ?h3_13; (case h1_13 => (simp only [EVB, below, permL, tgOk, tgs, reduceCtorEq, List.isPrefixOf, start0, Nat.reduceAdd, Nat.reduceSub, Nat.reduceLT, Nat.reduceLeDiff, Nat.reduceEqDiff, Nat.reduceBEq, Nat.reduceBNe] <;> rfl)); (case h3_13 => first | decide | (intro j hj; simp at hj; try omega)))
  refine WSs.cons (WS.forL (f := cD) (l := cs) (o := o) (z := 55) (fun j => 1 ≤ j) (fun pre Γ => ∃ e2 e3 : Option D, Γ = [some (.own (dL o (cs.map cD))), some (.own (dictD (keysC pre) fun p => dI (bestC pre p))), oD e2, oD e3, none]) (fun _ => rfl) ?_ (fun j h => h) (by decide) (by decide) ⟨none, none, rfl⟩ ?_ ?_)
  · rintro pre Γ ⟨e2, e3, rfl⟩; rfl
  · rintro pre c post e Γ ⟨e2, e3, rfl⟩
    refine ⟨_, asg_tp (by simp) (by simp) (by decide), ?_⟩
    have hg : rdM 4 (dictD (keysC pre) fun p => dI (bestC pre p)) [dI c.1, dI 0] = some (dI (bestC pre c.1)) := by
      rw [dict_get rfl rfl]
      split
      · rfl
      · rename_i h; rw [bestC_out h]
    have hpre : pre.length ≤ 200 := by have : cs.length = pre.length + (post.length + 1) := by rw [e]; simp
                                       omega
    have hs : ∀ v, setIx (dictD (keysC pre) fun p => dI (bestC pre p)) (dI c.1) v = some (dictD (if c.1 ∈ keysC pre then keysC pre else keysC pre ++ [c.1]) fun q => if q = c.1 then v else dI (bestC pre q)) := fun v =>
      dict_set (lt_lim (by have := keysC_length pre; omega)) (keysC_nodup pre)
    have hsh : ∀ K f, isSh (dictD K f) = false := fun _ _ => rfl
    have hcl : ∀ K f, clsOf (dictD K f) = none := fun _ _ => rfl
    have hm : ∀ j π K f rs (Γ : VI.Ctx) q, mthP Φ (callN Φ Tb n) 4 j π (dictD K f) (rs, Γ, q) = if !(q || decide (π = [])) then none else (getE Γ j π).bind fun d => (resL Γ rs).bind fun ds => (rdM 4 d ds).map fun x => .vl x Γ q := fun _ _ _ _ _ _ _ => mthP_d
    (refine' WSs.step ?h1_14 ?h2_14 ?h3_14; (case h1_14 => (simp only [EVB, below, permL, tgOk, tgs, reduceCtorEq, List.isPrefixOf, start0, Nat.reduceAdd, Nat.reduceSub, Nat.reduceLT, Nat.reduceLeDiff, Nat.reduceEqDiff, Nat.reduceBEq, Nat.reduceBNe, hg, hs, hsh, hm] <;> rfl)); (case h3_14 => first | decide | (intro j hj; simp at hj; try omega)))
    refine WSs.nil ⟨some (dI c.1), some (dI c.2), ?_⟩
    congr 3
    congr 1
    rw [keysC_snoc]
    congr 1
    funext q
    rw [bestC_snoc]
    by_cases hq : q = c.1
    · subst hq
      rw [if_pos rfl, if_pos rfl]
      refine congrArg dI ?_
      show (if bestC pre c.1 > c.2 then bestC pre c.1 else c.2) = max (bestC pre c.1) c.2
      split <;> omega
    · rw [if_neg hq, if_neg (fun h => hq h.symm)]
  · rintro Γ ⟨e2, e3, rfl⟩
    have hK : (keysC cs).length ≤ lim := by exact le_lim (by have := keysC_length cs; omega)
    have hso : opX Φ .sorted [dictD (keysC cs) fun p => dI (bestC cs p)] = some (dL true ((srt (keysC cs)).map dI)) := dict_sorted hK
    have hi : ∀ Γ Γ1 : VI.Ctx, itvR Γ (.vl (dL true ((srt (keysC cs)).map dI)) Γ1 true) = some ((srt (keysC cs)).map (fun p => .one (.own (dI p))), Γ1, true, .free) := fun Γ Γ1 => itv_vm fun _ => rfl
    have hsh : ∀ K f, isSh (dictD K f) = false := fun _ _ => rfl
    have hG : ∀ (L : D) z, lcGo Φ (callN Φ Tb n) (z + 10) [4, 2] (.nm 2) [.op (.cmp .Gt) [.idx (.v 1) (.v 2), .k (dI 0)]] (.tup [.v 2, .idx (.v 1) (.v 2)]) ((srt (keysC cs)).map fun p => .one (.own (dI p))) [] [some (.own L), some (.own (dictD (keysC cs) fun p => dI (bestC cs p))), none, oD e3, none] true
        = some (((srt (keysC cs)).filter fun p => decide (0 < bestC cs p)).map fun p => cD (p, bestC cs p), [some (.own L), some (.own (dictD (keysC cs) fun p => dI (bestC cs p))), none, oD e3, none], true) := by
      intro L z
      refine lcGo_pure (G := fun p => [some (.own L), some (.own (dictD (keysC cs) fun p => dI (bestC cs p))), some (.own (dI p)), oD e3, none]) (fun p _ => ?_) (fun p hp => ?_) (fun p hp _ => ?_) (fun p _ => ?_) (by rw [srt_length]; exact hK)
      · rw [asg_nm (by simp) (by rfl)]
        simp only [EVB, below, permL, tgOk, tgs, reduceCtorEq, List.isPrefixOf, start0, Nat.reduceAdd, Nat.reduceSub, Nat.reduceLT, Nat.reduceLeDiff, Nat.reduceEqDiff, Nat.reduceBEq, Nat.reduceBNe]
      · obtain ⟨m, h1, h2⟩ := dict_ix (f := fun p => dI (bestC cs p)) (mem_srt.mp hp)
        simp only [EVB, below, permL, tgOk, tgs, reduceCtorEq, List.isPrefixOf, start0, Nat.reduceAdd, Nat.reduceSub, Nat.reduceLT, Nat.reduceLeDiff, Nat.reduceEqDiff, Nat.reduceBEq, Nat.reduceBNe, hsh, h1, h2]
      · obtain ⟨m, h1, h2⟩ := dict_ix (f := fun p => dI (bestC cs p)) (mem_srt.mp hp)
        refine ⟨_, by simp only [EVB, below, permL, tgOk, tgs, reduceCtorEq, List.isPrefixOf, start0, Nat.reduceAdd, Nat.reduceSub, Nat.reduceLT, Nat.reduceLeDiff, Nat.reduceEqDiff, Nat.reduceBEq, Nat.reduceBNe, hsh, h1, h2, allSh_cons, allSh_nil]; rfl, rfl⟩
      · simp only [EVB, below, permL, tgOk, tgs, reduceCtorEq, List.isPrefixOf, start0, Nat.reduceAdd, Nat.reduceSub, Nat.reduceLT, Nat.reduceLeDiff, Nat.reduceEqDiff, Nat.reduceBEq, Nat.reduceBNe]
    have hres : ((srt (keysC cs)).filter fun p => decide (0 < bestC cs p)).map (fun p => cD (p, bestC cs p)) = (plC (2 ^ s) (bestC cs)).map cD := by
      rw [plC_of hc, plC, List.map_map]; rfl
    (refine' WSs.ret ?h1_15 ?h2_15 ?h3_15; (case h1_15 => (simp only [EVB, below, permL, tgOk, tgs, reduceCtorEq, List.isPrefixOf, start0, Nat.reduceAdd, Nat.reduceSub, Nat.reduceLT, Nat.reduceLeDiff, Nat.reduceEqDiff, Nat.reduceBEq, Nat.reduceBNe, hso, hi, hG, hsh, hres] <;> rfl)); (case h3_15 => first | decide | (intro j hj; simp at hj; try omega)))
    refine ⟨?_, rfl⟩
    cases o <;> simp only [EVB, below, permL, tgOk, tgs, reduceCtorEq, List.isPrefixOf, start0, Nat.reduceAdd, Nat.reduceSub, Nat.reduceLT, Nat.reduceLeDiff, Nat.reduceEqDiff, Nat.reduceBEq, Nat.reduceBNe]
/-- a talk by claims alone -/
def talkD (o : Bool) (s : Nat) (R cs : List D) : D := dO o 12 [23, 24, 25] [dI s, dL o R, dL o cs]
include T in
theorem plain_results0_ok {o : Bool} : callN Φ Tb (n + 1) 9 [dL o []] = some (dL true [], [dL o []]) := by
  refine call_eq T.t9 ⟨rfl, by decide⟩ ?_
  simp only [PF.F_plain_results, dfuel, start0, List.map_cons, List.map_nil, List.replicate_succ, List.replicate_zero, List.cons_append, List.nil_append, Nat.reduceSub]
  cases o
  · (refine' WSs.ret ?h1_16 ?h2_16 ?h3_16; (case h1_16 => (simp only [EVB, below, permL, tgOk, tgs, reduceCtorEq, List.isPrefixOf, start0, Nat.reduceAdd, Nat.reduceSub, Nat.reduceLT, Nat.reduceLeDiff, Nat.reduceEqDiff, Nat.reduceBEq, Nat.reduceBNe, opd_set0] <;> rfl)); (case h3_16 => first | decide | (intro j hj; simp at hj; try omega)))
    exact ⟨by simp only [EVB, below, permL, tgOk, tgs, reduceCtorEq, List.isPrefixOf, start0, Nat.reduceAdd, Nat.reduceSub, Nat.reduceLT, Nat.reduceLeDiff, Nat.reduceEqDiff, Nat.reduceBEq, Nat.reduceBNe], rfl⟩
  · (refine' WSs.ret ?h1_17 ?h2_17 ?h3_17; (case h1_17 => (simp only [EVB, below, permL, tgOk, tgs, reduceCtorEq, List.isPrefixOf, start0, Nat.reduceAdd, Nat.reduceSub, Nat.reduceLT, Nat.reduceLeDiff, Nat.reduceEqDiff, Nat.reduceBEq, Nat.reduceBNe, opd_set0] <;> rfl)); (case h3_17 => first | decide | (intro j hj; simp at hj; try omega)))
    exact ⟨by simp only [EVB, below, permL, tgOk, tgs, reduceCtorEq, List.isPrefixOf, start0, Nat.reduceAdd, Nat.reduceSub, Nat.reduceLT, Nat.reduceLeDiff, Nat.reduceEqDiff, Nat.reduceBEq, Nat.reduceBNe], rfl⟩
theorem sfd {Φ : Prg} {c f : Nat} {ns : List Nat} {ts : List D} {d x : D} (h : Φ.isf c f = true) (e : setFd (dO true c ns ts) f d = some x := by rfl) : setFdΦ Φ (dO true c ns ts) f d = some x := by
  show (if Φ.isf c f = true then setFd (dO true c ns ts) f d else none) = _
  rw [h]; exact e
include T in
theorem Talk_init_ok {o : Bool} {cs : List (Int × Int)} (hs : s ≤ 6) (hc : ∀ c ∈ cs, ValidC s c) (hl : cs.length ≤ 200) :
    callN Φ Tb (n + 5) 11 [dO true 12 [] [], dI s, dL true [], dL o (cs.map cD)] = some (dN, [talkD true s [] ((plC (2 ^ s) (bestC cs)).map cD), dI s, dL true [], dL o (cs.map cD)]) := by
  refine call_eq T.t11 ⟨rfl, by decide⟩ ?_
  simp only [PF.F_Talk___init__, dfuel, start0, List.map_cons, List.map_nil, List.replicate_succ, List.replicate_zero, List.cons_append, List.nil_append, Nat.reduceSub]
  (refine' WSs.ite ?h1_18 ?h2_18 ?h3_18; (case h1_18 => (simp only [EVB, below, permL, tgOk, tgs, reduceCtorEq, List.isPrefixOf, start0, Nat.reduceAdd, Nat.reduceSub, Nat.reduceLT, Nat.reduceLeDiff, Nat.reduceEqDiff, Nat.reduceBEq, Nat.reduceBNe, is_size_ok T hs] <;> rfl)))
  · intro h; exact absurd h (by decide)
  intro _
  refine WSs.nil ?_
  (refine' WSs.ite ?h1_19 ?h2_19 ?h3_19; (case h1_19 => (simp only [EVB, below, permL, tgOk, tgs, reduceCtorEq, List.isPrefixOf, start0, Nat.reduceAdd, Nat.reduceSub, Nat.reduceLT, Nat.reduceLeDiff, Nat.reduceEqDiff, Nat.reduceBEq, Nat.reduceBNe, are_results0_ok T] <;> rfl)))
  · intro h; exact absurd h (by decide)
  intro _
  refine WSs.nil ?_
  have hsh : isSh (dL o (cs.map cD)) = !o := rfl
  have hcl := are_claims_ok (n := n) (o := o) T hs hc hl
  have s1 : ∀ d, setFdΦ Φ (dO true 12 [] []) 23 d = some (dO true 12 [23] [d]) := fun d => sfd T.f23
  have s2 : ∀ a d, setFdΦ Φ (dO true 12 [23] [a]) 24 d = some (dO true 12 [23, 24] [a, d]) := fun a d => sfd T.f24
  have s3 : ∀ a b d, setFdΦ Φ (dO true 12 [23, 24] [a, b]) 25 d = some (dO true 12 [23, 24, 25] [a, b, d]) := fun a b d => sfd T.f25
  have pcl := plain_claims_ok (n := n + 3) (o := o) T hc hl
  cases o
  · (refine' WSs.ite ?h1_20 ?h2_20 ?h3_20; (case h1_20 => (simp only [EVB, below, permL, tgOk, tgs, reduceCtorEq, List.isPrefixOf, start0, Nat.reduceAdd, Nat.reduceSub, Nat.reduceLT, Nat.reduceLeDiff, Nat.reduceEqDiff, Nat.reduceBEq, Nat.reduceBNe, hcl] <;> rfl)))
    · intro h; exact absurd h (by decide)
    intro _
    refine WSs.nil ?_
    (refine' WSs.step ?h1_21 ?h2_21 ?h3_21; (case h1_21 => (simp only [EVB, below, permL, tgOk, tgs, reduceCtorEq, List.isPrefixOf, start0, Nat.reduceAdd, Nat.reduceSub, Nat.reduceLT, Nat.reduceLeDiff, Nat.reduceEqDiff, Nat.reduceBEq, Nat.reduceBNe, s1] <;> rfl)); (case h3_21 => first | decide | (intro j hj; simp at hj; try omega)))
    (refine' WSs.step ?h1_22 ?h2_22 ?h3_22; (case h1_22 => (simp only [EVB, below, permL, tgOk, tgs, reduceCtorEq, List.isPrefixOf, start0, Nat.reduceAdd, Nat.reduceSub, Nat.reduceLT, Nat.reduceLeDiff, Nat.reduceEqDiff, Nat.reduceBEq, Nat.reduceBNe, s2, plain_results0_ok T] <;> rfl)); (case h3_22 => first | decide | (intro j hj; simp at hj; try omega)))
    (refine' WSs.step ?h1_23 ?h2_23 ?h3_23; (case h1_23 => (simp only [EVB, below, permL, tgOk, tgs, reduceCtorEq, List.isPrefixOf, start0, Nat.reduceAdd, Nat.reduceSub, Nat.reduceLT, Nat.reduceLeDiff, Nat.reduceEqDiff, Nat.reduceBEq, Nat.reduceBNe, s3, pcl] <;> rfl)); (case h3_23 => first | decide | (intro j hj; simp at hj; try omega)))
    refine WSs.nil ⟨?_, trivial⟩
    simp only [EVB, below, permL, tgOk, tgs, reduceCtorEq, List.isPrefixOf, start0, Nat.reduceAdd, Nat.reduceSub, Nat.reduceLT, Nat.reduceLeDiff, Nat.reduceEqDiff, Nat.reduceBEq, Nat.reduceBNe, talkD]
  · (refine' WSs.ite ?h1_24 ?h2_24 ?h3_24; (case h1_24 => (simp only [EVB, below, permL, tgOk, tgs, reduceCtorEq, List.isPrefixOf, start0, Nat.reduceAdd, Nat.reduceSub, Nat.reduceLT, Nat.reduceLeDiff, Nat.reduceEqDiff, Nat.reduceBEq, Nat.reduceBNe, hcl] <;> rfl)))
    · intro h; exact absurd h (by decide)
    intro _
    refine WSs.nil ?_
    (refine' WSs.step ?h1_25 ?h2_25 ?h3_25; (case h1_25 => (simp only [EVB, below, permL, tgOk, tgs, reduceCtorEq, List.isPrefixOf, start0, Nat.reduceAdd, Nat.reduceSub, Nat.reduceLT, Nat.reduceLeDiff, Nat.reduceEqDiff, Nat.reduceBEq, Nat.reduceBNe, s1] <;> rfl)); (case h3_25 => first | decide | (intro j hj; simp at hj; try omega)))
    (refine' WSs.step ?h1_26 ?h2_26 ?h3_26; (case h1_26 => (simp only [EVB, below, permL, tgOk, tgs, reduceCtorEq, List.isPrefixOf, start0, Nat.reduceAdd, Nat.reduceSub, Nat.reduceLT, Nat.reduceLeDiff, Nat.reduceEqDiff, Nat.reduceBEq, Nat.reduceBNe, s2, plain_results0_ok T] <;> rfl)); (case h3_26 => first | decide | (intro j hj; simp at hj; try omega)))
    (refine' WSs.step ?h1_27 ?h2_27 ?h3_27; (case h1_27 => (simp only [EVB, below, permL, tgOk, tgs, reduceCtorEq, List.isPrefixOf, start0, Nat.reduceAdd, Nat.reduceSub, Nat.reduceLT, Nat.reduceLeDiff, Nat.reduceEqDiff, Nat.reduceBEq, Nat.reduceBNe, s3, pcl] <;> rfl)); (case h3_27 => first | decide | (intro j hj; simp at hj; try omega)))
    refine WSs.nil ⟨?_, trivial⟩
    simp only [EVB, below, permL, tgOk, tgs, reduceCtorEq, List.isPrefixOf, start0, Nat.reduceAdd, Nat.reduceSub, Nat.reduceLT, Nat.reduceLeDiff, Nat.reduceEqDiff, Nat.reduceBEq, Nat.reduceBNe, talkD]
theorem fldIx_0 {o : Bool} {c f : Nat} {ns : List Nat} {ts : List D} {k : Nat} (e : fldIx (dO o c ns ts) f = some k := by rfl) : fldIx (dO o c ns ts) f = some k := e
include T in
theorem Talk_size_ok {o : Bool} {R cs : List D} : callN Φ Tb (n + 1) 12 [talkD o s R cs] = some (dI s, [talkD o s R cs]) := by
  refine call_eq T.t12 ⟨rfl, by decide⟩ ?_
  simp only [PF.F_Talk_size, dfuel, start0, List.map_cons, List.map_nil, List.replicate_succ, List.replicate_zero, List.cons_append, List.nil_append, Nat.reduceSub, talkD]
  have f0 : ∀ o a b c, fldIx (dO o 12 [23, 24, 25] [a, b, c]) 23 = some 0 := fun _ _ _ _ => rfl
  cases o
  · (refine' WSs.ret ?h1_28 ?h2_28 ?h3_28; (case h1_28 => (simp only [EVB, below, permL, tgOk, tgs, reduceCtorEq, List.isPrefixOf, start0, Nat.reduceAdd, Nat.reduceSub, Nat.reduceLT, Nat.reduceLeDiff, Nat.reduceEqDiff, Nat.reduceBEq, Nat.reduceBNe, T.p23, T.f23, f0] <;> rfl)); (case h3_28 => first | decide | (intro j hj; simp at hj; try omega)))
    exact ⟨by simp only [EVB, below, permL, tgOk, tgs, reduceCtorEq, List.isPrefixOf, start0, Nat.reduceAdd, Nat.reduceSub, Nat.reduceLT, Nat.reduceLeDiff, Nat.reduceEqDiff, Nat.reduceBEq, Nat.reduceBNe], rfl⟩
  · (refine' WSs.ret ?h1_29 ?h2_29 ?h3_29; (case h1_29 => (simp only [EVB, below, permL, tgOk, tgs, reduceCtorEq, List.isPrefixOf, start0, Nat.reduceAdd, Nat.reduceSub, Nat.reduceLT, Nat.reduceLeDiff, Nat.reduceEqDiff, Nat.reduceBEq, Nat.reduceBNe, T.p23, T.f23, f0] <;> rfl)); (case h3_29 => first | decide | (intro j hj; simp at hj; try omega)))
    exact ⟨by simp only [EVB, below, permL, tgOk, tgs, reduceCtorEq, List.isPrefixOf, start0, Nat.reduceAdd, Nat.reduceSub, Nat.reduceLT, Nat.reduceLeDiff, Nat.reduceEqDiff, Nat.reduceBEq, Nat.reduceBNe], rfl⟩
include T in
theorem Talk_claims_ok {o : Bool} {R : List D} {cs : List (Int × Int)} : callN Φ Tb (n + 1) 14 [talkD o s R (cs.map cD)] = some (dL true (cs.map cD), [talkD o s R (cs.map cD)]) := by
  refine call_eq T.t14 ⟨rfl, by decide⟩ ?_
  simp only [PF.F_Talk_claims, dfuel, start0, List.map_cons, List.map_nil, List.replicate_succ, List.replicate_zero, List.cons_append, List.nil_append, Nat.reduceSub, talkD]
  have f0 : ∀ o a b c, fldIx (dO o 12 [23, 24, 25] [a, b, c]) 25 = some 2 := fun _ _ _ _ => rfl
  have hl : ∀ o, opX Φ .list [dL o (cs.map cD)] = some (dL true (cs.map cD)) := fun o => opd_listL (allSh_map fun _ => rfl)
  cases o
  · (refine' WSs.ret ?h1_30 ?h2_30 ?h3_30; (case h1_30 => (simp only [EVB, below, permL, tgOk, tgs, reduceCtorEq, List.isPrefixOf, start0, Nat.reduceAdd, Nat.reduceSub, Nat.reduceLT, Nat.reduceLeDiff, Nat.reduceEqDiff, Nat.reduceBEq, Nat.reduceBNe, T.p25, T.f25, f0, hl] <;> rfl)); (case h3_30 => first | decide | (intro j hj; simp at hj; try omega)))
    exact ⟨by simp only [EVB, below, permL, tgOk, tgs, reduceCtorEq, List.isPrefixOf, start0, Nat.reduceAdd, Nat.reduceSub, Nat.reduceLT, Nat.reduceLeDiff, Nat.reduceEqDiff, Nat.reduceBEq, Nat.reduceBNe], rfl⟩
  · (refine' WSs.ret ?h1_31 ?h2_31 ?h3_31; (case h1_31 => (simp only [EVB, below, permL, tgOk, tgs, reduceCtorEq, List.isPrefixOf, start0, Nat.reduceAdd, Nat.reduceSub, Nat.reduceLT, Nat.reduceLeDiff, Nat.reduceEqDiff, Nat.reduceBEq, Nat.reduceBNe, T.p25, T.f25, f0, hl] <;> rfl)); (case h3_31 => first | decide | (intro j hj; simp at hj; try omega)))
    exact ⟨by simp only [EVB, below, permL, tgOk, tgs, reduceCtorEq, List.isPrefixOf, start0, Nat.reduceAdd, Nat.reduceSub, Nat.reduceLT, Nat.reduceLeDiff, Nat.reduceEqDiff, Nat.reduceBEq, Nat.reduceBNe], rfl⟩
end
end VI
/-! XR -/
namespace VI
open PySem L2
/-! ## repr of lists of ints -/
theorem textFrom_le {m : Nat} : ∀ {ts : List Str} {k : Nat} {acc : Str}, (∀ t ∈ ts, t.length ≤ m) → (textFrom k acc ts).length ≤ acc.length + ts.length * (m + 2)
  | [], k, acc, _ => by show acc.length ≤ _; omega
  | t :: r, k, acc, h => by
    have h1 := h t List.mem_cons_self
    have ih := textFrom_le (m := m) (ts := r) (k := k + 1) (acc := acc ++ (if k > 0 then ", " else "" : String) ++ t) fun x hx => h x (List.mem_cons_of_mem _ hx)
    have h2 : (acc ++ ((if k > 0 then ", " else "" : String) : Str) ++ t).length ≤ acc.length + (m + 2) := by
      rw [Str.length_append, Str.length_append]
      have : ((if k > 0 then ", " else "" : String) : Str).length ≤ 2 := by split <;> decide
      omega
    rw [List.length_cons, Nat.succ_mul]
    show (textFrom (k + 1) (acc ++ ((if k > 0 then ", " else "" : String) : Str) ++ t) r).length ≤ _
    omega
theorem shownAll_ints : ∀ {l : List Int}, PyData.shownAll (l.map .int) = l.map fun i => (PyData.int i).shown
  | [] => rfl
  | x :: l => by rw [List.map_cons, PyData.shownAll, shownAll_ints]; rfl
theorem showable_int {i : Int} (h : -(2 ^ 1000) < i ∧ i < 2 ^ 1000) : i.natAbs.log2 < 1920 := by
  by_cases h0 : i.natAbs = 0
  · rw [h0]; decide
  · rw [Nat.log2_lt h0]
    have h1 : i.natAbs < 2 ^ 1000 := by
      have : ((2 ^ 1000 : Nat) : Int) = (2 : Int) ^ 1000 := by simp
      omega
    exact Nat.lt_of_lt_of_le h1 (Nat.pow_le_pow_right (by decide) (by decide))
theorem showableAll_ints : ∀ {l : List Int}, (∀ i ∈ l, -(2 ^ 1000) < i ∧ i < 2 ^ 1000) → PyData.showableAll (l.map .int) = true
  | [], _ => rfl
  | x :: l, h => by
    rw [List.map_cons, PyData.showableAll, showableAll_ints fun i hi => h i (List.mem_cons_of_mem _ hi), PyData.showable, decide_eq_true (showable_int (h x List.mem_cons_self))]
    rfl
theorem depthAll_ints : ∀ {l : List Int}, PyData.depthAll (l.map .int) ≤ 1
  | [] => by simp [PyData.depthAll]
  | x :: l => by
    have := depthAll_ints (l := l)
    simp only [List.map_cons, PyData.depthAll, PyData.depth]
    omega
/-- the text of a list of ints -/
def reprI (l : List Int) : Str := (PyData.list (l.map .int)).shown
theorem opd_reprI {Φ : Prg} {o : Bool} {l : List Int} (h : ∀ i ∈ l, -(2 ^ 1000) < i ∧ i < 2 ^ 1000) (hl : l.length ≤ 1000) : opX Φ .repr [dL o (l.map dI)] = some (dS (reprI l)) := by
  rw [opX_eq]
  have e : toP (dL o (l.map dI)) = some (.list (l.map .int)) := by
    show (toPL (l.map dI)).map PyData.list = _
    rw [toPL_ints]; rfl
  show (toP (dL o (l.map dI))).bind (fun p => if (p.showable && decide (p.shown.length ≤ lim) && decide (p.depth ≤ 60)) = true then some (dS p.shown) else none) = _
  rw [e]
  show (if ((PyData.list (l.map .int)).showable && decide ((PyData.list (l.map .int)).shown.length ≤ lim) && decide ((PyData.list (l.map .int)).depth ≤ 60)) = true then some (dS (PyData.list (l.map .int)).shown) else none) = _
  have h1 : (PyData.list (l.map .int)).showable = true := by rw [PyData.showable]; exact showableAll_ints h
  have h2 : (PyData.list (l.map .int)).shown.length ≤ 16777216 := by
    rw [PyData.shown, shownAll_ints, listText, Str.length_append]
    have := textFrom_le (m := 1921) (ts := l.map fun i => (PyData.int i).shown) (k := 0) (acc := "[") (by
      intro t ht
      obtain ⟨i, hi, rfl⟩ := List.mem_map.mp ht
      rw [PyData.shown]
      exact PyProof.Rows.int_text_len_1921 (showable_int (h i hi)))
    rw [List.length_map] at this
    have e1 : ("[" : Str).length = 1 := by decide
    have e2 : ("]" : Str).length = 1 := by decide
    have e3 : l.length * (1921 + 2) ≤ 1000 * 1923 := Nat.mul_le_mul hl (by decide)
    omega
  have h3 : (PyData.list (l.map .int)).depth ≤ 60 := by
    have := depthAll_ints (l := l)
    rw [PyData.depth]; omega
  rw [h1, decide_eq_true (show _ ≤ lim by rw [lim_val]; exact h2), decide_eq_true h3]
  rfl
theorem ok_of (s : String) : PyData.strOk (Str.ofString s) = true := by
  unfold PyData.strOk
  rw [← Array.all_toList, PyProof.Rows.signs_ofString, List.all_eq_true]
  intro n hn
  obtain ⟨c, _, rfl⟩ := List.mem_map.mp hn
  have := c.valid
  refine decide_eq_true ?_
  rcases this with h | h
  · show c.val.toNat < _; omega
  · exact h.2
theorem ok_app {x y : Str} (hx : PyData.strOk x = true) (hy : PyData.strOk y = true) : PyData.strOk (x ++ y) = true := by
  unfold PyData.strOk at *
  rw [Str.cps_append, Array.all_append, hx, hy]; rfl
theorem textFrom_ok : ∀ {ts : List Str} {k : Nat} {acc : Str}, (∀ t ∈ ts, PyData.strOk t = true) → PyData.strOk acc = true → PyData.strOk (textFrom k acc ts) = true
  | [], k, acc, _, ha => ha
  | t :: r, k, acc, h, ha => by
    show PyData.strOk (textFrom (k + 1) (acc ++ ((if k > 0 then ", " else "" : String) : Str) ++ t) r) = true
    exact textFrom_ok (fun x hx => h x (List.mem_cons_of_mem _ hx)) (ok_app (ok_app ha (ok_of _)) (h t List.mem_cons_self))
theorem reprI_ok (l : List Int) : PyData.strOk (reprI l) = true := by
  unfold reprI
  rw [PyData.shown, shownAll_ints, listText]
  refine ok_app (textFrom_ok (fun t ht => ?_) (ok_of "[")) (ok_of "]")
  obtain ⟨i, _, rfl⟩ := List.mem_map.mp ht
  rw [PyData.shown]
  exact ok_of _
theorem shaped_str {x : Str} (h : PyData.strOk x = true) : SeqAt.shaped (.str x) = true := by simp [SeqAt.shaped, PyData.canLay0, PyData.depth, h]
theorem opd_neS {Φ : Prg} {x : Str} (h : PyData.strOk x = true) : opX Φ (.cmp .NotEq) [dS x, dS x] = some (dB false) := by
  rw [opX_eq]
  show (if (SeqAt.shaped (.str x) && SeqAt.shaped (.str x)) = true then some (dB (!PyData.eqv (.str x) (.str x))) else none) = _
  rw [shaped_str h, PyData.eqv, beq_self_eq_true]; rfl
end VI
/-! PC -/
namespace VI
open PySem L2

/-! ## seats -/
structure SeatP (Φ : Prg) (Tb : Nat → Option Fd) : Prop where
  T : TalkP Φ Tb
  t66 : Tb 66 = some PF.F_Seats___init__
  t67 : Tb 67 = some PF.F_Seats_ways
  t70 : Tb 70 = some PF.F_count_cups
  ini : Φ.ini 16 = some 66
  m54 : Φ.mth 16 54 = some 67
  p57 : Φ.prp 16 57 = none
  p58 : Φ.prp 16 58 = none
  p59 : Φ.prp 16 59 = none
  p60 : Φ.prp 16 60 = none
  f57 : Φ.isf 16 57 = true
  f58 : Φ.isf 16 58 = true
  f59 : Φ.isf 16 59 = true
  f60 : Φ.isf 16 60 = true
def seatD (R : Nat) (cl lf : List Int) (pl : Int) : D := dO true 16 [57, 58, 59, 60] [dI R, dL true (cl.map dI), dL true (lf.map dI), dI pl]
theorem rng_upto {a : Int} {n : Nat} (h : a = n) (hn : n < 2 ^ 61) : rngX [dI a] = some ((upto n).map dI) := by
  subst h
  rw [rng_1 (by omega), Int.toNat_natCast]
  congr 1
  unfold upto
  rw [List.map_map]
  refine List.map_congr_left fun i _ => ?_
  show dI (0 + (i : Int)) = dI (i : Int)
  rw [Int.zero_add]
theorem upto_at {N n : Nat} {h : Int → Int} (hn : n < N) : (((upto N).map h).map dI)[n]? = some (dI (h n)) := by
  unfold upto
  rw [List.getElem?_map, List.getElem?_map, List.getElem?_map, List.getElem?_range hn]; rfl
theorem upto_set {N n : Nat} {h : Int → Int} {v : Int} : (((upto N).map h).map dI).set n (dI v) = ((upto N).map fun (q : Int) => if q = (n : Int) then v else h q).map dI := by
  refine List.ext_getElem (by simp) fun i a b => ?_
  have hi : i < N := by simpa [upto] using b
  rw [List.getElem_set]
  simp only [List.getElem_map, upto, List.getElem_range]
  by_cases e : n = i
  · subst e; simp
  · rw [if_neg e, if_neg (by omega)]
theorem pw_le {s : Nat} (hs : s ≤ 6) : (2 : Int) ^ s ≤ 64 ∧ ((2 : Int) ^ s).toNat = 2 ^ s ∧ 2 ^ s ≤ 64 := by
  match s, hs with
  | 0, _ | 1, _ | 2, _ | 3, _ | 4, _ | 5, _ | 6, _ => decide
  | n + 7, h => omega
theorem rep0 {Φ : Prg} {s : Nat} {N : Int} (hs : s ≤ 6) (hN : N = 2 ^ s) : opX Φ (.bin .Mult) [dL true [dI 0], dI N] = some (dL true (((upto (2 ^ s)).map fun _ => 0).map dI)) := by
    have h64 := pw_le hs
    have h0 : (0 : Int) ≤ 2 ^ s := Int.le_of_lt (Int.pow_pos (by decide))
    have h2 : N.toNat = 2 ^ s := by rw [hN]; exact h64.2.1
    have h1 : [dI 0].length * N.toNat ≤ lim := by
      rw [h2]
      show 1 * 2 ^ s ≤ lim
      rw [Nat.one_mul]
      exact le_lim (by omega)
    rw [opd_rep (by rfl) (by omega) h1]
    congr 2
    rw [List.flatten_replicate_singleton, h2]
    refine List.ext_getElem (by simp [upto]) fun i a b => ?_
    simp
section
variable {Φ : Prg} {Tb : Nat → Option Fd} {n s : Nat} {i j : Int} (S : SeatP Φ Tb)
include S in
theorem Seats_init_ok {f : Int → Int} (hs : s ≤ 6) (hf : ∀ p, 0 ≤ f p) : callN Φ Tb (n + 2) 66 [dO true 16 [] [], talkD true s [] ((plC (2 ^ s) f).map cD)] =
    some (dN, [seatD s ((upto (2 ^ s)).map f) ((upto (s + 1)).map fun k => (((upto (2 ^ s)).map f).count k : Nat)) 0, talkD true s [] ((plC (2 ^ s) f).map cD)]) := by
  refine call_eq S.t66 ⟨rfl, by decide⟩ ?_
  simp only [PF.F_Seats___init__, dfuel, start0, List.map_cons, List.map_nil, List.replicate_succ, List.replicate_zero, List.cons_append, List.nil_append, Nat.reduceSub]
  have T := S.T
  have sz := Talk_size_ok (n := n) (o := true) (s := s) (R := []) (cs := (plC (2 ^ s) f).map cD) T
  have cm := Talk_claims_ok (n := n) (o := true) (s := s) (R := []) (cs := plC (2 ^ s) f) T
  have tsh : ∀ R cs, isSh (talkD true s R cs) = false := fun _ _ => rfl
  have tcl : ∀ R cs, clsOf (talkD true s R cs) = some 12 := fun _ _ => rfl
  have s1 : ∀ d, setFdΦ Φ (dO true 16 [] []) 57 d = some (dO true 16 [57] [d]) := fun d => sfd S.f57
  have s2 : ∀ a d, setFdΦ Φ (dO true 16 [57] [a]) 58 d = some (dO true 16 [57, 58] [a, d]) := fun a d => sfd S.f58
  have s3 : ∀ a b d, setFdΦ Φ (dO true 16 [57, 58] [a, b]) 59 d = some (dO true 16 [57, 58, 59] [a, b, d]) := fun a b d => sfd S.f59
  have s4 : ∀ a b c d, setFdΦ Φ (dO true 16 [57, 58, 59] [a, b, c]) 60 d = some (dO true 16 [57, 58, 59, 60] [a, b, c, d]) := fun a b c d => sfd S.f60
  (refine' WSs.step ?h1_1 ?h2_1 ?h3_1; (case h1_1 => (simp only [EVB, below, permL, tgOk, tgs, reduceCtorEq, List.isPrefixOf, start0, Nat.reduceAdd, Nat.reduceSub, Nat.reduceLT, Nat.reduceLeDiff, Nat.reduceEqDiff, Nat.reduceBEq, Nat.reduceBNe, s1, T.pz, sz, tsh, tcl] <;> rfl)); (case h3_1 => first | decide | (intro j hj; simp at hj; try omega)))
  obtain ⟨N, hat, hN⟩ : ∃ N : Int, (Tr.kids pwD)[s]? = some (dI N) ∧ N = 2 ^ s := ⟨_, pw_at hs, rfl⟩
  have hrep := rep0 (Φ := Φ) hs hN
  (refine' WSs.step ?h1_2 ?h2_2 ?h3_2; (case h1_2 => (simp only [EVB, below, permL, tgOk, tgs, reduceCtorEq, List.isPrefixOf, start0, Nat.reduceAdd, Nat.reduceSub, Nat.reduceLT, Nat.reduceLeDiff, Nat.reduceEqDiff, Nat.reduceBEq, Nat.reduceBNe, s2, T.pz, sz, tsh, tcl, T.g2, pw_ix hs, hat, hrep] <;> rfl)); (case h3_2 => first | decide | (intro j hj; simp at hj; try omega)))
  have set58 : ∀ d, setFdΦ Φ (dO true 16 [57, 58] [dI s, d]) 58 d = some (dO true 16 [57, 58] [dI s, d]) := fun d => sfd S.f58
  have f58 : ∀ a b, fldIx (dO true 16 [57, 58] [a, b]) 58 = some 1 := fun _ _ => rfl
  have pow64 := pw_le hs
  have hpl : ∀ c ∈ plC (2 ^ s) f, 0 ≤ c.1 ∧ c.1 < (2 ^ s : Nat) ∧ c.2 = f c.1 := by
    intro c hc
    obtain ⟨p, hp, rfl⟩ := List.mem_map.mp hc
    have := mem_upto.mp (List.mem_filter.mp hp).1
    exact ⟨this.1, this.2, rfl⟩
  have hcsI : ∀ Γ Γ1 : VI.Ctx, itvR Γ (.vl (dL true ((plC (2 ^ s) f).map cD)) Γ1 false) = some ((plC (2 ^ s) f).map (fun c => .one (.own (cD c))), Γ1, false, .free) := fun Γ Γ1 => itv_vm fun _ => rfl
  (refine' WSs.cons (WS.for_ ?h1_3 ?h2_3 ?h3_3); (case h1_3 => first | rfl | (simp only [EVB, below, permL, tgOk, tgs, reduceCtorEq, List.isPrefixOf, start0, Nat.reduceAdd, Nat.reduceSub, Nat.reduceLT, Nat.reduceLeDiff, Nat.reduceEqDiff, Nat.reduceBEq, Nat.reduceBNe, T.pc, cm, tsh, tcl, hcsI] <;> rfl)); (case h2_3 => (simp only [EVB, below, permL, tgOk, tgs, reduceCtorEq, List.isPrefixOf, start0, Nat.reduceAdd, Nat.reduceSub, Nat.reduceLT, Nat.reduceLeDiff, Nat.reduceEqDiff, Nat.reduceBEq, Nat.reduceBNe, T.pc, cm, tsh, tcl, hcsI] <;> rfl)))
  refine WFo.inv (fun pre Γ => ∃ e2 e3 : Option D, Γ = [some (.own (dO true 16 [57, 58] [dI s, dL true (((upto (2 ^ s)).map fun q => if q ∈ pre.map (·.1) then f q else 0).map dI)])), some (.own (talkD true s [] ((plC (2 ^ s) f).map cD))), oD e2, oD e3, none]) ⟨none, none, rfl⟩ (by decide) ?_ ?_
  · rintro pre c post e Γ ⟨e2, e3, rfl⟩
    refine ⟨_, asg_tp (by simp) (by simp) (by decide), ?_⟩
    obtain ⟨c1, c2, c3⟩ := hpl c (by rw [e]; simp)
    obtain ⟨m, hm⟩ : ∃ m : Nat, c.1 = m := ⟨c.1.toNat, by omega⟩
    have hml : m < 2 ^ s := by omega
    have hset : setIx (dL true (((upto (2 ^ s)).map fun q => if q ∈ pre.map (·.1) then f q else 0).map dI)) (dI c.1) (dI c.2) = some (dL true (((upto (2 ^ s)).map fun q => if q ∈ (pre ++ [c]).map (·.1) then f q else 0).map dI)) := by
      rw [six_L (n := m) hm (by simp [upto]; exact hml), upto_set]
      congr 3
      refine List.map_congr_left fun q hq => ?_
      by_cases hqm : q = (m : Int)
      · rw [if_pos hqm, if_pos (by simp [hm, hqm]), c3, hm, hqm]
      · rw [if_neg hqm]
        have : q ∈ (pre ++ [c]).map (·.1) ↔ q ∈ pre.map (·.1) := by
          simp only [List.map_append, List.mem_append, List.map_cons, List.map_nil, List.mem_singleton, hm, hqm, or_false]
        simp only [this]
    (refine' WSs.step ?h1_4 ?h2_4 ?h3_4; (case h1_4 => (simp only [EVB, below, permL, tgOk, tgs, reduceCtorEq, List.isPrefixOf, start0, Nat.reduceAdd, Nat.reduceSub, Nat.reduceLT, Nat.reduceLeDiff, Nat.reduceEqDiff, Nat.reduceBEq, Nat.reduceBNe, S.p58, S.f58, f58, hset] <;> rfl)); (case h3_4 => first | decide | (intro j hj; simp at hj; try omega)))
    exact WSs.nil ⟨some (dI c.1), some (dI c.2), rfl⟩
  · rintro Γ ⟨e2, e3, rfl⟩
    have hfin : ((upto (2 ^ s)).map fun q => if q ∈ (plC (2 ^ s) f).map (·.1) then f q else 0) = (upto (2 ^ s)).map f := by
      refine List.map_congr_left fun q hq => ?_
      by_cases h : 0 < f q
      · rw [if_pos]
        rw [plC, List.map_map, List.mem_map]
        exact ⟨q, List.mem_filter.mpr ⟨hq, decide_eq_true h⟩, rfl⟩
      · rw [if_neg]
        · have := hf q; omega
        · intro hm
          rw [plC, List.map_map, List.mem_map] at hm
          obtain ⟨x, hx, hxq⟩ := hm
          have hxq : x = q := hxq
          subst hxq
          exact h (of_decide_eq_true (List.mem_filter.mp hx).2)
    rw [hfin]
    have hrg : rngX [dI ((s : Int) + 1)] = some ((upto (s + 1)).map dI) := rng_upto (by omega) (by omega)
    have hG : ∀ z, lcGo Φ (callN Φ Tb (n + 1)) (z + 10) [4, 3] (.nm 3) [] (.mth (.att (.v 0) 58) 8 [.v 3]) (((upto (s + 1)).map dI).map fun d => .one (.own d)) []
        [some (.own (dO true 16 [57, 58] [dI s, dL true (((upto (2 ^ s)).map f).map dI)])), some (.own (talkD true s [] ((plC (2 ^ s) f).map cD))), oD e2, none, none] true
        = some ((upto (s + 1)).map fun k => dI ((((upto (2 ^ s)).map f).count k : Nat) : Int), [some (.own (dO true 16 [57, 58] [dI s, dL true (((upto (2 ^ s)).map f).map dI)])), some (.own (talkD true s [] ((plC (2 ^ s) f).map cD))), oD e2, none, none], true) := by
      intro z
      rw [List.map_map]
      refine lcGo_map (G := fun k => [some (.own (dO true 16 [57, 58] [dI s, dL true (((upto (2 ^ s)).map f).map dI)])), some (.own (talkD true s [] ((plC (2 ^ s) f).map cD))), oD e2, some (.own (dI k)), none]) (fun k _ => ?_) (fun k _ => ?_) (fun k _ => ?_) (by rw [upto_length]; exact le_lim (by omega))
      · show asgI (.nm 3) (.one (.own (dI k))) _ = _
        rw [asg_nm (by simp) (by rfl)]
        simp only [EVB, below, permL, tgOk, tgs, reduceCtorEq, List.isPrefixOf, start0, Nat.reduceAdd, Nat.reduceSub, Nat.reduceLT, Nat.reduceLeDiff, Nat.reduceEqDiff, Nat.reduceBEq, Nat.reduceBNe]
      · simp only [EVB, below, permL, tgOk, tgs, reduceCtorEq, List.isPrefixOf, start0, Nat.reduceAdd, Nat.reduceSub, Nat.reduceLT, Nat.reduceLeDiff, Nat.reduceEqDiff, Nat.reduceBEq, Nat.reduceBNe, S.p58, S.f58, f58, cnt_cnt]
      · simp only [EVB, below, permL, tgOk, tgs, reduceCtorEq, List.isPrefixOf, start0, Nat.reduceAdd, Nat.reduceSub, Nat.reduceLT, Nat.reduceLeDiff, Nat.reduceEqDiff, Nat.reduceBEq, Nat.reduceBNe]
    (refine' WSs.step ?h1_5 ?h2_5 ?h3_5; (case h1_5 => (simp only [EVB, below, permL, tgOk, tgs, reduceCtorEq, List.isPrefixOf, start0, Nat.reduceAdd, Nat.reduceSub, Nat.reduceLT, Nat.reduceLeDiff, Nat.reduceEqDiff, Nat.reduceBEq, Nat.reduceBNe, s3, T.pz, sz, tsh, tcl, hrg, hG] <;> rfl)); (case h3_5 => first | decide | (intro j hj; simp at hj; try omega)))
    (refine' WSs.step ?h1_6 ?h2_6 ?h3_6; (case h1_6 => (simp only [EVB, below, permL, tgOk, tgs, reduceCtorEq, List.isPrefixOf, start0, Nat.reduceAdd, Nat.reduceSub, Nat.reduceLT, Nat.reduceLeDiff, Nat.reduceEqDiff, Nat.reduceBEq, Nat.reduceBNe, s4] <;> rfl)); (case h3_6 => first | decide | (intro j hj; simp at hj; try omega)))
    refine WSs.nil ⟨?_, trivial⟩
    simp only [EVB, below, permL, tgOk, tgs, reduceCtorEq, List.isPrefixOf, start0, Nat.reduceAdd, Nat.reduceSub, Nat.reduceLT, Nat.reduceLeDiff, Nat.reduceEqDiff, Nat.reduceBEq, Nat.reduceBNe, seatD, tsh, List.map_map]
    rfl
end
/-! ### the number of ways -/
def prodF (free : Int) (k : Nat) : Int := (List.range k).foldl (fun m (t : Nat) => m * (free - t)) 1
theorem prodF_succ {free : Int} {k : Nat} : prodF free (k + 1) = prodF free k * (free - k) := by
  unfold prodF; rw [List.range_succ, List.foldl_append]; rfl
def freeM (R : Nat) (place above : Int) (k : Nat) : Int := 2 ^ (R - k) - (place + 2 ^ k - 1).fdiv (2 ^ k) - above
/-- levels k - 1, .., 0 are to come -/
def waysM (R : Nat) (place : Int) (L : Nat → Nat) : Nat → Int → Int → Int
  | 0, found, _ => found
  | k + 1, found, above => if L k ≠ 0 ∧ freeM R place above k < L k then 0 else waysM R place L k (found * prodF (freeM R place above k) (L k)) (above + L k)
section
variable {Φ : Prg} {Tb : Nat → Option Fd} {n s : Nat} {i j : Int} (S : SeatP Φ Tb)
theorem rng_down {R : Nat} (h : R ≤ 6) : rngX [dI R, dI (-1), dI (-1)] = some ((List.range (R + 1)).map fun (i : Nat) => dI ((R : Int) - i)) := by
  rw [rngX_eq]
  match R, h with
  | 0, _ | 1, _ | 2, _ | 3, _ | 4, _ | 5, _ | 6, _ => rfl
  | n + 7, h => omega
include S in
theorem ways_ok {cl : List Int} {L : Nat → Nat} {pl place : Int} (hs : s ≤ 6) (hp : 0 ≤ place ∧ place ≤ 1000000) (hL : ∀ k, L k ≤ 1000000) :
    callN Φ Tb (n + 1) 67 [seatD s cl ((upto (s + 1)).map fun k => (L k.toNat : Int)) pl, dI place] = some (dI (waysM s place L (s + 1) 1 0), [seatD s cl ((upto (s + 1)).map fun k => (L k.toNat : Int)) pl, dI place]) := by
  refine call_eq S.t67 ⟨rfl, by decide⟩ ?_
  simp only [PF.F_Seats_ways, dfuel, start0, List.map_cons, List.map_nil, List.replicate_succ, List.replicate_zero, List.cons_append, List.nil_append, Nat.reduceSub]
  have hsh : ∀ cl lf pl, isSh (seatD s cl lf pl) = false := fun _ _ _ => rfl
  have hcl : ∀ cl lf pl, clsOf (seatD s cl lf pl) = some 16 := fun _ _ _ => rfl
  have f57 : ∀ cl lf pl, fldIx (seatD s cl lf pl) 57 = some 0 := fun _ _ _ => rfl
  have f59 : ∀ cl lf pl, fldIx (seatD s cl lf pl) 59 = some 2 := fun _ _ _ => rfl
  have k0 : ∀ cl lf pl, (Tr.kids (seatD s cl lf pl))[0]? = some (dI s) := fun _ _ _ => rfl
  have k2 : ∀ cl lf pl, (Tr.kids (seatD s cl lf pl))[2]? = some (dL true (lf.map dI)) := fun _ _ _ => rfl
  (refine' WSs.step ?h1_7 ?h2_7 ?h3_7; (case h1_7 => (simp only [EVB, below, permL, tgOk, tgs, reduceCtorEq, List.isPrefixOf, start0, Nat.reduceAdd, Nat.reduceSub, Nat.reduceLT, Nat.reduceLeDiff, Nat.reduceEqDiff, Nat.reduceBEq, Nat.reduceBNe] <;> rfl)); (case h3_7 => first | decide | (intro j hj; simp at hj; try omega)))
  generalize hSD : seatD s cl ((upto (s + 1)).map fun k => (L k.toNat : Int)) pl = SD
  have hsh : isSh SD = false := by rw [← hSD]; rfl
  have hcl : clsOf SD = some 16 := by rw [← hSD]; rfl
  have f57 : fldIx SD 57 = some 0 := by rw [← hSD]; rfl
  have f59 : fldIx SD 59 = some 2 := by rw [← hSD]; rfl
  have k0 : (Tr.kids SD)[0]? = some (dI s) := by rw [← hSD]; rfl
  have k2 : (Tr.kids SD)[2]? = some (dL true (((upto (s + 1)).map fun k => (L k.toNat : Int)).map dI)) := by rw [← hSD]; rfl
  have a2 : Tr.at_ SD [2] = some (dL true (((upto (s + 1)).map fun k => (L k.toNat : Int)).map dI)) := by rw [← hSD]; rfl
  (refine' WSs.cons (WS.for_ ?h1_8 ?h2_8 ?h3_8); (case h1_8 => first | rfl | (simp only [EVB, below, permL, tgOk, tgs, reduceCtorEq, List.isPrefixOf, start0, Nat.reduceAdd, Nat.reduceSub, Nat.reduceLT, Nat.reduceLeDiff, Nat.reduceEqDiff, Nat.reduceBEq, Nat.reduceBNe, hsh, hcl, S.p57, S.f57, f57, k0, rng_down hs, List.map_map] <;> rfl)); (case h2_8 => (simp only [EVB, below, permL, tgOk, tgs, reduceCtorEq, List.isPrefixOf, start0, Nat.reduceAdd, Nat.reduceSub, Nat.reduceLT, Nat.reduceLeDiff, Nat.reduceEqDiff, Nat.reduceBEq, Nat.reduceBNe, hsh, hcl, S.p57, S.f57, f57, k0, rng_down hs, List.map_map] <;> rfl)))
  refine WFo.inv (fun pre Γ => ∃ (found above : Int) (e4 e5 e6 e7 : Option D), Γ = [some (.own SD), some (.own (dI place)), some (.own (dI found)), some (.own (dI above)), oD e4, oD e5, oD e6, oD e7] ∧ pre = List.range pre.length ∧ 0 ≤ above ∧ above ≤ pre.length * 1000000 ∧ waysM s place L (s + 1) 1 0 = waysM s place L (s + 1 - pre.length) found above)
    ⟨1, 0, none, none, none, none, rfl, rfl, Int.le_refl 0, by decide, rfl⟩ (by decide) ?_ ?_
  · rintro pre x post e Γ ⟨found, above, e4, e5, e6, e7, rfl, hpre, ha0, ha1, hw⟩
    have hx : x = pre.length ∧ x < s + 1 := by
      have h1 : (List.range (s + 1))[pre.length]? = some x := by rw [e]; simp
      have h2 := List.getElem?_eq_some_iff.mp h1
      obtain ⟨h3, h4⟩ := h2
      rw [List.getElem_range] at h4
      rw [List.length_range] at h3
      omega
    obtain ⟨hx1, hx2⟩ := hx
    obtain ⟨k, hk⟩ : ∃ k, k + x = s := ⟨s - x, by omega⟩
    have ek : (s : Int) - (x : Int) = (k : Int) := by omega
    refine ⟨_, asg_nm (by simp) (by rfl), ?_⟩
    obtain ⟨N1, hat1, hN1⟩ : ∃ N : Int, (Tr.kids pwD)[k]? = some (dI N) ∧ N = 2 ^ k := ⟨_, pw_at (by omega), rfl⟩
    obtain ⟨N2, hat2, hN2⟩ : ∃ N : Int, (Tr.kids pwD)[x]? = some (dI N) ∧ N = 2 ^ x := ⟨_, pw_at (by omega), rfl⟩
    have ix1 : ixOf pwD (dI ((s : Int) - x)) = some k := by rw [ek]; exact pw_ix (by omega)
    have ix2 : ixOf pwD (dI ((s : Int) - ((s : Int) - x))) = some x := by rw [show (s : Int) - ((s : Int) - x) = (x : Int) by omega]; exact pw_ix (by omega)
    have p1 : 1 ≤ N1 ∧ N1 ≤ 64 := by rw [hN1]; exact ⟨Int.pow_pos (by decide), (pw_le (by omega)).1⟩
    have p2 : 1 ≤ N2 ∧ N2 ≤ 64 := by rw [hN2]; exact ⟨Int.pow_pos (by decide), (pw_le (by omega)).1⟩
    have d1 : N1 ≠ 0 := by omega
    have d2 : N1.natAbs < 1073741824 := by omega
    have ix3 : ixOf (dL true (((upto (s + 1)).map fun k => (L k.toNat : Int)).map dI)) (dI ((s : Int) - x)) = some k := ix_L ek (by simp [upto]; omega)
    have at3 : (((upto (s + 1)).map fun k => (L k.toNat : Int)).map dI)[k]? = some (dI (L k : Int)) := by
      rw [upto_at (h := fun k => (L k.toNat : Int)) (by omega), Int.toNat_natCast]
    (refine' WSs.step ?h1_9 ?h2_9 ?h3_9; (case h1_9 => (simp only [EVB, below, permL, tgOk, tgs, reduceCtorEq, List.isPrefixOf, start0, Nat.reduceAdd, Nat.reduceSub, Nat.reduceLT, Nat.reduceLeDiff, Nat.reduceEqDiff, Nat.reduceBEq, Nat.reduceBNe, S.T.g2, ix1, hat1] <;> rfl)); (case h3_9 => first | decide | (intro j hj; simp at hj; try omega)))
    (refine' WSs.step ?h1_10 ?h2_10 ?h3_10; (case h1_10 => (simp only [EVB, below, permL, tgOk, tgs, reduceCtorEq, List.isPrefixOf, start0, Nat.reduceAdd, Nat.reduceSub, Nat.reduceLT, Nat.reduceLeDiff, Nat.reduceEqDiff, Nat.reduceBEq, Nat.reduceBNe, S.T.g2, ix1, hat1, ix2, hat2, hsh, hcl, S.p57, S.f57, f57, k0, d1, d2] <;> rfl)); (case h3_10 => first | decide | (intro j hj; simp at hj; try omega)))
    generalize hF : N2 - (place + N1 - 1).fdiv N1 - above = F
    have hFm : freeM s place above k = F := by
      unfold freeM
      rw [← hF, hN1, hN2, show s - k = x by omega]
    have hdiv : 0 ≤ (place + N1 - 1).fdiv N1 := Int.fdiv_nonneg (by omega) (by omega)
    have hF2 : F ≤ 64 := by omega
    have hLk := hL k
    have hrg : rngX [dI (L k : Int)] = some ((upto (L k)).map dI) := rng_upto rfl (by omega)
    have hlen : s + 1 - pre.length = k + 1 := by omega
    rw [hlen] at hw
    (refine' WSs.cons (WS.for_ ?h1_11 ?h2_11 ?h3_11); (case h1_11 => first | rfl | (simp only [EVB, below, permL, tgOk, tgs, reduceCtorEq, List.isPrefixOf, start0, Nat.reduceAdd, Nat.reduceSub, Nat.reduceLT, Nat.reduceLeDiff, Nat.reduceEqDiff, Nat.reduceBEq, Nat.reduceBNe, hsh, hcl, S.p59, S.f59, f59, k2, a2, ix3, at3, hrg] <;> rfl)); (case h2_11 => (simp only [EVB, below, permL, tgOk, tgs, reduceCtorEq, List.isPrefixOf, start0, Nat.reduceAdd, Nat.reduceSub, Nat.reduceLT, Nat.reduceLeDiff, Nat.reduceEqDiff, Nat.reduceBEq, Nat.reduceBNe, hsh, hcl, S.p59, S.f59, f59, k2, a2, ix3, at3, hrg] <;> rfl)))
    rw [List.map_map]
    refine WFo.inv (fun pre2 Γ => ∃ (e7 : Option D), Γ = [some (.own SD), some (.own (dI place)), some (.own (dI (found * prodF F pre2.length))), some (.own (dI above)), some (.own (dI ((s : Int) - x))), some (.own (dI N1)), some (.own (dI F)), oD e7] ∧ (pre2.length ≠ 0 → (pre2.length : Int) ≤ F))
      ⟨e7, by simp [prodF], fun h => absurd rfl h⟩ (by decide) ?_ ?_
    · rintro pre2 y post2 e2 Γ ⟨e7, rfl, hlt⟩
      have hy : y = (pre2.length : Int) ∧ pre2.length < L k := by
        have h1 : (upto (L k))[pre2.length]? = some y := by rw [e2]; simp
        obtain ⟨h3, h4⟩ := List.getElem?_eq_some_iff.mp h1
        rw [upto_length] at h3
        simp only [upto, List.getElem_map, List.getElem_range] at h4
        exact ⟨h4.symm, h3⟩
      obtain ⟨hy1, hy2⟩ := hy
      refine ⟨_, asg_nm (by simp) (by rfl), ?_⟩
      (refine' WSs.ite ?h1_12 ?h2_12 ?h3_12; (case h1_12 => (simp only [EVB, below, permL, tgOk, tgs, reduceCtorEq, List.isPrefixOf, start0, Nat.reduceAdd, Nat.reduceSub, Nat.reduceLT, Nat.reduceLeDiff, Nat.reduceEqDiff, Nat.reduceBEq, Nat.reduceBNe] <;> rfl)))
      · intro hle
        have hle := of_decide_eq_true hle
        (refine' WSs.ret ?h1_13 ?h2_13 ?h3_13; (case h1_13 => (simp only [EVB, below, permL, tgOk, tgs, reduceCtorEq, List.isPrefixOf, start0, Nat.reduceAdd, Nat.reduceSub, Nat.reduceLT, Nat.reduceLeDiff, Nat.reduceEqDiff, Nat.reduceBEq, Nat.reduceBNe] <;> rfl)); (case h3_13 => first | decide | (intro j hj; simp at hj; try omega)))
        refine ⟨by simp only [EVB, below, permL, tgOk, tgs, reduceCtorEq, List.isPrefixOf, start0, Nat.reduceAdd, Nat.reduceSub, Nat.reduceLT, Nat.reduceLeDiff, Nat.reduceEqDiff, Nat.reduceBEq, Nat.reduceBNe, hsh], ?_⟩
        rw [hw, waysM, if_pos]
        rw [hFm]
        exact ⟨by omega, by omega⟩
      · intro hle
        have hle := of_decide_eq_false hle
        refine WSs.nil ?_
        have sm : small64 (F - y) = true := small_of (by omega)
        (refine' WSs.step ?h1_14 ?h2_14 ?h3_14; (case h1_14 => (simp only [EVB, below, permL, tgOk, tgs, reduceCtorEq, List.isPrefixOf, start0, Nat.reduceAdd, Nat.reduceSub, Nat.reduceLT, Nat.reduceLeDiff, Nat.reduceEqDiff, Nat.reduceBEq, Nat.reduceBNe, aug_mul, sm] <;> rfl)); (case h3_14 => first | decide | (intro j hj; simp at hj; try omega)))
        refine WSs.nil ⟨some (dI y), ?_, fun _ => by rw [List.length_append, List.length_singleton]; omega⟩
        rw [List.length_append, List.length_singleton, prodF_succ, ← hy1, Int.mul_assoc]
        rfl
    · rintro Γ ⟨e7, rfl, hlt⟩
      rw [upto_length] at hlt ⊢
      (refine' WSs.step ?h1_15 ?h2_15 ?h3_15; (case h1_15 => (simp only [EVB, below, permL, tgOk, tgs, reduceCtorEq, List.isPrefixOf, start0, Nat.reduceAdd, Nat.reduceSub, Nat.reduceLT, Nat.reduceLeDiff, Nat.reduceEqDiff, Nat.reduceBEq, Nat.reduceBNe, hsh, hcl, S.p59, S.f59, f59, k2, a2, ix3, at3] <;> rfl)); (case h3_15 => first | decide | (intro j hj; simp at hj; try omega)))
      refine WSs.nil ⟨found * prodF F (L k), above + L k, some (dI ((s : Int) - x)), some (dI N1), some (dI F), e7, rfl, ?_, by omega, ?_, ?_⟩
      · rw [List.length_append, List.length_singleton, List.range_succ, ← hpre, hx1]
      · rw [List.length_append, List.length_singleton]; omega
      · rw [hw, waysM, if_neg, hFm, List.length_append, List.length_singleton, show s + 1 - (pre.length + 1) = k by omega]
        rw [hFm]
        omega
  · rintro Γ ⟨found, above, e4, e5, e6, e7, rfl, hpre, ha0, ha1, hw⟩
    rw [List.length_range, Nat.sub_self, waysM] at hw
    (refine' WSs.ret ?h1_16 ?h2_16 ?h3_16; (case h1_16 => (simp only [EVB, below, permL, tgOk, tgs, reduceCtorEq, List.isPrefixOf, start0, Nat.reduceAdd, Nat.reduceSub, Nat.reduceLT, Nat.reduceLeDiff, Nat.reduceEqDiff, Nat.reduceBEq, Nat.reduceBNe] <;> rfl)); (case h3_16 => first | decide | (intro j hj; simp at hj; try omega)))
    exact ⟨by simp only [EVB, below, permL, tgOk, tgs, reduceCtorEq, List.isPrefixOf, start0, Nat.reduceAdd, Nat.reduceSub, Nat.reduceLT, Nat.reduceLeDiff, Nat.reduceEqDiff, Nat.reduceBEq, Nat.reduceBNe, hsh], by rw [hw]⟩
/-- how many players claim k -/
def leftC (s : Nat) (f : Int → Int) (k : Nat) : Nat := ((upto (2 ^ s)).map f).count (k : Int)
def countM (s : Nat) (f : Int → Int) : Int := waysM s 0 (leftC s f) (s + 1) 1 0
include S in
theorem count_cups_ok {o : Bool} {cs : List (Int × Int)} (hs : s ≤ 6) (hc : ∀ c ∈ cs, ValidC s c) (hl : cs.length ≤ 200) :
    callN Φ Tb (n + 6) 70 [dI s, dL o (cs.map cD)] = some (dI (countM s (bestC cs)), [dI s, dL o (cs.map cD)]) := by
  refine call_eq S.t70 ⟨rfl, by decide⟩ ?_
  simp only [PF.F_count_cups, dfuel, start0, List.map_cons, List.map_nil, List.replicate_succ, List.replicate_zero, List.cons_append, List.nil_append, Nat.reduceSub]
  have hT := Talk_init_ok (n := n) (o := o) S.T hs hc hl
  have hS := Seats_init_ok (n := n + 3) S (f := bestC cs) hs (bestC_nonneg cs)
  have hLe : ∀ k, leftC s (bestC cs) k ≤ 1000000 := fun k => by
    have h1 : leftC s (bestC cs) k ≤ ((upto (2 ^ s)).map (bestC cs)).length := List.count_le_length
    rw [List.length_map, upto_length] at h1
    have := (pw_le hs).2.2
    omega
  have hW := ways_ok (n := n + 4) S (cl := (upto (2 ^ s)).map (bestC cs)) (L := leftC s (bestC cs)) (pl := 0) (place := 0) hs (by omega) hLe
  have hLL : ((upto (s + 1)).map fun k => (((upto (2 ^ s)).map (bestC cs)).count k : Nat) : List Int) = (upto (s + 1)).map fun k => (leftC s (bestC cs) k.toNat : Int) := by
    refine List.map_congr_left fun k hk => ?_
    have := mem_upto.mp hk
    unfold leftC
    rw [show ((k.toNat : Nat) : Int) = k by omega]
  rw [hLL] at hS
  have tsh : ∀ R cs, isSh (talkD true s R cs) = false := fun _ _ => rfl
  have ssh : ∀ a b c, isSh (seatD s a b c) = false := fun _ _ _ => rfl
  have scl : ∀ a b c, clsOf (seatD s a b c) = some 16 := fun _ _ _ => rfl
  have snf : ∀ a b c, fldIx (seatD s a b c) 54 = none := fun _ _ _ => rfl
  have hmv : ∀ a b c rs (Γ : VI.Ctx) q q1, mthV Φ (callN Φ Tb (n + 5)) 54 (seatD s a b c) q1 (rs, Γ, q) = (resL Γ rs).bind fun ds => if free Γ rs then (Φ.mth 16 54).bind fun key => if fldIx (seatD s a b c) 54 = none then (callN Φ Tb (n + 5) key (seatD s a b c :: ds)).bind fun (r, outs) => match outs with
        | _ :: outs => some (.vl r (wrB Γ rs outs) (q1 && q && noPl rs))
        | _ => none else none else none := fun a b c rs Γ q q1 => mthV_c (scl a b c)
  cases o
  · (refine' WSs.ret ?h1_17 ?h2_17 ?h3_17; (case h1_17 => (simp only [EVB, below, permL, tgOk, tgs, reduceCtorEq, List.isPrefixOf, start0, Nat.reduceAdd, Nat.reduceSub, Nat.reduceLT, Nat.reduceLeDiff, Nat.reduceEqDiff, Nat.reduceBEq, Nat.reduceBNe, S.T.ini, S.ini, hT, hS, S.m54, hmv, snf, hW, isNon_N] <;> rfl)); (case h3_17 => first | decide | (intro j hj; simp at hj; try omega)))
    exact ⟨by simp only [EVB, below, permL, tgOk, tgs, reduceCtorEq, List.isPrefixOf, start0, Nat.reduceAdd, Nat.reduceSub, Nat.reduceLT, Nat.reduceLeDiff, Nat.reduceEqDiff, Nat.reduceBEq, Nat.reduceBNe], rfl⟩
  · (refine' WSs.ret ?h1_18 ?h2_18 ?h3_18; (case h1_18 => (simp only [EVB, below, permL, tgOk, tgs, reduceCtorEq, List.isPrefixOf, start0, Nat.reduceAdd, Nat.reduceSub, Nat.reduceLT, Nat.reduceLeDiff, Nat.reduceEqDiff, Nat.reduceBEq, Nat.reduceBNe, S.T.ini, S.ini, hT, hS, S.m54, hmv, snf, hW, isNon_N] <;> rfl)); (case h3_18 => first | decide | (intro j hj; simp at hj; try omega)))
    exact ⟨by simp only [EVB, below, permL, tgOk, tgs, reduceCtorEq, List.isPrefixOf, start0, Nat.reduceAdd, Nat.reduceSub, Nat.reduceLT, Nat.reduceLeDiff, Nat.reduceEqDiff, Nat.reduceBEq, Nat.reduceBNe], rfl⟩
end
end VI
/-! MB -/
namespace VI
/-! ## boards: the same number by rows and by columns -/
def cntGe (S : List Int) (l : Int) : Nat := S.countP fun x => decide (l ≤ x)
def cntLe (L : List Int) (s : Int) : Nat := L.countP fun x => decide (x ≤ s)
def AA : Nat → List Int → List Int → Nat
  | _, [], _ => 1
  | k, l :: L, S => (cntGe S l - k) * AA (k + 1) L S
def BB : List Int → List Int → Nat
  | [], _ => 1
  | s :: S, L => (cntLe L s - S.length) * BB S L
theorem cntGe_cons {S : List Int} {s l : Int} : cntGe (s :: S) l = cntGe S l + if l ≤ s then 1 else 0 := by
  unfold cntGe; rw [List.countP_cons]; simp
theorem cntLe_cons {L : List Int} {s l : Int} : cntLe (l :: L) s = cntLe L s + if l ≤ s then 1 else 0 := by
  unfold cntLe; rw [List.countP_cons]; simp
theorem cntLe_all {L : List Int} {s : Int} (h : ∀ l ∈ L, l ≤ s) : cntLe L s = L.length := by
  unfold cntLe; rw [List.countP_eq_length]; intro l hl; exact decide_eq_true (h l hl)
theorem cntGe_none {S : List Int} {l : Int} (h : ∀ s ∈ S, s < l) : cntGe S l = 0 := by
  unfold cntGe; rw [List.countP_eq_zero]; intro s hs; have := h s hs; simp; omega
theorem AA_shift {s : Int} {S : List Int} : ∀ {L : List Int} {k : Nat}, (∀ l ∈ L, l ≤ s) → AA (k + 1) L (s :: S) = AA k L S
  | [], _, _ => rfl
  | l :: L, k, h => by
    rw [AA, AA, AA_shift fun x hx => h x (List.mem_cons_of_mem _ hx), cntGe_cons, if_pos (h l List.mem_cons_self)]
    congr 1; omega
theorem BB_skip {l : Int} {L : List Int} : ∀ {S : List Int}, (∀ s ∈ S, s < l) → BB S (l :: L) = BB S L
  | [], _ => rfl
  | s :: S, h => by
    have h1 := h s List.mem_cons_self
    rw [BB, BB, BB_skip fun x hx => h x (List.mem_cons_of_mem _ hx), cntLe_cons, if_neg (by omega), Nat.add_zero]
theorem BB_more {l : Int} {L : List Int} (hl : ∀ x ∈ L, x ≤ l) : ∀ {S : List Int} {e : Nat}, S.Pairwise (· ≥ ·) → L.length = S.length + e → BB S (l :: L) * (e + 1) = (e + 1 + cntGe S l) * BB S L
  | [], e, _, _ => by simp [BB, cntGe]
  | t :: S, e, hs, he => by
    rw [List.pairwise_cons] at hs
    rw [List.length_cons] at he
    by_cases h : l ≤ t
    · have h1 : cntLe (l :: L) t = L.length + 1 := by
        rw [cntLe_cons, if_pos h, cntLe_all fun x hx => Int.le_trans (hl x hx) h]
      have h2 : cntLe L t = L.length := cntLe_all fun x hx => Int.le_trans (hl x hx) h
      have ih := BB_more hl (S := S) (e := e + 1) hs.2 (by omega)
      rw [BB, BB, h1, h2, cntGe_cons, if_pos h, show L.length + 1 - S.length = e + 1 + 1 by omega, show L.length - S.length = e + 1 by omega]
      generalize cntGe S l = c at *
      generalize BB S (l :: L) = x at *
      generalize BB S L = y at *
      have e1 : (e + 1 + 1) * x = (e + 1 + 1 + c) * y := by rw [Nat.mul_comm]; exact ih
      rw [e1, Nat.mul_assoc, Nat.mul_comm y (e + 1), ← Nat.mul_assoc, ← Nat.mul_assoc]
      congr 2
      omega
    · have hlt : ∀ s ∈ t :: S, s < l := by
        intro s hs'
        rcases List.mem_cons.mp hs' with rfl | hm
        · omega
        · have := hs.1 s hm; omega
      rw [BB_skip hlt, cntGe_none hlt, Nat.add_zero, Nat.mul_comm]
theorem AA_BB : ∀ {L S : List Int}, L.Pairwise (· ≥ ·) → S.Pairwise (· ≥ ·) → L.length = S.length → AA 0 L S = BB S L
  | [], [], _, _, _ => rfl
  | [], _ :: _, _, _, h => by simp at h
  | _ :: _, [], _, _, h => by simp at h
  | l :: L, s :: S, hl, hs, h => by
    rw [List.pairwise_cons] at hl hs
    have hlen : L.length = S.length := by simpa using h
    rw [AA, BB, Nat.sub_zero]
    by_cases q : l ≤ s
    · have q1 : ∀ x ∈ L, x ≤ s := fun x hx => by have := hl.1 x hx; omega
      have q2 : cntLe (l :: L) s = L.length + 1 := by rw [cntLe_cons, if_pos q, cntLe_all q1]
      have ih := AA_BB hl.2 hs.2 hlen
      have g := BB_more (l := l) (L := L) (fun x hx => hl.1 x hx) (S := S) (e := 0) hs.2 (by omega)
      rw [AA_shift q1, ih, q2, show L.length + 1 - S.length = 1 by omega, Nat.one_mul, cntGe_cons, if_pos q]
      rw [Nat.zero_add, Nat.mul_one] at g
      rw [g, Nat.add_comm 1]
    · have hlt : ∀ x ∈ s :: S, x < l := by
        intro x hx
        rcases List.mem_cons.mp hx with rfl | hm
        · omega
        · have := hs.1 x hm; omega
      rw [cntGe_none hlt, Nat.zero_mul, cntLe_cons, if_neg (by omega), Nat.add_zero]
      have : cntLe L s ≤ L.length := List.countP_le_length
      rw [show cntLe L s - S.length = 0 by omega, Nat.zero_mul]
theorem BB_perm {L L' : List Int} (h : ∀ s, cntLe L s = cntLe L' s) : ∀ {S : List Int}, BB S L = BB S L'
  | [] => rfl
  | s :: S => by rw [BB, BB, h s, BB_perm h]
/-! ## the program's product -/
def descL (L : Nat → Nat) : Nat → List Int
  | 0 => []
  | k + 1 => List.replicate (L k) (k : Int) ++ descL L k
theorem AA_rep {c : Int} {S R : List Int} : ∀ {m a : Nat}, (AA a (List.replicate m c ++ R) S : Int) = if m ≠ 0 ∧ (cntGe S c : Int) - a < m then 0 else prodF ((cntGe S c : Int) - a) m * AA (a + m) R S
  | 0, a => by simp [prodF]
  | m + 1, a => by
    have ih := AA_rep (c := c) (S := S) (R := R) (m := m) (a := a + 1)
    rw [List.replicate_succ, List.cons_append, AA, Int.natCast_mul, ih]
    by_cases h : (cntGe S c : Int) - a < (m + 1 : Nat)
    · rw [if_pos (show m + 1 ≠ 0 ∧ (cntGe S c : Int) - a < (m + 1 : Nat) from ⟨by omega, h⟩)]
      by_cases h2 : cntGe S c ≤ a
      · rw [show cntGe S c - a = 0 by omega]; simp
      · rw [if_pos (show m ≠ 0 ∧ (cntGe S c : Int) - (a + 1 : Nat) < m from ⟨by omega, by omega⟩)]
        simp
    · rw [if_neg (show ¬ (m + 1 ≠ 0 ∧ (cntGe S c : Int) - a < (m + 1 : Nat)) from fun z => h z.2), if_neg (show ¬ (m ≠ 0 ∧ (cntGe S c : Int) - (a + 1 : Nat) < m) by omega)]
      have e1 : ∀ (x : Int) (m : Nat), prodF x (m + 1) = x * prodF (x - 1) m := by
        intro x m
        induction m with
        | zero => simp [prodF]
        | succ m ih => rw [prodF_succ, ih, prodF_succ, Int.mul_assoc]; congr 2; omega
      rw [e1, show a + 1 + m = a + (m + 1) by omega]
      rw [show ((cntGe S c - a : Nat) : Int) = (cntGe S c : Int) - a by omega, show (cntGe S c : Int) - a - 1 = (cntGe S c : Int) - ((a + 1 : Nat) : Int) by omega, Int.mul_assoc]
theorem fdiv_pow {k : Nat} : ((0 : Int) + 2 ^ k - 1).fdiv (2 ^ k) = 0 := by
  have h : (0 : Int) < 2 ^ k := Int.pow_pos (by decide)
  rw [Int.fdiv_eq_ediv_of_nonneg _ (Int.le_of_lt h)]
  exact Int.ediv_eq_zero_of_lt (by omega) (by omega)
theorem ways_AA {R : Nat} {L : Nat → Nat} {S : List Int} (hS : ∀ k, k ≤ R → (cntGe S (k : Int) : Int) = 2 ^ (R - k)) : ∀ {k : Nat} {found : Int} {above : Nat}, k ≤ R + 1 → waysM R 0 L k found above = found * AA above (descL L k) S
  | 0, found, above, _ => by simp [waysM, descL, AA]
  | k + 1, found, above, hk => by
    have e : freeM R 0 above k = (cntGe S (k : Int) : Int) - above := by
      unfold freeM; rw [fdiv_pow, hS k (by omega)]; omega
    rw [waysM, e, descL, AA_rep]
    by_cases h : L k ≠ 0 ∧ (cntGe S (k : Int) : Int) - above < L k
    · rw [if_pos h, if_pos h, Int.mul_zero]
    · rw [if_neg h, if_neg h]
      have := ways_AA (R := R) (L := L) (S := S) hS (k := k) (found := found * prodF ((cntGe S (k : Int) : Int) - above) (L k)) (above := above + L k) (by omega)
      rw [Int.natCast_add] at this
      rw [this, Int.mul_assoc]
theorem descL_desc {L : Nat → Nat} : ∀ {k : Nat}, (descL L k).Pairwise (· ≥ ·) ∧ ∀ x ∈ descL L k, 0 ≤ x ∧ x < k
  | 0 => ⟨List.Pairwise.nil, fun x h => by cases h⟩
  | k + 1 => by
    have ih := descL_desc (L := L) (k := k)
    constructor
    · rw [descL, List.pairwise_append]
      refine ⟨List.pairwise_replicate.mpr (.inr (Int.le_refl _)), ih.1, fun a ha b hb => ?_⟩
      have := ih.2 b hb
      rw [List.mem_replicate] at ha
      omega
    · intro x hx
      rw [descL, List.mem_append] at hx
      rcases hx with h | h
      · rw [List.mem_replicate] at h; omega
      · have := ih.2 x h; omega
theorem descL_count {L : Nat → Nat} {x : Int} : ∀ {k : Nat}, (descL L k).count x = if 0 ≤ x ∧ x < k then L x.toNat else 0
  | 0 => by simp [descL]; omega
  | k + 1 => by
    rw [descL, List.count_append, descL_count, List.count_replicate]
    by_cases h : (k : Int) = x
    · subst h; simp; omega
    · rw [if_neg (by simpa using h)]
      by_cases h2 : 0 ≤ x ∧ x < k
      · rw [if_pos h2, if_pos (by omega)]; simp
      · rw [if_neg h2, if_neg (by omega)]
/-- count_cups is the product by seats -/
theorem countM_BB {s : Nat} {f : Int → Int} {S : List Int} (hf : ∀ p, 0 ≤ f p ∧ f p ≤ s) (hS : ∀ k, k ≤ s → (cntGe S (k : Int) : Int) = 2 ^ (s - k)) (hd : S.Pairwise (· ≥ ·)) (hl : S.length = 2 ^ s) :
    countM s f = (BB S ((upto (2 ^ s)).map f) : Int) := by
  unfold countM
  have hp : (descL (leftC s f) (s + 1)).Perm ((upto (2 ^ s)).map f) := by
    rw [List.perm_iff_count]
    intro x
    rw [descL_count]
    by_cases h : 0 ≤ x ∧ x < (s + 1 : Nat)
    · rw [if_pos h]
      unfold leftC
      rw [show ((x.toNat : Nat) : Int) = x by omega]
    · rw [if_neg h]
      symm
      rw [List.count_eq_zero]
      intro hm
      obtain ⟨p, _, rfl⟩ := List.mem_map.mp hm
      have := hf p
      omega
  have h0 := ways_AA (R := s) (L := leftC s f) hS (k := s + 1) (found := 1) (above := 0) (Nat.le_refl _)
  rw [show ((0 : Nat) : Int) = 0 from rfl] at h0
  rw [h0, Int.one_mul, AA_BB descL_desc.1 hd (by rw [hp.length_eq, List.length_map, upto_length, hl])]
  congr 1
  exact BB_perm fun t => hp.countP_eq _
end VI
/-! K41_F -/
namespace K41
open PySem L2 VI
/-! the defs in short form: written by gen.py -/
/-- 500 _law_tape: 0:script 1:k 2:cell -/
def F__law_tape : Fd := ⟨2, 3, [
  .asg (.nm 2) (.ife (.op (.cmp .Lt) [(.v 1), (.op .len [(.v 0)])]) (.op .abs [(.idx (.v 0) (.v 1))]) (.k (dI 0))),
  .ret (.lst [(.op .max [(.k (dI 0)), (.op (.bin .Sub) [(.v 2), (.op (.bin .Pow) [(.k (dI 10)), (.k (dI 18))])])]), (.op (.bin .Add) [(.op (.bin .Mult) [(.op (.bin .Mod) [(.v 2), (.op (.bin .Add) [(.op (.bin .Pow) [(.k (dI 10)), (.k (dI 39))]), (.k (dI 39))])]), (.k (dI 83))]), (.v 1)]), (.k (dI 0))])]⟩
/-- 501 _law_next: 0:tape 1:many 2:digit 3:mixed -/
def F__law_next : Fd := ⟨2, 4, [
  .ite (.op (.cmp .Gt) [(.idx (.v 0) (.k (dI 0))), (.k (dI 0))]) [.asg (.nm 2) (.op (.bin .Mod) [(.idx (.v 0) (.k (dI 0))), (.v 1)]), .asg (.sub (.v 0) (.k (dI 0))) (.op (.bin .FloorDiv) [(.idx (.v 0) (.k (dI 0))), (.v 1)]), .ret (.v 2)] [],
  .asg (.sub (.v 0) (.k (dI 2))) (.op (.bin .Add) [(.idx (.v 0) (.k (dI 2))), (.k (dI 1))]),
  .asg (.nm 3) (.op (.bin .Mod) [(.op (.bin .Pow) [(.op (.bin .Add) [(.idx (.v 0) (.k (dI 1))), (.op (.bin .Mult) [(.k (dI 1000000007)), (.idx (.v 0) (.k (dI 2)))])]), (.k (dI 3))]), (.op (.bin .Add) [(.op (.bin .Pow) [(.k (dI 10)), (.k (dI 64))]), (.k (dI 57))])]),
  .asg (.nm 3) (.op (.bin .Mod) [(.op (.bin .Pow) [(.op (.bin .Add) [(.v 3), (.op (.bin .Mult) [(.k (dI 2147483629)), (.idx (.v 0) (.k (dI 2)))])]), (.k (dI 3))]), (.op (.bin .Add) [(.op (.bin .Pow) [(.k (dI 10)), (.k (dI 64))]), (.k (dI 9))])]),
  .ret (.op (.bin .Mod) [(.op (.bin .FloorDiv) [(.v 3), (.k (dI 31337))]), (.v 1)])]⟩
/-- 502 _law_shuffled: 0:tape 1:many 2:left 3:found 4:turn -/
def F__law_shuffled : Fd := ⟨2, 5, [
  .asgs [2, 3] [(.op .listrange [(.v 1)]), (.lst [])],
  .for_ (.nm 4) (.rng [(.v 1)]) [.ex (.mth (.v 3) 0 [(.mth (.v 2) 2 [(.call 501 [(.v 0), (.op .len [(.v 2)])])])])],
  .ret (.v 3)]⟩
/-- 503 _law_won: 0:order 1:found 2:blocks 3:later 4:spot 5:.0 6:player -/
def F__law_won : Fd := ⟨1, 7, [
  .asgs [1, 2] [(.op (.bin .Mult) [(.lst [(.k (dI 0))]), (.op .len [(.v 0)])]), (.lc [5, 6] (.nm 6) (.v 0) [] (.lst [(.v 6)]))],
  .whl (.op (.cmp .Gt) [(.op .len [(.v 2)]), (.k (dI 1))]) [.asg (.nm 3) (.lst []), .for_ (.nm 4) (.rng [(.k (dI 0)), (.op .len [(.v 2)]), (.k (dI 2))]) [.asg (.sub (.v 1) (.idx (.idx (.v 2) (.v 4)) (.k (dI 0)))) (.op (.bin .Add) [(.idx (.v 1) (.idx (.idx (.v 2) (.v 4)) (.k (dI 0)))), (.k (dI 1))]), .ex (.mth (.v 3) 0 [(.op (.bin .Add) [(.idx (.v 2) (.v 4)), (.idx (.v 2) (.op (.bin .Add) [(.v 4), (.k (dI 1))]))])])], .asg (.nm 2) (.v 3)],
  .ret (.v 1)]⟩
/-- 504 _law_claims: 0:tape 1:wide 2:most 3:found 4:players 5:turn 6:way 7:number -/
def F__law_claims : Fd := ⟨3, 8, [
  .asgs [3, 4] [(.lst []), (.idx (.lst [(.k (dI 1)), (.k (dI 2)), (.k (dI 4)), (.k (dI 8)), (.k (dI 16)), (.k (dI 32)), (.k (dI 64))]) (.v 1))],
  .for_ (.nm 5) (.rng [(.call 501 [(.v 0), (.op (.bin .Add) [(.v 2), (.k (dI 1))])])]) [.asg (.nm 6) (.op .min [(.k (dI 3)), (.op (.bin .Add) [(.op (.bin .FloorDiv) [(.call 501 [(.v 0), (.k (dI 6))]), (.k (dI 2))]), (.call 501 [(.v 0), (.k (dI 2))])])]), .asg (.nm 7) (.idx (.lst [(.call 501 [(.v 0), (.op (.bin .Add) [(.v 1), (.k (dI 1))])]), (.k (dI 0)), (.op .min [(.k (dI 1)), (.v 1)]), (.v 1)]) (.v 6)), .ex (.mth (.v 3) 0 [(.tup [(.call 501 [(.v 0), (.v 4)]), (.v 7)])])],
  .ret (.v 3)]⟩
/-- 505 _law_least: 0:wide 1:wants 2:found 3:player 4:number -/
def F__law_least : Fd := ⟨2, 5, [
  .asg (.nm 2) (.op (.bin .Mult) [(.lst [(.k (dI 0))]), (.idx (.lst [(.k (dI 1)), (.k (dI 2)), (.k (dI 4)), (.k (dI 8)), (.k (dI 16)), (.k (dI 32)), (.k (dI 64))]) (.v 0))]),
  .for_ (.tp [3, 4]) (.v 1) [.asg (.sub (.v 2) (.v 3)) (.op .max [(.idx (.v 2) (.v 3)), (.v 4)])],
  .ret (.v 2)]⟩
/-- 506 _law_seat_wins: 0:wide 1:found 2:turn -/
def F__law_seat_wins : Fd := ⟨1, 3, [
  .asg (.nm 1) (.lst [(.k (dI 0))]),
  .for_ (.nm 2) (.rng [(.v 0)]) [.asg (.nm 1) (.op (.bin .Add) [(.op (.bin .Add) [(.lst [(.op (.bin .Add) [(.idx (.v 1) (.k (dI 0))), (.k (dI 1))])]), (.op .slo [(.v 1), (.k (dI 1))])]), (.v 1)])],
  .ret (.v 1)]⟩
/-- 507 _law_ways: 0:seats 1:least 2:found 3:ready 4:left 5:taken 6:wins -/
def F__law_ways : Fd := ⟨2, 7, [
  .asgs [2, 3, 4] [(.k (dI 1)), (.k (dI 0)), (.op .sorted [(.v 1)])],
  .for_ (.tp [5, 6]) (.enm (.op .sorted [(.v 0)])) [.whl (.and (.op (.cmp .Lt) [(.v 3), (.op .len [(.v 4)])]) (.op (.cmp .LtE) [(.idx (.v 4) (.v 3)), (.v 6)])) [.asg (.nm 3) (.op (.bin .Add) [(.v 3), (.k (dI 1))])], .asg (.nm 2) (.op (.bin .Mult) [(.v 2), (.op .max [(.k (dI 0)), (.op (.bin .Sub) [(.v 3), (.v 5)])])])],
  .ret (.v 2)]⟩
/-- 508 _law_right: 0:tape 1:wide 2:wants 3:least 4:due 5:plain 6:.0 7:player 8:number -/
def F__law_right : Fd := ⟨3, 9, [
  .asg (.nm 3) (.call 505 [(.v 1), (.v 2)]),
  .asg (.nm 4) (.call 507 [(.call 506 [(.v 1)]), (.v 3)]),
  .ite (.op (.cmp .NotEq) [(.op .repr [(.lst [(.call 70 [(.v 1), (.v 2)]), (.callK 70 [(.op .rev [(.v 2)]), (.v 1)] [1, 0])])]), (.op .repr [(.lst [(.v 4), (.v 4)])])]) [.ret (.k (dB false))] [],
  .asg (.nm 5) (.lc [6, 7, 8] (.tp [7, 8]) (.enm (.v 3)) [(.op (.cmp .Gt) [(.v 8), (.k (dI 0))])] (.tup [(.v 7), (.v 8)])),
  .ret (.and (.op (.cmp .Eq) [(.call 70 [(.v 1), (.v 5)]), (.v 4)]) (.op (.cmp .Eq) [(.call 70 [(.v 1), (.op (.bin .Add) [(.op (.bin .Add) [(.op .rev [(.v 5)]), (.lst [(.tup [(.k (dI 0)), (.k (dI 0))])])]), (.v 5)])]), (.v 4)]))]⟩
/-- 509 law: 0:script 1:k 2:tape 3:turn 4:wide 5:wants 6:won 7:many 8:number 9:due 10:.0 11:player -/
def F_law : Fd := ⟨1, 12, [
  .for_ (.nm 1) (.rng [(.op .max [(.k (dI 1)), (.op .min [(.k (dI 4)), (.op .len [(.v 0)])])])]) [.asg (.nm 2) (.call 500 [(.v 0), (.v 1)]), .for_ (.nm 3) (.rng [(.k (dI 8))]) [.asg (.nm 4) (.op (.bin .Add) [(.k (dI 4)), (.call 501 [(.v 2), (.k (dI 3))])]), .asg (.nm 5) (.call 504 [(.v 2), (.v 4), (.idx (.lst [(.k (dI 2)), (.k (dI 6)), (.k (dI 15)), (.k (dI 200))]) (.call 501 [(.v 2), (.k (dI 4))]))]), .ite (.op (.cmp .Eq) [(.op (.bin .Mod) [(.v 3), (.k (dI 2))]), (.k (dI 0))]) [.asgs [6, 7] [(.call 503 [(.call 502 [(.v 2), (.idx (.lst [(.k (dI 16)), (.k (dI 32)), (.k (dI 64))]) (.op (.bin .Sub) [(.v 4), (.k (dI 4))]))])]), (.op (.bin .Add) [(.k (dI 1)), (.call 501 [(.v 2), (.op (.bin .Add) [(.v 4), (.k (dI 1))])])])], .asg (.nm 5) (.lc [10, 11, 8] (.tp [11, 8]) (.enm (.frz (.v 6))) [] (.tup [(.v 11), (.op .min [(.v 8), (.call 501 [(.v 2), (.v 7)])])]))] [], .ite (.not (.call 508 [(.v 2), (.v 4), (.v 5)])) [.ret (.k (dB false))] []]],
  .asg (.nm 9) (.k (dI 1)),
  .for_ (.nm 8) (.rng [(.k (dI 1)), (.k (dI 64))]) [.asg (.nm 9) (.op (.bin .Mult) [(.v 9), (.v 8)])],
  .ret (.and (.op (.cmp .Eq) [(.call 70 [(.k (dI 6)), (.lst [(.tup [(.k (dI 63)), (.k (dI 6))])])]), (.v 9)]) (.and (.op (.cmp .Eq) [(.call 70 [(.k (dI 6)), (.lst [])]), (.op (.bin .Mult) [(.k (dI 64)), (.v 9)])]) (.op (.cmp .Eq) [(.call 70 [(.k (dI 4)), (.lst [(.tup [(.k (dI 0)), (.k (dI 4))]), (.tup [(.k (dI 5)), (.k (dI 4))])])]), (.k (dI 0))])))]⟩
/-- 19 Talk.with_result: 0:self 1:one 2:other -/
def F_Talk_with_result : Fd := ⟨3, 3, [
  .ex .bad]⟩
/-- 20 Talk.with_claim: 0:self 1:player 2:number -/
def F_Talk_with_claim : Fd := ⟨3, 3, [
  .ex .bad]⟩
/-- 68 Seats.ways_with: 0:self 1:number -/
def F_Seats_ways_with : Fd := ⟨2, 2, [
  .ex .bad]⟩
def Tb : Nat → Option Fd
  | 2 => some PF.F_is_integer
  | 3 => some PF.F_is_size
  | 4 => some PF.F_is_player
  | 5 => some PF.F_is_result
  | 6 => some PF.F_is_claim
  | 7 => some PF.F_are_results
  | 8 => some PF.F_are_claims
  | 9 => some PF.F_plain_results
  | 10 => some PF.F_plain_claims
  | 70 => some PF.F_count_cups
  | 500 => some F__law_tape
  | 501 => some F__law_next
  | 502 => some F__law_shuffled
  | 503 => some F__law_won
  | 504 => some F__law_claims
  | 505 => some F__law_least
  | 506 => some F__law_seat_wins
  | 507 => some F__law_ways
  | 508 => some F__law_right
  | 509 => some F_law
  | 11 => some PF.F_Talk___init__
  | 12 => some PF.F_Talk_size
  | 13 => some PF.F_Talk_results
  | 14 => some PF.F_Talk_claims
  | 15 => some PF.F_Talk___len__
  | 16 => some PF.F_Talk___add__
  | 17 => some PF.F_Talk___eq__
  | 18 => some PF.F_Talk___contains__
  | 19 => some F_Talk_with_result
  | 20 => some F_Talk_with_claim
  | 21 => some PF.F_LongTalk___init__
  | 66 => some PF.F_Seats___init__
  | 67 => some PF.F_Seats_ways
  | 68 => some F_Seats_ways_with
  | 69 => some PF.F_Seats_put
  | _ => none
end K41
/-! K41_a -/
namespace K41
open PySem L2 VI
/-- a tape that can be asked k times more -/
def TP (k : Nat) (t : D) : Prop := ∃ a b c : Int, t = dL true [dI a, dI b, dI c] ∧ 0 ≤ a ∧ 0 ≤ b ∧ b < 10 ^ 60 ∧ 0 ≤ c ∧ c + k ≤ 1000000000
theorem TP.le {j k : Nat} {t : D} (h : TP k t) (l : j ≤ k) : TP j t := by
  obtain ⟨a, b, c, h1, h2, h3, h4, h5, h6⟩ := h
  exact ⟨a, b, c, h1, h2, h3, h4, h5, by omega⟩
def NextOk (cl : Cl) (f : Nat) : Prop := ∀ (k : Nat) (t : D) (m : Int), TP (k + 1) t → 0 < m → m < 1073741824 → ∃ r t', cl f [t, dI m] = some (dI r, [t', dI m]) ∧ 0 ≤ r ∧ r < m ∧ TP k t'
theorem bits_lt {x : Int} {m : Nat} (h0 : -(2 ^ m) < x) (h : x < 2 ^ m) : Builtin.Int.intBits x ≤ m := by
  rw [PySem.intBits_le_iff]
  have : ((x.natAbs : Nat) : Int) < ((2 ^ m : Nat) : Int) := by simp only [Int.natCast_pow, Int.cast_ofNat_Int]; omega
  omega
theorem pow3 {Φ : Prg} {x : Int} (h0 : -(2 ^ 250) < x) (h : x < 2 ^ 250) : opX Φ (.bin .Pow) [dI x, dI 3] = some (dI (x ^ 3)) := by
  refine opd_pow ⟨by decide, ?_⟩
  have := bits_lt h0 h
  omega
theorem next_ok {Φ : Prg} {Tb : Nat → Option Fd} {n f : Nat} (hf : Tb f = some F__law_next) : NextOk (callN Φ Tb (n + 1)) f := by
  intro k t m ⟨a, b, c, ht, ha, hb, hb2, hc, hk⟩ hm hm2
  subst ht
  have e1 : m.natAbs < 1073741824 := by omega
  have e0 : m ≠ 0 := by omega
  suffices h : ∃ d os, callN Φ Tb (n + 1) f [dL true [dI a, dI b, dI c], dI m] = some (d, os) ∧ (∃ r t', d = dI r ∧ os = [t', dI m] ∧ 0 ≤ r ∧ r < m ∧ TP k t') by
    obtain ⟨d, os, h, r, t', rfl, rfl, g⟩ := h
    exact ⟨r, t', h, g⟩
  refine call_fn hf ⟨rfl, by decide⟩ ?_
  simp only [F__law_next, dfuel, start0, List.map_cons, List.map_nil, List.replicate_succ, List.replicate_zero, List.cons_append, List.nil_append, Nat.reduceSub]
  have i0 : ∀ (x y z : Int), ixOf (dL true [dI x, dI y, dI z]) (dI 0) = some 0 := fun x y z => ix_L rfl (by simp)
  have i1 : ∀ (x y z : Int), ixOf (dL true [dI x, dI y, dI z]) (dI 1) = some 1 := fun x y z => ix_L rfl (by simp)
  have i2 : ∀ (x y z : Int), ixOf (dL true [dI x, dI y, dI z]) (dI 2) = some 2 := fun x y z => ix_L rfl (by simp)
  have s0 : ∀ (x y z : Int) d, setIx (dL true [dI x, dI y, dI z]) (dI 0) d = some (dL true [d, dI y, dI z]) := fun x y z d => six_L (n := 0) rfl (by simp)
  have s2 : ∀ (x y z : Int) d, setIx (dL true [dI x, dI y, dI z]) (dI 2) d = some (dL true [dI x, dI y, d]) := fun x y z d => six_L (n := 2) rfl (by simp)
  (refine' WSs.ite ?h1_1 ?h2_1 ?h3_1; (case h1_1 => (simp only [EVB, below, permL, tgOk, tgs, reduceCtorEq, List.isPrefixOf, start0, Nat.reduceAdd, Nat.reduceSub, Nat.reduceLT, Nat.reduceLeDiff, Nat.reduceEqDiff, Nat.reduceBEq, Nat.reduceBNe, i0] <;> rfl)))
  · intro h
    (refine' WSs.step ?h1_2 ?h2_2 ?h3_2; (case h1_2 => (simp only [EVB, below, permL, tgOk, tgs, reduceCtorEq, List.isPrefixOf, start0, Nat.reduceAdd, Nat.reduceSub, Nat.reduceLT, Nat.reduceLeDiff, Nat.reduceEqDiff, Nat.reduceBEq, Nat.reduceBNe, i0, e0, e1] <;> rfl)); (case h3_2 => first | decide | (intro j hj; simp at hj; try omega)))
    (refine' WSs.step ?h1_3 ?h2_3 ?h3_3; (case h1_3 => (simp only [EVB, below, permL, tgOk, tgs, reduceCtorEq, List.isPrefixOf, start0, Nat.reduceAdd, Nat.reduceSub, Nat.reduceLT, Nat.reduceLeDiff, Nat.reduceEqDiff, Nat.reduceBEq, Nat.reduceBNe, i0, e0, e1, s0] <;> rfl)); (case h3_3 => first | decide | (intro j hj; simp at hj; try omega)))
    (refine' WSs.ret ?h1_4 ?h2_4 ?h3_4; (case h1_4 => (simp only [EVB, below, permL, tgOk, tgs, reduceCtorEq, List.isPrefixOf, start0, Nat.reduceAdd, Nat.reduceSub, Nat.reduceLT, Nat.reduceLeDiff, Nat.reduceEqDiff, Nat.reduceBEq, Nat.reduceBNe] <;> rfl)); (case h3_4 => first | decide | (intro j hj; simp at hj; try omega)))
    refine ⟨_, by simp only [EVB, below, permL, tgOk, tgs, reduceCtorEq, List.isPrefixOf, start0, Nat.reduceAdd, Nat.reduceSub, Nat.reduceLT, Nat.reduceLeDiff, Nat.reduceEqDiff, Nat.reduceBEq, Nat.reduceBNe] <;> rfl, _, _, rfl, rfl, ?_, ?_, a.fdiv m, b, c, rfl, ?_, hb, hb2, hc, by omega⟩
    · exact Int.fmod_nonneg_of_pos _ hm
    · exact Int.fmod_lt_of_pos _ hm
    · exact Int.fdiv_nonneg ha (by omega)
  · intro h
    refine WSs.nil ?_
    have p1 : opX Φ (.bin .Pow) [dI 10, dI 64] = some (dI (10 ^ 64)) := opd_pow ⟨by decide, by decide⟩
    have q1 : small64 1000000007 = true := by decide
    have q2 : small64 2147483629 = true := by decide
    have g1 : -(2 ^ 250) < b + 1000000007 * (c + 1) ∧ b + 1000000007 * (c + 1) < 2 ^ 250 := by
      have : (10 : Int) ^ 60 < 2 ^ 200 := by decide
      have : (2 : Int) ^ 200 + 2 ^ 200 < 2 ^ 250 := by decide
      have : (1000000007 : Int) * 1000000001 < 2 ^ 200 := by decide
      omega
    have m3 : (10 : Int) ^ 64 + 57 ≠ 0 := by decide
    have m4 : (10 : Int) ^ 64 + 9 ≠ 0 := by decide
    have m1 : (0 : Int) < 10 ^ 64 + 57 := by decide
    have m2 : (0 : Int) < 10 ^ 64 + 9 := by decide
    (refine' WSs.step ?h1_5 ?h2_5 ?h3_5; (case h1_5 => (simp only [EVB, below, permL, tgOk, tgs, reduceCtorEq, List.isPrefixOf, start0, Nat.reduceAdd, Nat.reduceSub, Nat.reduceLT, Nat.reduceLeDiff, Nat.reduceEqDiff, Nat.reduceBEq, Nat.reduceBNe, i2, s2] <;> rfl)); (case h3_5 => first | decide | (intro j hj; simp at hj; try omega)))
    generalize hX : ((b + 1000000007 * (c + 1)) ^ 3).fmod (10 ^ 64 + 57) = X
    have hX1 : 0 ≤ X := by rw [← hX]; exact Int.fmod_nonneg_of_pos _ m1
    have hX2 : X < 10 ^ 64 + 57 := by rw [← hX]; exact Int.fmod_lt_of_pos _ m1
    have g2 : -(2 ^ 250) < X + 2147483629 * (c + 1) ∧ X + 2147483629 * (c + 1) < 2 ^ 250 := by
      have : (10 : Int) ^ 64 + 57 < 2 ^ 220 := by decide
      have : (2 : Int) ^ 220 + 2 ^ 200 < 2 ^ 250 := by decide
      have : (2147483629 : Int) * 1000000001 < 2 ^ 200 := by decide
      omega
    (refine' WSs.step ?h1_6 ?h2_6 ?h3_6; (case h1_6 => (simp only [EVB, below, permL, tgOk, tgs, reduceCtorEq, List.isPrefixOf, start0, Nat.reduceAdd, Nat.reduceSub, Nat.reduceLT, Nat.reduceLeDiff, Nat.reduceEqDiff, Nat.reduceBEq, Nat.reduceBNe, i1, i2, p1, pow3 g1.1 g1.2, opd_mul, q1, q2, m3, hX] <;> rfl)); (case h3_6 => first | decide | (intro j hj; simp at hj; try omega)))
    (refine' WSs.step ?h1_7 ?h2_7 ?h3_7; (case h1_7 => (simp only [EVB, below, permL, tgOk, tgs, reduceCtorEq, List.isPrefixOf, start0, Nat.reduceAdd, Nat.reduceSub, Nat.reduceLT, Nat.reduceLeDiff, Nat.reduceEqDiff, Nat.reduceBEq, Nat.reduceBNe, i1, i2, p1, pow3 g2.1 g2.2, opd_mul, q1, q2, m4] <;> rfl)); (case h3_7 => first | decide | (intro j hj; simp at hj; try omega)))
    have h1 : (31337 : Int) ≠ 0 := by decide
    have h2 : (31337 : Int).natAbs < 1073741824 := by decide
    (refine' WSs.ret ?h1_8 ?h2_8 ?h3_8; (case h1_8 => (simp only [EVB, below, permL, tgOk, tgs, reduceCtorEq, List.isPrefixOf, start0, Nat.reduceAdd, Nat.reduceSub, Nat.reduceLT, Nat.reduceLeDiff, Nat.reduceEqDiff, Nat.reduceBEq, Nat.reduceBNe, e0, h1, h2] <;> rfl)); (case h3_8 => first | decide | (intro j hj; simp at hj; try omega)))
    refine ⟨_, by simp only [EVB, below, permL, tgOk, tgs, reduceCtorEq, List.isPrefixOf, start0, Nat.reduceAdd, Nat.reduceSub, Nat.reduceLT, Nat.reduceLeDiff, Nat.reduceEqDiff, Nat.reduceBEq, Nat.reduceBNe] <;> rfl, _, _, rfl, rfl, Int.fmod_nonneg_of_pos _ hm, Int.fmod_lt_of_pos _ hm, a, b, c + 1, rfl, ha, hb, hb2, by omega, by omega⟩
end K41
/-! K41_b -/
namespace K41
open PySem L2 VI
def pwL : List D := [dI 1, dI 2, dI 4, dI 8, dI 16, dI 32, dI 64]
theorem pwL_ix {w : Nat} (h : w ≤ 6) : ixOf (dL true [dI 1, dI 2, dI 4, dI 8, dI 16, dI 32, dI 64]) (dI w) = some w := ix_L rfl (by show w < 7; omega)
theorem pwL_at {w : Nat} (h : w ≤ 6) : ∃ N : Int, [dI 1, dI 2, dI 4, dI 8, dI 16, dI 32, dI 64][w]? = some (dI N) ∧ N = 2 ^ w := ⟨_, pw_at h, rfl⟩
section
variable {Φ : Prg} {Tb : Nat → Option Fd} {n w : Nat}
theorem least_ok {o : Bool} {cs : List (Int × Int)} {f : Nat} (hf : Tb f = some F__law_least) (hw : w ≤ 6) (hc : ∀ c ∈ cs, ValidC w c) :
    callN Φ Tb (n + 1) f [dI w, dL o (cs.map cD)] = some (dL true (((upto (2 ^ w)).map (bestC cs)).map dI), [dI w, dL o (cs.map cD)]) := by
  refine call_eq hf ⟨rfl, by decide⟩ ?_
  simp only [F__law_least, dfuel, start0, List.map_cons, List.map_nil, List.replicate_succ, List.replicate_zero, List.cons_append, List.nil_append, Nat.reduceSub]
  obtain ⟨N, hat, hN⟩ := pwL_at hw
  have hrep := rep0 (Φ := Φ) hw hN
  (refine' WSs.step ?h1_1 ?h2_1 ?h3_1; (case h1_1 => (simp only [EVB, below, permL, tgOk, tgs, reduceCtorEq, List.isPrefixOf, start0, Nat.reduceAdd, Nat.reduceSub, Nat.reduceLT, Nat.reduceLeDiff, Nat.reduceEqDiff, Nat.reduceBEq, Nat.reduceBNe, pwL_ix hw, hat, hrep] <;> rfl)); (case h3_1 => first | decide | (intro j hj; simp at hj; try omega)))
  have p64 := pw_le hw
  refine WSs.cons (WS.forL (f := cD) (l := cs) (o := o) (z := 55) (fun j => 2 ≤ j) (fun pre Γ => ∃ e3 e4 : Option D, Γ = [some (.own (dI w)), some (.own (dL o (cs.map cD))), some (.own (dL true (((upto (2 ^ w)).map (bestC pre)).map dI))), oD e3, oD e4]) (fun _ => rfl) ?_ (fun j h => h) (by decide) (by decide) ⟨none, none, rfl⟩ ?_ ?_)
  · rintro pre Γ ⟨e2, e3, rfl⟩; rfl
  · rintro pre c post e Γ ⟨e2, e3, rfl⟩
    obtain ⟨c1, c2, c3, c4⟩ := hc c (by rw [e]; simp)
    obtain ⟨m, hm⟩ : ∃ m : Nat, c.1 = m := ⟨c.1.toNat, by omega⟩
    have hml : m < 2 ^ w := by
      have : (m : Int) < ((2 ^ w : Nat) : Int) := by rw [← hm]; simpa using c2
      omega
    refine ⟨_, asg_tp (by simp) (by simp) (by decide), ?_⟩
    have ix : ixOf (dL true (((upto (2 ^ w)).map (bestC pre)).map dI)) (dI c.1) = some m := ix_L hm (by simp [upto]; exact hml)
    have at1 : (((upto (2 ^ w)).map (bestC pre)).map dI)[m]? = some (dI (bestC pre m)) := upto_at hml
    have hset : ∀ v, setIx (dL true (((upto (2 ^ w)).map (bestC pre)).map dI)) (dI c.1) (dI v) = some (dL true (((upto (2 ^ w)).map fun q => if q = (m : Int) then v else bestC pre q).map dI)) := fun v => by
      rw [six_L (n := m) hm (by simp [upto]; exact hml), upto_set]
    (refine' WSs.step ?h1_2 ?h2_2 ?h3_2; (case h1_2 => (simp only [EVB, below, permL, tgOk, tgs, reduceCtorEq, List.isPrefixOf, start0, Nat.reduceAdd, Nat.reduceSub, Nat.reduceLT, Nat.reduceLeDiff, Nat.reduceEqDiff, Nat.reduceBEq, Nat.reduceBNe, ix, at1, hset] <;> rfl)); (case h3_2 => first | decide | (intro j hj; simp at hj; try omega)))
    refine WSs.nil ⟨some (dI c.1), some (dI c.2), ?_⟩
    have : ((upto (2 ^ w)).map fun q => if q = (m : Int) then (if c.2 > bestC pre m then c.2 else bestC pre m) else bestC pre q) = (upto (2 ^ w)).map (bestC (pre ++ [c])) := by
      refine List.map_congr_left fun q _ => ?_
      rw [bestC_snoc, hm]
      by_cases hq : q = (m : Int)
      · rw [if_pos hq, if_pos hq.symm, hq]
        split <;> omega
      · rw [if_neg hq, if_neg fun h => hq h.symm]
    rw [this]
    rfl
  · rintro Γ ⟨e2, e3, rfl⟩
    (refine' WSs.ret ?h1_3 ?h2_3 ?h3_3; (case h1_3 => (simp only [EVB, below, permL, tgOk, tgs, reduceCtorEq, List.isPrefixOf, start0, Nat.reduceAdd, Nat.reduceSub, Nat.reduceLT, Nat.reduceLeDiff, Nat.reduceEqDiff, Nat.reduceBEq, Nat.reduceBNe] <;> rfl)); (case h3_3 => first | decide | (intro j hj; simp at hj; try omega)))
    cases o <;> exact ⟨by simp only [EVB, below, permL, tgOk, tgs, reduceCtorEq, List.isPrefixOf, start0, Nat.reduceAdd, Nat.reduceSub, Nat.reduceLT, Nat.reduceLeDiff, Nat.reduceEqDiff, Nat.reduceBEq, Nat.reduceBNe], rfl⟩
/-- the wins at the places -/
def seatW : Nat → List Int
  | 0 => [0]
  | w + 1 => ((seatW w).headD 0 + 1) :: ((seatW w).drop 1 ++ seatW w)
theorem seatW_len : ∀ w, (seatW w).length = 2 ^ w
  | 0 => rfl
  | w + 1 => by
    have := seatW_len w
    have h : 0 < 2 ^ w := Nat.pow_pos (by decide)
    rw [seatW, List.length_cons, List.length_append, List.length_drop, this, Nat.pow_succ]
    omega
theorem seatW_ne (w : Nat) : ∃ a l, seatW w = a :: l := by
  cases h : seatW w with
  | nil =>
    have := seatW_len w
    rw [h] at this
    have h0 : 0 < 2 ^ w := Nat.pow_pos (by decide)
    simp at this
    omega
  | cons a l => exact ⟨a, l, rfl⟩
theorem seatW_ge {w k : Nat} (hw : w ≤ 6) (hk : k ≤ w) : (cntGe (seatW w) (k : Int) : Int) = 2 ^ (w - k) := by
  match w, hw with
  | 0, _ => match k, hk with | 0, _ => rfl
  | 1, _ => match k, hk with | 0, _ | 1, _ => decide
  | 2, _ => match k, hk with | 0, _ | 1, _ | 2, _ => decide
  | 3, _ => match k, hk with | 0, _ | 1, _ | 2, _ | 3, _ => decide
  | 4, _ => match k, hk with | 0, _ | 1, _ | 2, _ | 3, _ | 4, _ => decide
  | 5, _ => match k, hk with | 0, _ | 1, _ | 2, _ | 3, _ | 4, _ | 5, _ => decide
  | 6, _ => match k, hk with | 0, _ | 1, _ | 2, _ | 3, _ | 4, _ | 5, _ | 6, _ => decide
  | n + 7, h => omega
theorem cut_1 {o : Bool} {xs : List Int} {Φ : Prg} : opX Φ .slo [dL o (xs.map dI), dI 1] = some (dL true ((xs.drop 1).map dI)) := by
  rw [opd_slo allSh_ints]
  congr 2
  unfold cutD
  rw [show (1 : Int) = ((1 : Nat) : Int) from rfl, HT.sIx_nat, HT.sIx_none, List.length_map, ← List.map_drop, ← List.map_take]
  congr 1
  rw [List.take_of_length_le (by simp)]
  cases xs with
  | nil => rfl
  | cons x l => rw [show min 1 (x :: l).length = 1 by simp]
theorem seat_wins_ok {f : Nat} (hf : Tb f = some F__law_seat_wins) (hw : w ≤ 6) : callN Φ Tb (n + 1) f [dI w] = some (dL true ((seatW w).map dI), [dI w]) := by
  refine call_eq hf ⟨rfl, by decide⟩ ?_
  simp only [F__law_seat_wins, dfuel, start0, List.map_cons, List.map_nil, List.replicate_succ, List.replicate_zero, List.cons_append, List.nil_append, Nat.reduceSub]
  have hrg : rngX [dI (w : Int)] = some ((upto w).map dI) := rng_upto rfl (by omega)
  (refine' WSs.step ?h1_4 ?h2_4 ?h3_4; (case h1_4 => (simp only [EVB, below, permL, tgOk, tgs, reduceCtorEq, List.isPrefixOf, start0, Nat.reduceAdd, Nat.reduceSub, Nat.reduceLT, Nat.reduceLeDiff, Nat.reduceEqDiff, Nat.reduceBEq, Nat.reduceBNe] <;> rfl)); (case h3_4 => first | decide | (intro j hj; simp at hj; try omega)))
  (refine' WSs.cons (WS.for_ ?h1_5 ?h2_5 ?h3_5); (case h1_5 => first | rfl | (simp only [EVB, below, permL, tgOk, tgs, reduceCtorEq, List.isPrefixOf, start0, Nat.reduceAdd, Nat.reduceSub, Nat.reduceLT, Nat.reduceLeDiff, Nat.reduceEqDiff, Nat.reduceBEq, Nat.reduceBNe, hrg] <;> rfl)); (case h2_5 => (simp only [EVB, below, permL, tgOk, tgs, reduceCtorEq, List.isPrefixOf, start0, Nat.reduceAdd, Nat.reduceSub, Nat.reduceLT, Nat.reduceLeDiff, Nat.reduceEqDiff, Nat.reduceBEq, Nat.reduceBNe, hrg] <;> rfl)))
  rw [List.map_map]
  refine WFo.inv (fun pre Γ => ∃ e2 : Option D, Γ = [some (.own (dI w)), some (.own (dL true ((seatW pre.length).map dI))), oD e2]) ⟨none, rfl⟩ (by decide) ?_ ?_
  · rintro pre x post e Γ ⟨e2, rfl⟩
    refine ⟨_, asg_nm (by simp) (by rfl), ?_⟩
    obtain ⟨a, l, hal⟩ := seatW_ne pre.length
    have hlen := seatW_len pre.length
    have hpw : pre.length < w := by
      have := congrArg List.length e
      rw [upto_length, List.length_append, List.length_cons] at this
      omega
    have h64 : 2 ^ pre.length ≤ 64 := (pw_le (s := pre.length) (by omega)).2.2
    have ix : ixOf (dL true ((seatW pre.length).map dI)) (dI 0) = some 0 := ix_L rfl (by rw [List.length_map, hlen]; exact Nat.pow_pos (by decide))
    have at1 : ((seatW pre.length).map dI)[0]? = some (dI a) := by rw [hal]; rfl
    have c1 : opX Φ (.bin .Add) [dL true [dI (a + 1)], dL true (((seatW pre.length).drop 1).map dI)] = some (dL true ([dI (a + 1)] ++ ((seatW pre.length).drop 1).map dI)) := opd_cat (by rfl) allSh_ints (le_lim (by simp; omega))
    have c2 : opX Φ (.bin .Add) [dL true ([dI (a + 1)] ++ ((seatW pre.length).drop 1).map dI), dL true ((seatW pre.length).map dI)] = some (dL true ((seatW (pre.length + 1)).map dI)) := by
      rw [opd_cat (by rw [allSh_append, allSh_ints]; rfl) allSh_ints (le_lim (by simp; omega))]
      rw [seatW, hal]
      simp
    rw [List.singleton_append] at c1 c2
    (refine' WSs.step ?h1_6 ?h2_6 ?h3_6; (case h1_6 => (simp only [EVB, below, permL, tgOk, tgs, reduceCtorEq, List.isPrefixOf, start0, Nat.reduceAdd, Nat.reduceSub, Nat.reduceLT, Nat.reduceLeDiff, Nat.reduceEqDiff, Nat.reduceBEq, Nat.reduceBNe, ix, at1, cut_1, c1, c2] <;> rfl)); (case h3_6 => first | decide | (intro j hj; simp at hj; try omega)))
    exact WSs.nil ⟨some (dI x), by rw [List.length_append, List.length_singleton]; rfl⟩
  · rintro Γ ⟨e2, rfl⟩
    rw [upto_length]
    (refine' WSs.ret ?h1_7 ?h2_7 ?h3_7; (case h1_7 => (simp only [EVB, below, permL, tgOk, tgs, reduceCtorEq, List.isPrefixOf, start0, Nat.reduceAdd, Nat.reduceSub, Nat.reduceLT, Nat.reduceLeDiff, Nat.reduceEqDiff, Nat.reduceBEq, Nat.reduceBNe] <;> rfl)); (case h3_7 => first | decide | (intro j hj; simp at hj; try omega)))
    exact ⟨by simp only [EVB, below, permL, tgOk, tgs, reduceCtorEq, List.isPrefixOf, start0, Nat.reduceAdd, Nat.reduceSub, Nat.reduceLT, Nat.reduceLeDiff, Nat.reduceEqDiff, Nat.reduceBEq, Nat.reduceBNe], rfl⟩
theorem cntLe_srt {l : List Int} {x : Int} : cntLe (srt l) x = cntLe l x := (srt_perm l).countP_eq _
/-- in an ascending list the items up to x stand first -/
theorem asc_cnt {x : Int} : ∀ {l : List Int}, l.Pairwise (· ≤ ·) → ∀ r, r < l.length → (r < cntLe l x ↔ ∃ v, l[r]? = some v ∧ v ≤ x)
  | [], _, r, h => by simp at h
  | y :: l, hp, r, h => by
    rw [List.pairwise_cons] at hp
    rw [cntLe_cons]
    by_cases q : y ≤ x
    · rw [if_pos q]
      cases r with
      | zero => exact ⟨fun _ => ⟨y, rfl, q⟩, fun _ => by omega⟩
      | succ r =>
        have := asc_cnt (x := x) hp.2 r (by simpa using h)
        rw [List.getElem?_cons_succ]
        rw [← this]
        omega
    · rw [if_neg q]
      have h0 : cntLe l x = 0 := by
        unfold cntLe
        rw [List.countP_eq_zero]
        intro z hz
        have := hp.1 z hz
        simp; omega
      rw [h0]
      constructor
      · intro h; omega
      · rintro ⟨v, hv, hv2⟩
        cases r with
        | zero => simp at hv; omega
        | succ r =>
          have := hp.1 v (List.mem_of_getElem? (by simpa using hv))
          omega
theorem cntLe_le {l : List Int} {x : Int} : cntLe l x ≤ l.length := List.countP_le_length
/-- the product by seats, from the lowest place on -/
theorem lways_ok {seats least : List Int} {f : Nat} (hf : Tb f = some F__law_ways) (h1 : seats.length ≤ 1000) (h2 : least.length ≤ 1000) :
    callN Φ Tb (n + 1) f [dL true (seats.map dI), dL true (least.map dI)] = some (dI (BB (srt seats).reverse least : Nat), [dL true (seats.map dI), dL true (least.map dI)]) := by
  refine call_eq hf ⟨rfl, by decide⟩ ?_
  simp only [F__law_ways, dfuel, start0, List.map_cons, List.map_nil, List.replicate_succ, List.replicate_zero, List.cons_append, List.nil_append, Nat.reduceSub]
  have so1 : opX Φ .sorted [dL true (seats.map dI)] = some (dL true ((srt seats).map dI)) := opd_sorted (sortD_ints (le_lim (by omega)))
  have so2 : opX Φ .sorted [dL true (least.map dI)] = some (dL true ((srt least).map dI)) := opd_sorted (sortD_ints (le_lim (by omega)))
  have he : ∀ Γ Γ1 : VI.Ctx, enmR Γ (.vl (dL true ((srt seats).map dI)) Γ1 true) = some (enI ((srt seats).map dI), Γ1, true, .free) := fun Γ Γ1 => enm_vl allSh_ints
  have hll := srt_length least
  (refine' WSs.step ?h1_8 ?h2_8 ?h3_8; (case h1_8 => (simp only [EVB, below, permL, tgOk, tgs, reduceCtorEq, List.isPrefixOf, start0, Nat.reduceAdd, Nat.reduceSub, Nat.reduceLT, Nat.reduceLeDiff, Nat.reduceEqDiff, Nat.reduceBEq, Nat.reduceBNe, so2] <;> rfl)); (case h3_8 => first | decide | (intro j hj; simp at hj; try omega)))
  (refine' WSs.cons (WS.for_ ?h1_9 ?h2_9 ?h3_9); (case h1_9 => first | rfl | (simp only [EVB, below, permL, tgOk, tgs, reduceCtorEq, List.isPrefixOf, start0, Nat.reduceAdd, Nat.reduceSub, Nat.reduceLT, Nat.reduceLeDiff, Nat.reduceEqDiff, Nat.reduceBEq, Nat.reduceBNe, so1, he] <;> rfl)); (case h2_9 => (simp only [EVB, below, permL, tgOk, tgs, reduceCtorEq, List.isPrefixOf, start0, Nat.reduceAdd, Nat.reduceSub, Nat.reduceLT, Nat.reduceLeDiff, Nat.reduceEqDiff, Nat.reduceBEq, Nat.reduceBNe, so1, he] <;> rfl)))
  rw [enI_eq]
  refine WFo.inv (fun pre Γ => ∃ (ready : Nat) (e5 e6 : Option D), Γ = [some (.own (dL true (seats.map dI))), some (.own (dL true (least.map dI))), some (.own (dI (BB ((srt seats).take pre.length).reverse least : Nat))), some (.own (dI ready)), some (.own (dL true ((srt least).map dI))), oD e5, oD e6] ∧ ready ≤ least.length ∧ ∀ x, (srt seats)[pre.length]? = some x → ready ≤ cntLe least x)
    ⟨0, none, none, rfl, Nat.zero_le _, fun _ _ => Nat.zero_le _⟩ (by decide) ?_ ?_
  · rintro pre x post e Γ ⟨ready, e5, e6, rfl, hr, hrx⟩
    obtain ⟨v, hv, hx⟩ : ∃ v, (srt seats)[pre.length]? = some v ∧ x = (dI v, pre.length) := by
      have h3 : ((srt seats).map dI).zipIdx[pre.length]? = some x := by rw [e]; simp
      rw [List.getElem?_zipIdx, List.getElem?_map] at h3
      cases h4 : (srt seats)[pre.length]? with
      | none => rw [h4] at h3; cases h3
      | some v =>
        rw [h4] at h3
        refine ⟨v, rfl, ?_⟩
        have h3 : (dI v, 0 + pre.length) = x := Option.some.inj h3
        rw [← h3, Nat.zero_add]
    subst hx
    refine ⟨_, asg_two (by simp) (by simp) (by decide) rfl rfl, ?_⟩
    have hsl : pre.length < seats.length := by
      rw [← srt_length seats]; exact (List.getElem?_eq_some_iff.mp hv).1
    have hcl := cntLe_le (l := least) (x := v)
    have hBB : BB ((srt seats).take (pre.length + 1)).reverse least = (cntLe least v - pre.length) * BB ((srt seats).take pre.length).reverse least := by
      rw [List.take_succ, hv]
      rw [show ((some v).toList : List Int) = [v] from rfl, List.reverse_append, List.reverse_singleton, List.singleton_append, BB, List.length_reverse, List.length_take, srt_length, Nat.min_eq_left (by omega)]
    generalize hB1 : BB ((srt seats).take pre.length).reverse least = B1 at *
    have hmx : (if ((cntLe least v : Nat) : Int) - (pre.length : Int) > 0 then ((cntLe least v : Nat) : Int) - (pre.length : Int) else 0) = ((cntLe least v - pre.length : Nat) : Int) := by
      split <;> omega
    have sm : small64 ((cntLe least v - pre.length : Nat) : Int) = true := small_of (by omega)
    have hmul : opX Φ (.bin .Mult) [dI (B1 : Int), dI (if ((cntLe least v : Nat) : Int) - (pre.length : Int) > 0 then ((cntLe least v : Nat) : Int) - (pre.length : Int) else 0)] = some (dI (BB ((srt seats).take (pre.length + 1)).reverse least : Nat)) := by
      rw [hmx, opd_mul (.inr sm), hBB, Int.natCast_mul, Int.mul_comm]
    have hnext : ∀ x', (srt seats)[pre.length + 1]? = some x' → cntLe least v ≤ cntLe least x' := by
      intro x' hx'
      have h5 : v ≤ x' := by
        obtain ⟨a1, a2⟩ := List.getElem?_eq_some_iff.mp hv
        obtain ⟨b1, b2⟩ := List.getElem?_eq_some_iff.mp hx'
        have := List.pairwise_iff_getElem.mp (srt_sorted seats) pre.length (pre.length + 1) a1 b1 (by omega)
        rw [a2, b2] at this
        exact this
      exact List.countP_mono_left fun a _ h => by simp at h ⊢; omega
    refine WSs.cons (WS.whl (fun m Γ => ∃ r : Nat, Γ = [some (.own (dL true (seats.map dI))), some (.own (dL true (least.map dI))), some (.own (dI (B1 : Int))), some (.own (dI r)), some (.own (dL true ((srt least).map dI))), some (.own (dI (pre.length : Int))), some (.own (dI v))] ∧ r ≤ cntLe least v ∧ m = cntLe least v - r) (n := cntLe least v - ready) (by unfold wfuel; omega) ⟨ready, ?_, hrx v hv, rfl⟩ ?_)
    · simp only [EVB, below, permL, tgOk, tgs, reduceCtorEq, List.isPrefixOf, start0, Nat.reduceAdd, Nat.reduceSub, Nat.reduceLT, Nat.reduceLeDiff, Nat.reduceEqDiff, Nat.reduceBEq, Nat.reduceBNe]
    · rintro m Γ ⟨r, rfl, hrc, hm⟩
      by_cases hlt : r < least.length
      · obtain ⟨u, hu⟩ : ∃ u, (srt least)[r]? = some u := ⟨_, List.getElem?_eq_getElem (by rw [hll]; exact hlt)⟩
        have ix : ixOf (dL true ((srt least).map dI)) (dI (r : Int)) = some r := ix_L rfl (by rw [List.length_map, hll]; exact hlt)
        have at1 : ((srt least).map dI)[r]? = some (dI u) := by rw [List.getElem?_map, hu]; rfl
        have hlt' : (r : Int) < (((srt least).map dI).length : Int) := by rw [List.length_map, hll]; omega
        have key := asc_cnt (x := v) (srt_sorted least) r (by rw [hll]; exact hlt)
        rw [cntLe_srt, hu] at key
        refine ⟨decide (u ≤ v), _, _, by simp only [EVB, below, permL, tgOk, tgs, reduceCtorEq, List.isPrefixOf, start0, Nat.reduceAdd, Nat.reduceSub, Nat.reduceLT, Nat.reduceLeDiff, Nat.reduceEqDiff, Nat.reduceBEq, Nat.reduceBNe, hlt', ix, at1] <;> rfl, fun hb => ?_, fun hb => ?_⟩
        · have hb := of_decide_eq_false hb
          have : ¬ r < cntLe least v := fun h => by
            obtain ⟨v', h3, h4⟩ := key.mp h
            cases h3
            exact hb h4
          have hre : r = cntLe least v := by omega
          rw [hre]
          (refine' WSs.step ?h1_10 ?h2_10 ?h3_10; (case h1_10 => (simp only [EVB, below, permL, tgOk, tgs, reduceCtorEq, List.isPrefixOf, start0, Nat.reduceAdd, Nat.reduceSub, Nat.reduceLT, Nat.reduceLeDiff, Nat.reduceEqDiff, Nat.reduceBEq, Nat.reduceBNe, hmul] <;> rfl)); (case h3_10 => first | decide | (intro j hj; simp at hj; try omega)))
          exact WSs.nil ⟨cntLe least v, some (dI (pre.length : Int)), some (dI v), by rw [List.length_append, List.length_singleton]; rfl, hcl, fun x' hx' => hnext x' (by rw [List.length_append, List.length_singleton] at hx'; exact hx')⟩
        · have hb := of_decide_eq_true hb
          have h6 := key.mpr ⟨u, rfl, hb⟩
          have hm1 : m = (cntLe least v - (r + 1)) + 1 := by clear key; omega
          refine ⟨cntLe least v - (r + 1), hm1, ?_⟩
          (refine' WSs.step ?h1_11 ?h2_11 ?h3_11; (case h1_11 => (simp only [EVB, below, permL, tgOk, tgs, reduceCtorEq, List.isPrefixOf, start0, Nat.reduceAdd, Nat.reduceSub, Nat.reduceLT, Nat.reduceLeDiff, Nat.reduceEqDiff, Nat.reduceBEq, Nat.reduceBNe] <;> rfl)); (case h3_11 => first | decide | (intro j hj; simp at hj; try omega)))
          exact WSs.nil ⟨r + 1, rfl, h6, rfl⟩
      · have hre : r = cntLe least v := by omega
        have hlt' : ¬ (r : Int) < (((srt least).map dI).length : Int) := by rw [List.length_map, hll]; omega
        refine ⟨false, _, _, by simp only [EVB, below, permL, tgOk, tgs, reduceCtorEq, List.isPrefixOf, start0, Nat.reduceAdd, Nat.reduceSub, Nat.reduceLT, Nat.reduceLeDiff, Nat.reduceEqDiff, Nat.reduceBEq, Nat.reduceBNe, hlt'] <;> rfl, fun _ => ?_, fun hb => by cases hb⟩
        rw [hre]
        (refine' WSs.step ?h1_12 ?h2_12 ?h3_12; (case h1_12 => (simp only [EVB, below, permL, tgOk, tgs, reduceCtorEq, List.isPrefixOf, start0, Nat.reduceAdd, Nat.reduceSub, Nat.reduceLT, Nat.reduceLeDiff, Nat.reduceEqDiff, Nat.reduceBEq, Nat.reduceBNe, hmul] <;> rfl)); (case h3_12 => first | decide | (intro j hj; simp at hj; try omega)))
        exact WSs.nil ⟨cntLe least v, some (dI (pre.length : Int)), some (dI v), by rw [List.length_append, List.length_singleton]; rfl, hcl, fun x' hx' => hnext x' (by rw [List.length_append, List.length_singleton] at hx'; exact hx')⟩
  · rintro Γ ⟨ready, e5, e6, rfl, hr, hrx⟩
    rw [List.length_zipIdx, List.length_map, List.take_length]
    (refine' WSs.ret ?h1_13 ?h2_13 ?h3_13; (case h1_13 => (simp only [EVB, below, permL, tgOk, tgs, reduceCtorEq, List.isPrefixOf, start0, Nat.reduceAdd, Nat.reduceSub, Nat.reduceLT, Nat.reduceLeDiff, Nat.reduceEqDiff, Nat.reduceBEq, Nat.reduceBNe] <;> rfl)); (case h3_13 => first | decide | (intro j hj; simp at hj; try omega)))
    exact ⟨by simp only [EVB, below, permL, tgOk, tgs, reduceCtorEq, List.isPrefixOf, start0, Nat.reduceAdd, Nat.reduceSub, Nat.reduceLT, Nat.reduceLeDiff, Nat.reduceEqDiff, Nat.reduceBEq, Nat.reduceBNe], rfl⟩
end
end K41
/-! K41_c -/
namespace K41
open PySem L2 VI
section
variable {Φ : Prg} {Tb : Nat → Option Fd} {n w : Nat}
theorem erase_map {α β : Type} {g : α → β} : ∀ {l : List α} {i : Nat}, (l.map g).eraseIdx i = (l.eraseIdx i).map g
  | [], _ => rfl
  | _ :: _, 0 => rfl
  | x :: l, i + 1 => by
    rw [List.map_cons, List.eraseIdx_cons_succ, List.eraseIdx_cons_succ, List.map_cons, erase_map]
theorem tape_ok {is : List Int} {f k : Nat} (hf : Tb f = some F__law_tape) (hk : k < 1000) : ∃ t, callN Φ Tb (n + 1) f [dL false (is.map dI), dI k] = some (t, [dL false (is.map dI), dI k]) ∧ TP 1000000 t := by
  suffices h : ∃ d os, callN Φ Tb (n + 1) f [dL false (is.map dI), dI k] = some (d, os) ∧ (os = [dL false (is.map dI), dI k] ∧ TP 1000000 d) by
    obtain ⟨d, os, h, rfl, g⟩ := h
    exact ⟨d, h, g⟩
  refine call_fn hf ⟨rfl, by decide⟩ ?_
  simp only [F__law_tape, dfuel, start0, List.map_cons, List.map_nil, List.replicate_succ, List.replicate_zero, List.cons_append, List.nil_append, Nat.reduceSub]
  have p18 : opX Φ (.bin .Pow) [dI 10, dI 18] = some (dI (10 ^ 18)) := opd_pow ⟨by decide, by decide⟩
  have p39 : opX Φ (.bin .Pow) [dI 10, dI 39] = some (dI (10 ^ 39)) := opd_pow ⟨by decide, by decide⟩
  have s83 : small64 83 = true := by decide
  have m39 : (10 : Int) ^ 39 + 39 ≠ 0 := by decide
  have hTP : ∀ c : Int, 0 ≤ c → TP 1000000 (dL true [dI (if c - 10 ^ 18 > 0 then c - 10 ^ 18 else 0), dI (c.fmod (10 ^ 39 + 39) * 83 + k), dI 0]) := by
    intro c hc
    have h1 : (0 : Int) < 10 ^ 39 + 39 := by decide
    have h2 := Int.fmod_nonneg_of_pos c h1
    have h3 := Int.fmod_lt_of_pos c h1
    have h4 : ((10 : Int) ^ 39 + 39) * 83 + 1000 < 10 ^ 60 := by decide
    refine ⟨_, _, _, rfl, by split <;> omega, by omega, by omega, by decide, by decide⟩
  by_cases h : k < is.length
  · obtain ⟨v, hv⟩ : ∃ v, is[k]? = some v := ⟨_, List.getElem?_eq_getElem h⟩
    have ix : ixOf (dL false (is.map dI)) (dI (k : Int)) = some k := ix_L rfl (by rw [List.length_map]; exact h)
    have at1 : (is.map dI)[k]? = some (dI v) := by rw [List.getElem?_map, hv]; rfl
    have hlt : (k : Int) < ((is.map dI).length : Int) := by rw [List.length_map]; omega
    (refine' WSs.step ?h1_1 ?h2_1 ?h3_1; (case h1_1 => (simp only [EVB, below, permL, tgOk, tgs, reduceCtorEq, List.isPrefixOf, start0, Nat.reduceAdd, Nat.reduceSub, Nat.reduceLT, Nat.reduceLeDiff, Nat.reduceEqDiff, Nat.reduceBEq, Nat.reduceBNe, hlt, ix, at1] <;> rfl)); (case h3_1 => first | decide | (intro j hj; simp at hj; try omega)))
    (refine' WSs.ret ?h1_2 ?h2_2 ?h3_2; (case h1_2 => (simp only [EVB, below, permL, tgOk, tgs, reduceCtorEq, List.isPrefixOf, start0, Nat.reduceAdd, Nat.reduceSub, Nat.reduceLT, Nat.reduceLeDiff, Nat.reduceEqDiff, Nat.reduceBEq, Nat.reduceBNe, p18, p39, m39, opd_mul, s83] <;> rfl)); (case h3_2 => first | decide | (intro j hj; simp at hj; try omega)))
    exact ⟨_, by simp only [EVB, below, permL, tgOk, tgs, reduceCtorEq, List.isPrefixOf, start0, Nat.reduceAdd, Nat.reduceSub, Nat.reduceLT, Nat.reduceLeDiff, Nat.reduceEqDiff, Nat.reduceBEq, Nat.reduceBNe] <;> rfl, rfl, hTP _ (by split <;> omega)⟩
  · have hlt : ¬ (k : Int) < ((is.map dI).length : Int) := by rw [List.length_map]; omega
    (refine' WSs.step ?h1_3 ?h2_3 ?h3_3; (case h1_3 => (simp only [EVB, below, permL, tgOk, tgs, reduceCtorEq, List.isPrefixOf, start0, Nat.reduceAdd, Nat.reduceSub, Nat.reduceLT, Nat.reduceLeDiff, Nat.reduceEqDiff, Nat.reduceBEq, Nat.reduceBNe, hlt] <;> rfl)); (case h3_3 => first | decide | (intro j hj; simp at hj; try omega)))
    (refine' WSs.ret ?h1_4 ?h2_4 ?h3_4; (case h1_4 => (simp only [EVB, below, permL, tgOk, tgs, reduceCtorEq, List.isPrefixOf, start0, Nat.reduceAdd, Nat.reduceSub, Nat.reduceLT, Nat.reduceLeDiff, Nat.reduceEqDiff, Nat.reduceBEq, Nat.reduceBNe, p18, p39, m39, opd_mul, s83] <;> rfl)); (case h3_4 => first | decide | (intro j hj; simp at hj; try omega)))
    exact ⟨_, by simp only [EVB, below, permL, tgOk, tgs, reduceCtorEq, List.isPrefixOf, start0, Nat.reduceAdd, Nat.reduceSub, Nat.reduceLT, Nat.reduceLeDiff, Nat.reduceEqDiff, Nat.reduceBEq, Nat.reduceBNe] <;> rfl, rfl, hTP 0 (by decide)⟩
theorem shuffled_ok {t : D} {m k f g : Nat} (hf : Tb f = some F__law_shuffled) (hn : NextOk (callN Φ Tb n) 501) (ht : TP (k + m) t) (hm : m ≤ 64) :
    ∃ (xs : List Int) (t' : D), callN Φ Tb (n + 1) f [t, dI m] = some (dL true (xs.map dI), [t', dI m]) ∧ TP k t' ∧ xs.length = m ∧ ∀ x ∈ xs, 0 ≤ x ∧ x < m := by
  suffices h : ∃ d os, callN Φ Tb (n + 1) f [t, dI m] = some (d, os) ∧ (∃ (xs : List Int) (t' : D), d = dL true (xs.map dI) ∧ os = [t', dI m] ∧ TP k t' ∧ xs.length = m ∧ ∀ x ∈ xs, 0 ≤ x ∧ x < m) by
    obtain ⟨d, os, h, xs, t', rfl, rfl, g⟩ := h
    exact ⟨xs, t', h, g⟩
  refine call_fn hf ⟨rfl, by decide⟩ ?_
  simp only [F__law_shuffled, dfuel, start0, List.map_cons, List.map_nil, List.replicate_succ, List.replicate_zero, List.cons_append, List.nil_append, Nat.reduceSub]
  have hsh : ∀ {k t}, TP k t → isSh t = false := by rintro k t ⟨a, b, c, rfl, _⟩; rfl
  have lrg : opX Φ .listrange [dI (m : Int)] = some (dL true ((upto m).map dI)) := by
    rw [opd_lrg ⟨by omega, by rw [lim_val]; omega⟩, Int.toNat_natCast]
    congr 2
    rw [upto, List.map_map]; rfl
  have hrg : rngX [dI (m : Int)] = some ((upto m).map dI) := rng_upto rfl (by omega)
  (refine' WSs.step ?h1_5 ?h2_5 ?h3_5; (case h1_5 => (simp only [EVB, below, permL, tgOk, tgs, reduceCtorEq, List.isPrefixOf, start0, Nat.reduceAdd, Nat.reduceSub, Nat.reduceLT, Nat.reduceLeDiff, Nat.reduceEqDiff, Nat.reduceBEq, Nat.reduceBNe, lrg, hsh ht] <;> rfl)); (case h3_5 => first | decide | (intro j hj; simp at hj; try omega)))
  (refine' WSs.cons (WS.for_ ?h1_6 ?h2_6 ?h3_6); (case h1_6 => first | rfl | (simp only [EVB, below, permL, tgOk, tgs, reduceCtorEq, List.isPrefixOf, start0, Nat.reduceAdd, Nat.reduceSub, Nat.reduceLT, Nat.reduceLeDiff, Nat.reduceEqDiff, Nat.reduceBEq, Nat.reduceBNe, hrg, hsh ht] <;> rfl)); (case h2_6 => (simp only [EVB, below, permL, tgOk, tgs, reduceCtorEq, List.isPrefixOf, start0, Nat.reduceAdd, Nat.reduceSub, Nat.reduceLT, Nat.reduceLeDiff, Nat.reduceEqDiff, Nat.reduceBEq, Nat.reduceBNe, hrg, hsh ht] <;> rfl)))
  rw [List.map_map]
  refine WFo.inv (fun pre Γ => ∃ (tt : D) (lf fd : List Int) (e4 : Option D), Γ = [some (.own tt), some (.own (dI m)), some (.own (dL true (lf.map dI))), some (.own (dL true (fd.map dI))), oD e4] ∧ TP (k + (m - pre.length)) tt ∧ lf.length = m - pre.length ∧ fd.length = pre.length ∧ (∀ x ∈ lf, 0 ≤ x ∧ x < m) ∧ ∀ x ∈ fd, 0 ≤ x ∧ x < m)
    ⟨t, upto m, [], none, rfl, ht, by rw [upto_length]; rfl, rfl, fun x hx => mem_upto.mp hx, fun x hx => by cases hx⟩ (by decide) ?_ ?_
  · rintro pre x post e Γ ⟨tt, lf, fd, e4, rfl, htt, hl1, hl2, hl3, hl4⟩
    have hp : pre.length < m := by
      have := congrArg List.length e
      rw [upto_length, List.length_append, List.length_cons] at this
      omega
    refine ⟨_, asg_nm (by simp) (by rfl), ?_⟩
    have hlen : ((lf.map dI).length : Int) = (m - pre.length : Nat) := by rw [List.length_map, hl1]
    obtain ⟨r, t', h1, h2, h3, h4⟩ := hn (k + (m - (pre.length + 1))) tt ((lf.map dI).length : Int) (htt.le (by omega)) (by omega) (by omega)
    obtain ⟨r', hr⟩ : ∃ r' : Nat, r = r' := ⟨r.toNat, by omega⟩
    subst hr
    have hrl : r' < lf.length := by omega
    obtain ⟨v, hv⟩ : ∃ v, lf[r']? = some v := ⟨_, List.getElem?_eq_getElem hrl⟩
    have hpop : muX 2 (dL true (lf.map dI)) [dI (r' : Int)] = some (dI v, dL true ((lf.eraseIdx r').map dI)) := by
      rw [mu_popN (n := r') (d := dI v) rfl (by rw [List.getElem?_map, hv]; rfl) (by omega), erase_map]
    have happ : muX 0 (dL true (fd.map dI)) [dI v] = some (dN, dL true ((fd ++ [v]).map dI)) := by
      rw [mu_app (lt_lim (by rw [List.length_map]; omega)), List.map_append]; rfl
    (refine' WSs.step ?h1_7 ?h2_7 ?h3_7; (case h1_7 => (simp only [EVB, below, permL, tgOk, tgs, reduceCtorEq, List.isPrefixOf, start0, Nat.reduceAdd, Nat.reduceSub, Nat.reduceLT, Nat.reduceLeDiff, Nat.reduceEqDiff, Nat.reduceBEq, Nat.reduceBNe, h1, hsh htt, hsh h4, cnt_pop, cnt_app, hpop, happ] <;> rfl)); (case h3_7 => first | decide | (intro j hj; simp at hj; try omega)))
    refine WSs.nil ⟨t', lf.eraseIdx r', fd ++ [v], some (dI x), rfl, ?_, ?_, ?_, ?_, ?_⟩
    · rw [List.length_append, List.length_singleton]; exact h4
    · rw [List.length_eraseIdx_of_lt hrl, List.length_append, List.length_singleton]; omega
    · rw [List.length_append, List.length_append, hl2]; rfl
    · exact fun x hx => hl3 x (List.mem_of_mem_eraseIdx hx)
    · intro x hx
      rcases List.mem_append.mp hx with h | h
      · exact hl4 x h
      · rw [List.mem_singleton.mp h]; exact hl3 v (List.mem_of_getElem? hv)
  · rintro Γ ⟨tt, lf, fd, e4, rfl, htt, hl1, hl2, hl3, hl4⟩
    rw [upto_length] at htt hl2
    (refine' WSs.ret ?h1_8 ?h2_8 ?h3_8; (case h1_8 => (simp only [EVB, below, permL, tgOk, tgs, reduceCtorEq, List.isPrefixOf, start0, Nat.reduceAdd, Nat.reduceSub, Nat.reduceLT, Nat.reduceLeDiff, Nat.reduceEqDiff, Nat.reduceBEq, Nat.reduceBNe] <;> rfl)); (case h3_8 => first | decide | (intro j hj; simp at hj; try omega)))
    exact ⟨_, by simp only [EVB, below, permL, tgOk, tgs, reduceCtorEq, List.isPrefixOf, start0, Nat.reduceAdd, Nat.reduceSub, Nat.reduceLT, Nat.reduceLeDiff, Nat.reduceEqDiff, Nat.reduceBEq, Nat.reduceBNe, hsh htt, hsh ht] <;> rfl, fd, tt, rfl, rfl, htt.le (by omega), hl2, hl4⟩
theorem claims_ok {t : D} {most k f : Nat} (hf : Tb f = some F__law_claims) (hn : NextOk (callN Φ Tb n) 501) (ht : TP (k + 1001) t) (hw : w ≤ 6) (hm : most ≤ 200) :
    ∃ (cs : List (Int × Int)) (t' : D), callN Φ Tb (n + 1) f [t, dI w, dI most] = some (dL true (cs.map cD), [t', dI w, dI most]) ∧ TP k t' ∧ cs.length ≤ 200 ∧ ∀ c ∈ cs, ValidC w c := by
  suffices h : ∃ d os, callN Φ Tb (n + 1) f [t, dI w, dI most] = some (d, os) ∧ (∃ (cs : List (Int × Int)) (t' : D), d = dL true (cs.map cD) ∧ os = [t', dI w, dI most] ∧ TP k t' ∧ cs.length ≤ 200 ∧ ∀ c ∈ cs, ValidC w c) by
    obtain ⟨d, os, h, xs, t', rfl, rfl, g⟩ := h
    exact ⟨xs, t', h, g⟩
  refine call_fn hf ⟨rfl, by decide⟩ ?_
  simp only [F__law_claims, dfuel, start0, List.map_cons, List.map_nil, List.replicate_succ, List.replicate_zero, List.cons_append, List.nil_append, Nat.reduceSub]
  have hsh : ∀ {k t}, TP k t → isSh t = false := by rintro k t ⟨a, b, c, rfl, _⟩; rfl
  obtain ⟨N, hat, hN⟩ := pwL_at hw
  have hN1 : 1 ≤ N ∧ N ≤ 64 := by rw [hN]; exact ⟨Int.pow_pos (by decide), (pw_le hw).1⟩
  (refine' WSs.step ?h1_9 ?h2_9 ?h3_9; (case h1_9 => (simp only [EVB, below, permL, tgOk, tgs, reduceCtorEq, List.isPrefixOf, start0, Nat.reduceAdd, Nat.reduceSub, Nat.reduceLT, Nat.reduceLeDiff, Nat.reduceEqDiff, Nat.reduceBEq, Nat.reduceBNe, pwL_ix hw, hat] <;> rfl)); (case h3_9 => first | decide | (intro j hj; simp at hj; try omega)))
  obtain ⟨r, t1, h1, h2, h3, h4⟩ := hn (k + 1000) t ((most : Int) + 1) ht (by omega) (by omega)
  obtain ⟨r', rfl⟩ : ∃ r' : Nat, r = r' := ⟨r.toNat, by omega⟩
  have hrg : rngX [dI (r' : Int)] = some ((upto r').map dI) := rng_upto rfl (by omega)
  (refine' WSs.cons (WS.for_ ?h1_10 ?h2_10 ?h3_10); (case h1_10 => first | rfl | (simp only [EVB, below, permL, tgOk, tgs, reduceCtorEq, List.isPrefixOf, start0, Nat.reduceAdd, Nat.reduceSub, Nat.reduceLT, Nat.reduceLeDiff, Nat.reduceEqDiff, Nat.reduceBEq, Nat.reduceBNe, hrg, h1, hsh ht, hsh h4] <;> rfl)); (case h2_10 => (simp only [EVB, below, permL, tgOk, tgs, reduceCtorEq, List.isPrefixOf, start0, Nat.reduceAdd, Nat.reduceSub, Nat.reduceLT, Nat.reduceLeDiff, Nat.reduceEqDiff, Nat.reduceBEq, Nat.reduceBNe, hrg, h1, hsh ht, hsh h4] <;> rfl)))
  rw [List.map_map]
  refine WFo.inv (fun pre Γ => ∃ (tt : D) (cs : List (Int × Int)) (e5 e6 e7 : Option D), Γ = [some (.own tt), some (.own (dI w)), some (.own (dI most)), some (.own (dL true (cs.map cD))), some (.own (dI N)), oD e5, oD e6, oD e7] ∧ TP (k + (1000 - 5 * pre.length)) tt ∧ cs.length = pre.length ∧ ∀ c ∈ cs, ValidC w c)
    ⟨t1, [], none, none, none, rfl, h4, rfl, fun c hc => by cases hc⟩ (by decide) ?_ ?_
  · rintro pre x post e Γ ⟨tt, cs, e5, e6, e7, rfl, htt, hl1, hl2⟩
    have hp : pre.length < r' := by
      have := congrArg List.length e
      rw [upto_length, List.length_append, List.length_cons] at this
      omega
    refine ⟨_, asg_nm (by simp) (by rfl), ?_⟩
    obtain ⟨a1, ta, a2, a3, a4, a5⟩ := hn (k + (1000 - 5 * (pre.length + 1)) + 3) tt 6 (htt.le (by omega)) (by omega) (by omega)
    obtain ⟨b1, tb, b2, b3, b4, b5⟩ := hn (k + (1000 - 5 * (pre.length + 1)) + 2) ta 2 a5 (by omega) (by omega)
    obtain ⟨c1, tc, c2, c3, c4, c5⟩ := hn (k + (1000 - 5 * (pre.length + 1)) + 1) tb ((w : Int) + 1) b5 (by omega) (by omega)
    obtain ⟨d1, td, d2, d3, d4, d5⟩ := hn (k + (1000 - 5 * (pre.length + 1))) tc N c5 (by omega) (by omega)
    have z2 : (2 : Int) ≠ 0 := by decide
    have y2 : (2 : Int).natAbs < 1073741824 := by decide
    (refine' WSs.step ?h1_11 ?h2_11 ?h3_11; (case h1_11 => (simp only [EVB, below, permL, tgOk, tgs, reduceCtorEq, List.isPrefixOf, start0, Nat.reduceAdd, Nat.reduceSub, Nat.reduceLT, Nat.reduceLeDiff, Nat.reduceEqDiff, Nat.reduceBEq, Nat.reduceBNe, a2, b2, hsh htt, hsh a5, hsh b5, z2, y2] <;> rfl)); (case h3_11 => first | decide | (intro j hj; simp at hj; try omega)))
    generalize hway : (if a1.fdiv 2 + b1 < 3 then a1.fdiv 2 + b1 else 3) = way
    have hdv : 0 ≤ a1.fdiv 2 := Int.fdiv_nonneg a3 (by decide)
    have hwy : 0 ≤ way ∧ way ≤ 3 := by rw [← hway]; split <;> omega
    obtain ⟨y, rfl⟩ : ∃ y : Nat, way = y := ⟨way.toNat, by omega⟩
    have iy : ∀ p q r s : D, ixOf (dL true [p, q, r, s]) (dI (y : Int)) = some y := fun p q r s => ix_L rfl (by show y < 4; omega)
    obtain ⟨num, hnum, hn0⟩ : ∃ num : Int, [dI c1, dI 0, dI (if (w : Int) < 1 then (w : Int) else 1), dI (w : Int)][y]? = some (dI num) ∧ 0 ≤ num ∧ num ≤ w := by
      match y, hwy with
      | 0, _ => exact ⟨c1, rfl, by omega⟩
      | 1, _ => exact ⟨0, rfl, by omega⟩
      | 2, _ => exact ⟨_, rfl, by split <;> omega⟩
      | 3, _ => exact ⟨w, rfl, by omega⟩
      | y + 4, h => omega
    (refine' WSs.step ?h1_12 ?h2_12 ?h3_12; (case h1_12 => (simp only [EVB, below, permL, tgOk, tgs, reduceCtorEq, List.isPrefixOf, start0, Nat.reduceAdd, Nat.reduceSub, Nat.reduceLT, Nat.reduceLeDiff, Nat.reduceEqDiff, Nat.reduceBEq, Nat.reduceBNe, c2, hsh b5, hsh c5, iy, hnum] <;> rfl)); (case h3_12 => first | decide | (intro j hj; simp at hj; try omega)))
    have happ : muX 0 (dL true (cs.map cD)) [dT [dI d1, dI num]] = some (dN, dL true ((cs ++ [(d1, num)]).map cD)) := by
      rw [mu_app (lt_lim (by rw [List.length_map]; omega)), List.map_append]; rfl
    (refine' WSs.step ?h1_13 ?h2_13 ?h3_13; (case h1_13 => (simp only [EVB, below, permL, tgOk, tgs, reduceCtorEq, List.isPrefixOf, start0, Nat.reduceAdd, Nat.reduceSub, Nat.reduceLT, Nat.reduceLeDiff, Nat.reduceEqDiff, Nat.reduceBEq, Nat.reduceBNe, d2, hsh c5, hsh d5, cnt_app, happ] <;> rfl)); (case h3_13 => first | decide | (intro j hj; simp at hj; try omega)))
    refine WSs.nil ⟨td, cs ++ [(d1, num)], some (dI x), some (dI (y : Int)), some (dI num), rfl, ?_, ?_, ?_⟩
    · rw [List.length_append, List.length_singleton]; exact d5
    · rw [List.length_append, List.length_append, hl1]; rfl
    · intro c hc
      rcases List.mem_append.mp hc with h | h
      · exact hl2 c h
      · rw [List.mem_singleton.mp h]
        exact ⟨d3, by rw [← hN]; exact d4, hn0⟩
  · rintro Γ ⟨tt, cs, e5, e6, e7, rfl, htt, hl1, hl2⟩
    rw [upto_length] at htt hl1
    (refine' WSs.ret ?h1_14 ?h2_14 ?h3_14; (case h1_14 => (simp only [EVB, below, permL, tgOk, tgs, reduceCtorEq, List.isPrefixOf, start0, Nat.reduceAdd, Nat.reduceSub, Nat.reduceLT, Nat.reduceLeDiff, Nat.reduceEqDiff, Nat.reduceBEq, Nat.reduceBNe] <;> rfl)); (case h3_14 => first | decide | (intro j hj; simp at hj; try omega)))
    exact ⟨_, by simp only [EVB, below, permL, tgOk, tgs, reduceCtorEq, List.isPrefixOf, start0, Nat.reduceAdd, Nat.reduceSub, Nat.reduceLT, Nat.reduceLeDiff, Nat.reduceEqDiff, Nat.reduceBEq, Nat.reduceBNe, hsh htt, hsh ht] <;> rfl, cs, tt, rfl, rfl, htt.le (by omega), by omega, hl2⟩
end
end K41
/-! K41_d -/
namespace K41
open PySem L2 VI
section
variable {Φ : Prg} {Tb : Nat → Option Fd} {n w : Nat}
abbrev bD (b : List Int) : D := dL true (b.map dI)
theorem rng_two {j : Nat} (h : j < 6) : rngX [dI 0, dI ((2 ^ (j + 1) : Nat) : Int), dI 2] = some ((List.range (2 ^ j)).map fun (i : Nat) => dI ((2 * i : Nat) : Int)) := by
  rw [rngX_eq]
  match j, h with
  | 0, _ | 1, _ | 2, _ | 3, _ | 4, _ | 5, _ => rfl
  | n + 6, h => omega
theorem won_ok {xs : List Int} {J f : Nat} (hf : Tb f = some F__law_won) (hJ : J ≤ 6) (hl : xs.length = 2 ^ J) (hx : ∀ x ∈ xs, 0 ≤ x ∧ x < (2 ^ J : Nat)) :
    ∃ (ws : List Int), callN Φ Tb (n + 1) f [dL true (xs.map dI)] = some (dL true (ws.map dI), [dL true (xs.map dI)]) ∧ ws.length = 2 ^ J ∧ ∀ v ∈ ws, 0 ≤ v := by
  suffices h : ∃ d os, callN Φ Tb (n + 1) f [dL true (xs.map dI)] = some (d, os) ∧ (∃ (ws : List Int), d = dL true (ws.map dI) ∧ os = [dL true (xs.map dI)] ∧ ws.length = 2 ^ J ∧ ∀ v ∈ ws, 0 ≤ v) by
    obtain ⟨d, os, h, xs, rfl, rfl, g⟩ := h
    exact ⟨xs, h, g⟩
  refine call_fn hf ⟨rfl, by decide⟩ ?_
  simp only [F__law_won, dfuel, start0, List.map_cons, List.map_nil, List.replicate_succ, List.replicate_zero, List.cons_append, List.nil_append, Nat.reduceSub]
  have h64 := (pw_le hJ).2.2
  have hrep : opX Φ (.bin .Mult) [dL true [dI 0], dI ((xs.map dI).length : Int)] = some (dL true ((List.replicate (2 ^ J) (0 : Int)).map dI)) := by
    rw [opd_rep (by rfl) (by rw [List.length_map]; omega) (le_lim (by simp; omega)), List.flatten_replicate_singleton, List.length_map, Int.toNat_natCast, hl, List.map_replicate]
  have hi : ∀ Γ : VI.Ctx, itvR Γ (.pl 0 [] (dL true (xs.map dI))) = some (xs.map (fun x => .one (.own (dI x))), Γ, true, .still) := fun Γ => itv_pm fun _ => rfl
  have hG : ∀ z, lcGo Φ (callN Φ Tb n) (z + 10) [5, 6] (.nm 6) [] (.lst [.v 6]) (xs.map fun x => .one (.own (dI x))) [] [some (.own (dL true (xs.map dI))), none, none, none, none, none, none] true
      = some (xs.map fun x => bD [x], [some (.own (dL true (xs.map dI))), none, none, none, none, none, none], true) := by
    intro z
    refine lcGo_map (G := fun x => [some (.own (dL true (xs.map dI))), none, none, none, none, none, some (.own (dI x))]) (fun x _ => ?_) (fun x _ => ?_) (fun x _ => ?_) (le_lim (by omega))
    · rw [asg_nm (by simp) (by rfl)]
      simp only [EVB, below, permL, tgOk, tgs, reduceCtorEq, List.isPrefixOf, start0, Nat.reduceAdd, Nat.reduceSub, Nat.reduceLT, Nat.reduceLeDiff, Nat.reduceEqDiff, Nat.reduceBEq, Nat.reduceBNe]
    · simp only [EVB, below, permL, tgOk, tgs, reduceCtorEq, List.isPrefixOf, start0, Nat.reduceAdd, Nat.reduceSub, Nat.reduceLT, Nat.reduceLeDiff, Nat.reduceEqDiff, Nat.reduceBEq, Nat.reduceBNe]
      rfl
    · simp only [EVB, below, permL, tgOk, tgs, reduceCtorEq, List.isPrefixOf, start0, Nat.reduceAdd, Nat.reduceSub, Nat.reduceLT, Nat.reduceLeDiff, Nat.reduceEqDiff, Nat.reduceBEq, Nat.reduceBNe]
  (refine' WSs.step ?h1_1 ?h2_1 ?h3_1; (case h1_1 => (simp only [EVB, below, permL, tgOk, tgs, reduceCtorEq, List.isPrefixOf, start0, Nat.reduceAdd, Nat.reduceSub, Nat.reduceLT, Nat.reduceLeDiff, Nat.reduceEqDiff, Nat.reduceBEq, Nat.reduceBNe, hrep, hi, hG] <;> rfl)); (case h3_1 => first | decide | (intro j hj; simp at hj; try omega)))
  refine WSs.cons (WS.whl (fun j Γ => ∃ (fd : List Int) (bs : List (List Int)) (e3 : Option (Ent D)) (e4 : Option D), Γ = [some (.own (dL true (xs.map dI))), some (.own (dL true (fd.map dI))), some (.own (dL true (bs.map bD))), e3, oD e4, none, none] ∧ j ≤ J ∧ bs.length = 2 ^ j ∧ fd.length = 2 ^ J ∧ (∀ v ∈ fd, 0 ≤ v) ∧ ∀ b ∈ bs, b ≠ [] ∧ b.length ≤ 2 ^ (J - j) ∧ ∀ x ∈ b, 0 ≤ x ∧ x < (2 ^ J : Nat)) (n := J) (by unfold wfuel; omega)
    ⟨List.replicate (2 ^ J) 0, xs.map fun x => [x], none, none, ?_, Nat.le_refl _, by rw [List.length_map, hl], by simp, fun v hv => by rw [(List.mem_replicate.mp hv).2]; exact Int.le_refl 0, fun b hb => ?_⟩ ?_)
  · rw [List.map_map]; rfl
  · obtain ⟨x, hxm, rfl⟩ := List.mem_map.mp hb
    refine ⟨by simp, by simp, fun y hy => ?_⟩
    rw [List.mem_singleton.mp hy]
    exact hx x hxm
  · rintro j Γ ⟨fd, bs, e3, e4, rfl, hj, hbs, hfd, hfd0, hb⟩
    have hk3 : ∀ (Γ : VI.Ctx) i, killAll (e3 :: Γ) i = killAE i e3 :: killAll Γ i := fun _ _ => rfl
    refine ⟨decide ((1 : Int) < (bs.length : Int)), [some (.own (dL true (xs.map dI))), some (.own (dL true (fd.map dI))), some (.own (dL true (bs.map bD))), e3, oD e4, none, none], true, by simp only [EVB, below, permL, tgOk, tgs, reduceCtorEq, List.isPrefixOf, start0, Nat.reduceAdd, Nat.reduceSub, Nat.reduceLT, Nat.reduceLeDiff, Nat.reduceEqDiff, Nat.reduceBEq, Nat.reduceBNe, List.length_map], fun hf => ?_, fun ht => ?_⟩
    · (refine' WSs.ret ?h1_2 ?h2_2 ?h3_2; (case h1_2 => (simp only [EVB, below, permL, tgOk, tgs, reduceCtorEq, List.isPrefixOf, start0, Nat.reduceAdd, Nat.reduceSub, Nat.reduceLT, Nat.reduceLeDiff, Nat.reduceEqDiff, Nat.reduceBEq, Nat.reduceBNe, hk3] <;> rfl)); (case h3_2 => first | decide | (intro j hj; simp at hj; try omega)))
      refine ⟨[dL true (xs.map dI)], ?_, fd, rfl, rfl, hfd, hfd0⟩
      simp only [EVB, below, permL, tgOk, tgs, reduceCtorEq, List.isPrefixOf, start0, Nat.reduceAdd, Nat.reduceSub, Nat.reduceLT, Nat.reduceLeDiff, Nat.reduceEqDiff, Nat.reduceBEq, Nat.reduceBNe]
    · have ht := of_decide_eq_true ht
      cases j with
      | zero => rw [hbs] at ht; simp at ht
      | succ j =>
        refine ⟨j, rfl, ?_⟩
        have hlen : ((bs.map bD).length : Int) = ((2 ^ (j + 1) : Nat) : Int) := by rw [List.length_map, hbs]
        have hrg := rng_two (j := j) (by omega)
        (refine' WSs.step ?h1_3 ?h2_3 ?h3_3; (case h1_3 => (simp only [EVB, below, permL, tgOk, tgs, reduceCtorEq, List.isPrefixOf, start0, Nat.reduceAdd, Nat.reduceSub, Nat.reduceLT, Nat.reduceLeDiff, Nat.reduceEqDiff, Nat.reduceBEq, Nat.reduceBNe, hk3] <;> rfl)); (case h3_3 => first | decide | (intro j hj; simp at hj; try omega)))
        (refine' WSs.cons (WS.for_ ?h1_4 ?h2_4 ?h3_4); (case h1_4 => first | rfl | (simp only [EVB, below, permL, tgOk, tgs, reduceCtorEq, List.isPrefixOf, start0, Nat.reduceAdd, Nat.reduceSub, Nat.reduceLT, Nat.reduceLeDiff, Nat.reduceEqDiff, Nat.reduceBEq, Nat.reduceBNe, hlen, hrg] <;> rfl)); (case h2_4 => (simp only [EVB, below, permL, tgOk, tgs, reduceCtorEq, List.isPrefixOf, start0, Nat.reduceAdd, Nat.reduceSub, Nat.reduceLT, Nat.reduceLeDiff, Nat.reduceEqDiff, Nat.reduceBEq, Nat.reduceBNe, hlen, hrg] <;> rfl)))
        rw [List.map_map]
        refine WFo.inv (fun pre Γ => ∃ (fd : List Int) (ls : List (List Int)) (e4 : Option D), Γ = [some (.own (dL true (xs.map dI))), some (.own (dL true (fd.map dI))), some (.own (dL true (bs.map bD))), some (.own (dL true (ls.map bD))), oD e4, none, none] ∧ ls.length = pre.length ∧ fd.length = 2 ^ J ∧ (∀ v ∈ fd, 0 ≤ v) ∧ ∀ b ∈ ls, b ≠ [] ∧ b.length ≤ 2 ^ (J - j) ∧ ∀ x ∈ b, 0 ≤ x ∧ x < (2 ^ J : Nat))
          ⟨fd, [], e4, rfl, rfl, hfd, hfd0, fun b hb => by cases hb⟩ (by decide) ?_ ?_
        · rintro pre x post e Γ ⟨fd, ls, e4, rfl, hls, hfd, hfd0, hlb⟩
          have hxl : x = pre.length ∧ x < 2 ^ j := by
            have h1 : (List.range (2 ^ j))[pre.length]? = some x := by rw [e]; simp
            obtain ⟨h3, h4⟩ := List.getElem?_eq_some_iff.mp h1
            rw [List.getElem_range] at h4
            rw [List.length_range] at h3
            omega
          have hpow : 2 ^ (j + 1) = 2 * 2 ^ j := by rw [Nat.pow_succ, Nat.mul_comm]
          refine ⟨_, asg_nm (by simp) (by rfl), ?_⟩
          obtain ⟨b1, hb1⟩ : ∃ b, bs[2 * x]? = some b := ⟨_, List.getElem?_eq_getElem (by omega)⟩
          obtain ⟨b2, hb2⟩ : ∃ b, bs[2 * x + 1]? = some b := ⟨_, List.getElem?_eq_getElem (by omega)⟩
          obtain ⟨p1, p2, p3⟩ := hb b1 (List.mem_of_getElem? hb1)
          obtain ⟨q1, q2, q3⟩ := hb b2 (List.mem_of_getElem? hb2)
          obtain ⟨y, tl, rfl⟩ : ∃ y tl, b1 = y :: tl := by cases b1 with
            | nil => exact absurd rfl p1
            | cons y tl => exact ⟨y, tl, rfl⟩
          obtain ⟨y1, y2⟩ := p3 y List.mem_cons_self
          obtain ⟨m, rfl⟩ : ∃ m : Nat, y = m := ⟨y.toNat, by omega⟩
          obtain ⟨v, hv⟩ : ∃ v, fd[m]? = some v := ⟨_, List.getElem?_eq_getElem (by omega)⟩
          obtain ⟨B1, hB1⟩ : ∃ B, B = ((m : Int) :: tl).map dI := ⟨_, rfl⟩
          obtain ⟨nb, hnb⟩ : ∃ nb, nb = (m : Int) :: tl ++ b2 := ⟨_, rfl⟩
          have i1 : ixOf (dL true (bs.map bD)) (dI ((2 * x : Nat) : Int)) = some (2 * x) := ix_L rfl (by rw [List.length_map]; omega)
          have i2 : ixOf (dL true (bs.map bD)) (dI (((2 * x : Nat) : Int) + 1)) = some (2 * x + 1) := ix_L (by omega) (by rw [List.length_map]; omega)
          have a1 : (bs.map bD)[2 * x]? = some (dL true B1) := by rw [List.getElem?_map, hb1, hB1]; rfl
          have a2 : (bs.map bD)[2 * x + 1]? = some (dL true (b2.map dI)) := by rw [List.getElem?_map, hb2]; rfl
          have i3 : ixOf (dL true B1) (dI 0) = some 0 := ix_L rfl (by rw [hB1]; simp)
          have a3 : B1[0]? = some (dI m) := by rw [hB1]; rfl
          have i4 : ixOf (dL true (fd.map dI)) (dI (m : Int)) = some m := ix_L rfl (by rw [List.length_map]; omega)
          have a4 : (fd.map dI)[m]? = some (dI v) := by rw [List.getElem?_map, hv]; rfl
          have hset : ∀ u, setIx (dL true (fd.map dI)) (dI (m : Int)) (dI u) = some (dL true ((fd.set m u).map dI)) := fun u => by
            rw [six_L (n := m) rfl (by rw [List.length_map]; omega), List.map_set]
          have hJj : 2 ^ (J - j) = 2 * 2 ^ (J - (j + 1)) := by rw [show J - j = (J - (j + 1)) + 1 by omega, Nat.pow_succ, Nat.mul_comm]
          have hJ2 : 2 ^ (J - j) ≤ 2 ^ J := Nat.pow_le_pow_right (by decide) (by omega)
          have hnl : nb.length ≤ 2 ^ (J - j) := by rw [hnb, List.length_append]; omega
          have hcat : opX Φ (.bin .Add) [dL true B1, dL true (b2.map dI)] = some (dL true (nb.map dI)) := by
            rw [hB1, opd_cat allSh_ints allSh_ints (le_lim (by rw [List.length_map, List.length_map]; omega)), ← List.map_append, hnb]
          have happ : muX 0 (dL true (ls.map bD)) [dL true (nb.map dI)] = some (dN, dL true ((ls ++ [nb]).map bD)) := by
            have hls2 : ls.length ≤ 64 := by
              have : 2 ^ j ≤ 2 ^ J := Nat.pow_le_pow_right (by decide) (by omega)
              omega
            rw [mu_app (lt_lim (by rw [List.length_map]; omega)), List.map_append]; rfl
          (refine' WSs.step ?h1_5 ?h2_5 ?h3_5; (case h1_5 => (simp only [EVB, below, permL, tgOk, tgs, reduceCtorEq, List.isPrefixOf, start0, Nat.reduceAdd, Nat.reduceSub, Nat.reduceLT, Nat.reduceLeDiff, Nat.reduceEqDiff, Nat.reduceBEq, Nat.reduceBNe, i1, a1, i3, a3, i4, a4, hset] <;> rfl)); (case h3_5 => first | decide | (intro j hj; simp at hj; try omega)))
          (refine' WSs.step ?h1_6 ?h2_6 ?h3_6; (case h1_6 => (simp only [EVB, below, permL, tgOk, tgs, reduceCtorEq, List.isPrefixOf, start0, Nat.reduceAdd, Nat.reduceSub, Nat.reduceLT, Nat.reduceLeDiff, Nat.reduceEqDiff, Nat.reduceBEq, Nat.reduceBNe, i1, a1, i2, a2, hcat, cnt_app, happ] <;> rfl)); (case h3_6 => first | decide | (intro j hj; simp at hj; try omega)))
          refine WSs.nil ⟨fd.set m (v + 1), ls ++ [nb], some (dI ((2 * x : Nat) : Int)), rfl, ?_, ?_, ?_, ?_⟩
          · rw [List.length_append, List.length_append, hls]; rfl
          · rw [List.length_set, hfd]
          · intro u hu
            rcases List.mem_or_eq_of_mem_set hu with h | h
            · exact hfd0 u h
            · have := hfd0 v (List.mem_of_getElem? hv); omega
          · intro b hbm
            rcases List.mem_append.mp hbm with h | h
            · exact hlb b h
            · rw [List.mem_singleton.mp h]
              refine ⟨by rw [hnb]; simp, hnl, fun z hz => ?_⟩
              rw [hnb] at hz
              rcases List.mem_append.mp hz with h | h
              · exact p3 z h
              · exact q3 z h
        · rintro Γ ⟨fd, ls, e4, rfl, hls, hfd, hfd0, hlb⟩
          rw [List.length_range] at hls
          (refine' WSs.step ?h1_7 ?h2_7 ?h3_7; (case h1_7 => (simp only [EVB, below, permL, tgOk, tgs, reduceCtorEq, List.isPrefixOf, start0, Nat.reduceAdd, Nat.reduceSub, Nat.reduceLT, Nat.reduceLeDiff, Nat.reduceEqDiff, Nat.reduceBEq, Nat.reduceBNe] <;> rfl)); (case h3_7 => first | decide | (intro j hj; simp at hj; try omega)))
          exact WSs.nil ⟨fd, ls, some (.al 2 []), e4, rfl, by omega, hls, hfd, hfd0, hlb⟩
end
end K41
/-! K41_e -/
namespace K41
open PySem L2 VI
theorem bestC_le {cs : List (Int × Int)} {p M : Int} : bestC cs p ≤ M ↔ 0 ≤ M ∧ ∀ c ∈ cs, c.1 = p → c.2 ≤ M := by
  refine snoc_ind (P := fun cs => bestC cs p ≤ M ↔ 0 ≤ M ∧ ∀ c ∈ cs, c.1 = p → c.2 ≤ M) ?_ (fun cs c ih => ?_) cs
  · show (0 : Int) ≤ M ↔ _
    exact ⟨fun h => ⟨h, fun c hc => by cases hc⟩, fun h => h.1⟩
  · show bestC (cs ++ [c]) p ≤ M ↔ _
    rw [bestC_snoc]
    constructor
    · intro h
      have h1 : bestC cs p ≤ M := by split at h <;> omega
      obtain ⟨a, b⟩ := ih.mp h1
      refine ⟨a, fun x hx hp => ?_⟩
      rcases List.mem_append.mp hx with hm | hm
      · exact b x hm hp
      · rw [List.mem_singleton.mp hm] at hp ⊢
        rw [if_pos hp] at h
        omega
    · rintro ⟨a, b⟩
      have h1 := ih.mpr ⟨a, fun x hx hp => b x (List.mem_append_left _ hx) hp⟩
      split
      · rename_i hp
        have := b c (by simp) hp
        omega
      · exact h1
theorem bestC_eq {cs ds : List (Int × Int)} {p : Int} (h : ∀ M, 0 ≤ M → ((∀ c ∈ cs, c.1 = p → c.2 ≤ M) ↔ ∀ c ∈ ds, c.1 = p → c.2 ≤ M)) : bestC cs p = bestC ds p := by
  have h1 : bestC cs p ≤ bestC ds p := bestC_le.mpr ⟨bestC_nonneg _ _, (h _ (bestC_nonneg _ _)).mpr (bestC_le.mp (Int.le_refl _)).2⟩
  have h2 : bestC ds p ≤ bestC cs p := bestC_le.mpr ⟨bestC_nonneg _ _, (h _ (bestC_nonneg _ _)).mp (bestC_le.mp (Int.le_refl _)).2⟩
  omega
theorem bestC_rev {cs : List (Int × Int)} {p : Int} : bestC cs.reverse p = bestC cs p := bestC_eq fun M _ => by simp
theorem mem_plC {N : Nat} {f : Int → Int} {c : Int × Int} : c ∈ plC N f ↔ 0 ≤ c.1 ∧ c.1 < N ∧ 0 < c.2 ∧ c.2 = f c.1 := by
  unfold plC
  rw [List.mem_map]
  constructor
  · rintro ⟨p, hp, rfl⟩
    obtain ⟨h1, h2⟩ := List.mem_filter.mp hp
    have h1 := mem_upto.mp h1
    have h2 := of_decide_eq_true h2
    exact ⟨h1.1, h1.2, h2, rfl⟩
  · rintro ⟨h1, h2, h3, h4⟩
    refine ⟨c.1, List.mem_filter.mpr ⟨mem_upto.mpr ⟨h1, h2⟩, decide_eq_true (by rw [← h4]; exact h3)⟩, ?_⟩
    rw [← h4]
theorem bestC_pl {N : Nat} {f : Int → Int} {p : Int} (hp : p ∈ upto N) (hf : 0 ≤ f p) : bestC (plC N f) p = f p := by
  have hp := mem_upto.mp hp
  have h1 : bestC (plC N f) p ≤ f p := bestC_le.mpr ⟨hf, fun c hc e => by have := mem_plC.mp hc; rw [this.2.2.2, e]; exact Int.le_refl _⟩
  have h2 : f p ≤ bestC (plC N f) p := by
    by_cases h : 0 < f p
    · exact (bestC_le.mp (Int.le_refl (bestC (plC N f) p))).2 (p, f p) (mem_plC.mpr ⟨hp.1, hp.2, h, rfl⟩) rfl
    · have := bestC_nonneg (plC N f) p; omega
  omega
theorem bestC_pl2 {N : Nat} {f : Int → Int} {p : Int} (hp : p ∈ upto N) (hf : 0 ≤ f p) : bestC ((plC N f).reverse ++ [(0, 0)] ++ plC N f) p = f p := by
  rw [← bestC_pl hp hf]
  refine bestC_eq fun M hM => ?_
  constructor
  · intro h c hc
    exact h c (by simp [hc])
  · intro h c hc e
    simp only [List.mem_append, List.mem_reverse, List.mem_singleton] at hc
    rcases hc with (hc | hc) | hc
    · exact h c hc e
    · rw [hc]; exact hM
    · exact h c hc e
theorem countM_congr {s : Nat} {f g : Int → Int} (h : ∀ p ∈ upto (2 ^ s), f p = g p) : countM s f = countM s g := by
  unfold countM
  have : leftC s f = leftC s g := by
    funext k
    unfold leftC
    rw [List.map_congr_left h]
  rw [this]
theorem BB_bound {L : List Int} : ∀ {S : List Int}, BB S L ≤ L.length ^ S.length
  | [] => Nat.le_refl 1
  | s :: S => by
    rw [BB, List.length_cons, Nat.pow_succ, Nat.mul_comm (L.length ^ S.length)]
    exact Nat.mul_le_mul (Nat.le_trans (Nat.sub_le _ _) cntLe_le) BB_bound
theorem enI_upto {N : Nat} {g : Int → Int} : enI (((upto N).map g).map dI) = (upto N).map fun p => .two (.own (dI p)) (.own (dI (g p))) := by
  unfold enI
  refine List.ext_getElem (by simp) fun i a b => ?_
  rw [List.getElem_mapIdx]
  simp only [List.getElem_map, upto, List.getElem_range]
theorem plC_len {N : Nat} {f : Int → Int} : (plC N f).length ≤ N := by
  unfold plC
  rw [List.length_map]
  have := List.length_filter_le (fun p => decide (0 < f p)) (upto N)
  rwa [upto_length] at this
section
variable {Φ : Prg} {Tb : Nat → Option Fd} {n w : Nat}
theorem right_ok {t : D} {cs : List (Int × Int)} (S : SeatP Φ Tb) (h505 : Tb 505 = some F__law_least) (h506 : Tb 506 = some F__law_seat_wins) (h507 : Tb 507 = some F__law_ways) (h508 : Tb 508 = some F__law_right)
    (ht : isSh t = false) (hw : w ≤ 6) (hc : ∀ c ∈ cs, ValidC w c) (hl : cs.length ≤ 200) :
    callN Φ Tb (n + 7) 508 [t, dI w, dL true (cs.map cD)] = some (dB true, [t, dI w, dL true (cs.map cD)]) := by
  refine call_eq h508 ⟨rfl, by decide⟩ ?_
  simp only [F__law_right, dfuel, start0, List.map_cons, List.map_nil, List.replicate_succ, List.replicate_zero, List.cons_append, List.nil_append, Nat.reduceSub]
  have p64 := pw_le hw
  have e1 := least_ok (n := n + 5) (o := true) h505 hw hc (Φ := Φ)
  have e2 := seat_wins_ok (n := n + 5) h506 hw (Φ := Φ)
  have e3 := lways_ok (n := n + 5) (Φ := Φ) h507 (seats := seatW w) (least := (upto (2 ^ w)).map (bestC cs)) (by rw [seatW_len]; omega) (by rw [List.length_map, upto_length]; omega)
  have fb : ∀ p, 0 ≤ bestC cs p ∧ bestC cs p ≤ w := fun p => ⟨bestC_nonneg _ _, bestC_le.mpr ⟨by omega, fun c h _ => (hc c h).2.2.2⟩⟩
  have hS : ∀ k, k ≤ w → (cntGe (srt (seatW w)).reverse (k : Int) : Int) = 2 ^ (w - k) := fun k hk => by
    rw [← seatW_ge hw hk]
    congr 1
    exact ((List.reverse_perm _).trans (srt_perm _)).countP_eq _
  have hd : (srt (seatW w)).reverse.Pairwise (· ≥ ·) := by
    rw [List.pairwise_reverse]
    exact srt_sorted _
  have hlen : (srt (seatW w)).reverse.length = 2 ^ w := by rw [List.length_reverse, srt_length, seatW_len]
  have key := countM_BB (s := w) fb hS hd hlen
  have hbd : -(2 ^ 1000) < (BB (srt (seatW w)).reverse ((upto (2 ^ w)).map (bestC cs)) : Int) ∧ (BB (srt (seatW w)).reverse ((upto (2 ^ w)).map (bestC cs)) : Int) < 2 ^ 1000 := by
    have h1 := BB_bound (S := (srt (seatW w)).reverse) (L := (upto (2 ^ w)).map (bestC cs))
    rw [List.length_map, upto_length, hlen] at h1
    have h2 : (2 ^ w) ^ (2 ^ w) ≤ 64 ^ 64 := Nat.le_trans (Nat.pow_le_pow_left p64.2.2 _) (Nat.pow_le_pow_right (by decide) p64.2.2)
    have h3 : (64 : Nat) ^ 64 < 2 ^ 1000 := by
      rw [show (64 : Nat) = 2 ^ 6 from rfl, ← Nat.pow_mul]
      exact Nat.pow_lt_pow_right (by decide) (by decide)
    have h4 : ((2 ^ 1000 : Nat) : Int) = (2 : Int) ^ 1000 := by simp
    omega
  generalize hdue : (BB (srt (seatW w)).reverse ((upto (2 ^ w)).map (bestC cs)) : Int) = due at *
  have q1 : callN Φ Tb (n + 6) 70 [dI w, dL true (cs.map cD)] = some (dI due, [dI w, dL true (cs.map cD)]) := by
    rw [count_cups_ok (n := n) S hw hc hl, key]
  have q2 : callN Φ Tb (n + 6) 70 [dI w, dL true (cs.reverse.map cD)] = some (dI due, [dI w, dL true (cs.reverse.map cD)]) := by
    rw [count_cups_ok (n := n) S hw (fun c h => hc c (List.mem_reverse.mp h)) (by rw [List.length_reverse]; exact hl), countM_congr (g := bestC cs) fun p _ => bestC_rev, key]
  have hpv : ∀ c ∈ plC (2 ^ w) (bestC cs), ValidC w c := fun c h => by
    have := mem_plC.mp h
    refine ⟨this.1, by have := this.2.1; simpa using this, by omega, by rw [this.2.2.2]; exact (fb _).2⟩
  have hpl : (plC (2 ^ w) (bestC cs)).length ≤ 64 := Nat.le_trans plC_len p64.2.2
  have q3 : callN Φ Tb (n + 6) 70 [dI w, dL true ((plC (2 ^ w) (bestC cs)).map cD)] = some (dI due, [dI w, dL true ((plC (2 ^ w) (bestC cs)).map cD)]) := by
    rw [count_cups_ok (n := n) S hw hpv (by omega), countM_congr (g := bestC cs) fun p hp => bestC_pl hp (fb p).1, key]
  have q4 : callN Φ Tb (n + 6) 70 [dI w, dL true (((plC (2 ^ w) (bestC cs)).reverse ++ [(0, 0)] ++ plC (2 ^ w) (bestC cs)).map cD)] = some (dI due, [dI w, dL true (((plC (2 ^ w) (bestC cs)).reverse ++ [(0, 0)] ++ plC (2 ^ w) (bestC cs)).map cD)]) := by
    rw [count_cups_ok (n := n) S hw, countM_congr (g := bestC cs) fun p hp => bestC_pl2 hp (fb p).1, key]
    · intro c h
      simp only [List.mem_append, List.mem_reverse, List.mem_singleton] at h
      rcases h with (h | h) | h
      · exact hpv c h
      · rw [h]; exact ⟨Int.le_refl 0, Int.pow_pos (by decide), Int.le_refl 0, by show (0 : Int) ≤ w; omega⟩
      · exact hpv c h
    · simp; omega
  have rv : ∀ l : List (Int × Int), opX Φ .rev [dL true (l.map cD)] = some (dL true (l.reverse.map cD)) := fun l => by
    rw [opd_rev (allSh_map fun _ => rfl), List.map_reverse]
  have rp := opd_reprI (Φ := Φ) (o := true) (l := [due, due]) (fun i hi => by simp at hi; rw [hi]; exact hbd) (by simp)
  rw [show ([due, due].map dI) = [dI due, dI due] from rfl] at rp
  have ne := opd_neS (Φ := Φ) (reprI_ok [due, due])
  (refine' WSs.step ?h1_1 ?h2_1 ?h3_1; (case h1_1 => (simp only [EVB, below, permL, tgOk, tgs, reduceCtorEq, List.isPrefixOf, start0, Nat.reduceAdd, Nat.reduceSub, Nat.reduceLT, Nat.reduceLeDiff, Nat.reduceEqDiff, Nat.reduceBEq, Nat.reduceBNe, e1, ht] <;> rfl)); (case h3_1 => first | decide | (intro j hj; simp at hj; try omega)))
  (refine' WSs.step ?h1_2 ?h2_2 ?h3_2; (case h1_2 => (simp only [EVB, below, permL, tgOk, tgs, reduceCtorEq, List.isPrefixOf, start0, Nat.reduceAdd, Nat.reduceSub, Nat.reduceLT, Nat.reduceLeDiff, Nat.reduceEqDiff, Nat.reduceBEq, Nat.reduceBNe, e2, e3, ht] <;> rfl)); (case h3_2 => first | decide | (intro j hj; simp at hj; try omega)))
  (refine' WSs.ite ?h1_3 ?h2_3 ?h3_3; (case h1_3 => (simp only [EVB, below, permL, tgOk, tgs, reduceCtorEq, List.isPrefixOf, start0, Nat.reduceAdd, Nat.reduceSub, Nat.reduceLT, Nat.reduceLeDiff, Nat.reduceEqDiff, Nat.reduceBEq, Nat.reduceBNe, q1, q2, rv, rp, ne, ht] <;> rfl)))
  · intro h; cases h
  intro _
  refine WSs.nil ?_
  have he : ∀ Γ : VI.Ctx, enmR Γ (.pl 3 [] (dL true (((upto (2 ^ w)).map (bestC cs)).map dI))) = some ((upto (2 ^ w)).map (fun p => .two (.own (dI p)) (.own (dI (bestC cs p)))), Γ, true, .still) := fun Γ => by rw [enm_pl allSh_ints, enI_upto]
  have hG : ∀ (L : D) z, lcGo Φ (callN Φ Tb (n + 6)) (z + 10) [6, 7, 8] (.tp [7, 8]) [.op (.cmp .Gt) [.v 8, .k (dI 0)]] (.tup [.v 7, .v 8]) ((upto (2 ^ w)).map fun p => .two (.own (dI p)) (.own (dI (bestC cs p)))) [] [some (.own t), some (.own (dI w)), some (.own (dL true (cs.map cD))), some (.own L), some (.own (dI due)), none, none, none, none] true
      = some ((plC (2 ^ w) (bestC cs)).map cD, [some (.own t), some (.own (dI w)), some (.own (dL true (cs.map cD))), some (.own L), some (.own (dI due)), none, none, none, none], true) := by
    intro L z
    have := lcGo_pure (Φ := Φ) (cl := callN Φ Tb (n + 6)) (z := z + 10) (own := [6, 7, 8]) (tg := .tp [7, 8]) (ifs := [.op (.cmp .Gt) [.v 8, .k (dI 0)]]) (elt := .tup [.v 7, .v 8]) (Γ0 := [some (.own t), some (.own (dI w)), some (.own (dL true (cs.map cD))), some (.own L), some (.own (dI due)), none, none, none, none])
      (it := fun p => .two (.own (dI p)) (.own (dI (bestC cs p)))) (G := fun p => [some (.own t), some (.own (dI w)), some (.own (dL true (cs.map cD))), some (.own L), some (.own (dI due)), none, none, some (.own (dI p)), some (.own (dI (bestC cs p)))]) (keep := fun p => decide (0 < bestC cs p)) (g := fun p => cD (p, bestC cs p)) (xs := upto (2 ^ w))
      (fun p _ => by rw [asg_two (by simp) (by simp) (by decide) rfl rfl]; simp only [EVB, below, permL, tgOk, tgs, reduceCtorEq, List.isPrefixOf, start0, Nat.reduceAdd, Nat.reduceSub, Nat.reduceLT, Nat.reduceLeDiff, Nat.reduceEqDiff, Nat.reduceBEq, Nat.reduceBNe]) (fun p _ => by simp only [EVB, below, permL, tgOk, tgs, reduceCtorEq, List.isPrefixOf, start0, Nat.reduceAdd, Nat.reduceSub, Nat.reduceLT, Nat.reduceLeDiff, Nat.reduceEqDiff, Nat.reduceBEq, Nat.reduceBNe]) (fun p _ _ => ⟨_, by simp only [EVB, below, permL, tgOk, tgs, reduceCtorEq, List.isPrefixOf, start0, Nat.reduceAdd, Nat.reduceSub, Nat.reduceLT, Nat.reduceLeDiff, Nat.reduceEqDiff, Nat.reduceBEq, Nat.reduceBNe]; rfl, rfl⟩) (fun p _ => by simp only [EVB, below, permL, tgOk, tgs, reduceCtorEq, List.isPrefixOf, start0, Nat.reduceAdd, Nat.reduceSub, Nat.reduceLT, Nat.reduceLeDiff, Nat.reduceEqDiff, Nat.reduceBEq, Nat.reduceBNe]) (le_lim (by rw [upto_length]; omega))
    rw [this, plC, List.map_map]
    rfl
  (refine' WSs.step ?h1_4 ?h2_4 ?h3_4; (case h1_4 => (simp only [EVB, below, permL, tgOk, tgs, reduceCtorEq, List.isPrefixOf, start0, Nat.reduceAdd, Nat.reduceSub, Nat.reduceLT, Nat.reduceLeDiff, Nat.reduceEqDiff, Nat.reduceBEq, Nat.reduceBNe, he, hG] <;> rfl)); (case h3_4 => first | decide | (intro j hj; simp at hj; try omega)))
  have cat1 : opX Φ (.bin .Add) [dL true ((plC (2 ^ w) (bestC cs)).reverse.map cD), dL true [dT [dI 0, dI 0]]] = some (dL true (((plC (2 ^ w) (bestC cs)).reverse ++ [(0, 0)]).map cD)) := by
    rw [opd_cat (allSh_map fun _ => rfl) (by rfl) (le_lim (by simp; omega)), List.map_append]; rfl
  have cat2 : opX Φ (.bin .Add) [dL true (((plC (2 ^ w) (bestC cs)).reverse ++ [(0, 0)]).map cD), dL true ((plC (2 ^ w) (bestC cs)).map cD)] = some (dL true (((plC (2 ^ w) (bestC cs)).reverse ++ [(0, 0)] ++ plC (2 ^ w) (bestC cs)).map cD)) := by
    rw [opd_cat (allSh_map fun _ => rfl) (allSh_map fun _ => rfl) (le_lim (by simp; omega)), ← List.map_append]
  (refine' WSs.ret ?h1_5 ?h2_5 ?h3_5; (case h1_5 => (simp only [EVB, below, permL, tgOk, tgs, reduceCtorEq, List.isPrefixOf, start0, Nat.reduceAdd, Nat.reduceSub, Nat.reduceLT, Nat.reduceLeDiff, Nat.reduceEqDiff, Nat.reduceBEq, Nat.reduceBNe, q3, q4, rv, cat1, cat2, ht] <;> rfl)); (case h3_5 => first | decide | (intro j hj; simp at hj; try omega)))
  exact ⟨by simp only [EVB, below, permL, tgOk, tgs, reduceCtorEq, List.isPrefixOf, start0, Nat.reduceAdd, Nat.reduceSub, Nat.reduceLT, Nat.reduceLeDiff, Nat.reduceEqDiff, Nat.reduceBEq, Nat.reduceBNe, ht], rfl⟩
end
end K41
/-! K41_H -/
namespace K41
open PySem L2 VI
abbrev rw0 := PySem.Challenge.rw_cuptalk_k41_large_cups_counted
def top (i : Nat) : Stmt := PySem.Challenge.pw_cuptalk_k41_large_cups_counted.main.body.getD i (.Pass ⟨0, 0, 0, 0⟩)
def fns : List (Str × Nat) := [("is_integer", 2), ("is_size", 3), ("is_player", 4), ("is_result", 5), ("is_claim", 6), ("are_results", 7), ("are_claims", 8), ("plain_results", 9), ("plain_claims", 10), ("count_cups", 70), ("_law_tape", 500), ("_law_next", 501), ("_law_shuffled", 502), ("_law_won", 503), ("_law_claims", 504), ("_law_least", 505), ("_law_seat_wins", 506), ("_law_ways", 507), ("_law_right", 508), ("law", 509)]
def cds : List Cd := [
  ⟨12, "Talk", (["Talk"] : List Str), some 11, [(21, 19), (22, 20)], [(14, 12), (15, 13), (16, 14)], [23, 24, 25], [(0, 15), (1, 17), (2, 16), (3, 18)]⟩,
  ⟨13, "LongTalk", (["LongTalk", "Talk"] : List Str), some 21, [(21, 19), (22, 20)], [(14, 12), (15, 13), (16, 14)], [23, 24, 25], [(0, 15), (1, 17), (2, 16), (3, 18)]⟩,
  ⟨16, "Seats", (["Seats"] : List Str), some 66, [(54, 67), (55, 68), (56, 69)], [], [57, 58, 59, 60], []⟩]
def nms : List Str := (["__init__", "obstacle", "word", "size", "results", "claims", "__len__", "__add__", "__eq__", "__contains__", "with_result", "with_claim", "held_size", "held_results", "held_claims", "of", "order", "champion", "__call__", "meeting_of", "need_player", "wins", "conqueror", "beaten", "round_of", "rounds", "matches", "talk", "held_order", "places"] : List Str) ++ (["ring", "from_leaves", "levels", "undefeated", "lowered", "raised", "cup_of", "rounds_of_cup", "many", "above", "under", "asked", "fault", "ways", "ways_with", "put", "rounds_in_all", "claimed", "left_with", "place", "refused", "take", "beat", "claim", "now", "undo", "mark", "undo_to", "begun", "twin"] : List Str) ++ (["states", "marked", "refusals", "split", "join", "replace", "told", "done", "answer", "held_live"] : List Str)
def kwf : List ((Nat × Nat × List Str) × List Nat) := [((70, 0, (["claims", "size"] : List Str)), [1, 0])]
def kwm : List ((Nat × Nat × List Str) × List Nat) := []
def blt : List Str := ["len", "abs", "max", "min", "sorted", "repr", "all", "list", "int", "range", "enumerate", "isinstance", "set", "bool", "str", "tuple", "dict"]
def consT : List (Str × Nat) := [("MOST_SIZE", 0), ("MOST_ITEMS", 1), ("POWERS", 2)]
def cval : List (Nat × D) := [(0, dI 6), (1, dI 200), (2, dT [dI 1, dI 2, dI 4, dI 8, dI 16, dI 32, dI 64])]
def Y : Sy := ⟨fns, cds.map fun d => (d.name, d.num), consT, stdNms ++ nms, kwf, kwm, blt⟩
def defsL : List Df := ([
  ⟨2, .fn "is_integer", "is_integer", "is_integer", top 11, ["thing"]⟩, 
  ⟨3, .fn "is_size", "is_size", "is_size", top 12, ["thing"]⟩, 
  ⟨4, .fn "is_player", "is_player", "is_player", top 13, ["size", "thing"]⟩, 
  ⟨5, .fn "is_result", "is_result", "is_result", top 14, ["size", "thing"]⟩, 
  ⟨6, .fn "is_claim", "is_claim", "is_claim", top 15, ["size", "thing"]⟩, 
  ⟨7, .fn "are_results", "are_results", "are_results", top 16, ["size", "thing", ".0", "one"]⟩, 
  ⟨8, .fn "are_claims", "are_claims", "are_claims", top 17, ["size", "thing", ".0", "one"]⟩, 
  ⟨9, .fn "plain_results", "plain_results", "plain_results", top 18, ["results"]⟩, 
  ⟨10, .fn "plain_claims", "plain_claims", "plain_claims", top 19, ["claims", "greatest", "player", "number", ".0"]⟩, 
  ⟨70, .fn "count_cups", "count_cups", "count_cups", top 24, ["size", "claims"]⟩, 
  ⟨500, .fn "_law_tape", "_law_tape", "_law_tape", top 26, ["script", "k", "cell"]⟩, 
  ⟨501, .fn "_law_next", "_law_next", "_law_next", top 27, ["tape", "many", "digit", "mixed"]⟩, 
  ⟨502, .fn "_law_shuffled", "_law_shuffled", "_law_shuffled", top 28, ["tape", "many", "left", "found", "turn"]⟩, 
  ⟨503, .fn "_law_won", "_law_won", "_law_won", top 29, ["order", "found", "blocks", "later", "spot", ".0", "player"]⟩, 
  ⟨504, .fn "_law_claims", "_law_claims", "_law_claims", top 30, ["tape", "wide", "most", "found", "players", "turn", "way", "number"]⟩, 
  ⟨505, .fn "_law_least", "_law_least", "_law_least", top 31, ["wide", "wants", "found", "player", "number"]⟩, 
  ⟨506, .fn "_law_seat_wins", "_law_seat_wins", "_law_seat_wins", top 32, ["wide", "found", "turn"]⟩, 
  ⟨507, .fn "_law_ways", "_law_ways", "_law_ways", top 33, ["seats", "least", "found", "ready", "left", "taken", "wins"]⟩, 
  ⟨508, .fn "_law_right", "_law_right", "_law_right", top 34, ["tape", "wide", "wants", "least", "due", "plain", ".0", "player", "number"]⟩, 
  ⟨509, .fn "law", "law", "law", top 35, ["script", "k", "tape", "turn", "wide", "wants", "won", "many", "number", "due", ".0", "player"]⟩, 
  ⟨11, .mt "Talk" "__init__", "__init__", "Talk.__init__", inClass (top 20) 0, ["self", "size", "results", "claims"]⟩, 
  ⟨12, .pr "Talk" "size", "size", "Talk.size", inClass (top 20) 1, ["self"]⟩, 
  ⟨13, .pr "Talk" "results", "results", "Talk.results", inClass (top 20) 2, ["self"]⟩, 
  ⟨14, .pr "Talk" "claims", "claims", "Talk.claims", inClass (top 20) 3, ["self"]⟩, 
  ⟨15, .mt "Talk" "__len__", "__len__", "Talk.__len__", inClass (top 20) 4, ["self"]⟩, 
  ⟨16, .mt "Talk" "__add__", "__add__", "Talk.__add__", inClass (top 20) 5, ["self", "other", "results"]⟩, 
  ⟨17, .mt "Talk" "__eq__", "__eq__", "Talk.__eq__", inClass (top 20) 6, ["self", "other"]⟩, 
  ⟨18, .mt "Talk" "__contains__", "__contains__", "Talk.__contains__", inClass (top 20) 7, ["self", "thing"]⟩, 
  ⟨19, .mt "Talk" "with_result", "with_result", "Talk.with_result", inClass (top 20) 8, ["self", "one", "other"]⟩, 
  ⟨20, .mt "Talk" "with_claim", "with_claim", "Talk.with_claim", inClass (top 20) 9, ["self", "player", "number"]⟩] : List Df) ++ ([
  ⟨21, .mt "LongTalk" "__init__", "__init__", "LongTalk.__init__", inClass (top 21) 0, ["self", "size", "results", "claims"]⟩, 
  ⟨66, .mt "Seats" "__init__", "__init__", "Seats.__init__", inClass (top 23) 0, ["self", "talk", "player", "number", ".0"]⟩, 
  ⟨67, .mt "Seats" "ways", "ways", "Seats.ways", inClass (top 23) 1, ["self", "place", "found", "above", "number", "step", "free", "taken"]⟩, 
  ⟨68, .mt "Seats" "ways_with", "ways_with", "Seats.ways_with", inClass (top 23) 2, ["self", "number"]⟩, 
  ⟨69, .mt "Seats" "put", "put", "Seats.put", inClass (top 23) 3, ["self", "player"]⟩] : List Df)
def pk : Pk := ⟨defsL, fns, cds, consT, cval, nms, kwf, kwm, blt, ⟨12, "Talk", (["Talk"] : List Str), some 11, [(21, 19), (22, 20)], [(14, 12), (15, 13), (16, 14)], [23, 24, 25], [(0, 15), (1, 17), (2, 16), (3, 18)]⟩⟩

theorem defOk : ∀ k F, Tb k = some F → DefOk pk k F := by
  intro k F h
  unfold Tb at h
  split at h
  · cases h; exact ⟨_, rfl, by decide +kernel, by kernel_rfl, by kernel_rfl, by kernel_rfl⟩
  · cases h; exact ⟨_, rfl, by decide +kernel, by kernel_rfl, by kernel_rfl, by kernel_rfl⟩
  · cases h; exact ⟨_, rfl, by decide +kernel, by kernel_rfl, by kernel_rfl, by kernel_rfl⟩
  · cases h; exact ⟨_, rfl, by decide +kernel, by kernel_rfl, by kernel_rfl, by kernel_rfl⟩
  · cases h; exact ⟨_, rfl, by decide +kernel, by kernel_rfl, by kernel_rfl, by kernel_rfl⟩
  · cases h; exact ⟨_, rfl, by decide +kernel, by kernel_rfl, by kernel_rfl, by kernel_rfl⟩
  · cases h; exact ⟨_, rfl, by decide +kernel, by kernel_rfl, by kernel_rfl, by kernel_rfl⟩
  · cases h; exact ⟨_, rfl, by decide +kernel, by kernel_rfl, by kernel_rfl, by kernel_rfl⟩
  · cases h; exact ⟨_, rfl, by decide +kernel, by kernel_rfl, by kernel_rfl, by kernel_rfl⟩
  · cases h; exact ⟨_, rfl, by decide +kernel, by kernel_rfl, by kernel_rfl, by kernel_rfl⟩
  · cases h; exact ⟨_, rfl, by decide +kernel, by kernel_rfl, by kernel_rfl, by kernel_rfl⟩
  · cases h; exact ⟨_, rfl, by decide +kernel, by kernel_rfl, by kernel_rfl, by kernel_rfl⟩
  · cases h; exact ⟨_, rfl, by decide +kernel, by kernel_rfl, by kernel_rfl, by kernel_rfl⟩
  · cases h; exact ⟨_, rfl, by decide +kernel, by kernel_rfl, by kernel_rfl, by kernel_rfl⟩
  · cases h; exact ⟨_, rfl, by decide +kernel, by kernel_rfl, by kernel_rfl, by kernel_rfl⟩
  · cases h; exact ⟨_, rfl, by decide +kernel, by kernel_rfl, by kernel_rfl, by kernel_rfl⟩
  · cases h; exact ⟨_, rfl, by decide +kernel, by kernel_rfl, by kernel_rfl, by kernel_rfl⟩
  · cases h; exact ⟨_, rfl, by decide +kernel, by kernel_rfl, by kernel_rfl, by kernel_rfl⟩
  · cases h; exact ⟨_, rfl, by decide +kernel, by kernel_rfl, by kernel_rfl, by kernel_rfl⟩
  · cases h; exact ⟨_, rfl, by decide +kernel, by kernel_rfl, by kernel_rfl, by kernel_rfl⟩
  · cases h; exact ⟨_, rfl, by decide +kernel, by kernel_rfl, by kernel_rfl, by kernel_rfl⟩
  · cases h; exact ⟨_, rfl, by decide +kernel, by kernel_rfl, by kernel_rfl, by kernel_rfl⟩
  · cases h; exact ⟨_, rfl, by decide +kernel, by kernel_rfl, by kernel_rfl, by kernel_rfl⟩
  · cases h; exact ⟨_, rfl, by decide +kernel, by kernel_rfl, by kernel_rfl, by kernel_rfl⟩
  · cases h; exact ⟨_, rfl, by decide +kernel, by kernel_rfl, by kernel_rfl, by kernel_rfl⟩
  · cases h; exact ⟨_, rfl, by decide +kernel, by kernel_rfl, by kernel_rfl, by kernel_rfl⟩
  · cases h; exact ⟨_, rfl, by decide +kernel, by kernel_rfl, by kernel_rfl, by kernel_rfl⟩
  · cases h; exact ⟨_, rfl, by decide +kernel, by kernel_rfl, by kernel_rfl, by kernel_rfl⟩
  · cases h; exact ⟨_, rfl, by decide +kernel, by kernel_rfl, by kernel_rfl, by kernel_rfl⟩
  · cases h; exact ⟨_, rfl, by decide +kernel, by kernel_rfl, by kernel_rfl, by kernel_rfl⟩
  · cases h; exact ⟨_, rfl, by decide +kernel, by kernel_rfl, by kernel_rfl, by kernel_rfl⟩
  · cases h; exact ⟨_, rfl, by decide +kernel, by kernel_rfl, by kernel_rfl, by kernel_rfl⟩
  · cases h; exact ⟨_, rfl, by decide +kernel, by kernel_rfl, by kernel_rfl, by kernel_rfl⟩
  · cases h; exact ⟨_, rfl, by decide +kernel, by kernel_rfl, by kernel_rfl, by kernel_rfl⟩
  · cases h; exact ⟨_, rfl, by decide +kernel, by kernel_rfl, by kernel_rfl, by kernel_rfl⟩
  · cases h
theorem static : pk.Static where
  nm := by decide +kernel
  plain := by decide +kernel
  kwf := by
    intro f n ks pm h
    have h := lookup_memL h
    simp only [pk, kwf, List.mem_cons, List.mem_nil_iff, Prod.mk.injEq, or_false] at h
    rcases h with ⟨⟨rfl, rfl, rfl⟩, rfl⟩
    · exact ⟨_, rfl, fun _ _ _ _ _ _ _ _ us ws l h1 h2 h3 => by match us, ws, h1, h2 with | [], [b0, b1], _, _ => cases h3; rfl⟩
  kwm := by
    intro c f n ks pm hi h
    cases h
def names : List Str := (["_wall", "TalkError", "InvalidSize", "InvalidResults", "InvalidClaims", "InvalidTalk", "MOST_SIZE", "MOST_ITEMS", "POWERS", "is_integer", "is_size", "is_player", "is_result", "is_claim", "are_results", "are_claims", "plain_results", "plain_claims", "Talk", "LongTalk", "Seats", "count_cups", "_law_tape", "_law_next", "_law_shuffled", "_law_won", "_law_claims", "_law_least", "_law_seat_wins", "_law_ways"] : List Str) ++ (["_law_right"] : List Str)
abbrev R : PySem.W.OpenRow := PySem.W.OpenLaw.row rw0
theorem run (w : World) : HandSHeadRun.RunEq R (PySem.W.view R.prog [35]) (hookP 6 pk) (obP 6 pk) 40000 names w := by
  intro os
  kernel_rfl
end K41
/-! K41_P -/
namespace K41
open PySem L2 VI
def dep : Nat := 20
theorem seatP : SeatP pk.phi Tb := ⟨⟨rfl, rfl, rfl, rfl, rfl, rfl, rfl, rfl, rfl, rfl, rfl, rfl, rfl, rfl, rfl, rfl, rfl, rfl, rfl, rfl, rfl, rfl, rfl⟩, rfl, rfl, rfl, rfl, rfl, rfl, rfl, rfl, rfl, rfl, rfl, rfl, rfl⟩
def dueN (l : List Nat) : Int := l.foldl (fun m (i : Nat) => m * (1 + (i : Int))) 1
theorem dueN_snoc {l : List Nat} {x : Nat} : dueN (l ++ [x]) = dueN l * (1 + (x : Int)) := by
  unfold dueN; rw [List.foldl_append]; rfl
theorem cc1 : callN pk.phi Tb 19 70 [dI 6, dL true [dT [dI 63, dI 6]]] = some (dI (dueN (List.range 63)), [dI 6, dL true [dT [dI 63, dI 6]]]) := by
  have := count_cups_ok (n := 13) (s := 6) (o := true) (cs := [(63, 6)]) seatP (by decide) (fun c hc => by rw [List.mem_singleton.mp hc]; exact ⟨by decide, by decide, by decide, by decide⟩) (by decide)
  rw [show countM 6 (bestC [(63, 6)]) = dueN (List.range 63) by decide +kernel] at this
  exact this
theorem cc2 : callN pk.phi Tb 19 70 [dI 6, dL true []] = some (dI (64 * dueN (List.range 63)), [dI 6, dL true []]) := by
  have := count_cups_ok (n := 13) (s := 6) (o := true) (cs := []) seatP (by decide) (fun c hc => by cases hc) (by decide)
  rw [show countM 6 (bestC []) = 64 * dueN (List.range 63) by decide +kernel] at this
  exact this
theorem cc3 : callN pk.phi Tb 19 70 [dI 4, dL true [dT [dI 0, dI 4], dT [dI 5, dI 4]]] = some (dI 0, [dI 4, dL true [dT [dI 0, dI 4], dT [dI 5, dI 4]]]) := by
  have := count_cups_ok (n := 13) (s := 4) (o := true) (cs := [(0, 4), (5, 4)]) seatP (by decide) (fun c hc => by
    simp only [List.mem_cons, List.not_mem_nil, or_false] at hc
    rcases hc with rfl | rfl <;> exact ⟨by decide, by decide, by decide, by decide⟩) (by decide)
  rw [show countM 4 (bestC [(0, 4), (5, 4)]) = 0 by decide +kernel] at this
  exact this
theorem tsh {k : Nat} {t : D} (h : TP k t) : isSh t = false := by
  obtain ⟨a, b, c, rfl, _⟩ := h; rfl
theorem plain (is : List Int) (hl : is.length ≤ 63) (_ : ∀ z ∈ is, Builtin.Int.intBits z ≤ 1048576) : ∃ outs, callN pk.phi Tb dep 509 [dL false (is.map dI)] = some (dB true, outs) := by
  suffices h : ∃ d os, callN pk.phi Tb (19 + 1) 509 [dL false (is.map dI)] = some (d, os) ∧ d = dB true by
    obtain ⟨d, os, h, rfl⟩ := h
    exact ⟨os, h⟩
  refine call_fn (show Tb 509 = some F_law from rfl) ⟨rfl, by decide⟩ ?_
  simp only [F_law, dfuel, start0, List.map_cons, List.map_nil, List.replicate_succ, List.replicate_zero, List.cons_append, List.nil_append, Nat.reduceSub]
  generalize hSC : dL false (is.map dI) = SC
  have ssh : isSh SC = true := by rw [← hSC]; rfl
  have slen : opX pk.phi .len [SC] = some (dI (is.length : Int)) := by rw [← hSC, opd_lenL, List.length_map]
  obtain ⟨V, hV, hV4⟩ : ∃ V : Nat, (if (if (is.length : Int) < 4 then (is.length : Int) else 4) > 1 then (if (is.length : Int) < 4 then (is.length : Int) else 4) else 1) = (V : Int) ∧ V ≤ 4 := by
    by_cases h4 : (is.length : Int) < 4
    · by_cases h1 : (is.length : Int) > 1
      · exact ⟨is.length, by rw [if_pos h4, if_pos h1], by omega⟩
      · exact ⟨1, by rw [if_pos h4, if_neg h1]; rfl, by omega⟩
    · exact ⟨4, by rw [if_neg h4]; rfl, Nat.le_refl _⟩
  have hrV : rngX [dI (V : Int)] = some ((upto V).map dI) := rng_upto rfl (by omega)
  have hr8 : rngX [dI 8] = some ((upto 8).map dI) := rng_upto (n := 8) rfl (by decide)
  have N1 : NextOk (callN pk.phi Tb 19) 501 := next_ok rfl
  have N0 : NextOk (callN pk.phi Tb 18) 501 := next_ok rfl
  (refine' WSs.cons (WS.for_ ?h1_1 ?h2_1 ?h3_1); (case h1_1 => first | rfl | (simp only [EVB, below, permL, tgOk, tgs, reduceCtorEq, List.isPrefixOf, start0, Nat.reduceAdd, Nat.reduceSub, Nat.reduceLT, Nat.reduceLeDiff, Nat.reduceEqDiff, Nat.reduceBEq, Nat.reduceBNe, slen, hV, hrV, ssh] <;> rfl)); (case h2_1 => (simp only [EVB, below, permL, tgOk, tgs, reduceCtorEq, List.isPrefixOf, start0, Nat.reduceAdd, Nat.reduceSub, Nat.reduceLT, Nat.reduceLeDiff, Nat.reduceEqDiff, Nat.reduceBEq, Nat.reduceBNe, slen, hV, hrV, ssh] <;> rfl)))
  rw [List.map_map]
  refine WFo.inv (fun pre Γ => ∃ (e1 e2 e3 e4 e5 e6 e7 e8 : Option D), Γ = [some (.own SC), oD e1, oD e2, oD e3, oD e4, oD e5, oD e6, oD e7, oD e8, none, none, none]) ⟨none, none, none, none, none, none, none, none, rfl⟩ (by decide) ?_ ?_
  · rintro pre x post e Γ ⟨e1, e2, e3, e4, e5, e6, e7, e8, rfl⟩
    refine ⟨_, asg_nm (by simp) (by rfl), ?_⟩
    obtain ⟨kk, rfl, hkk⟩ : ∃ kk : Nat, x = kk ∧ kk < 1000 := by
      have := mem_upto.mp (show x ∈ upto V by rw [e]; simp)
      exact ⟨x.toNat, by omega, by omega⟩
    obtain ⟨t0, ht0, tp0⟩ := tape_ok (Φ := pk.phi) (Tb := Tb) (n := 18) (is := is) (f := 500) rfl hkk
    rw [hSC] at ht0
    (refine' WSs.step ?h1_2 ?h2_2 ?h3_2; (case h1_2 => (simp only [EVB, below, permL, tgOk, tgs, reduceCtorEq, List.isPrefixOf, start0, Nat.reduceAdd, Nat.reduceSub, Nat.reduceLT, Nat.reduceLeDiff, Nat.reduceEqDiff, Nat.reduceBEq, Nat.reduceBNe, ht0, ssh] <;> rfl)); (case h3_2 => first | decide | (intro j hj; simp at hj; try omega)))
    (refine' WSs.cons (WS.for_ ?h1_3 ?h2_3 ?h3_3); (case h1_3 => first | rfl | (simp only [EVB, below, permL, tgOk, tgs, reduceCtorEq, List.isPrefixOf, start0, Nat.reduceAdd, Nat.reduceSub, Nat.reduceLT, Nat.reduceLeDiff, Nat.reduceEqDiff, Nat.reduceBEq, Nat.reduceBNe, hr8] <;> rfl)); (case h2_3 => (simp only [EVB, below, permL, tgOk, tgs, reduceCtorEq, List.isPrefixOf, start0, Nat.reduceAdd, Nat.reduceSub, Nat.reduceLT, Nat.reduceLeDiff, Nat.reduceEqDiff, Nat.reduceBEq, Nat.reduceBNe, hr8] <;> rfl)))
    rw [List.map_map]
    refine WFo.inv (fun pre Γ => ∃ (tt : D) (e3 e4 e5 e6 e7 e8 : Option D), Γ = [some (.own SC), some (.own (dI (kk : Int))), some (.own tt), oD e3, oD e4, oD e5, oD e6, oD e7, oD e8, none, none, none] ∧ TP (1000000 - 3000 * pre.length) tt) ⟨t0, e3, e4, e5, e6, e7, e8, rfl, tp0⟩ (by decide) ?_ ?_
    · rintro pre x post e Γ ⟨tt, e3, e4, e5, e6, e7, e8, rfl, htt⟩
      have hpre : pre.length < 8 := by
        have := congrArg List.length e
        rw [upto_length, List.length_append, List.length_cons] at this
        omega
      refine ⟨_, asg_nm (by simp) (by rfl), ?_⟩
      obtain ⟨B, hB⟩ : ∃ B, B = 1000000 - 3000 * (pre.length + 1) := ⟨_, rfl⟩
      obtain ⟨r1, t1, a1, a2, a3, a4⟩ := N1 (B + 2000) tt 3 (htt.le (by omega)) (by decide) (by decide)
      obtain ⟨w, hw, hw4, hw6⟩ : ∃ w : Nat, (4 : Int) + r1 = (w : Int) ∧ 4 ≤ w ∧ w ≤ 6 := ⟨(4 + r1).toNat, by omega, by omega, by omega⟩
      (refine' WSs.step ?h1_4 ?h2_4 ?h3_4; (case h1_4 => (simp only [EVB, below, permL, tgOk, tgs, reduceCtorEq, List.isPrefixOf, start0, Nat.reduceAdd, Nat.reduceSub, Nat.reduceLT, Nat.reduceLeDiff, Nat.reduceEqDiff, Nat.reduceBEq, Nat.reduceBNe, a1, tsh htt, tsh a4, hw] <;> rfl)); (case h3_4 => first | decide | (intro j hj; simp at hj; try omega)))
      obtain ⟨r2, t2, b1, b2, b3, b4⟩ := N1 (B + 1999) t1 4 a4 (by decide) (by decide)
      obtain ⟨y, rfl⟩ : ∃ y : Nat, r2 = y := ⟨r2.toNat, by omega⟩
      obtain ⟨most, hmo, hm2⟩ : ∃ most : Nat, [dI 2, dI 6, dI 15, dI 200][y]? = some (dI (most : Int)) ∧ most ≤ 200 := by
        match y, b3 with
        | 0, _ => exact ⟨2, rfl, by decide⟩
        | 1, _ => exact ⟨6, rfl, by decide⟩
        | 2, _ => exact ⟨15, rfl, by decide⟩
        | 3, _ => exact ⟨200, rfl, by decide⟩
        | y + 4, h => omega
      have iy : ixOf (dL true [dI 2, dI 6, dI 15, dI 200]) (dI (y : Int)) = some y := ix_L rfl (by show y < 4; omega)
      obtain ⟨cs, t3, c1, c2, c3, c4⟩ := claims_ok (Φ := pk.phi) (Tb := Tb) (n := 18) (w := w) (t := t2) (most := most) (k := B + 500) (f := 504) rfl N0 (b4.le (by omega)) hw6 hm2
      (refine' WSs.step ?h1_5 ?h2_5 ?h3_5; (case h1_5 => (simp only [EVB, below, permL, tgOk, tgs, reduceCtorEq, List.isPrefixOf, start0, Nat.reduceAdd, Nat.reduceSub, Nat.reduceLT, Nat.reduceLeDiff, Nat.reduceEqDiff, Nat.reduceBEq, Nat.reduceBNe, b1, iy, hmo, c1, tsh a4, tsh b4, tsh c2] <;> rfl)); (case h3_5 => first | decide | (intro j hj; simp at hj; try omega)))
      refine WSs.cut (fun Γ => ∃ (tt : D) (cs : List (Int × Int)) (e6 e7 e8 : Option D), Γ = [some (.own SC), some (.own (dI (kk : Int))), some (.own tt), some (.own (dI x)), some (.own (dI (w : Int))), some (.own (dL true (cs.map cD))), oD e6, oD e7, oD e8, none, none, none] ∧ TP B tt ∧ cs.length ≤ 200 ∧ ∀ c ∈ cs, ValidC w c) ?_ ?_
      · have z2 : (2 : Int) ≠ 0 := by decide
        (refine' WS.ite ?h1_6 ?h2_6 ?h3_6; (case h1_6 => (simp only [EVB, below, permL, tgOk, tgs, reduceCtorEq, List.isPrefixOf, start0, Nat.reduceAdd, Nat.reduceSub, Nat.reduceLT, Nat.reduceLeDiff, Nat.reduceEqDiff, Nat.reduceBEq, Nat.reduceBNe, z2] <;> rfl)))
        · intro _
          have p64 := pw_le hw6
          have i4 : ixOf (dL true [dI 16, dI 32, dI 64]) (dI ((w : Int) - 4)) = some (w - 4) := ix_L (by omega) (by show w - 4 < 3; omega)
          have h4 : [dI 16, dI 32, dI 64][w - 4]? = some (dI ((2 ^ w : Nat) : Int)) := by
            match w, hw4, hw6 with
            | 4, _, _ => rfl
            | 5, _, _ => rfl
            | 6, _, _ => rfl
            | n + 7, _, h => omega
          obtain ⟨xs, t4, d1, d2, d3, d4⟩ := shuffled_ok (Φ := pk.phi) (Tb := Tb) (n := 18) (t := t3) (m := 2 ^ w) (k := B + 100) (f := 502) (g := 0) rfl N0 (c2.le (by omega)) p64.2.2
          obtain ⟨ws, f1, f2, f3⟩ := won_ok (Φ := pk.phi) (Tb := Tb) (n := 18) (xs := xs) (J := w) (f := 503) rfl hw6 d3 d4
          obtain ⟨r5, t5, g1, g2, g3, g4⟩ := N1 (B + 99) t4 ((w : Int) + 1) d2 (by omega) (by omega)
          (refine' WSs.step ?h1_7 ?h2_7 ?h3_7; (case h1_7 => (simp only [EVB, below, permL, tgOk, tgs, reduceCtorEq, List.isPrefixOf, start0, Nat.reduceAdd, Nat.reduceSub, Nat.reduceLT, Nat.reduceLeDiff, Nat.reduceEqDiff, Nat.reduceBEq, Nat.reduceBNe, i4, h4, d1, f1, g1, tsh c2, tsh d2, tsh g4] <;> rfl)); (case h3_7 => first | decide | (intro j hj; simp at hj; try omega)))
          have hfz : fz (dL true (ws.map dI)) = dL false (ws.map dI) := by rw [fz_L, fz_ints]
          have he : ∀ Γ Γ1 : VI.Ctx, ∀ q, enmR Γ (.vl (dL false (ws.map dI)) Γ1 q) = some ((ws.map dI).zipIdx.map fun p => .two (.own (dI ((p.2 : Nat) : Int))) (.own p.1), Γ1, q, .free) := fun Γ Γ1 q => by rw [enm_vl allSh_ints, enI_eq]
          have hG : ∀ z, ∃ ds Γ' q', lcGo pk.phi (callN pk.phi Tb 19) (z + 10) [10, 11, 8] (.tp [11, 8]) [] (.tup [.v 11, .op .min [.v 8, .call 501 [.v 2, .v 7]]]) ((ws.map dI).zipIdx.map fun p => .two (.own (dI ((p.2 : Nat) : Int))) (.own p.1)) []
              [some (.own SC), some (.own (dI (kk : Int))), some (.own t5), some (.own (dI x)), some (.own (dI (w : Int))), some (.own (dL true (cs.map cD))), some (.own (dL false (ws.map dI))), some (.own (dI (1 + r5))), none, none, none, none] true = some (ds, Γ', q') ∧
              ∃ (tt : D) (cs' : List (Int × Int)), Γ' = [some (.own SC), some (.own (dI (kk : Int))), some (.own tt), some (.own (dI x)), some (.own (dI (w : Int))), some (.own (dL true (cs.map cD))), some (.own (dL false (ws.map dI))), some (.own (dI (1 + r5))), none, none, none, none] ∧ TP (B + (99 - (ws.map dI).zipIdx.length)) tt ∧ ds = cs'.map cD ∧ cs'.length = (ws.map dI).zipIdx.length ∧ ∀ c ∈ cs', ValidC w c := by
            intro z
            refine lcGo_inv (fun pre acc Γ => ∃ (tt : D) (cs' : List (Int × Int)), Γ = [some (.own SC), some (.own (dI (kk : Int))), some (.own tt), some (.own (dI x)), some (.own (dI (w : Int))), some (.own (dL true (cs.map cD))), some (.own (dL false (ws.map dI))), some (.own (dI (1 + r5))), none, none, none, none] ∧ TP (B + (99 - pre.length)) tt ∧ acc = cs'.map cD ∧ cs'.length = pre.length ∧ ∀ c ∈ cs', ValidC w c) ⟨t5, [], rfl, g4, rfl, rfl, fun c h => by cases h⟩ ?_
            rintro pre2 p post2 acc Γ e2 ⟨tt, cs', rfl, htt2, rfl, hcl, hcv⟩
            obtain ⟨v, hv, rfl⟩ : ∃ v, ws[pre2.length]? = some v ∧ p = (dI v, pre2.length) := by
              have h3 : (ws.map dI).zipIdx[pre2.length]? = some p := by rw [e2]; simp
              rw [List.getElem?_zipIdx, List.getElem?_map] at h3
              cases h5 : ws[pre2.length]? with
              | none => rw [h5] at h3; cases h3
              | some v =>
                rw [h5] at h3
                refine ⟨v, rfl, ?_⟩
                have h3 : (dI v, 0 + pre2.length) = p := Option.some.inj h3
                rw [← h3, Nat.zero_add]
            have hlt : pre2.length < ws.length := (List.getElem?_eq_some_iff.mp hv).1
            obtain ⟨r6, t6, k1, k2, k3, k4⟩ := N1 (B + (99 - (pre2.length + 1))) tt (1 + r5) (htt2.le (by omega)) (by omega) (by omega)
            have hv0 := f3 v (List.mem_of_getElem? hv)
            refine ⟨_, _, cD ((pre2.length : Int), if r6 < v then r6 else v), _, _, _, _, asg_two (by simp) (by simp) (by decide) rfl rfl, by rw [ev_Ts0], by simp only [EVB, below, permL, tgOk, tgs, reduceCtorEq, List.isPrefixOf, start0, Nat.reduceAdd, Nat.reduceSub, Nat.reduceLT, Nat.reduceLeDiff, Nat.reduceEqDiff, Nat.reduceBEq, Nat.reduceBNe, k1, tsh htt2, tsh k4] <;> rfl, rfl, lt_lim (by rw [List.length_map]; omega), t6, cs' ++ [((pre2.length : Int), if r6 < v then r6 else v)], ?_, ?_, ?_, ?_, ?_⟩
            · simp only [EVB, below, permL, tgOk, tgs, reduceCtorEq, List.isPrefixOf, start0, Nat.reduceAdd, Nat.reduceSub, Nat.reduceLT, Nat.reduceLeDiff, Nat.reduceEqDiff, Nat.reduceBEq, Nat.reduceBNe]
            · rw [List.length_append, List.length_singleton]; exact k4
            · rw [List.map_append]; rfl
            · rw [List.length_append, List.length_append, hcl]; rfl
            · intro c hc
              rcases List.mem_append.mp hc with h | h
              · exact hcv c h
              · rw [List.mem_singleton.mp h]
                refine ⟨by show (0 : Int) ≤ (pre2.length : Int); omega, ?_, ?_, ?_⟩
                · show (pre2.length : Int) < 2 ^ w
                  have : ((2 ^ w : Nat) : Int) = (2 : Int) ^ w := by simp
                  omega
                · show 0 ≤ (if r6 < v then r6 else v)
                  split <;> omega
                · show (if r6 < v then r6 else v) ≤ w
                  split <;> omega
          obtain ⟨ds, Γ', q', m1, tt, cs', rfl, m2, rfl, m3, m4⟩ := hG 37
          simp only [Nat.reduceAdd] at m1
          rw [List.length_zipIdx, List.length_map, f2] at m2 m3
          (refine' WSs.step ?h1_8 ?h2_8 ?h3_8; (case h1_8 => (simp only [EVB, below, permL, tgOk, tgs, reduceCtorEq, List.isPrefixOf, start0, Nat.reduceAdd, Nat.reduceSub, Nat.reduceLT, Nat.reduceLeDiff, Nat.reduceEqDiff, Nat.reduceBEq, Nat.reduceBNe, hfz, he, m1] <;> rfl)); (case h3_8 => first | decide | (intro j hj; simp at hj; try omega)))
          exact WSs.nil ⟨tt, cs', some (dL false (ws.map dI)), some (dI (1 + r5)), none, rfl, m2.le (by omega), by omega, m4⟩
        · intro _
          exact WSs.nil ⟨t3, cs, e6, e7, e8, rfl, c2.le (by omega), c3, c4⟩
      · rintro Γ ⟨tt, cs, e6, e7, e8, rfl, htt, hcl, hcv⟩
        have hR := right_ok (Φ := pk.phi) (Tb := Tb) (n := 12) (t := tt) (cs := cs) (w := w) seatP rfl rfl rfl rfl (tsh htt) hw6 hcv hcl
        (refine' WSs.ite ?h1_9 ?h2_9 ?h3_9; (case h1_9 => (simp only [EVB, below, permL, tgOk, tgs, reduceCtorEq, List.isPrefixOf, start0, Nat.reduceAdd, Nat.reduceSub, Nat.reduceLT, Nat.reduceLeDiff, Nat.reduceEqDiff, Nat.reduceBEq, Nat.reduceBNe, hR, tsh htt] <;> rfl)))
        · intro h; cases h
        intro _
        refine WSs.nil (WSs.nil ⟨tt, some (dI x), some (dI (w : Int)), some (dL true (cs.map cD)), e6, e7, e8, rfl, ?_⟩)
        rw [List.length_append, List.length_singleton, ← hB]
        exact htt
    · rintro Γ ⟨tt, e3, e4, e5, e6, e7, e8, rfl, htt⟩
      exact WSs.nil ⟨some (dI (kk : Int)), some tt, e3, e4, e5, e6, e7, e8, rfl⟩
  · rintro Γ ⟨e1, e2, e3, e4, e5, e6, e7, e8, rfl⟩
    have hr64 : rngX [dI 1, dI 64] = some ((List.range 63).map fun (i : Nat) => dI (1 + (i : Int))) := by
      rw [rng_2 (by decide)]; rfl
    (refine' WSs.step ?h1_10 ?h2_10 ?h3_10; (case h1_10 => (simp only [EVB, below, permL, tgOk, tgs, reduceCtorEq, List.isPrefixOf, start0, Nat.reduceAdd, Nat.reduceSub, Nat.reduceLT, Nat.reduceLeDiff, Nat.reduceEqDiff, Nat.reduceBEq, Nat.reduceBNe] <;> rfl)); (case h3_10 => first | decide | (intro j hj; simp at hj; try omega)))
    (refine' WSs.cons (WS.for_ ?h1_11 ?h2_11 ?h3_11); (case h1_11 => first | rfl | (simp only [EVB, below, permL, tgOk, tgs, reduceCtorEq, List.isPrefixOf, start0, Nat.reduceAdd, Nat.reduceSub, Nat.reduceLT, Nat.reduceLeDiff, Nat.reduceEqDiff, Nat.reduceBEq, Nat.reduceBNe, hr64] <;> rfl)); (case h2_11 => (simp only [EVB, below, permL, tgOk, tgs, reduceCtorEq, List.isPrefixOf, start0, Nat.reduceAdd, Nat.reduceSub, Nat.reduceLT, Nat.reduceLeDiff, Nat.reduceEqDiff, Nat.reduceBEq, Nat.reduceBNe, hr64] <;> rfl)))
    rw [List.map_map]
    refine WFo.inv (fun pre Γ => ∃ (e8 : Option D), Γ = [some (.own SC), oD e1, oD e2, oD e3, oD e4, oD e5, oD e6, oD e7, oD e8, some (.own (dI (dueN pre))), none, none]) ⟨e8, rfl⟩ (by decide) ?_ ?_
    · rintro pre x post e Γ ⟨e8, rfl⟩
      refine ⟨_, asg_nm (by simp) (by rfl), ?_⟩
      have hx : x < 63 := List.mem_range.mp (show x ∈ List.range 63 by rw [e]; simp)
      have sm : small64 (1 + (x : Int)) = true := small_of (by omega)
      (refine' WSs.step ?h1_12 ?h2_12 ?h3_12; (case h1_12 => (simp only [EVB, below, permL, tgOk, tgs, reduceCtorEq, List.isPrefixOf, start0, Nat.reduceAdd, Nat.reduceSub, Nat.reduceLT, Nat.reduceLeDiff, Nat.reduceEqDiff, Nat.reduceBEq, Nat.reduceBNe, opd_mul, sm] <;> rfl)); (case h3_12 => first | decide | (intro j hj; simp at hj; try omega)))
      exact WSs.nil ⟨some (dI (1 + (x : Int))), by rw [dueN_snoc]; rfl⟩
    · rintro Γ ⟨e8, rfl⟩
      have s64 : small64 64 = true := by decide
      have d1 : decide (dueN (List.range 63) = dueN (List.range 63)) = true := by simp
      have d2 : decide ((64 : Int) * dueN (List.range 63) = 64 * dueN (List.range 63)) = true := by simp
      (refine' WSs.ret ?h1_13 ?h2_13 ?h3_13; (case h1_13 => (simp only [EVB, below, permL, tgOk, tgs, reduceCtorEq, List.isPrefixOf, start0, Nat.reduceAdd, Nat.reduceSub, Nat.reduceLT, Nat.reduceLeDiff, Nat.reduceEqDiff, Nat.reduceBEq, Nat.reduceBNe, cc1, cc2, cc3, opd_mul, s64, ssh, d1, d2] <;> rfl)); (case h3_13 => first | decide | (intro j hj; simp at hj; try omega)))
      exact ⟨_, by simp only [EVB, below, permL, tgOk, tgs, reduceCtorEq, List.isPrefixOf, start0, Nat.reduceAdd, Nat.reduceSub, Nat.reduceLT, Nat.reduceLeDiff, Nat.reduceEqDiff, Nat.reduceBEq, Nat.reduceBNe, ssh] <;> rfl, rfl⟩
end K41
/-! K41_E -/
open PySem PySem.W PySem.Calls PyProof.Rows
set_option maxRecDepth 100000 in
set_option maxHeartbeats 0 in
theorem PySem.Challenge.cw_cuptalk_k41_large_cups_counted_holds : PySem.Challenge.rw_cuptalk_k41_large_cups_counted.Holds := by
  w_on; o_law
  refine HandSHeadRun.head_any (r := K41.R) (q := view K41.R.prog [35]) (H := VI.hookP 6 K41.pk) (ob := VI.obP 6 K41.pk) (M := 40000) (loose := K41.names) (d := HandSHeadRun.topDef K41.R.prog 35) (kwd := []) (VI.obP_eq 6 K41.pk) (by kernel_rfl) (fun s => by kernel_rfl) K41.run (by kernel_rfl) (by kernel_rfl) (by kernel_rfl) (by rfl) (by first | assumption | decide +kernel) (by decide +kernel) ⟨rfl, rfl, rfl, rfl, rfl, by decide +kernel⟩ ?hw ?hc
  case hw => w_witness2
  case hc => exact VI.law_end (pk := K41.pk) K41.static K41.defOk (kl := 509) (dep := K41.dep) rfl (by kernel_rfl) ⟨rfl, by decide, by decide⟩ (by kernel_rfl) (by kernel_rfl) K41.plain
