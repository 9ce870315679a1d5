import PyProof.Rows.All
import HandS.ForMost
import HandS.Wide
import HandS.IsInst
import HandS.Style
import HandS.Flow
import HandS.Exc
import HandS.ExcOwn
import HandS.ExcInit
import HandS.WordsExc
import HandS.ExcIs
import HandS.ExcField
import HandS.Zip
import HandS.More
import HandS.EndBits
import PyProof.ReprRoads
import PyProof.ReprLen
import HandS.TryOnly
import KE.GoesMore
import HandS.Text
import PyProof.StrOps2
import HandS.Deep
import HandS.Steps
import HandS.TupAny
import KE.SortCalls
import KE.DataCmp
import HandS.Dict
import HandS.TupSets
import KE.DataMinMax
import KE.KDictPairs
import HandS.RevTup
import HandS.Conv
import KE.KDictZip
import HandS.TupMul
import PyProof.Rows.IntBool
import KE.KDictCopyH
import KE.KDictSum
import HandS.TupLen
import KE.GoesEnum
import HandS.SetFor
import HandS.Strs
import HandS.ClsMeth
import KE.KExcIs
import HandS.Keys
import PyProof.ListNew
import HandS.DictTup
import HandS.ListItems
import PySem.Challenge.RW_fewgauges_k36_rules_at_their_bounds
import Wide.All
import OpenK.AllK
import Wide.FinOn
set_option Elab.async false
set_option linter.all false
set_option maxRecDepth 100000
set_option maxHeartbeats 4000000
/-! W8a: states at the level of data. -/
namespace W8
open PySem L2

abbrev D := PyData
/-- a thing of one's own: a list of data, a dict of data by numbers and texts, by tuples of these, a caught exception by its class's name and its fields -/
inductive OD where
  | lst (ds : List D) | dK (kds : List (Key × D)) | dT (kds : List (List Key × D)) | ex (nm : Str) (fs : List (Str × Key))
/-- what a thing of the pool holds: data, or a reference to another thing of it -/
inductive GV where
  | d (x : D) | r (a : Addr)
/-- a thing of the pool: plain ones; lists, tuples, dicts that refer to others; an instance by its class's name, its dict's place, its fields -/
inductive OG where
  | pl (o : OD) | lst (gs : List GV) | tup (gs : List GV) | dK (kgs : List (Key × GV)) | dT (kgs : List (List Key × GV)) | ins (nm : Str) (dx : Addr) (fs : List (Str × GV))
/-- what is known of a slot: a reference to a thing of the pool; the pool itself; nothing; a dict that is walked; data that stays; a thing of one's own (lent by the caller: its number; or new); the very value of a slot -/
inductive SD where
  | no | v (d : D) | own (t : Option Nat) (o : OD) | al (i : Nat) | fz (kds : List (List Key × D)) | rf (a : Addr) | gh (G : List (Addr × OG))
abbrev SD.ow (t : Option Nat) (ds : List D) : SD := .own t (.lst ds)

def LK (K : PySem.W.Frag) (a : Addr) (xs : List V) : Prop :=
  ∃ (o : Obj) (its : Array Value) (n : Nat), K.lookup a = some o ∧ o.cls = .type "list" ∧ o.dict = none ∧ o.data = .seq its n ∧ its.size ≤ sizeLine ∧ Vals xs its.toList
mutual
inductive Rp (K : PySem.W.Frag) (C : Addr → Prop) (H : Hp) : V → D → Prop
  | non : Rp K C H .non .none
  | bl (b : Bool) : Rp K C H (.bl b) (.bool b)
  | int (i : Int) : Rp K C H (.int i) (.int i)
  | str (x : Str) : Rp K C H (.str x) (.str x)
  | lst {a : Addr} {xs : List V} {ds : List D} : C a → Rd H a (.lst xs) → RpA K C H xs ds → Rp K C H (.ref a) (.list ds)
  | lstK {a : Addr} {xs : List V} {ds : List D} : LK K a xs → RpA K C H xs ds → Rp K C H (.ref a) (.list ds)
  | tup {a : Addr} {xs : List V} {ds : List D} : SqT K H a xs → RpA K C H xs ds → Rp K C H (.ref a) (.tuple ds)
inductive RpA (K : PySem.W.Frag) (C : Addr → Prop) (H : Hp) : List V → List D → Prop
  | nil : RpA K C H [] []
  | cons {v : V} {vs : List V} {d : D} {ds : List D} : Rp K C H v d → RpA K C H vs ds → RpA K C H (v :: vs) (d :: ds)
end
section
variable {K : PySem.W.Frag} {C C' : Addr → Prop} {H H' : Hp}
mutual
theorem Rp.mono (ht : ∀ a xs, Rd H a (.tup xs) → Rd H' a (.tup xs)) (hl : ∀ a xs, C a → Rd H a (.lst xs) → C' a ∧ Rd H' a (.lst xs)) : ∀ (d : D) (v : V), Rp K C H v d → Rp K C' H' v d
  | .none, _, h => by cases h; exact .non
  | .bool b, _, h => by cases h; exact .bl b
  | .int i, _, h => by cases h; exact .int i
  | .str x, _, h => by cases h; exact .str x
  | .list ds, _, h => by
    cases h with
    | lst c r q => exact .lst (hl _ _ c r).1 (hl _ _ c r).2 (RpA.mono ht hl ds _ q)
    | lstK c q => exact .lstK c (RpA.mono ht hl ds _ q)
  | .tuple ds, _, h => by
    cases h with
    | tup c q => exact .tup (c.imp (ht _ _) id) (RpA.mono ht hl ds _ q)
  | .dict _, _, h => by cases h
theorem RpA.mono (ht : ∀ a xs, Rd H a (.tup xs) → Rd H' a (.tup xs)) (hl : ∀ a xs, C a → Rd H a (.lst xs) → C' a ∧ Rd H' a (.lst xs)) : ∀ (ds : List D) (vs : List V), RpA K C H vs ds → RpA K C' H' vs ds
  | [], _, h => by cases h; exact .nil
  | d :: ds, _, h => by
    cases h with
    | cons a b => exact .cons (Rp.mono ht hl d _ a) (RpA.mono ht hl ds _ b)
end
mutual
theorem Rp.dp : ∀ (d : D) (v : V), Rp K C H v d → Dp K H v d
  | .none, _, h => by cases h; exact .non
  | .bool b, _, h => by cases h; exact .bl b
  | .int i, _, h => by cases h; exact .int i
  | .str x, _, h => by cases h; exact .str x
  | .list ds, _, h => by
    cases h with
    | lst c r q => exact .lst (.inl r) (RpA.dp ds _ q)
    | lstK c q => exact .lst (.inr c) (RpA.dp ds _ q)
  | .tuple ds, _, h => by
    cases h with
    | tup c q => exact .tup c (RpA.dp ds _ q)
  | .dict _, _, h => by cases h
theorem RpA.dp : ∀ (ds : List D) (vs : List V), RpA K C H vs ds → DpAll K H vs ds
  | [], _, h => by cases h; exact .nil
  | d :: ds, _, h => by
    cases h with
    | cons a b => exact .cons (Rp.dp d _ a) (RpA.dp ds _ b)
end
theorem RpA.length {vs : List V} {ds : List D} (h : RpA K C H vs ds) : vs.length = ds.length := by
  induction ds generalizing vs with
  | nil => cases h; rfl
  | cons d ds ih => cases h with | cons a b => simp [ih b]
theorem RpA.get {vs : List V} {ds : List D} (h : RpA K C H vs ds) : ∀ {i : Nat} {d : D}, ds[i]? = some d → ∃ x, vs[i]? = some x ∧ Rp K C H x d := by
  induction ds generalizing vs with
  | nil => intro i d e; simp at e
  | cons d0 ds ih =>
    cases h with
    | cons a b =>
      intro i d e
      cases i with
      | zero => simp at e; subst e; exact ⟨_, rfl, a⟩
      | succ i => obtain ⟨x, h1, h2⟩ := ih b (i := i) (by simpa using e); exact ⟨x, by simpa using h1, h2⟩
theorem RpA.append {vs ws : List V} {ds es : List D} (h : RpA K C H vs ds) (h' : RpA K C H ws es) : RpA K C H (vs ++ ws) (ds ++ es) := by
  induction ds generalizing vs with
  | nil => cases h; exact h'
  | cons d ds ih => cases h with | cons a b => exact .cons a (ih b)
theorem RpA.take {vs : List V} {ds : List D} (h : RpA K C H vs ds) (n : Nat) : RpA K C H (vs.take n) (ds.take n) := by
  induction ds generalizing vs n with
  | nil => cases h; simpa using RpA.nil
  | cons d ds ih => cases h with | cons a b => cases n with
    | zero => exact .nil
    | succ n => exact .cons a (ih b n)
theorem RpA.drop {vs : List V} {ds : List D} (h : RpA K C H vs ds) (n : Nat) : RpA K C H (vs.drop n) (ds.drop n) := by
  induction ds generalizing vs n with
  | nil => cases h; simpa using RpA.nil
  | cons d ds ih => cases h with | cons a b => cases n with
    | zero => exact .cons a b
    | succ n => exact ih b n
theorem RpA.set {vs : List V} {ds : List D} (h : RpA K C H vs ds) {x : V} {d : D} (hx : Rp K C H x d) (n : Nat) : RpA K C H (vs.set n x) (ds.set n d) := by
  induction ds generalizing vs n with
  | nil => cases h; simpa using RpA.nil
  | cons d ds ih => cases h with | cons a b => cases n with
    | zero => exact .cons hx b
    | succ n => exact .cons a (ih b n)
theorem RpA.reverse {vs : List V} {ds : List D} (h : RpA K C H vs ds) : RpA K C H vs.reverse ds.reverse := by
  induction ds generalizing vs with
  | nil => cases h; simpa using RpA.nil
  | cons d ds ih => cases h with | cons a b =>
    rw [List.reverse_cons, List.reverse_cons]
    exact (ih b).append (.cons a .nil)
theorem RpA.eraseIdx {vs : List V} {ds : List D} (h : RpA K C H vs ds) (n : Nat) : RpA K C H (vs.eraseIdx n) (ds.eraseIdx n) := by
  induction ds generalizing vs n with
  | nil => cases h; simpa using RpA.nil
  | cons d ds ih => cases h with | cons a b => cases n with
    | zero => exact b
    | succ n => exact .cons a (ih b n)
theorem RpA.dropLast {vs : List V} {ds : List D} (h : RpA K C H vs ds) : RpA K C H vs.dropLast ds.dropLast := by
  rw [List.dropLast_eq_take, List.dropLast_eq_take, h.length]
  exact h.take _
theorem RpA.flatrep {vs : List V} {ds : List D} (h : RpA K C H vs ds) : ∀ k : Nat, RpA K C H (List.replicate k vs).flatten (List.replicate k ds).flatten
  | 0 => .nil
  | k + 1 => by
    rw [List.replicate_succ, List.replicate_succ, List.flatten_cons, List.flatten_cons]
    exact h.append (h.flatrep k)
theorem RpA.ints {vs : List V} {ns : List Int} (h : RpA K C H vs (ns.map .int)) : vs = ns.map V.int := by
  induction ns generalizing vs with
  | nil => cases h; rfl
  | cons n ns ih => cases h with | cons a b => cases a; rw [ih b]; rfl
theorem RpA.bools {vs : List V} {ns : List Bool} (h : RpA K C H vs (ns.map .bool)) : vs = ns.map V.bl := by
  induction ns generalizing vs with
  | nil => cases h; rfl
  | cons n ns ih => cases h with | cons a b => cases a; rw [ih b]; rfl
theorem RpA.strs {vs : List V} {ns : List Str} (h : RpA K C H vs (ns.map .str)) : vs = ns.map V.str := by
  induction ns generalizing vs with
  | nil => cases h; rfl
  | cons n ns ih => cases h with | cons a b => cases a; rw [ih b]; rfl
theorem rpA_ints (ns : List Int) : RpA K C H (ns.map V.int) (ns.map .int) := by
  induction ns with
  | nil => exact .nil
  | cons n ns ih => exact .cons (.int n) ih
end

section
variable {K : PySem.W.Frag} {C C' : Addr → Prop} {H H' : Hp}
/-- pairs, the keys alike -/
inductive RpP (K : PySem.W.Frag) (C : Addr → Prop) (H : Hp) {κ : Type} : List (κ × V) → List (κ × D) → Prop
  | nil : RpP K C H [] []
  | cons {k : κ} {v : V} {d : D} {vs : List (κ × V)} {ds : List (κ × D)} : Rp K C H v d → RpP K C H vs ds → RpP K C H ((k, v) :: vs) ((k, d) :: ds)
theorem RpP.mono {κ : Type} (ht : ∀ a xs, Rd H a (.tup xs) → Rd H' a (.tup xs)) (hl : ∀ a xs, C a → Rd H a (.lst xs) → C' a ∧ Rd H' a (.lst xs)) {vs : List (κ × V)} {ds : List (κ × D)} (h : RpP K C H vs ds) : RpP K C' H' vs ds := by
  induction h with
  | nil => exact .nil
  | cons a _ ih => exact .cons (Rp.mono ht hl _ _ a) ih
/-- a caught exception of the class at C, its dict at d, told of by its one object at a -/
def exH (C : Addr) (d : Option Addr) (a : Addr) : HO := .ext fun h => ∃ oe : Obj, h.get? a = some oe ∧ Zc (.ref C) d oe ∧ ∃ vs, oe.data = .fields vs
/-- the fields of an exception as its dict has them -/
def exF (H : Hp) (d : Option Addr) (fs : List (Str × Key)) : Prop := (d = none ∧ fs = []) ∨ ∃ dd, d = some dd ∧ H dd = some (.xd (fs.map fun p => (p.1, kV p.2)))
theorem exF.mono {H H' : Hp} {d : Option Addr} {fs : List (Str × Key)} (h : exF H d fs) (hx : ∀ a us, H a = some (.xd us) → H' a = some (.xd us)) : exF H' d fs := by
  rcases h with h | ⟨dd, h1, h2⟩
  · exact .inl h
  · exact .inr ⟨dd, h1, hx _ _ h2⟩
/-- the class that a name of the text has -/
def clsOf (K : PySem.W.Frag) (nm : Str) (C : Addr) : Prop := PySem.W.nsIn K mainGlobals nm = some (some (.ref C))
/-- what stands for a thing of one's own -/
inductive RpO (K : PySem.W.Frag) (C : Addr → Prop) (H : Hp) : HO → OD → Prop
  | lst {xs : List V} {ds : List D} : RpA K C H xs ds → RpO K C H (.lst xs) (.lst ds)
  | dK {vs : List (Key × V)} {ds : List (Key × D)} : RpP K C H vs ds → RpO K C H (.dK vs) (.dK ds)
  | dT {vs : List (List Key × V)} {ds : List (List Key × D)} : RpP K C H vs ds → RpO K C H (.dT vs) (.dT ds)
  | ex {c a : Addr} {d : Option Addr} {nm : Str} {fs : List (Str × Key)} : clsOf K nm c → exF H d fs → RpO K C H (exH c d a) (.ex nm fs)
theorem RpO.mono (ht : ∀ a xs, Rd H a (.tup xs) → Rd H' a (.tup xs)) (hl : ∀ a xs, C a → Rd H a (.lst xs) → C' a ∧ Rd H' a (.lst xs)) (hx : ∀ a us, H a = some (.xd us) → H' a = some (.xd us)) {u : HO} {o : OD} (h : RpO K C H u o) : RpO K C' H' u o := by
  cases h with
  | lst h => exact .lst (RpA.mono ht hl _ _ h)
  | dK h => exact .dK (RpP.mono ht hl h)
  | dT h => exact .dT (RpP.mono ht hl h)
  | ex h1 h2 => exact .ex h1 (h2.mono hx)
theorem RpO.noX {u : HO} {o : OD} (h : RpO K C H u o) {us : List (Str × V)} (e : u = .xd us) : False := by
  cases h with
  | ex _ _ => unfold exH at e; cases e
  | _ => cases e
theorem RpO.noT {u : HO} {o : OD} (h : RpO K C H u o) {a : Addr} (ha : H' a = some u) {ys : List V} (r : Rd H' a (.tup ys)) : False := by
  cases h <;> rcases r with r | ⟨_, r⟩ <;> (rw [ha] at r; first | (cases r; done) | (unfold exH at r; cases r; done))
end
section
variable {K : PySem.W.Frag} {C C' : Addr → Prop} {H H' : Hp}
inductive All2 {α β : Type} (R : α → β → Prop) : List α → List β → Prop
  | nil : All2 R [] []
  | cons {x : α} {y : β} {xs : List α} {ys : List β} : R x y → All2 R xs ys → All2 R (x :: xs) (y :: ys)
theorem All2.imp {α β : Type} {R S : α → β → Prop} (i : ∀ x y, R x y → S x y) : ∀ {xs : List α} {ys : List β}, All2 R xs ys → All2 S xs ys
  | _, _, .nil => .nil
  | _, _, .cons a b => .cons (i _ _ a) (b.imp i)
theorem All2.length {α β : Type} {R : α → β → Prop} : ∀ {xs : List α} {ys : List β}, All2 R xs ys → xs.length = ys.length
  | _, _, .nil => rfl
  | _, _, .cons _ b => congrArg (· + 1) b.length
theorem All2.get {α β : Type} {R : α → β → Prop} : ∀ {xs : List α} {ys : List β}, All2 R xs ys → ∀ {i : Nat} {y : β}, ys[i]? = some y → ∃ x, xs[i]? = some x ∧ R x y
  | _, _, .nil, _, _, e => nomatch e
  | _, _, .cons a _, 0, _, e => ⟨_, rfl, by cases e; exact a⟩
  | _, _, .cons _ b, i + 1, _, e => b.get (i := i) e
theorem All2.append {α β : Type} {R : α → β → Prop} : ∀ {xs : List α} {ys : List β} {us : List α} {vs : List β}, All2 R xs ys → All2 R us vs → All2 R (xs ++ us) (ys ++ vs)
  | _, _, _, _, .nil, h => h
  | _, _, _, _, .cons a b, h => .cons a (b.append h)
inductive RpV (K : PySem.W.Frag) (C : Addr → Prop) (H : Hp) : V → GV → Prop
  | d {v : V} {x : D} : Rp K C H v x → RpV K C H v (.d x)
  | r (a : Addr) : RpV K C H (.ref a) (.r a)
theorem RpV.mono (ht : ∀ a xs, Rd H a (.tup xs) → Rd H' a (.tup xs)) (hl : ∀ a xs, C a → Rd H a (.lst xs) → C' a ∧ Rd H' a (.lst xs)) {v : V} {g : GV} (h : RpV K C H v g) : RpV K C' H' v g := by
  cases h with
  | d h => exact .d (Rp.mono ht hl _ _ h)
  | r a => exact .r a
def RpK (K : PySem.W.Frag) (C : Addr → Prop) (H : Hp) {κ : Type} (p : κ × V) (q : κ × GV) : Prop := p.1 = q.1 ∧ RpV K C H p.2 q.2
/-- what stands for a thing of the pool at a -/
inductive RpG (K : PySem.W.Frag) (C : Addr → Prop) (H : Hp) : Addr → HO → OG → Prop
  | pl {a : Addr} {u : HO} {o : OD} : RpO K C H u o → RpG K C H a u (.pl o)
  | lst {a : Addr} {xs : List V} {gs : List GV} : All2 (RpV K C H) xs gs → RpG K C H a (.lst xs) (.lst gs)
  | tup {a : Addr} {xs : List V} {gs : List GV} : All2 (RpV K C H) xs gs → RpG K C H a (.tup xs) (.tup gs)
  | dK {a : Addr} {vs : List (Key × V)} {ks : List (Key × GV)} : All2 (RpK K C H) vs ks → RpG K C H a (.dK vs) (.dK ks)
  | dT {a : Addr} {vs : List (List Key × V)} {ks : List (List Key × GV)} : All2 (RpK K C H) vs ks → RpG K C H a (.dT vs) (.dT ks)
  | ins {a c dx : Addr} {nm : Str} {vs : List (Str × V)} {fs : List (Str × GV)} : clsOf K nm c → H dx = some (.own a) → All2 (RpK K C H) vs fs → RpG K C H a (.ins c dx vs) (.ins nm dx fs)
theorem RpG.mono (ht : ∀ a xs, Rd H a (.tup xs) → Rd H' a (.tup xs)) (hl : ∀ a xs, C a → Rd H a (.lst xs) → C' a ∧ Rd H' a (.lst xs)) (hx : ∀ a us, H a = some (.xd us) → H' a = some (.xd us)) (ho : ∀ a b, H a = some (.own b) → H' a = some (.own b)) {a : Addr} {u : HO} {o : OG} (h : RpG K C H a u o) : RpG K C' H' a u o := by
  have hk : ∀ {κ : Type} (p : κ × V) (q : κ × GV), RpK K C H p q → RpK K C' H' p q := fun p q ⟨h1, h2⟩ => ⟨h1, h2.mono ht hl⟩
  cases h with
  | pl h => exact .pl (h.mono ht hl hx)
  | lst h => exact .lst (h.imp fun _ _ => RpV.mono ht hl)
  | tup h => exact .tup (h.imp fun _ _ => RpV.mono ht hl)
  | dK h => exact .dK (h.imp hk)
  | dT h => exact .dT (h.imp hk)
  | ins h1 h2 h3 => exact .ins h1 (ho _ _ h2) (h3.imp hk)
theorem RpO.noW {u : HO} {o : OD} (h : RpO K C H u o) {b : Addr} (e : u = .own b) : False := by
  cases h with
  | ex _ _ => unfold exH at e; cases e
  | _ => cases e
theorem RpG.noX {a : Addr} {u : HO} {o : OG} (h : RpG K C H a u o) {us : List (Str × V)} (e : u = .xd us) : False := by
  cases h with
  | pl h => exact h.noX e
  | _ => cases e
theorem RpG.noW {a : Addr} {u : HO} {o : OG} (h : RpG K C H a u o) {b : Addr} (e : u = .own b) : False := by
  cases h with
  | pl h => exact h.noW e
  | _ => cases e
end
/-! ### positions: the frame's slots, the values on the way -/
def gT {α : Type} : List α → Nat → Option α
  | [], _ => none
  | x :: r, i => if i = r.length then some x else gT r i
theorem gT_lt {α : Type} {r : List α} {i : Nat} {x : α} (h : gT r i = some x) : i < r.length := by
  induction r with
  | nil => cases h
  | cons y r ih =>
    unfold gT at h
    split at h
    · rename_i e; rw [e]; exact Nat.lt_succ_self _
    · exact Nat.lt_succ_of_lt (ih h)
theorem gT_top {α : Type} {r : List α} {x : α} : gT (x :: r) r.length = some x := if_pos rfl
theorem gT_down {α : Type} {r : List α} {x y : α} {i : Nat} (h : gT r i = some y) : gT (x :: r) i = some y := by
  have := gT_lt h
  show (if i = r.length then some x else gT r i) = some y
  rw [if_neg (by omega)]; exact h
abbrev Pos2 := Nat ⊕ Nat
def gs (s rs : List SD) : Pos2 → Option SD
  | .inl i => s[i]?
  | .inr i => gT rs i
def gv (σ : L2.St) (ts : List V) : Pos2 → Option V
  | .inl i => (σ[i]?).join
  | .inr i => gT ts i
theorem gv_slot {σ : L2.St} {ts : List V} {i : Nat} {x : V} : gv σ ts (.inl i) = some x ↔ σ[i]? = some (some x) := by
  show (σ[i]?).join = some x ↔ _
  cases h : σ[i]? with
  | none => simp
  | some o => cases o <;> simp

/-- what is fixed for a def's run: the heap at its entry, the lists that were lent, what may be shared -/
structure Zn where
  H0 : Hp
  Bs : List Addr
  S : Addr → Prop

def Own1 (f : Pos2 → Option V) (g : Pos2 → Option SD) (a : Addr) : Prop := ∃ p t ds, g p = some (.own t ds) ∧ f p = some (.ref a)
def Own2 (g : Pos2 → Option SD) (a : Addr) : Prop := ∃ p G, g p = some (.gh G) ∧ a ∈ G.map (·.1)
def Own (f : Pos2 → Option V) (g : Pos2 → Option SD) (a : Addr) : Prop := Own1 f g a ∨ Own2 g a
def Cl (Z : Zn) (f : Pos2 → Option V) (g : Pos2 → Option SD) (a : Addr) : Prop := (Z.S a ∨ Z.H0 a = none) ∧ ¬ Own f g a
structure Core (K : PySem.W.Frag) (Z : Zn) (f : Pos2 → Option V) (g : Pos2 → Option SD) (H : Hp) : Prop where
  fr : ∀ a o, a ∉ Z.Bs → Z.H0 a = some o → H a = some o
  dm : ∀ a, Z.H0 a ≠ none → H a ≠ none
  bs : ∀ a ∈ Z.Bs, ¬ Z.S a ∧ Z.H0 a ≠ none
  va : ∀ p d, g p = some (.v d) → ∃ x, f p = some x ∧ Rp K (Cl Z f g) H x d
  wn : ∀ p t ds, g p = some (.own t ds) → ∃ a xs, f p = some (.ref a) ∧ H a = some xs ∧ RpO K (Cl Z f g) H xs ds ∧ (match t with | some k => Z.Bs[k]? = some a | none => Z.H0 a = none)
  se : ∀ p q t ds u es a, g p = some (.own t ds) → g q = some (.own u es) → f p = some (.ref a) → f q = some (.ref a) → p = q
  al : ∀ p i, g p = some (.al i) → ∃ t ds x, g (.inl i) = some (.own t ds) ∧ f (.inl i) = some x ∧ f p = some x
  fz : ∀ p kds, g p = some (.fz kds) → ∃ a od vs, f p = some (.ref a) ∧ Z.H0 a = some (.frz od (.dT vs)) ∧ a ∉ Z.Bs ∧ RpP K (Cl Z f g) H vs kds
  rf : ∀ p a, g p = some (.rf a) → f p = some (.ref a)
  gh : ∀ p G, g p = some (.gh G) → (G.map (·.1)).Nodup ∧ ∀ a o, (a, o) ∈ G → ∃ u, H a = some u ∧ RpG K (Cl Z f g) H a u o ∧ (Z.H0 a = none ∨ a ∈ Z.Bs ∨ ∃ gs, o = .tup gs)
  one : ∀ p q G G', g p = some (.gh G) → g q = some (.gh G') → p = q
  sg : ∀ p G q t ds a, g p = some (.gh G) → g q = some (.own t ds) → f q = some (.ref a) → a ∉ G.map (·.1)

theorem Core.ow {K : PySem.W.Frag} {Z : Zn} {f : Pos2 → Option V} {g : Pos2 → Option SD} {H : Hp} (c : Core K Z f g H) : ∀ (p : Pos2) (t : Option Nat) (ds : List D), g p = some (.ow t ds) → ∃ a xs, f p = some (.ref a) ∧ H a = some (.lst xs) ∧ RpA K (Cl Z f g) H xs ds ∧ (match t with | some k => Z.Bs[k]? = some a | none => Z.H0 a = none) := by
  intro p t ds h
  obtain ⟨a, u, h1, h2, h3, h4⟩ := c.wn p t _ h
  cases h3 with
  | lst h3 => exact ⟨a, _, h1, h2, h3, h4⟩
def up {α : Type} (f : Pos2 → Option α) (p : Pos2) (x : α) : Pos2 → Option α := fun q => if q = p then some x else f q
theorem up_same {α : Type} {f : Pos2 → Option α} {p : Pos2} {x : α} : up f p x p = some x := if_pos rfl
theorem up_ne {α : Type} {f : Pos2 → Option α} {p q : Pos2} {x : α} (h : q ≠ p) : up f p x q = f q := if_neg h

section
variable {K : PySem.W.Frag} {Z : Zn} {f f' : Pos2 → Option V} {g g' : Pos2 → Option SD} {H H' : Hp}
theorem rd_ext (e : ∀ a o, H a = some o → H' a = some o) {a : Addr} {u : HO} (h : Rd H a u) : Rd H' a u := by
  rcases h with h | ⟨o, h⟩
  · exact .inl (e _ _ h)
  · exact .inr ⟨o, e _ _ h⟩
theorem rd_some {a : Addr} {u : HO} (h : Rd H a u) : H a ≠ none := by
  rcases h with h | ⟨o, h⟩ <;> (rw [h]; exact fun z => by cases z)
theorem own2_up {p : Pos2} {r : SD} {a : Addr} (hr : ∀ G, r ≠ .gh G) (h : Own2 (up g p r) a) : Own2 g a := by
  obtain ⟨q, G, h1, h2⟩ := h
  by_cases e : q = p
  · subst e; rw [up_same] at h1; exact absurd (Option.some.inj h1) (hr G)
  · rw [up_ne e] at h1; exact ⟨q, G, h1, h2⟩
theorem own2_dn {p : Pos2} {r : SD} {a : Addr} (hr : ∀ G, g p ≠ some (.gh G)) (h : Own2 g a) : Own2 (up g p r) a := by
  obtain ⟨q, G, h1, h2⟩ := h
  by_cases e : q = p
  · subst e; exact absurd h1 (hr G)
  · exact ⟨q, G, by rw [up_ne e]; exact h1, h2⟩
theorem gh_up {p q : Pos2} {r : SD} {G : List (Addr × OG)} (hr : ∀ G, r ≠ .gh G) (h : up g p r q = some (.gh G)) : q ≠ p ∧ g q = some (.gh G) := by
  by_cases e : q = p
  · subst e; rw [up_same] at h; exact absurd (Option.some.inj h) (hr G)
  · rw [up_ne e] at h; exact ⟨e, h⟩
/-- the pool is kept -/
theorem Core.ghK (c : Core K Z f g H) (hg : ∀ q G, g' q = some (.gh G) → ∃ q', g q' = some (.gh G)) (hH : ∀ q G a, g' q = some (.gh G) → a ∈ G.map (·.1) → H' a = H a)
    (hm : ∀ a u o, RpG K (Cl Z f g) H a u o → RpG K (Cl Z f' g') H' a u o) : ∀ p G, g' p = some (.gh G) → (G.map (·.1)).Nodup ∧ ∀ a o, (a, o) ∈ G → ∃ u, H' a = some u ∧ RpG K (Cl Z f' g') H' a u o ∧ (Z.H0 a = none ∨ a ∈ Z.Bs ∨ ∃ gs, o = .tup gs) := fun p G h => by
  obtain ⟨q, hq⟩ := hg p G h
  obtain ⟨h1, h2⟩ := c.gh q G hq
  refine ⟨h1, fun a o ho => ?_⟩
  obtain ⟨u, h3, h4, h5⟩ := h2 a o ho
  exact ⟨u, by rw [hH p G a h (List.mem_map_of_mem ho)]; exact h3, hm _ _ _ h4, h5⟩
theorem Core.ghU (c : Core K Z f g H) {p : Pos2} {r : SD} (hr : ∀ G, r ≠ .gh G) (hH : ∀ q G a, g q = some (.gh G) → a ∈ G.map (·.1) → H' a = H a)
    (hm : ∀ a u o, RpG K (Cl Z f g) H a u o → RpG K (Cl Z f' (up g p r)) H' a u o) : ∀ q G, up g p r q = some (.gh G) → (G.map (·.1)).Nodup ∧ ∀ a o, (a, o) ∈ G → ∃ u, H' a = some u ∧ RpG K (Cl Z f' (up g p r)) H' a u o ∧ (Z.H0 a = none ∨ a ∈ Z.Bs ∨ ∃ gs, o = .tup gs) :=
  c.ghK (fun q G h => ⟨q, (gh_up hr h).2⟩) (fun q G a h ha => hH q G a (gh_up hr h).2 ha) hm
theorem Core.oneU (c : Core K Z f g H) {p : Pos2} {r : SD} (hr : ∀ G, r ≠ .gh G) : ∀ q q' G G', up g p r q = some (.gh G) → up g p r q' = some (.gh G') → q = q' := fun q q' G G' h h' => c.one q q' G G' (gh_up hr h).2 (gh_up hr h').2
/-- the heap grows -/
theorem Core.ext (c : Core K Z f g H) (e : ∀ a o, H a = some o → H' a = some o) : Core K Z f g H' where
  fr := fun a o h1 h2 => e _ _ (c.fr a o h1 h2)
  dm := fun a h => by
    cases q : H a with
    | none => exact absurd q (c.dm a h)
    | some o => rw [e _ _ q]; exact fun z => by cases z
  bs := c.bs
  va := fun p d h => let ⟨x, h1, h2⟩ := c.va p d h; ⟨x, h1, Rp.mono (fun _ _ => rd_ext e) (fun _ _ q r => ⟨q, rd_ext e r⟩) _ _ h2⟩
  wn := fun p t ds h => let ⟨a, xs, h1, h2, h3, h4⟩ := c.wn p t ds h; ⟨a, xs, h1, e _ _ h2, RpO.mono (fun _ _ => rd_ext e) (fun _ _ q r => ⟨q, rd_ext e r⟩) (fun _ _ => e _ _) h3, h4⟩
  se := c.se
  al := c.al
  fz := fun p kds h => let ⟨a, od, vs, h1, h2, h3, h4⟩ := c.fz p kds h; ⟨a, od, vs, h1, h2, h3, RpP.mono (fun _ _ => rd_ext e) (fun _ _ q r => ⟨q, rd_ext e r⟩) h4⟩
  rf := c.rf
  gh := c.ghK (fun q G h => ⟨q, h⟩) (fun q G a h ha => by
    obtain ⟨⟨b, o⟩, hb, rfl⟩ := List.mem_map.mp ha
    obtain ⟨u, h1, _⟩ := (c.gh q G h).2 b o hb
    rw [h1, e _ _ h1]) fun a u o => RpG.mono (fun _ _ => rd_ext e) (fun _ _ q r => ⟨q, rd_ext e r⟩) (fun _ _ => e _ _) (fun _ _ => e _ _)
  one := c.one
  sg := c.sg
/-- entries move or are dropped -/
theorem Core.re (c : Core K Z f g H) (φ : Pos2 → Option Pos2) (h : ∀ q r, g' q = some r → r = .no ∨ ∃ p, φ q = some p ∧ g p = some r) (hf : ∀ q p, φ q = some p → f' q = f p)
    (inj : ∀ q q' p, φ q = some p → φ q' = some p → q = q') (hal : ∀ q i, g' q = some (.al i) → φ (.inl i) = some (.inl i) ∧ g' (.inl i) = g (.inl i)) : Core K Z f' g' H := by
  have own : ∀ a, Own f' g' a → Own f g a := fun a z => by
    rcases z with ⟨q, t, ds, h1, h2⟩ | ⟨q, G, h1, h2⟩
    · rcases h q _ h1 with e | ⟨p, e1, e2⟩
      · cases e
      · exact .inl ⟨p, t, ds, e2, by rw [← hf q p e1]; exact h2⟩
    · rcases h q _ h1 with e | ⟨p, e1, e2⟩
      · cases e
      · exact .inr ⟨p, G, e2, h2⟩
  have cl : ∀ a, Cl Z f g a → Cl Z f' g' a := fun a ⟨h1, h2⟩ => ⟨h1, fun z => h2 (own a z)⟩
  refine ⟨c.fr, c.dm, c.bs, fun q d hq => ?_, fun q t ds hq => ?_, fun p q t ds u es a h1 h2 h3 h4 => ?_, fun q i hq => ?_, fun q kds hq => ?_, fun q a hq => ?_,
    c.ghK (fun q G hq => ?_) (fun _ _ _ _ _ => rfl) (fun a u o => RpG.mono (fun _ _ z => z) (fun a _ z r => ⟨cl a z, r⟩) (fun _ _ z => z) (fun _ _ z => z)), fun q q' G G' h1 h2 => ?_, fun q G q' t ds a h1 h2 h3 => ?_⟩
  rotate_left 5
  · rcases h q _ hq with e | ⟨p, e1, e2⟩
    · cases e
    · rw [hf q p e1]; exact c.rf p a e2
  · rcases h q _ hq with e | ⟨p, e1, e2⟩
    · cases e
    · exact ⟨p, e2⟩
  · rcases h q _ h1 with e | ⟨p, e1, e2⟩
    · cases e
    rcases h q' _ h2 with e | ⟨p', e3, e4⟩
    · cases e
    obtain rfl := c.one p p' _ _ e2 e4
    exact inj _ _ _ e1 e3
  · rcases h q _ h1 with e | ⟨p, e1, e2⟩
    · cases e
    rcases h q' _ h2 with e | ⟨p', e3, e4⟩
    · cases e
    exact c.sg p G p' t ds a e2 e4 (by rw [← hf q' p' e3]; exact h3)
  · rcases h q _ hq with e | ⟨p, e1, e2⟩
    · cases e
    · obtain ⟨x, h1, h2⟩ := c.va p d e2
      exact ⟨x, by rw [hf q p e1]; exact h1, Rp.mono (fun _ _ z => z) (fun a _ z r => ⟨cl a z, r⟩) _ _ h2⟩
  · rcases h q _ hq with e | ⟨p, e1, e2⟩
    · cases e
    · obtain ⟨a, xs, h1, h2, h3, h4⟩ := c.wn p t ds e2
      exact ⟨a, xs, by rw [hf q p e1]; exact h1, h2, RpO.mono (fun _ _ z => z) (fun a _ z r => ⟨cl a z, r⟩) (fun _ _ z => z) h3, h4⟩
  · rcases h p _ h1 with e | ⟨p', e1, e2⟩
    · cases e
    rcases h q _ h2 with e | ⟨q', e3, e4⟩
    · cases e
    rw [hf _ _ e1] at h3
    rw [hf _ _ e3] at h4
    have := c.se p' q' t ds u es a e2 e4 h3 h4
    subst this
    exact inj _ _ _ e1 e3
  · obtain ⟨e1, e2⟩ := hal q i hq
    rcases h q _ hq with e | ⟨p, e3, e4⟩
    · cases e
    obtain ⟨t, ds, x, h1, h2, h3⟩ := c.al p i e4
    exact ⟨t, ds, x, by rw [e2]; exact h1, by rw [hf _ _ e1]; exact h2, by rw [hf _ _ e3]; exact h3⟩
  · rcases h q _ hq with e | ⟨p, e1, e2⟩
    · cases e
    obtain ⟨a, od, vs, h1, h2, h3, h4⟩ := c.fz p kds e2
    exact ⟨a, od, vs, by rw [hf q p e1]; exact h1, h2, h3, RpP.mono (fun _ _ z => z) (fun a _ z r => ⟨cl a z, r⟩) h4⟩
/-- shared data comes to p -/
theorem Core.putV (c : Core K Z f g H) {p : Pos2} {x : V} {d : D} (hx : Rp K (Cl Z f g) H x d) (hal : ∀ q i, g q = some (.al i) → Sum.inl i ≠ p) : Core K Z (up f p x) (up g p (.v d)) H := by
  have own : ∀ a, Own (up f p x) (up g p (.v d)) a → Own f g a := fun a z => by
    rcases z with ⟨q, t, ds, h1, h2⟩ | z
    · by_cases e : q = p
      · subst e; rw [up_same] at h1; cases h1
      · rw [up_ne e] at h1 h2; exact .inl ⟨q, t, ds, h1, h2⟩
    · exact .inr (own2_up (fun _ e => by cases e) z)
  have cl : ∀ a, Cl Z f g a → Cl Z (up f p x) (up g p (.v d)) a := fun a ⟨h1, h2⟩ => ⟨h1, fun z => h2 (own a z)⟩
  refine ⟨c.fr, c.dm, c.bs, fun q e hq => ?_, fun q t ds hq => ?_, fun q r t ds u es a h1 h2 h3 h4 => ?_, fun q i hq => ?_, fun q kds hq => ?_,
    fun q a hq => ?_, c.ghU (fun _ e => by cases e) (fun _ _ _ _ _ => rfl) (fun a u o => RpG.mono (fun _ _ z => z) (fun a _ z r => ⟨cl a z, r⟩) (fun _ _ z => z) (fun _ _ z => z)), c.oneU (fun _ e => by cases e), fun q G q' t ds a h1 h2 h3 => ?_⟩
  rotate_left 5
  · by_cases e : q = p
    · subst e; rw [up_same] at hq; cases hq
    · rw [up_ne e] at hq ⊢; exact c.rf q a hq
  · obtain ⟨e0, h1'⟩ := gh_up (fun _ e => by cases e) h1
    by_cases e : q' = p
    · subst e; rw [up_same] at h2; cases h2
    · rw [up_ne e] at h2 h3; exact c.sg q G q' t ds a h1' h2 h3
  · by_cases h : q = p
    · subst h; rw [up_same] at hq; cases hq
      exact ⟨x, up_same, Rp.mono (fun _ _ z => z) (fun a _ z r => ⟨cl a z, r⟩) _ _ hx⟩
    · rw [up_ne h] at hq ⊢
      obtain ⟨y, h1, h2⟩ := c.va q e hq
      exact ⟨y, h1, Rp.mono (fun _ _ z => z) (fun a _ z r => ⟨cl a z, r⟩) _ _ h2⟩
  · by_cases h : q = p
    · subst h; rw [up_same] at hq; cases hq
    · rw [up_ne h] at hq ⊢
      obtain ⟨a, xs, h1, h2, h3, h4⟩ := c.wn q t ds hq
      exact ⟨a, xs, h1, h2, RpO.mono (fun _ _ z => z) (fun a _ z r => ⟨cl a z, r⟩) (fun _ _ z => z) h3, h4⟩
  · by_cases e1 : q = p
    · subst e1; rw [up_same] at h1; cases h1
    by_cases e2 : r = p
    · subst e2; rw [up_same] at h2; cases h2
    rw [up_ne e1] at h1 h3
    rw [up_ne e2] at h2 h4
    exact c.se q r t ds u es a h1 h2 h3 h4
  · by_cases e1 : q = p
    · subst e1; rw [up_same] at hq; cases hq
    rw [up_ne e1] at hq ⊢
    have hi := hal q i hq
    rw [up_ne hi, up_ne hi]
    exact c.al q i hq
  · by_cases h : q = p
    · subst h; rw [up_same] at hq; cases hq
    · rw [up_ne h] at hq ⊢
      obtain ⟨a, od, vs, h1, h2, h3, h4⟩ := c.fz q kds hq
      exact ⟨a, od, vs, h1, h2, h3, RpP.mono (fun _ _ z => z) (fun a _ z r => ⟨cl a z, r⟩) h4⟩
/-- nothing is known of p -/
theorem Core.putN (c : Core K Z f g H) {p : Pos2} {x : V} (hal : ∀ q i, g q = some (.al i) → Sum.inl i ≠ p) : Core K Z (up f p x) (up g p .no) H := by
  refine c.re (fun q => if q = p then none else some q) (fun q r hq => ?_) (fun q p' h => ?_) (fun q q' p' h1 h2 => ?_) (fun q i hq => ?_)
  · by_cases h : q = p
    · subst h; rw [up_same] at hq; cases hq; exact .inl rfl
    · rw [up_ne h] at hq; exact .inr ⟨q, if_neg h, hq⟩
  · by_cases e : q = p
    · rw [if_pos e] at h; cases h
    · rw [if_neg e] at h; cases h; exact up_ne e
  · by_cases e : q = p
    · rw [if_pos e] at h1; cases h1
    by_cases e' : q' = p
    · rw [if_pos e'] at h2; cases h2
    rw [if_neg e] at h1; rw [if_neg e'] at h2
    cases h1; cases h2; rfl
  · by_cases e : q = p
    · subst e; rw [up_same] at hq; cases hq
    rw [up_ne e] at hq
    have hi := hal q i hq
    exact ⟨if_neg hi, up_ne hi⟩
/-- a new list comes to p -/
theorem Core.putO (c : Core K Z f g H) {p : Pos2} {a : Addr} {xs : HO} {ds : OD} (ha : H a = none) (hx : RpO K (Cl Z f g) H xs ds) (hal : ∀ q i, g q = some (.al i) → Sum.inl i ≠ p) :
    Core K Z (up f p (.ref a)) (up g p (.own none ds)) (upd H a xs) := by
  have ext : ∀ b o, H b = some o → upd H a xs b = some o := fun b o e => by rw [upd_ne (ne_of_none e ha)]; exact e
  have own : ∀ b, Own (up f p (.ref a)) (up g p (.own none ds)) b → Own f g b ∨ b = a := fun b z => by
    rcases z with ⟨q, t, es, h1, h2⟩ | z
    · by_cases e : q = p
      · subst e; rw [up_same] at h2; cases h2; exact .inr rfl
      · rw [up_ne e] at h1 h2; exact .inl (.inl ⟨q, t, es, h1, h2⟩)
    · exact .inl (.inr (own2_up (fun _ e => by cases e) z))
  have cl : ∀ b ys, Cl Z f g b → Rd H b (.lst ys) → Cl Z (up f p (.ref a)) (up g p (.own none ds)) b ∧ Rd (upd H a xs) b (.lst ys) := fun b ys ⟨h1, h2⟩ r =>
    ⟨⟨h1, fun z => by
      rcases own b z with z | z
      · exact h2 z
      · subst z; exact rd_some r ha⟩, rd_ext ext r⟩
  have h0 : Z.H0 a = none := by
    cases q : Z.H0 a with
    | none => rfl
    | some o => exact absurd ha (c.dm a (by rw [q]; exact fun z => by cases z))
  have poolOld : ∀ q G b, g q = some (.gh G) → b ∈ G.map (·.1) → b ≠ a := fun q G b h hb z => by
    obtain ⟨⟨b', o⟩, hb', rfl⟩ := List.mem_map.mp hb
    obtain ⟨u, h1, _⟩ := (c.gh q G h).2 b' o hb'
    rw [show b' = a from z, ha] at h1; cases h1
  refine ⟨fun b o h1 h2 => ext _ _ (c.fr b o h1 h2), fun b h => ?_, c.bs, fun q e hq => ?_, fun q t es hq => ?_, fun q r t es u fs b h1 h2 h3 h4 => ?_, fun q i hq => ?_, fun q kds hq => ?_,
    fun q b hq => ?_, c.ghU (fun _ e => by cases e) (fun q G b h hb => upd_ne (poolOld q G b h hb)) (fun b u o => RpG.mono (fun _ _ => rd_ext ext) cl (fun _ _ => ext _ _) (fun _ _ => ext _ _)), c.oneU (fun _ e => by cases e), fun q G q' t es b h1 h2 h3 => ?_⟩
  rotate_left 6
  · by_cases e : q = p
    · subst e; rw [up_same] at hq; cases hq
    · rw [up_ne e] at hq ⊢; exact c.rf q b hq
  · obtain ⟨e0, h1'⟩ := gh_up (fun _ e => by cases e) h1
    by_cases e : q' = p
    · subst e; rw [up_same] at h3; cases h3; exact fun z => poolOld q G a h1' z rfl
    · rw [up_ne e] at h2 h3; exact c.sg q G q' t es b h1' h2 h3
  · cases q : H b with
    | none => exact absurd q (c.dm b h)
    | some o => rw [ext _ _ q]; exact fun z => by cases z
  · by_cases h : q = p
    · subst h; rw [up_same] at hq; cases hq
    · rw [up_ne h] at hq ⊢
      obtain ⟨y, h1, h2⟩ := c.va q e hq
      exact ⟨y, h1, Rp.mono (fun _ _ => rd_ext ext) cl _ _ h2⟩
  · by_cases h : q = p
    · subst h; rw [up_same] at hq; cases hq
      exact ⟨a, xs, up_same, upd_same, RpO.mono (fun _ _ => rd_ext ext) cl (fun _ _ => ext _ _) hx, h0⟩
    · rw [up_ne h] at hq ⊢
      obtain ⟨b, ys, h1, h2, h3, h4⟩ := c.wn q t es hq
      exact ⟨b, ys, h1, ext _ _ h2, RpO.mono (fun _ _ => rd_ext ext) cl (fun _ _ => ext _ _) h3, h4⟩
  · have old : ∀ {q t es}, q ≠ p → up g p (SD.own none ds) q = some (.own t es) → up f p (.ref a) q = some (.ref b) → b ≠ a := fun {q t es} hq h1 h2 z => by
      rw [up_ne hq] at h1 h2
      obtain ⟨b', ys, e1, e2, _⟩ := c.wn q t es h1
      rw [h2] at e1; cases e1; subst z; rw [ha] at e2; cases e2
    by_cases e1 : q = p
    · by_cases e2 : r = p
      · rw [e1, e2]
      · subst e1; rw [up_same] at h3; cases h3
        exact absurd rfl (old e2 h2 h4)
    · by_cases e2 : r = p
      · subst e2; rw [up_same] at h4; cases h4
        exact absurd rfl (old e1 h1 h3)
      · rw [up_ne e1] at h1 h3
        rw [up_ne e2] at h2 h4
        exact c.se q r t es u fs b h1 h2 h3 h4
  · by_cases e1 : q = p
    · subst e1; rw [up_same] at hq; cases hq
    rw [up_ne e1] at hq ⊢
    have hi := hal q i hq
    rw [up_ne hi, up_ne hi]
    exact c.al q i hq
  · by_cases h : q = p
    · subst h; rw [up_same] at hq; cases hq
    · rw [up_ne h] at hq ⊢
      obtain ⟨a, od, vs, h1, h2, h3, h4⟩ := c.fz q kds hq
      exact ⟨a, od, vs, h1, h2, h3, RpP.mono (fun _ _ => rd_ext ext) cl h4⟩
/-- the very value of slot i comes to p -/
theorem Core.putA (c : Core K Z f g H) {p : Pos2} {x : V} {i : Nat} {t : Option Nat} {ds : OD} (hg : g (.inl i) = some (.own t ds)) (hx : f (.inl i) = some x) (hp : g p = none) : Core K Z (up f p x) (up g p (.al i)) H := by
  have own : ∀ a, Own (up f p x) (up g p (.al i)) a → Own f g a := fun a z => by
    rcases z with ⟨q, t, ds, h1, h2⟩ | z
    · by_cases e : q = p
      · subst e; rw [up_same] at h1; cases h1
      · rw [up_ne e] at h1 h2; exact .inl ⟨q, t, ds, h1, h2⟩
    · exact .inr (own2_up (fun _ e => by cases e) z)
  have cl : ∀ a, Cl Z f g a → Cl Z (up f p x) (up g p (.al i)) a := fun a ⟨h1, h2⟩ => ⟨h1, fun z => h2 (own a z)⟩
  have nei : ∀ {j u es}, g (.inl j) = some (.own u es) → Sum.inl j ≠ p := fun {j u es} e z => by rw [z, hp] at e; cases e
  refine ⟨c.fr, c.dm, c.bs, fun q e hq => ?_, fun q t ds hq => ?_, fun q r t ds u es a h1 h2 h3 h4 => ?_, fun q j hq => ?_, fun q kds hq => ?_,
    fun q a hq => ?_, c.ghU (fun _ e => by cases e) (fun _ _ _ _ _ => rfl) (fun a u o => RpG.mono (fun _ _ z => z) (fun a _ z r => ⟨cl a z, r⟩) (fun _ _ z => z) (fun _ _ z => z)), c.oneU (fun _ e => by cases e), fun q G q' t ds a h1 h2 h3 => ?_⟩
  rotate_left 5
  · by_cases e : q = p
    · subst e; rw [up_same] at hq; cases hq
    · rw [up_ne e] at hq ⊢; exact c.rf q a hq
  · obtain ⟨e0, h1'⟩ := gh_up (fun _ e => by cases e) h1
    by_cases e : q' = p
    · subst e; rw [up_same] at h2; cases h2
    · rw [up_ne e] at h2 h3; exact c.sg q G q' t ds a h1' h2 h3
  · by_cases h : q = p
    · subst h; rw [up_same] at hq; cases hq
    · rw [up_ne h] at hq ⊢
      obtain ⟨y, h1, h2⟩ := c.va q e hq
      exact ⟨y, h1, Rp.mono (fun _ _ z => z) (fun a _ z r => ⟨cl a z, r⟩) _ _ h2⟩
  · by_cases h : q = p
    · subst h; rw [up_same] at hq; cases hq
    · rw [up_ne h] at hq ⊢
      obtain ⟨a, xs, h1, h2, h3, h4⟩ := c.wn q t ds hq
      exact ⟨a, xs, h1, h2, RpO.mono (fun _ _ z => z) (fun a _ z r => ⟨cl a z, r⟩) (fun _ _ z => z) h3, h4⟩
  · by_cases e1 : q = p
    · subst e1; rw [up_same] at h1; cases h1
    by_cases e2 : r = p
    · subst e2; rw [up_same] at h2; cases h2
    rw [up_ne e1] at h1 h3
    rw [up_ne e2] at h2 h4
    exact c.se q r t ds u es a h1 h2 h3 h4
  · by_cases e1 : q = p
    · subst e1; rw [up_same] at hq; cases hq
      exact ⟨t, ds, x, by rw [up_ne (nei hg)]; exact hg, by rw [up_ne (nei hg)]; exact hx, up_same⟩
    rw [up_ne e1] at hq ⊢
    obtain ⟨u, es, y, h1, h2, h3⟩ := c.al q j hq
    exact ⟨u, es, y, by rw [up_ne (nei h1)]; exact h1, by rw [up_ne (nei h1)]; exact h2, h3⟩
  · by_cases h : q = p
    · subst h; rw [up_same] at hq; cases hq
    · rw [up_ne h] at hq ⊢
      obtain ⟨a, od, vs, h1, h2, h3, h4⟩ := c.fz q kds hq
      exact ⟨a, od, vs, h1, h2, h3, RpP.mono (fun _ _ z => z) (fun a _ z r => ⟨cl a z, r⟩) h4⟩
/-- an own list is changed -/
theorem Core.mut (c : Core K Z f g H) {p : Pos2} {a : Addr} {t : Option Nat} {ds es : OD} {ys : HO} (hg : g p = some (.own t ds)) (hf : f p = some (.ref a)) (hy : RpO K (Cl Z f g) H ys es) :
    Core K Z f (up g p (.own t es)) (upd H a ys) := by
  obtain ⟨a', xs, q1, hH, hO, q4⟩ := c.wn p t ds hg
  rw [hf] at q1
  obtain rfl : a = a' := by cases q1; rfl
  have own : ∀ b, Own f (up g p (.own t es)) b ↔ Own f g b := fun b => by
    constructor
    · rintro (⟨q, u, fs, h1, h2⟩ | z)
      · by_cases e : q = p
        · subst e; rw [up_same] at h1; cases h1; exact .inl ⟨q, t, ds, hg, h2⟩
        · rw [up_ne e] at h1; exact .inl ⟨q, u, fs, h1, h2⟩
      · exact .inr (own2_up (fun _ e => by cases e) z)
    · rintro (⟨q, u, fs, h1, h2⟩ | z)
      · by_cases e : q = p
        · subst e; exact .inl ⟨q, t, es, up_same, h2⟩
        · exact .inl ⟨q, u, fs, by rw [up_ne e]; exact h1, h2⟩
      · exact .inr (own2_dn (fun G e => by rw [hg] at e; cases e) z)
  have ownA : Own f g a := .inl ⟨p, t, ds, hg, hf⟩
  have poolOld : ∀ q G b, g q = some (.gh G) → b ∈ G.map (·.1) → b ≠ a := fun q G b h hb z => by subst z; exact c.sg q G p t ds b h hg hf hb
  have rdW : ∀ b d, H b = some (.own d) → upd H a ys b = some (.own d) := fun b d r => by
    have ne : b ≠ a := fun z => by
      subst z
      rw [hH] at r
      exact hO.noW (Option.some.inj r)
    rw [upd_ne ne]; exact r
  have rdT : ∀ b zs, Rd H b (.tup zs) → Rd (upd H a ys) b (.tup zs) := fun b zs r => by
    have ne : b ≠ a := fun z => by
      subst z
      exact hO.noT hH r
    rcases r with r | ⟨o, r⟩
    · exact .inl (by rw [upd_ne ne]; exact r)
    · exact .inr ⟨o, by rw [upd_ne ne]; exact r⟩
  have rdX : ∀ b us, H b = some (.xd us) → upd H a ys b = some (.xd us) := fun b us r => by
    have ne : b ≠ a := fun z => by
      subst z
      rw [hH] at r
      exact hO.noX (Option.some.inj r)
    rw [upd_ne ne]; exact r
  have rdL : ∀ b zs, Cl Z f g b → Rd H b (.lst zs) → Cl Z f (up g p (.own t es)) b ∧ Rd (upd H a ys) b (.lst zs) := fun b zs ⟨h1, h2⟩ r => by
    have ne : b ≠ a := fun z => h2 (z ▸ ownA)
    refine ⟨⟨h1, fun z => h2 ((own b).mp z)⟩, ?_⟩
    rcases r with r | ⟨o, r⟩
    · exact .inl (by rw [upd_ne ne]; exact r)
    · exact .inr ⟨o, by rw [upd_ne ne]; exact r⟩
  refine ⟨fun b o h1 h2 => ?_, fun b h => ?_, c.bs, fun q e hq => ?_, fun q u fs hq => ?_, fun q r u fs u' fs' b h1 h2 h3 h4 => ?_, fun q i hq => ?_, fun q kds hq => ?_,
    fun q b hq => ?_, c.ghU (fun _ e => by cases e) (fun q G b h hb => upd_ne (poolOld q G b h hb)) (fun b u o => RpG.mono rdT rdL rdX rdW), c.oneU (fun _ e => by cases e), fun q G q' u fs b h1 h2 h3 => ?_⟩
  rotate_left 7
  · by_cases e : q = p
    · subst e; rw [up_same] at hq; cases hq
    · rw [up_ne e] at hq; exact c.rf q b hq
  · obtain ⟨e0, h1'⟩ := gh_up (fun _ e => by cases e) h1
    by_cases e : q' = p
    · subst e
      rw [hf] at h3; cases h3
      exact fun z => poolOld q G a h1' z rfl
    · rw [up_ne e] at h2; exact c.sg q G q' u fs b h1' h2 h3
  · have ne : b ≠ a := fun z => by
      subst z
      cases t with
      | none => have q4 : Z.H0 b = none := q4; rw [q4] at h2; cases h2
      | some k => exact h1 (List.mem_of_getElem? q4)
    rw [upd_ne ne]
    exact c.fr b o h1 h2
  · by_cases e : b = a
    · subst e; rw [upd_same]; exact fun z => by cases z
    · rw [upd_ne e]; exact c.dm b h
  · by_cases h : q = p
    · subst h; rw [up_same] at hq; cases hq
    · rw [up_ne h] at hq
      obtain ⟨y, h1, h2⟩ := c.va q e hq
      exact ⟨y, h1, Rp.mono rdT rdL _ _ h2⟩
  · by_cases h : q = p
    · subst h; rw [up_same] at hq; cases hq
      exact ⟨a, ys, hf, upd_same, RpO.mono rdT rdL rdX hy, q4⟩
    · rw [up_ne h] at hq
      obtain ⟨b, zs, h1, h2, h3, h4⟩ := c.wn q u fs hq
      have ne : b ≠ a := fun z => by
        subst z
        exact h (c.se q p u fs t ds b hq hg h1 hf)
      exact ⟨b, zs, h1, by rw [upd_ne ne]; exact h2, RpO.mono rdT rdL rdX h3, h4⟩
  · have lift : ∀ {q u fs}, up g p (SD.own t es) q = some (.own u fs) → ∃ u fs, g q = some (.own u fs) := fun {q u fs} e => by
      by_cases h : q = p
      · subst h; exact ⟨t, ds, hg⟩
      · rw [up_ne h] at e; exact ⟨u, fs, e⟩
    obtain ⟨_, _, e1⟩ := lift h1
    obtain ⟨_, _, e2⟩ := lift h2
    exact c.se q r _ _ _ _ b e1 e2 h3 h4
  · by_cases h : q = p
    · subst h; rw [up_same] at hq; cases hq
    rw [up_ne h] at hq
    obtain ⟨u, fs, x, h1, h2, h3⟩ := c.al q i hq
    by_cases e : Sum.inl i = p
    · exact ⟨t, es, x, by rw [e]; exact up_same, h2, h3⟩
    · exact ⟨u, fs, x, by rw [up_ne e]; exact h1, h2, h3⟩
  · by_cases h : q = p
    · subst h; rw [up_same] at hq; cases hq
    · rw [up_ne h] at hq
      obtain ⟨b, od, vs, h1, h2, h3, h4⟩ := c.fz q kds hq
      exact ⟨b, od, vs, h1, h2, h3, RpP.mono rdT rdL h4⟩
/-- an own new list is shared from now on -/
theorem Core.freeze (c : Core K Z f g H) {p : Pos2} {ds : List D} (hg : g p = some (.ow none ds)) (hal : ∀ q i, g q = some (.al i) → Sum.inl i ≠ p) : Core K Z f (up g p (.v (.list ds))) H := by
  obtain ⟨a, xs, hf, hH, hx, h0⟩ := c.ow p none ds hg
  have own : ∀ b, Own f (up g p (.v (.list ds))) b → Own f g b := fun b z => by
    rcases z with ⟨q, u, fs, h1, h2⟩ | z
    · by_cases e : q = p
      · subst e; rw [up_same] at h1; cases h1
      · rw [up_ne e] at h1; exact .inl ⟨q, u, fs, h1, h2⟩
    · exact .inr (own2_up (fun _ e => by cases e) z)
  have cl : ∀ b, Cl Z f g b → Cl Z f (up g p (.v (.list ds))) b := fun a ⟨h1, h2⟩ => ⟨h1, fun z => h2 (own a z)⟩
  have clA : Cl Z f (up g p (.v (.list ds))) a := ⟨.inr h0, fun z => by
    rcases z with ⟨q, u, fs, h1, h2⟩ | z
    · by_cases e : q = p
      · subst e; rw [up_same] at h1; cases h1
      · rw [up_ne e] at h1; exact e (c.se q p u fs none (.lst ds) a h1 hg h2 hf)
    · obtain ⟨q, G, h1, h2⟩ := own2_up (fun _ e => by cases e) z
      exact c.sg q G p none (.lst ds) a h1 hg hf h2⟩
  refine ⟨c.fr, c.dm, c.bs, fun q e hq => ?_, fun q t es hq => ?_, fun q r t es u fs b h1 h2 h3 h4 => ?_, fun q i hq => ?_, fun q kds hq => ?_,
    fun q b hq => ?_, c.ghU (fun _ e => by cases e) (fun _ _ _ _ _ => rfl) (fun a u o => RpG.mono (fun _ _ z => z) (fun a _ z r => ⟨cl a z, r⟩) (fun _ _ z => z) (fun _ _ z => z)), c.oneU (fun _ e => by cases e), fun q G q' t es b h1 h2 h3 => ?_⟩
  rotate_left 5
  · by_cases e : q = p
    · subst e; rw [up_same] at hq; cases hq
    · rw [up_ne e] at hq; exact c.rf q b hq
  · obtain ⟨e0, h1'⟩ := gh_up (fun _ e => by cases e) h1
    by_cases e : q' = p
    · subst e; rw [up_same] at h2; cases h2
    · rw [up_ne e] at h2; exact c.sg q G q' t es b h1' h2 h3
  · by_cases h : q = p
    · subst h; rw [up_same] at hq; cases hq
      exact ⟨_, hf, .lst clA (.inl hH) (RpA.mono (fun _ _ z => z) (fun a _ z r => ⟨cl a z, r⟩) _ _ hx)⟩
    · rw [up_ne h] at hq
      obtain ⟨y, h1, h2⟩ := c.va q e hq
      exact ⟨y, h1, Rp.mono (fun _ _ z => z) (fun a _ z r => ⟨cl a z, r⟩) _ _ h2⟩
  · by_cases h : q = p
    · subst h; rw [up_same] at hq; cases hq
    · rw [up_ne h] at hq
      obtain ⟨a, xs, h1, h2, h3, h4⟩ := c.wn q t es hq
      exact ⟨a, xs, h1, h2, RpO.mono (fun _ _ z => z) (fun a _ z r => ⟨cl a z, r⟩) (fun _ _ z => z) h3, h4⟩
  · by_cases e1 : q = p
    · subst e1; rw [up_same] at h1; cases h1
    by_cases e2 : r = p
    · subst e2; rw [up_same] at h2; cases h2
    rw [up_ne e1] at h1
    rw [up_ne e2] at h2
    exact c.se q r t es u fs b h1 h2 h3 h4
  · by_cases e1 : q = p
    · subst e1; rw [up_same] at hq; cases hq
    rw [up_ne e1] at hq
    have hi := hal q i hq
    rw [up_ne hi]
    exact c.al q i hq
  · by_cases h : q = p
    · subst h; rw [up_same] at hq; cases hq
    · rw [up_ne h] at hq
      obtain ⟨b, od, vs, h1, h2, h3, h4⟩ := c.fz q kds hq
      exact ⟨b, od, vs, h1, h2, h3, RpP.mono (fun _ _ z => z) (fun a _ z r => ⟨cl a z, r⟩) h4⟩
end
end W8

/-! W8b: what expressions, tests, statements do to such states. -/
namespace W8
open PySem L2

structure Ok (K : PySem.W.Frag) (Z : Zn) (σ : L2.St) (ts : List V) (H : Hp) (s rs : List SD) : Prop where
  ls : σ.length = s.length
  lt : ts.length = rs.length
  c : Core K Z (gv σ ts) (gs s rs) H
  na : ∀ (i j : Nat), s[i]? ≠ some (SD.al j)

section
variable {K : PySem.W.Frag} {Z : Zn} {σ : L2.St} {ts : List V} {H H' : Hp} {s rs : List SD} {x y : V} {r : SD} {d : D} {ds : List D}

theorem gv_push : gv σ (x :: ts) = up (gv σ ts) (.inr ts.length) x := by
  funext p
  cases p with
  | inl i => rw [up_ne (by simp)]; rfl
  | inr i =>
    by_cases h : i = ts.length
    · subst h; rw [up_same]; exact gT_top
    · rw [up_ne (by simpa using h)]; exact if_neg h
theorem gs_push : gs s (r :: rs) = up (gs s rs) (.inr rs.length) r := by
  funext p
  cases p with
  | inl i => rw [up_ne (by simp)]; rfl
  | inr i =>
    by_cases h : i = rs.length
    · subst h; rw [up_same]; exact gT_top
    · rw [up_ne (by simpa using h)]; exact if_neg h
theorem gs_set {i : Nat} (h : i < s.length) : gs (s.set i r) rs = up (gs s rs) (.inl i) r := by
  funext p
  cases p with
  | inl j =>
    by_cases e : j = i
    · subst e; rw [up_same]; exact List.getElem?_set_self h
    · rw [up_ne (by simpa using e)]; exact List.getElem?_set_ne (Ne.symm e)
  | inr j => rw [up_ne (by simp)]; rfl
theorem gv_set {i : Nat} (h : i < σ.length) : gv (σ.set i (some x)) ts = up (gv σ ts) (.inl i) x := by
  funext p
  cases p with
  | inl j =>
    by_cases e : j = i
    · subst e; rw [up_same]; show ((σ.set j (some x))[j]?).join = some x; rw [List.getElem?_set_self h]; rfl
    · rw [up_ne (by simpa using e)]; show ((σ.set i (some x))[j]?).join = (σ[j]?).join; rw [List.getElem?_set_ne (Ne.symm e)]
  | inr j => rw [up_ne (by simp)]; rfl
theorem gs_none : gs s rs (.inr rs.length) = none := by
  show gT rs rs.length = none
  cases h : gT rs rs.length with
  | none => rfl
  | some y => exact absurd (gT_lt h) (Nat.lt_irrefl _)

theorem Ok.ext (o : Ok K Z σ ts H s rs) (e : ∀ a u, H a = some u → H' a = some u) : Ok K Z σ ts H' s rs := ⟨o.ls, o.lt, o.c.ext e, o.na⟩
theorem Ok.pushV (o : Ok K Z σ ts H s rs) (h : Rp K (Cl Z (gv σ ts) (gs s rs)) H x d) : Ok K Z σ (x :: ts) H s (.v d :: rs) :=
  ⟨o.ls, by simp [o.lt], by rw [gv_push, gs_push, o.lt]; exact o.c.putV h fun _ _ _ => by simp, o.na⟩
theorem Ok.pushN (o : Ok K Z σ ts H s rs) : Ok K Z σ (x :: ts) H s (.no :: rs) :=
  ⟨o.ls, by simp [o.lt], by rw [gv_push, gs_push, o.lt]; exact o.c.putN fun _ _ _ => by simp, o.na⟩
theorem Ok.pushO {a : Addr} {xs : List V} (o : Ok K Z σ ts H s rs) (ha : H a = none) (h : RpA K (Cl Z (gv σ ts) (gs s rs)) H xs ds) : Ok K Z σ (.ref a :: ts) (upd H a (.lst xs)) s (.ow none ds :: rs) :=
  ⟨o.ls, by simp [o.lt], by rw [gv_push, gs_push, o.lt]; exact o.c.putO ha (.lst h) fun _ _ _ => by simp, o.na⟩
theorem Ok.pushW {a : Addr} {u : HO} {w : OD} (o : Ok K Z σ ts H s rs) (ha : H a = none) (h : RpO K (Cl Z (gv σ ts) (gs s rs)) H u w) : Ok K Z σ (.ref a :: ts) (upd H a u) s (.own none w :: rs) :=
  ⟨o.ls, by simp [o.lt], by rw [gv_push, gs_push, o.lt]; exact o.c.putO ha h fun _ _ _ => by simp, o.na⟩
theorem Ok.pushA {i : Nat} {t : Option Nat} {w : OD} (o : Ok K Z σ ts H s rs) (h : s[i]? = some (.own t w)) (hx : σ[i]? = some (some x)) : Ok K Z σ (x :: ts) H s (.al i :: rs) :=
  ⟨o.ls, by simp [o.lt], by rw [gv_push, gs_push, o.lt]; exact o.c.putA (t := t) (ds := w) h (gv_slot.mpr hx) gs_none, o.na⟩
theorem own_pop (a : Addr) : Own (gv σ ts) (gs s rs) a → ts.length = rs.length → Own (gv σ (x :: ts)) (gs s (r :: rs)) a := fun z e => by
  rcases z with ⟨p, t, ds, h1, h2⟩ | ⟨p, G, h1, h2⟩
  · refine .inl ⟨p, t, ds, ?_, ?_⟩
    · cases p with
      | inl i => exact h1
      | inr i => exact gT_down h1
    · cases p with
      | inl i => exact h2
      | inr i => exact gT_down h2
  · refine .inr ⟨p, G, ?_, h2⟩
    cases p with
    | inl i => exact h1
    | inr i => exact gT_down h1
theorem Ok.pop (o : Ok K Z σ (x :: ts) H s (r :: rs)) : Ok K Z σ ts H s rs := by
  have e : ts.length = rs.length := by have := o.lt; simpa using this
  refine ⟨o.ls, e, o.c.re (fun q => match q with | .inl i => some (.inl i) | .inr i => if i < rs.length then some (.inr i) else none) (fun q r' hq => .inr ?_) (fun q p h => ?_) (fun q q' p h1 h2 => ?_) (fun q i hq => ⟨rfl, rfl⟩), o.na⟩
  · cases q with
    | inl i => exact ⟨.inl i, rfl, hq⟩
    | inr i =>
      have hq : gT rs i = some r' := hq
      exact ⟨.inr i, if_pos (gT_lt hq), gT_down hq⟩
  · cases q with
    | inl i => cases h; rfl
    | inr i =>
      by_cases hi : i < rs.length
      · have h : (if i < rs.length then some (Sum.inr i : Pos2) else none) = some p := h
        rw [if_pos hi] at h; cases h
        show gT ts i = gT (x :: ts) i
        exact (if_neg (by omega)).symm
      · have h : (if i < rs.length then some (Sum.inr i : Pos2) else none) = some p := h
        rw [if_neg hi] at h; cases h
  · cases q with
    | inl i =>
      cases h1
      cases q' with
      | inl j => cases h2; rfl
      | inr j =>
        have h2 : (if j < rs.length then some (Sum.inr j : Pos2) else none) = some (Sum.inl i) := h2
        split at h2 <;> cases h2
    | inr i =>
      have h1 : (if i < rs.length then some (Sum.inr i : Pos2) else none) = some p := h1
      split at h1
      · cases h1
        cases q' with
        | inl j => cases h2
        | inr j =>
          have h2 : (if j < rs.length then some (Sum.inr j : Pos2) else none) = some (Sum.inr i) := h2
          split at h2
          · cases h2; rfl
          · cases h2
      · cases h1
theorem cl_pop (o : Ok K Z σ (x :: ts) H s (r :: rs)) (a : Addr) (h : Cl Z (gv σ (x :: ts)) (gs s (r :: rs)) a) : Cl Z (gv σ ts) (gs s rs) a :=
  ⟨h.1, fun z => h.2 (own_pop a z (by have := o.lt; simpa using this))⟩
theorem Rp.clean {C C' : Addr → Prop} (h : Rp K C H x d) (i : ∀ a, C a → C' a) : Rp K C' H x d := Rp.mono (fun _ _ z => z) (fun a _ z q => ⟨i a z, q⟩) _ _ h
theorem RpA.clean {C C' : Addr → Prop} {xs : List V} (h : RpA K C H xs ds) (i : ∀ a, C a → C' a) : RpA K C' H xs ds := RpA.mono (fun _ _ z => z) (fun a _ z q => ⟨i a z, q⟩) _ _ h
theorem RpO.clean {C C' : Addr → Prop} {u : HO} {w : OD} (h : RpO K C H u w) (i : ∀ a, C a → C' a) : RpO K C' H u w := RpO.mono (fun _ _ z => z) (fun a _ z q => ⟨i a z, q⟩) (fun _ _ z => z) h
theorem Ok.atV {p : Pos2} (o : Ok K Z σ ts H s rs) (h : gs s rs p = some (.v d)) : ∃ x, gv σ ts p = some x ∧ Rp K (Cl Z (gv σ ts) (gs s rs)) H x d := o.c.va p d h
/-- the top value -/
theorem Ok.top (o : Ok K Z σ (x :: ts) H s (.v d :: rs)) : Rp K (Cl Z (gv σ ts) (gs s rs)) H x d := by
  obtain ⟨y, h1, h2⟩ := o.c.va (.inr rs.length) d gT_top
  have e : ts.length = rs.length := by have := o.lt; simpa using this
  have h1 : gT (x :: ts) rs.length = some y := h1
  rw [← e, gT_top] at h1
  cases h1
  exact h2.clean (cl_pop o)

/-- the pool: the last slot's -/
def poolOf (s : List SD) : List (Addr × OG) := match s.getLast? with | some (.gh G) => G | _ => []
def lk (s : List SD) (a : Addr) : Option OG := (poolOf s).lookup a
theorem mem_of_lk {G : List (Addr × OG)} {a : Addr} {g : OG} (h : G.lookup a = some g) : (a, g) ∈ G := by
  induction G with
  | nil => cases h
  | cons x G ih =>
    obtain ⟨b, u⟩ := x
    rw [List.lookup_cons] at h
    by_cases e : (a == b) = true
    · rw [e] at h
      have e := eq_of_beq e
      dsimp only at h
      cases h; subst e; exact List.mem_cons_self
    · rw [Bool.not_eq_true] at e
      rw [e] at h
      exact List.mem_cons_of_mem _ (ih h)
theorem poolAt {s : List SD} {a : Addr} {g : OG} (h : lk s a = some g) : ∃ i G, s[i]? = some (.gh G) ∧ i + 1 = s.length ∧ poolOf s = G ∧ (a, g) ∈ G := by
  have hm := mem_of_lk h
  cases e : s.getLast? with
  | none =>
    have hp : poolOf s = [] := by unfold poolOf; rw [e]
    rw [hp] at hm; cases hm
  | some r =>
    cases r with
    | gh G =>
      have hp : poolOf s = G := by unfold poolOf; rw [e]
      rw [hp] at hm
      rw [List.getLast?_eq_getElem?] at e
      have := (List.getElem?_eq_some_iff.mp e).1
      exact ⟨_, G, e, by omega, hp, hm⟩
    | _ =>
      have hp : poolOf s = [] := by unfold poolOf; rw [e]
      rw [hp] at hm; cases hm
theorem Ok.pool {a : Addr} {g : OG} (o : Ok K Z σ ts H s rs) (h : lk s a = some g) : ∃ u, H a = some u ∧ RpG K (Cl Z (gv σ ts) (gs s rs)) H a u g ∧ (Z.H0 a = none ∨ a ∈ Z.Bs ∨ ∃ gs, g = .tup gs) := by
  obtain ⟨i, G, h1, _, _, h2⟩ := poolAt h
  exact (o.c.gh (.inl i) G h1).2 a g h2
/-- what a value is as data -/
def dat (s : List SD) : SD → Option D
  | .rf a => match lk s a with | some (.pl (.lst ds)) => some (.list ds) | _ => none
  | .v d => some d
  | .own _ (.lst ds) => some (.list ds)
  | .al i => match s[i]? with | some (.own _ (.lst ds)) => some (.list ds) | _ => none
  | _ => none
theorem Core.listAt {f : Pos2 → Option V} {g : Pos2 → Option SD} {p : Pos2} (c : Core K Z f g H) (h : g p = some (.v (.list ds)) ∨ ∃ t, g p = some (.ow t ds)) : ∃ a xs, f p = some (.ref a) ∧ SqL K H a xs ∧ RpA K (Cl Z f g) H xs ds := by
  rcases h with h | ⟨t, h⟩
  · obtain ⟨y, h1, h2⟩ := c.va p _ h
    cases h2 with
    | lst c r q => exact ⟨_, _, h1, .inl r, q⟩
    | lstK c q => exact ⟨_, _, h1, .inr c, q⟩
  · obtain ⟨a, xs, h1, h2, h3, _⟩ := c.ow p t ds h
    exact ⟨a, xs, h1, .inl (.inl h2), h3⟩
theorem Ok.atList {p : Pos2} (o : Ok K Z σ ts H s rs) (hg : gs s rs p = some r) (h : dat s r = some (.list ds)) : ∃ a xs, gv σ ts p = some (.ref a) ∧ SqL K H a xs ∧ RpA K (Cl Z (gv σ ts) (gs s rs)) H xs ds := by
  cases r with
  | no => cases h
  | fz _ => cases h
  | gh _ => cases h
  | rf a =>
    have h : (match lk s a with | some (.pl (.lst ds)) => some (PyData.list ds) | _ => none) = some (PyData.list ds) := h
    split at h
    case h_1 es e =>
      cases h
      obtain ⟨u, h1, h2, _⟩ := o.pool e
      cases h2 with
      | pl h2 => cases h2 with
        | lst h2 => exact ⟨a, _, o.c.rf _ a hg, .inl (.inl h1), h2⟩
    case h_2 => cases h
  | v d => cases h; exact o.c.listAt (.inl hg)
  | own t es => cases es with
    | lst es => cases h; exact o.c.listAt (.inr ⟨t, hg⟩)
    | _ => cases h
  | al i =>
    obtain ⟨t, es, y, h1, h2, h3⟩ := o.c.al _ i hg
    have h1' : s[i]? = some (.own t es) := h1
    have h : (match s[i]? with | some (.own _ (.lst ds)) => some (PyData.list ds) | _ => none) = some (PyData.list ds) := h
    rw [h1'] at h
    cases es with
    | lst es => ?_
    | _ => cases h
    cases h
    obtain ⟨a, xs, q1, q2, q3⟩ := o.c.listAt (.inr ⟨t, h1⟩)
    rw [h2] at q1; cases q1
    exact ⟨a, xs, h3, q2, q3⟩
theorem Ok.topAt (o : Ok K Z σ (x :: ts) H s (r :: rs)) : gs s (r :: rs) (.inr rs.length) = some r ∧ gv σ (x :: ts) (.inr rs.length) = some x := by
  have e : ts.length = rs.length := by have := o.lt; simpa using this
  exact ⟨gT_top, by rw [← e]; exact gT_top⟩
theorem Ok.listFull (o : Ok K Z σ (x :: ts) H s (r :: rs)) (h : dat s r = some (.list ds)) : ∃ a xs, x = .ref a ∧ SqL K H a xs ∧ RpA K (Cl Z (gv σ (x :: ts)) (gs s (r :: rs))) H xs ds := by
  obtain ⟨a, xs, h1, h2, h3⟩ := o.atList o.topAt.1 h
  rw [o.topAt.2] at h1
  exact ⟨a, xs, Option.some.inj h1, h2, h3⟩
theorem Ok.listTop (o : Ok K Z σ (x :: ts) H s (r :: rs)) (h : dat s r = some (.list ds)) : ∃ a xs, x = .ref a ∧ SqL K H a xs ∧ RpA K (Cl Z (gv σ ts) (gs s rs)) H xs ds := by
  obtain ⟨a, xs, h1, h2, h3⟩ := o.listFull h
  exact ⟨a, xs, h1, h2, h3.clean (cl_pop o)⟩
theorem Ok.topFull (o : Ok K Z σ (x :: ts) H s (.v d :: rs)) : Rp K (Cl Z (gv σ (x :: ts)) (gs s (.v d :: rs))) H x d := by
  obtain ⟨y, h1, h2⟩ := o.c.va (.inr rs.length) d gT_top
  have e : ts.length = rs.length := by have := o.lt; simpa using this
  have h1 : gT (x :: ts) rs.length = some y := h1
  rw [← e, gT_top] at h1
  cases h1
  exact h2
theorem Ok.tupFull (o : Ok K Z σ (x :: ts) H s (r :: rs)) (h : dat s r = some (.tuple ds)) : ∃ a xs, x = .ref a ∧ SqT K H a xs ∧ RpA K (Cl Z (gv σ (x :: ts)) (gs s (r :: rs))) H xs ds := by
  cases r with
  | no => cases h
  | fz _ => cases h
  | gh _ => cases h
  | rf a =>
    have h : (match lk s a with | some (.pl (.lst ds)) => some (PyData.list ds) | _ => none) = some (PyData.tuple ds) := h
    split at h <;> cases h
  | own t es => cases es <;> cases h
  | al i =>
    have h : (match s[i]? with | some (.own _ (.lst ds)) => some (PyData.list ds) | _ => none) = some (PyData.tuple ds) := h
    split at h <;> cases h
  | v d =>
    cases h
    have := o.topFull
    cases this with
    | tup c q => exact ⟨_, _, rfl, c, q⟩
theorem Ok.tupTop (o : Ok K Z σ (x :: ts) H s (r :: rs)) (h : dat s r = some (.tuple ds)) : ∃ a xs, x = .ref a ∧ SqT K H a xs ∧ RpA K (Cl Z (gv σ ts) (gs s rs)) H xs ds := by
  obtain ⟨a, xs, h1, h2, h3⟩ := o.tupFull h
  exact ⟨a, xs, h1, h2, h3.clean (cl_pop o)⟩
/-- as data for == -/
theorem Ok.dpTop (o : Ok K Z σ (x :: ts) H s (r :: rs)) (h : dat s r = some d) : Dp K H x d := by
  have lists : ∀ {ds}, d = .list ds → dat s r = some (.list ds) → Dp K H x d := fun {ds} e h => by
    subst e
    obtain ⟨a, xs, rfl, h2, h3⟩ := o.listTop h
    exact .lst h2 (RpA.dp _ _ h3)
  cases r with
  | no => cases h
  | fz _ => cases h
  | gh _ => cases h
  | rf a =>
    have h' := h
    have h : (match lk s a with | some (.pl (.lst ds)) => some (PyData.list ds) | _ => none) = some d := h
    split at h
    · cases h; exact lists rfl h'
    · cases h
  | v d' => cases h; exact Rp.dp _ _ o.top
  | own t es => cases es with
    | lst es => have h' := h; cases h; exact lists rfl h'
    | _ => cases h
  | al i =>
    have h' := h
    have h : (match s[i]? with | some (.own _ (.lst ds)) => some (PyData.list ds) | _ => none) = some d := h
    split at h
    · cases h; exact lists rfl h'
    · cases h
/-- the top, shared from now on, is taken off -/
def asD : SD → Option D
  | .v d => some d
  | .own none (.lst ds) => some (.list ds)
  | _ => none
def asDs : List SD → Option (List D)
  | [] => some []
  | r :: rs => match asD r, asDs rs with | some d, some ds => some (d :: ds) | _, _ => none
theorem noal_top {rs : List SD} (q : Pos2) (i : Nat) (_ : gs s rs q = some (SD.al i)) (n : Nat) : Sum.inl i ≠ (Sum.inr n : Pos2) := by simp
theorem Ok.freezeTop (o : Ok K Z σ (x :: ts) H s (.ow none ds :: rs)) : Ok K Z σ (x :: ts) H s (.v (.list ds) :: rs) := by
  refine ⟨o.ls, o.lt, ?_, o.na⟩
  have c := o.c.freeze (p := .inr rs.length) (ds := ds) gT_top fun _ _ _ => by simp
  have e : up (gs s (.ow none ds :: rs)) (.inr rs.length) (.v (.list ds)) = gs s (.v (.list ds) :: rs) := by
    rw [gs_push, gs_push]
    funext p
    by_cases h : p = .inr rs.length
    · subst h; rw [up_same, up_same]
    · rw [up_ne h, up_ne h, up_ne h]
  rw [e] at c
  exact c
theorem Ok.popD (o : Ok K Z σ (x :: ts) H s (r :: rs)) (h : asD r = some d) : Rp K (Cl Z (gv σ ts) (gs s rs)) H x d ∧ Ok K Z σ ts H s rs := by
  refine ⟨?_, o.pop⟩
  cases r with
  | no => cases h
  | fz _ => cases h
  | gh _ => cases h
  | rf _ => cases h
  | v d' => cases h; exact o.top
  | al i => cases h
  | own t es =>
    cases es with
    | lst es =>
      cases t with
      | some k => cases h
      | none => cases h; exact o.freezeTop.top
    | _ => cases t <;> cases h
theorem asDs_app {a b : List SD} {ds : List D} (h : asDs (a ++ b) = some ds) : ∃ x y, asDs a = some x ∧ asDs b = some y ∧ ds = x ++ y := by
  induction a generalizing ds with
  | nil => exact ⟨[], ds, rfl, h, rfl⟩
  | cons r a ih =>
    have h : (match asD r, asDs (a ++ b) with | some d, some ds => some (d :: ds) | _, _ => none) = some ds := h
    cases e1 : asD r with
    | none => rw [e1] at h; cases h
    | some d =>
      cases e2 : asDs (a ++ b) with
      | none => rw [e1, e2] at h; cases h
      | some es =>
        rw [e1, e2] at h; cases h
        obtain ⟨x, y, h1, h2, h3⟩ := ih e2
        refine ⟨d :: x, y, ?_, h2, by rw [h3]; rfl⟩
        show (match asD r, asDs a with | some d, some ds => some (d :: ds) | _, _ => none) = some (d :: x)
        rw [e1, h1]
/-- several values, the last one on top -/
theorem Ok.popDs : ∀ {as : List SD} {xs ts : List V} {rs : List SD} {ds : List D}, Ok K Z σ (xs ++ ts) H s (as ++ rs) → xs.length = as.length → asDs as = some ds → RpA K (Cl Z (gv σ ts) (gs s rs)) H xs ds ∧ Ok K Z σ ts H s rs
  | [], [], ts, rs, ds, o, _, h => by cases h; exact ⟨.nil, o⟩
  | [], _ :: _, _, _, _, _, e, _ => by cases e
  | _ :: _, [], _, _, _, _, e, _ => by cases e
  | r :: as, x :: xs, ts, rs, ds, o, e, h => by
    have h : (match asD r, asDs as with | some d, some ds => some (d :: ds) | _, _ => none) = some ds := h
    cases e1 : asD r with
    | none => rw [e1] at h; cases h
    | some d =>
      cases e2 : asDs as with
      | none => rw [e1, e2] at h; cases h
      | some es =>
        rw [e1, e2] at h; cases h
        obtain ⟨h1, o1⟩ := Ok.popD o e1
        have o1' : Ok K Z σ (xs ++ ts) H s (as ++ rs) := o1
        obtain ⟨h2, o2⟩ := Ok.popDs o1' (by simpa using e) e2
        refine ⟨.cons (h1.clean ?_) h2, o2⟩
        have down : ∀ {as : List SD} {xs : List V}, xs.length = as.length → ts.length = rs.length → ∀ a, Cl Z (gv σ (xs ++ ts)) (gs s (as ++ rs)) a → Cl Z (gv σ ts) (gs s rs) a := by
          intro as
          induction as with
          | nil => intro xs e _ a h; cases xs with | nil => exact h | cons _ _ => cases e
          | cons r as ih => intro xs e el a h; cases xs with
            | nil => cases e
            | cons x xs =>
              have e' : xs.length = as.length := by simpa using e
              refine ih e' el a ⟨h.1, fun z => h.2 (own_pop a z (by simp [e', el]))⟩
        exact down (by simpa using e) o2.lt
theorem na_set {i : Nat} (h : ∀ (i j : Nat), s[i]? ≠ some (SD.al j)) (hr : ∀ j, r ≠ SD.al j) : ∀ (k j : Nat), (s.set i r)[k]? ≠ some (SD.al j) := fun k j e => by
  by_cases hk : k = i
  · subst hk
    by_cases hl : k < s.length
    · rw [List.getElem?_set_self hl] at e; exact hr j (Option.some.inj e)
    · rw [List.getElem?_eq_none (by simpa using hl)] at e; cases e
  · rw [List.getElem?_set_ne (Ne.symm hk)] at e; exact h k j e
/-- no value on the way is the slot i itself -/
def noal (rs : List SD) (i : Nat) : Bool := rs.all fun r => match r with | .al j => decide (j ≠ i) | _ => true
theorem gT_mem {α : Type} {r : List α} {i : Nat} {x : α} (h : gT r i = some x) : x ∈ r := by
  induction r with
  | nil => cases h
  | cons y r ih =>
    unfold gT at h
    split at h
    · cases h; exact List.mem_cons_self
    · exact List.mem_cons_of_mem _ (ih h)
theorem Ok.noal {i : Nat} (o : Ok K Z σ ts H s rs) (h : W8.noal rs i = true) : ∀ q, gs s rs q ≠ some (SD.al i) := fun q e => by
  cases q with
  | inl j => exact o.na j i e
  | inr j =>
    have := List.all_eq_true.mp h _ (gT_mem e)
    simp at this
theorem noal_push {i : Nat} (h : W8.noal (r :: rs) i = true) : W8.noal rs i = true := by
  unfold W8.noal at h ⊢
  rw [List.all_cons, Bool.and_eq_true] at h
  exact h.2
/-- where an entry behind the store comes from -/
def sto (i n : Nat) : Pos2 → Option Pos2
  | .inl j => if j = i then some (.inr n) else some (.inl j)
  | .inr j => if j < n then some (.inr j) else none
theorem sto_key {i n : Nat} : ∀ q p, sto i n q = some p → (q = .inl i ∧ p = .inr n) ∨ (q = p ∧ p ≠ .inr n) := fun q p h => by
  cases q with
  | inl j =>
    have h : (if j = i then some (Sum.inr n : Pos2) else some (.inl j)) = some p := h
    by_cases hj : j = i
    · rw [if_pos hj] at h; cases h; exact .inl ⟨by rw [hj], rfl⟩
    · rw [if_neg hj] at h; cases h; exact .inr ⟨rfl, by simp⟩
  | inr j =>
    have h : (if j < n then some (Sum.inr j : Pos2) else none) = some p := h
    by_cases hj : j < n
    · rw [if_pos hj] at h; cases h; refine .inr ⟨rfl, ?_⟩
      intro z; cases z; omega
    · rw [if_neg hj] at h; cases h
/-- the top goes to a slot -/
theorem Ok.store {i : Nat} (o : Ok K Z σ (x :: ts) H s (r :: rs)) (hi : i < s.length) (hr : ∀ j, r ≠ SD.al j) (hal : W8.noal rs i = true) : Ok K Z (σ.set i (some x)) ts H (s.set i r) rs := by
  have e : ts.length = rs.length := by have := o.lt; simpa using this
  have hσ : i < σ.length := by rw [o.ls]; exact hi
  have hal := o.pop.noal hal
  refine ⟨by simp [o.ls], e, ?_, na_set o.na hr⟩
  rw [gs_set hi, gv_set hσ]
  refine o.c.re (sto i rs.length) (fun q r' hq => .inr ?_) (fun q p h => ?_) (fun q q' p h1 h2 => ?_) (fun q j hq => ?_)
  · cases q with
    | inl j =>
      by_cases h : j = i
      · subst h; rw [up_same] at hq; cases hq
        exact ⟨.inr rs.length, if_pos rfl, gT_top⟩
      · rw [up_ne (by simpa using h)] at hq
        exact ⟨.inl j, if_neg h, hq⟩
    | inr j =>
      rw [up_ne (by simp)] at hq
      have hq : gT rs j = some r' := hq
      exact ⟨.inr j, if_pos (gT_lt hq), gT_down hq⟩
  · rcases sto_key q p h with ⟨a1, a2⟩ | ⟨a1, a2⟩
    · subst a1 a2
      rw [up_same]
      show some x = gT (x :: ts) rs.length
      rw [← e]; exact gT_top.symm
    · subst a1
      cases q with
      | inl j =>
        have hj : j ≠ i := fun z => by
          have h : (if j = i then some (Sum.inr rs.length : Pos2) else some (.inl j)) = some (.inl j) := h
          rw [if_pos z] at h; cases h
        rw [up_ne (by simpa using hj)]; rfl
      | inr j =>
        rw [up_ne (by simp)]
        have hj : j ≠ ts.length := fun z => a2 (by rw [z, e])
        exact (if_neg hj).symm
  · rcases sto_key q p h1 with ⟨a1, a2⟩ | ⟨a1, a2⟩
    · rcases sto_key q' p h2 with ⟨b1, b2⟩ | ⟨b1, b2⟩
      · rw [a1, b1]
      · exact absurd a2 b2
    · rcases sto_key q' p h2 with ⟨b1, b2⟩ | ⟨b1, b2⟩
      · exact absurd b2 a2
      · rw [a1, b1]
  · have hj : j ≠ i := fun z => by
      subst z
      cases q with
      | inl k =>
        by_cases h : k = j
        · subst h; rw [up_same] at hq; exact hr _ (Option.some.inj hq)
        · rw [up_ne (by simpa using h)] at hq; exact hal (.inl k) hq
      | inr k => rw [up_ne (by simp)] at hq; exact hal (.inr k) hq
    exact ⟨if_neg hj, by rw [up_ne (by simpa using hj)]; rfl⟩
/-- an own slot's list is changed -/
theorem Ok.mutS {i : Nat} {t : Option Nat} {a : Addr} {es : List D} {ys : List V} (o : Ok K Z σ ts H s rs) (h : s[i]? = some (.ow t ds)) (hx : σ[i]? = some (some (.ref a))) (hy : RpA K (Cl Z (gv σ ts) (gs s rs)) H ys es) :
    Ok K Z σ ts (upd H a (.lst ys)) (s.set i (.ow t es)) rs := by
  have hi : i < s.length := (List.getElem?_eq_some_iff.mp h).1
  refine ⟨by simp [o.ls], o.lt, ?_, na_set o.na fun _ z => by cases z⟩
  rw [gs_set hi]
  exact o.c.mut (p := .inl i) (t := t) (ds := .lst ds) h (gv_slot.mpr hx) (.lst hy)
theorem Ok.mutW {i : Nat} {t : Option Nat} {a : Addr} {w w' : OD} {u : HO} (o : Ok K Z σ ts H s rs) (h : s[i]? = some (.own t w)) (hx : σ[i]? = some (some (.ref a))) (hy : RpO K (Cl Z (gv σ ts) (gs s rs)) H u w') :
    Ok K Z σ ts (upd H a u) (s.set i (.own t w')) rs := by
  have hi : i < s.length := (List.getElem?_eq_some_iff.mp h).1
  refine ⟨by simp [o.ls], o.lt, ?_, na_set o.na fun _ z => by cases z⟩
  rw [gs_set hi]
  exact o.c.mut (p := .inl i) (t := t) (ds := w) h (gv_slot.mpr hx) hy
theorem Ok.freezeS {i : Nat} (o : Ok K Z σ ts H s rs) (h : s[i]? = some (.ow none ds)) (hal : W8.noal rs i = true) : Ok K Z σ ts H (s.set i (.v (.list ds))) rs := by
  have hi : i < s.length := (List.getElem?_eq_some_iff.mp h).1
  have hal := o.noal hal
  refine ⟨by simp [o.ls], o.lt, ?_, na_set o.na fun _ z => by cases z⟩
  rw [gs_set hi]
  exact o.c.freeze (p := .inl i) (ds := ds) h fun q j hq z => by
    cases z; exact hal q hq
/-- something of a slot is forgotten -/
theorem Ok.forget {i : Nat} (o : Ok K Z σ ts H s rs) (hal : W8.noal rs i = true) : Ok K Z σ ts H (s.set i .no) rs := by
  have hal := o.noal hal
  by_cases hi : i < s.length
  · refine ⟨by simp [o.ls], o.lt, ?_, na_set o.na fun _ z => by cases z⟩
    rw [gs_set hi]
    refine o.c.re (fun q => some q) (fun q r hq => ?_) (fun q p h => by cases h; rfl) (fun q q' p h1 h2 => by cases h1; cases h2; rfl) (fun q j hq => ?_)
    · by_cases h : q = .inl i
      · subst h; rw [up_same] at hq; cases hq; exact .inl rfl
      · rw [up_ne h] at hq; exact .inr ⟨q, rfl, hq⟩
    · by_cases h : q = .inl i
      · subst h; rw [up_same] at hq; cases hq
      · rw [up_ne h] at hq
        have : j ≠ i := fun z => by subst z; exact hal q hq
        exact ⟨rfl, up_ne (by simpa using this)⟩
  · rw [List.set_eq_of_length_le (by omega)]; exact o
theorem Ok.aliW {i : Nat} (o : Ok K Z σ (x :: ts) H s (.al i :: rs)) : ∃ t w a u, s[i]? = some (.own t w) ∧ σ[i]? = some (some (.ref a)) ∧ x = .ref a ∧ H a = some u ∧ RpO K (Cl Z (gv σ ts) (gs s rs)) H u w := by
  have e : ts.length = rs.length := by have := o.lt; simpa using this
  obtain ⟨t, ds, y, h1, h2, h3⟩ := o.c.al (.inr rs.length) i gT_top
  have h3 : gT (x :: ts) rs.length = some y := h3
  rw [← e, gT_top] at h3
  cases h3
  obtain ⟨a, xs, q1, q2, q3, _⟩ := o.c.wn _ t ds h1
  rw [h2] at q1; cases q1
  exact ⟨t, ds, a, xs, h1, gv_slot.mp h2, rfl, q2, RpO.mono (fun _ _ z => z) (fun a _ z r => ⟨cl_pop o a z, r⟩) (fun _ _ z => z) q3⟩
theorem Ok.ali {i : Nat} {t : Option Nat} (o : Ok K Z σ (x :: ts) H s (.al i :: rs)) (hs : s[i]? = some (.ow t ds)) : ∃ a xs, σ[i]? = some (some (.ref a)) ∧ x = .ref a ∧ H a = some (.lst xs) ∧ RpA K (Cl Z (gv σ ts) (gs s rs)) H xs ds := by
  obtain ⟨t', w, a, xs, h1, h2, h3, h4, h5⟩ := o.aliW
  rw [hs] at h1; cases h1
  cases h5 with
  | lst h5 => exact ⟨a, _, h2, h3, h4, h5⟩
end

/-! ### what is wished where an exception leaves -/
/-- on the heap; over data: the class's name, the fields, the slots -/
structure Wish where
  W : Value → Option Addr → L2.St → Hp → Prop
  P : Str → List (Str × Key) → List SD → Prop
/-- the written part, and the wish -/
structure KX where
  fr : PySem.W.Frag
  ws : Wish
def w0 : Wish := ⟨fun _ _ _ _ => True, fun _ _ _ => False⟩
instance : Coe PySem.W.Frag KX := ⟨fun K => ⟨K, w0⟩⟩
/-- the exception of the class cls, its dict at d, is told of by a name and fields -/
def XA (K : PySem.W.Frag) (nm : Str) (fs : List (Str × Key)) (cls : Value) (d : Option Addr) (H : Hp) : Prop := ∃ C, clsOf K nm C ∧ cls = .ref C ∧ exF H d fs
def XLaw (K : PySem.W.Frag) (ω : Wish) (Z : Zn) : Prop := ∀ σ ts H s rs nm fs cls d, Ok K Z σ ts H s rs → XA K nm fs cls d H → ω.P nm fs s → ω.W cls d σ H
/-- what is fixed, and what it says of exceptions -/
structure ZX (κ : KX) where
  z : Zn
  law : XLaw κ.fr κ.ws z
instance {κ : KX} : CoeOut (ZX κ) Zn := ⟨ZX.z⟩
theorem law0 {K : PySem.W.Frag} {Z : Zn} : XLaw K w0 Z := fun _ _ _ _ _ _ _ _ _ _ _ q => q.elim
def Zn.x0 {K : PySem.W.Frag} (Z : Zn) : ZX (K : KX) := ⟨Z, law0⟩
/-! ### the judgements -/
def DE (κ : KX) (te : TE) (s rs : List SD) (Q : SD → List SD → Prop) : Prop := ∀ (Z : ZX κ) σ ts H (R : VK), Ok κ.fr Z.z σ ts H s rs → (∀ x H' s' r, Ok κ.fr Z.z σ (x :: ts) H' s' (r :: rs) → Q r s' → R x H') → te σ H R
def DT (κ : KX) (tt : TT) (s rs : List SD) (Q : Bool → List SD → Prop) : Prop := ∀ (Z : ZX κ) σ ts H (R : Bool → Hp → Prop), Ok κ.fr Z.z σ ts H s rs → (∀ b H' s', Ok κ.fr Z.z σ ts H' s' rs → Q b s' → R b H') → tt σ H R
def DA (κ : KX) (ta : TA) (s rs : List SD) (Q : List SD → List SD → Prop) : Prop := ∀ (Z : ZX κ) σ ts H (R : List V → Hp → Prop), Ok κ.fr Z.z σ ts H s rs →
  (∀ xs H' s' as, Ok κ.fr Z.z σ (xs.reverse ++ ts) H' s' (as.reverse ++ rs) → xs.length = as.length → Q as s' → R xs H') → ta σ H R
/-- behind a statement -/
structure DEn where
  nx : List SD → Prop
  rt : SD → List SD → Prop
  bk : List SD → Prop := fun _ => False
  ct : List SD → Prop := fun _ => False
def DS (κ : KX) (t : TS) (s rs : List SD) (D : DEn) : Prop := ∀ (Z : ZX κ) σ ts H (E : Ends), Ok κ.fr Z.z σ ts H s rs → (∀ σ' H' s', Ok κ.fr Z.z σ' ts H' s' rs → D.nx s' → E.nx σ' H') →
  (∀ x σ' H' s' r, Ok κ.fr Z.z σ' (x :: ts) H' s' (r :: rs) → D.rt r s' → E.rt x H') → (∀ σ' H' s', Ok κ.fr Z.z σ' ts H' s' rs → D.bk s' → E.bk σ' H') → (∀ σ' H' s', Ok κ.fr Z.z σ' ts H' s' rs → D.ct s' → E.ct σ' H') → t E σ H
def DG (κ : KX) (g : TG) (r : SD) (s rs : List SD) (Q : List SD → Prop) : Prop := ∀ (Z : ZX κ) σ ts H x (R : L2.St → Hp → Prop), Ok κ.fr Z.z σ (x :: ts) H s (r :: rs) → (∀ σ' H' s', Ok κ.fr Z.z σ' ts H' s' rs → Q s' → R σ' H') → g x σ H R
/-- an operation on two values, on one, on a list of arguments -/
def OP2 (κ : KX) (f : R2) (r1 r2 : SD) (s rs : List SD) (Q : SD → List SD → Prop) : Prop := ∀ (Z : ZX κ) σ ts H x y (R : VK), Ok κ.fr Z.z σ (y :: x :: ts) H s (r2 :: r1 :: rs) → (∀ z H' s' r, Ok κ.fr Z.z σ (z :: ts) H' s' (r :: rs) → Q r s' → R z H') → f x y H R
def OP1 (κ : KX) (f : V → Hp → VK → Prop) (r1 : SD) (s rs : List SD) (Q : SD → List SD → Prop) : Prop := ∀ (Z : ZX κ) σ ts H x (R : VK), Ok κ.fr Z.z σ (x :: ts) H s (r1 :: rs) → (∀ z H' s' r, Ok κ.fr Z.z σ (z :: ts) H' s' (r :: rs) → Q r s' → R z H') → f x H R
def OPC (κ : KX) (f : List V → Hp → VK → Prop) (as : List SD) (s rs : List SD) (Q : SD → List SD → Prop) : Prop := ∀ (Z : ZX κ) σ ts H xs (R : VK), Ok κ.fr Z.z σ (xs.reverse ++ ts) H s (as.reverse ++ rs) → xs.length = as.length → (∀ z H' s' r, Ok κ.fr Z.z σ (z :: ts) H' s' (r :: rs) → Q r s' → R z H') → f xs H R

section
variable {K : PySem.W.Frag} {s rs : List SD} {Q : SD → List SD → Prop} {QT : Bool → List SD → Prop} {QA : List SD → List SD → Prop} {te ta tb tc : TE} {d e : D} {ds es : List D} {r : SD}

theorem DE.imp {Q' : SD → List SD → Prop} (h : DE ⟨K, ω⟩ te s rs Q) (i : ∀ r s', Q r s' → Q' r s') : DE ⟨K, ω⟩ te s rs Q' := fun Z σ ts H R o k => h Z σ ts H R o fun x H' s' r o' q => k x H' s' r o' (i r s' q)
theorem DT.imp {tt : TT} {Q' : Bool → List SD → Prop} (h : DT ⟨K, ω⟩ tt s rs QT) (i : ∀ r s', QT r s' → Q' r s') : DT ⟨K, ω⟩ tt s rs Q' := fun Z σ ts H R o k => h Z σ ts H R o fun b H' s' o' q => k b H' s' o' (i b s' q)
theorem de_var {i : Nat} (h : s[i]? = some (.v d)) (q : Q (.v d) s) : DE ⟨K, ω⟩ (tVar i) s rs Q := fun Z σ ts H R o k => by
  obtain ⟨x, h1, h2⟩ := o.c.va (.inl i) d h
  exact ⟨x, gv_slot.mp h1, k x H s _ (o.pushV h2) q⟩
theorem de_own {i : Nat} {t : Option Nat} {w : OD} (h : s[i]? = some (.own t w)) (q : Q (.al i) s) : DE ⟨K, ω⟩ (tVar i) s rs Q := fun Z σ ts H R o k => by
  obtain ⟨a, xs, h1, h2, h3, h4⟩ := o.c.wn (.inl i) t w h
  exact ⟨.ref a, gv_slot.mp h1, k _ H s _ (o.pushA h (gv_slot.mp h1)) q⟩
theorem de_int {i : Int} (q : Q (.v (.int i)) s) : DE ⟨K, ω⟩ (tC (.int i)) s rs Q := fun Z σ ts H R o k => k _ H s _ (o.pushV (.int i)) q
theorem de_bl {b : Bool} (q : Q (.v (.bool b)) s) : DE ⟨K, ω⟩ (tC (.bl b)) s rs Q := fun Z σ ts H R o k => k _ H s _ (o.pushV (.bl b)) q
theorem de_str {z : Str} (q : Q (.v (.str z)) s) : DE ⟨K, ω⟩ (tC (.str z)) s rs Q := fun Z σ ts H R o k => k _ H s _ (o.pushV (.str z)) q
theorem de_non (q : Q (.v .none) s) : DE ⟨K, ω⟩ (tC .non) s rs Q := fun Z σ ts H R o k => k _ H s _ (o.pushV .non) q
/-- a constant of the module -/
theorem de_cst {x : V} (h : ∀ C H, Rp K C H x d) (q : Q (.v d) s) : DE ⟨K, ω⟩ (tC x) s rs Q := fun Z σ ts H R o k => k _ H s _ (o.pushV (h _ _)) q
theorem de_op {f : R2} (h : DE ⟨K, ω⟩ ta s rs fun r1 s1 => DE ⟨K, ω⟩ tb s1 (r1 :: rs) fun r2 s2 => OP2 ⟨K, ω⟩ f r1 r2 s2 rs Q) : DE ⟨K, ω⟩ (tOp f ta tb) s rs Q := fun Z σ ts H R o k =>
  h Z σ ts H _ o fun x H1 s1 r1 o1 q1 => q1 Z σ (x :: ts) H1 _ o1 fun y H2 s2 r2 o2 q2 => q2 Z σ ts H2 x y R o2 k
theorem de_un {f : V → Hp → VK → Prop} (h : DE ⟨K, ω⟩ ta s rs fun r1 s1 => OP1 ⟨K, ω⟩ f r1 s1 rs Q) : DE ⟨K, ω⟩ (tUn f ta) s rs Q := fun Z σ ts H R o k =>
  h Z σ ts H _ o fun x H1 s1 r1 o1 q1 => q1 Z σ ts H1 x R o1 k
theorem de_cb {f : List V → Hp → VK → Prop} {tl : TA} (h : DA ⟨K, ω⟩ tl s rs fun as s1 => OPC ⟨K, ω⟩ f as s1 rs Q) : DE ⟨K, ω⟩ (tCB f tl) s rs Q := fun Z σ ts H R o k =>
  h Z σ ts H _ o fun xs H1 s1 as o1 e q1 => q1 Z σ ts H1 xs R o1 e k
theorem da_nil (q : QA [] s) : DA ⟨K, ω⟩ tNil s rs QA := fun Z σ ts H R o k => k [] H s [] o rfl q
theorem da_cons {tl : TA} (h : DE ⟨K, ω⟩ te s rs fun r s1 => DA ⟨K, ω⟩ tl s1 (r :: rs) fun as s2 => QA (r :: as) s2) : DA ⟨K, ω⟩ (tCons te tl) s rs QA := fun Z σ ts H R o k =>
  h Z σ ts H _ o fun x H1 s1 r o1 q1 => q1 Z σ (x :: ts) H1 _ o1 fun xs H2 s2 as o2 e q2 => k (x :: xs) H2 s2 (r :: as) (by simpa using o2) (by simp [e]) q2
/-- the value, where it is a new list, is shared from now on -/
theorem de_fz (h : DE ⟨K, ω⟩ te s rs fun r s1 => ∃ ds, r = .ow none ds ∧ Q (.v (.list ds)) s1) : DE ⟨K, ω⟩ te s rs Q := fun Z σ ts H R o k =>
  h Z σ ts H _ o fun x H1 s1 r o1 ⟨ds, e, q⟩ => by subst e; exact k x H1 s1 _ o1.freezeTop q
theorem op2_intC {C : Int → Int → Prop} {g : Int → Int → Int} {i j : Int} (hc : C i j) (q : Q (.v (.int (g i j))) s) : OP2 ⟨K, ω⟩ (rI C fun i j => .int (g i j)) (.v (.int i)) (.v (.int j)) s rs Q := fun Z σ ts H x y R o k => by
  have h1 := o.top
  have h2 := o.pop.top
  cases h1; cases h2
  exact ⟨i, j, rfl, rfl, hc, k _ H s _ (o.pop.pop.pushV (.int _)) q⟩
theorem op2_int {g : Int → Int → Int} {i j : Int} (q : Q (.v (.int (g i j))) s) : OP2 ⟨K, ω⟩ (rI0 fun i j => .int (g i j)) (.v (.int i)) (.v (.int j)) s rs Q := fun Z σ ts H x y R o k => by
  have h1 := o.top
  have h2 := o.pop.top
  cases h1; cases h2
  exact ⟨i, j, rfl, rfl, k _ H s _ (o.pop.pop.pushV (.int _)) q⟩
theorem op2_cmp {g : Int → Int → Bool} {i j : Int} (q : Q (.v (.bool (g i j))) s) : OP2 ⟨K, ω⟩ (rI0 fun i j => .bl (g i j)) (.v (.int i)) (.v (.int j)) s rs Q := fun Z σ ts H x y R o k => by
  have h1 := o.top
  have h2 := o.pop.top
  cases h1; cases h2
  exact ⟨i, j, rfl, rfl, k _ H s _ (o.pop.pop.pushV (.bl _)) q⟩
theorem op2_orL {f g : R2} {r1 r2 : SD} (h : OP2 ⟨K, ω⟩ f r1 r2 s rs Q) : OP2 ⟨K, ω⟩ (fun x y H Q => f x y H Q ∨ g x y H Q) r1 r2 s rs Q := fun Z σ ts H x y R o k => .inl (h Z σ ts H x y R o k)
theorem op2_orR {f g : R2} {r1 r2 : SD} (h : OP2 ⟨K, ω⟩ g r1 r2 s rs Q) : OP2 ⟨K, ω⟩ (fun x y H Q => f x y H Q ∨ g x y H Q) r1 r2 s rs Q := fun Z σ ts H x y R o k => .inr (h Z σ ts H x y R o k)
theorem op2_eq {r1 r2 : SD} (h1 : dat s r1 = some d) (h2 : dat s r2 = some e) (s1 : SeqAt.shaped d = true) (s2 : SeqAt.shaped e = true) (q : Q (.v (.bool (PyData.eqv d e))) s) : OP2 ⟨K, ω⟩ (rEqD K) r1 r2 s rs Q := fun Z σ ts H x y R o k =>
  ⟨d, e, o.pop.dpTop h1, o.dpTop h2, s1, s2, k _ H s _ (o.pop.pop.pushV (.bl _)) q⟩
theorem op2_ne {r1 r2 : SD} (h1 : dat s r1 = some d) (h2 : dat s r2 = some e) (s1 : SeqAt.shaped d = true) (s2 : SeqAt.shaped e = true) (q : Q (.v (.bool (!PyData.eqv d e))) s) : OP2 ⟨K, ω⟩ (rNeD K) r1 r2 s rs Q := fun Z σ ts H x y R o k =>
  ⟨d, e, o.pop.dpTop h1, o.dpTop h2, s1, s2, k _ H s _ (o.pop.pop.pushV (.bl _)) q⟩
theorem op1_int {g : Int → Int} {i : Int} (q : Q (.v (.int (g i))) s) : OP1 ⟨K, ω⟩ (rU fun i => .int (g i)) (.v (.int i)) s rs Q := fun Z σ ts H x R o k => by
  have h1 := o.top
  cases h1
  exact ⟨i, rfl, k _ H s _ (o.pop.pushV (.int _)) q⟩
/-- x[i] -/
theorem atI_len {α β : Type} {xs : List α} {ys : List β} (e : xs.length = ys.length) {i : Int} {y : β} (h : atI ys i = some y) : ∃ j, ixN xs.length i = some j ∧ ys[j]? = some y := by
  unfold atI at h
  rw [← e] at h
  cases q : ixN xs.length i with
  | none => rw [q] at h; cases h
  | some j => rw [q] at h; exact ⟨j, rfl, h⟩
theorem RpA.at {C : Addr → Prop} {H : Hp} {xs : List V} (h : RpA K C H xs ds) {i : Int} (ha : atI ds i = some d) : ∃ x, atI xs i = some x ∧ Rp K C H x d := by
  obtain ⟨j, h1, h2⟩ := atI_len h.length ha
  obtain ⟨x, h3, h4⟩ := h.get h2
  exact ⟨x, by unfold atI; rw [h1]; exact h3, h4⟩
theorem op2_ixL {r1 : SD} {i : Int} (h : dat s r1 = some (.list ds)) (ha : atI ds i = some d) (q : Q (.v d) s) : OP2 ⟨K, ω⟩ (rIx K) r1 (.v (.int i)) s rs Q := fun Z σ ts H x y R o k => by
  have h1 := o.top
  cases h1
  obtain ⟨a, xs, rfl, h2, h3⟩ := o.pop.listTop h
  obtain ⟨x, h4, h5⟩ := h3.at ha
  exact .inl ⟨a, xs, i, x, rfl, rfl, h2, h4, k _ H s _ (o.pop.pop.pushV h5) q⟩
theorem op2_ixT {r1 : SD} {i : Int} (h : dat s r1 = some (.tuple ds)) (ha : atI ds i = some d) (q : Q (.v d) s) : OP2 ⟨K, ω⟩ (rIx K) r1 (.v (.int i)) s rs Q := fun Z σ ts H x y R o k => by
  have h1 := o.top
  cases h1
  obtain ⟨a, xs, rfl, h2, h3⟩ := o.pop.tupTop h
  obtain ⟨x, h4, h5⟩ := h3.at ha
  exact .inr (.inl ⟨a, xs, i, x, rfl, rfl, h2, h4, k _ H s _ (o.pop.pop.pushV h5) q⟩)
theorem op2_ixS {z : Str} {i : Int} {c : Nat} (hz : z.length ≤ sizeLine) (ha : atI z.cps.toList i = some c) (q : Q (.v (.str ⟨#[c]⟩)) s) : OP2 ⟨K, ω⟩ (rIx K) (.v (.str z)) (.v (.int i)) s rs Q := fun Z σ ts H x y R o k => by
  have h1 := o.top
  have h2 := o.pop.top
  cases h1; cases h2
  exact .inr (.inr ⟨z, i, c, rfl, rfl, hz, ha, k _ H s _ (o.pop.pop.pushV (.str _)) q⟩)
/-! displays -/
theorem asDs_length : ∀ {as : List SD} {ds : List D}, asDs as = some ds → ds.length = as.length
  | [], ds, h => by cases h; rfl
  | r :: as, ds, h => by
    have h : (match asD r, asDs as with | some d, some ds => some (d :: ds) | _, _ => none) = some ds := h
    cases e1 : asD r with
    | none => rw [e1] at h; cases h
    | some d => cases e2 : asDs as with
      | none => rw [e1, e2] at h; cases h
      | some es => rw [e1, e2] at h; cases h; simp [asDs_length e2]
theorem asDs_reverse : ∀ {as : List SD} {ds : List D}, asDs as = some ds → asDs as.reverse = some ds.reverse := by
  intro as
  induction as with
  | nil => intro ds h; cases h; rfl
  | cons r as ih =>
    intro ds h
    have h : (match asD r, asDs as with | some d, some ds => some (d :: ds) | _, _ => none) = some ds := h
    cases e1 : asD r with
    | none => rw [e1] at h; cases h
    | some d => cases e2 : asDs as with
      | none => rw [e1, e2] at h; cases h
      | some es =>
        rw [e1, e2] at h; cases h
        rw [List.reverse_cons, List.reverse_cons]
        have app : ∀ {as : List SD} {x : List D}, asDs as = some x → asDs (as ++ [r]) = some (x ++ [d]) := by
          intro as
          induction as with
          | nil =>
            intro x h; cases h
            show (match asD r, asDs [] with | some d, some ds => some (d :: ds) | _, _ => none) = some [d]
            rw [e1]; rfl
          | cons q as ih2 =>
            intro x h
            have h : (match asD q, asDs as with | some d, some ds => some (d :: ds) | _, _ => none) = some x := h
            cases e3 : asD q with
            | none => rw [e3] at h; cases h
            | some z => cases e4 : asDs as with
              | none => rw [e3, e4] at h; cases h
              | some w =>
                rw [e3, e4] at h; cases h
                show (match asD q, asDs (as ++ [r]) with | some d, some ds => some (d :: ds) | _, _ => none) = some (z :: w ++ [d])
                rw [e3, ih2 e4]; rfl
        exact app (ih e2)
theorem Ok.args {Z : Zn} {σ : L2.St} {ts xs : List V} {H : Hp} {as : List SD} (o : Ok K Z σ (xs.reverse ++ ts) H s (as.reverse ++ rs)) (e : xs.length = as.length) (h : asDs as = some ds) : RpA K (Cl Z (gv σ ts) (gs s rs)) H xs ds ∧ Ok K Z σ ts H s rs := by
  obtain ⟨h1, h2⟩ := Ok.popDs o (by simpa using e) (asDs_reverse h)
  refine ⟨?_, h2⟩
  have := h1.reverse
  simpa using this
theorem de_tup {tl : TA} (h : DA ⟨K, ω⟩ tl s rs fun as s1 => ∃ ds, asDs as = some ds ∧ ds.length ≤ 100000 ∧ Q (.v (.tuple ds)) s1) : DE ⟨K, ω⟩ (tTup tl) s rs Q := fun Z σ ts H R o k =>
  h Z σ ts H _ o fun xs H1 s1 as o1 e ⟨ds, h1, h2, q⟩ => by
    obtain ⟨h3, o2⟩ := o1.args e h1
    refine ⟨by rw [h3.length]; exact Nat.le_trans h2 (by decide), fun p hp => ?_⟩
    have ext : ∀ a u, H1 a = some u → upd H1 p (.tup xs) a = some u := fun a u ha => by rw [upd_ne (ne_of_none ha hp)]; exact ha
    have h4 : RpA K (Cl Z (gv σ ts) (gs s1 rs)) (upd H1 p (.tup xs)) xs ds := RpA.mono (fun _ _ => rd_ext ext) (fun _ _ q r => ⟨q, rd_ext ext r⟩) _ _ h3
    exact k _ _ s1 _ ((o2.ext ext).pushV (.tup (SqT.of upd_same) h4)) q
theorem de_lst {tl : TA} (h : DA ⟨K, ω⟩ tl s rs fun as s1 => ∃ ds, asDs as = some ds ∧ ds.length ≤ 100000 ∧ Q (.ow none ds) s1) : DE ⟨K, ω⟩ (tLst tl) s rs Q := fun Z σ ts H R o k =>
  h Z σ ts H _ o fun xs H1 s1 as o1 e ⟨ds, h1, h2, q⟩ => by
    obtain ⟨h3, o2⟩ := o1.args e h1
    exact ⟨by rw [h3.length]; exact Nat.le_trans h2 (by decide), fun p hp => k _ _ s1 _ (o2.pushO hp h3) q⟩
/-! tests -/
theorem dt_test (h : DE ⟨K, ω⟩ te s rs fun r s1 => ∃ b, r = .v (.bool b) ∧ QT b s1) : DT ⟨K, ω⟩ (tTest te) s rs QT := fun Z σ ts H R o k =>
  h Z σ ts H _ o fun x H1 s1 r o1 ⟨b, e, q⟩ => by
    subst e
    have := o1.top
    cases this
    exact ⟨b, rfl, k b H1 s1 o1.pop q⟩
theorem dt_B (h : DE ⟨K, ω⟩ te s rs fun r s1 => ∃ b, r = .v (.bool b) ∧ QT b s1) : DT ⟨K, ω⟩ (tB te) s rs QT := dt_test h
theorem dt_and {t u : TT} (h : DT ⟨K, ω⟩ t s rs fun b s1 => if b = true then DT ⟨K, ω⟩ u s1 rs QT else QT false s1) : DT ⟨K, ω⟩ (tAnd t u) s rs QT := fun Z σ ts H R o k =>
  h Z σ ts H _ o fun b H1 s1 o1 q => by
    cases b with
    | true => rw [if_pos rfl] at q; exact if_pos rfl ▸ q Z σ ts H1 R o1 k
    | false => rw [if_neg (by decide)] at q; exact k false H1 s1 o1 q
theorem dt_or {t u : TT} (h : DT ⟨K, ω⟩ t s rs fun b s1 => if b = true then QT true s1 else DT ⟨K, ω⟩ u s1 rs QT) : DT ⟨K, ω⟩ (tOr t u) s rs QT := fun Z σ ts H R o k =>
  h Z σ ts H _ o fun b H1 s1 o1 q => by
    cases b with
    | true => rw [if_pos rfl] at q; exact k true H1 s1 o1 q
    | false => rw [if_neg (by decide)] at q; exact q Z σ ts H1 R o1 k
theorem dt_not {t : TT} (h : DT ⟨K, ω⟩ t s rs fun b s1 => QT (!b) s1) : DT ⟨K, ω⟩ (tNot t) s rs QT := fun Z σ ts H R o k => h Z σ ts H _ o fun b H1 s1 o1 q => k _ H1 s1 o1 q
theorem de_andV (h : DE ⟨K, ω⟩ ta s rs fun r s1 => ∃ b, r = .v (.bool b) ∧ if b = true then DE ⟨K, ω⟩ tb s1 rs Q else Q (.v (.bool false)) s1) : DE ⟨K, ω⟩ (tAndV ta tb) s rs Q := fun Z σ ts H R o k =>
  h Z σ ts H _ o fun x H1 s1 r o1 ⟨b, e, q⟩ => by
    subst e
    have := o1.top
    cases this
    refine ⟨b, rfl, ?_⟩
    cases b with
    | true => rw [if_pos rfl] at q ⊢; exact q Z σ ts H1 R o1.pop k
    | false => rw [if_neg (by decide)] at q ⊢; exact k _ H1 s1 _ (o1.pop.pushV (.bl false)) q
theorem de_orV (h : DE ⟨K, ω⟩ ta s rs fun r s1 => ∃ b, r = .v (.bool b) ∧ if b = true then Q (.v (.bool true)) s1 else DE ⟨K, ω⟩ tb s1 rs Q) : DE ⟨K, ω⟩ (tOrV ta tb) s rs Q := fun Z σ ts H R o k =>
  h Z σ ts H _ o fun x H1 s1 r o1 ⟨b, e, q⟩ => by
    subst e
    have := o1.top
    cases this
    refine ⟨b, rfl, ?_⟩
    cases b with
    | true => rw [if_pos rfl] at q ⊢; exact k _ H1 s1 _ (o1.pop.pushV (.bl true)) q
    | false => rw [if_neg (by decide)] at q ⊢; exact q Z σ ts H1 R o1.pop k
theorem de_notV (h : DE ⟨K, ω⟩ ta s rs fun r s1 => ∃ b, r = .v (.bool b) ∧ Q (.v (.bool (!b))) s1) : DE ⟨K, ω⟩ (tNotV ta) s rs Q := fun Z σ ts H R o k =>
  h Z σ ts H _ o fun x H1 s1 r o1 ⟨b, e, q⟩ => by
    subst e
    have := o1.top
    cases this
    exact ⟨b, rfl, k _ H1 s1 _ (o1.pop.pushV (.bl _)) q⟩
theorem de_if {t : TT} (h : DT ⟨K, ω⟩ t s rs fun b s1 => if b = true then DE ⟨K, ω⟩ ta s1 rs Q else DE ⟨K, ω⟩ tb s1 rs Q) : DE ⟨K, ω⟩ (tIf t ta tb) s rs Q := fun Z σ ts H R o k =>
  h Z σ ts H _ o fun b H1 s1 o1 q => by
    cases b with
    | true => rw [if_pos rfl] at q ⊢; exact q Z σ ts H1 R o1 k
    | false => rw [if_neg (by decide)] at q ⊢; exact q Z σ ts H1 R o1 k
def isNo : D → Bool
  | .none => true
  | _ => false
theorem Rp.non_iff {C : Addr → Prop} {H : Hp} {x : V} (h : Rp K C H x d) : decide (x = .non) = isNo d := by cases h <;> rfl
theorem de_isN (h : DE ⟨K, ω⟩ ta s rs fun r s1 => ∃ d, asD r = some d ∧ Q (.v (.bool (isNo d))) s1) : DE ⟨K, ω⟩ (tIsN ta) s rs Q := fun Z σ ts H R o k =>
  h Z σ ts H _ o fun x H1 s1 r o1 ⟨d, e, q⟩ => by
    obtain ⟨h1, o2⟩ := o1.popD e
    show R (.bl (decide (x = .non))) H1
    rw [h1.non_iff]
    exact k _ H1 s1 _ (o2.pushV (.bl _)) q
theorem de_notN (h : DE ⟨K, ω⟩ ta s rs fun r s1 => ∃ d, asD r = some d ∧ Q (.v (.bool (!isNo d))) s1) : DE ⟨K, ω⟩ (tNotN ta) s rs Q := fun Z σ ts H R o k =>
  h Z σ ts H _ o fun x H1 s1 r o1 ⟨d, e, q⟩ => by
    obtain ⟨h1, o2⟩ := o1.popD e
    show R (.bl (!decide (x = .non))) H1
    rw [h1.non_iff]
    exact k _ H1 s1 _ (o2.pushV (.bl _)) q
theorem op2_isB {a b : Bool} (q : Q (.v (.bool (decide (a = b)))) s) : OP2 ⟨K, ω⟩ rIsB (.v (.bool a)) (.v (.bool b)) s rs Q := fun Z σ ts H x y R o k => by
  have h1 := o.top
  have h2 := o.pop.top
  cases h1; cases h2
  exact ⟨a, b, rfl, rfl, k _ H s _ (o.pop.pop.pushV (.bl _)) q⟩
theorem op2_notB {a b : Bool} (q : Q (.v (.bool (!decide (a = b)))) s) : OP2 ⟨K, ω⟩ rNotB (.v (.bool a)) (.v (.bool b)) s rs Q := fun Z σ ts H x y R o k => by
  have h1 := o.top
  have h2 := o.pop.top
  cases h1; cases h2
  exact ⟨a, b, rfl, rfl, k _ H s _ (o.pop.pop.pushV (.bl _)) q⟩
/-! statements -/
variable {D0 : DEn} {t u : TS}
theorem ds_next (q : D0.nx s) : DS ⟨K, ω⟩ tNext s rs D0 := fun Z σ ts H E o k1 k2 k3 k4 => k1 σ H s o q
theorem ds_seq (h : DS ⟨K, ω⟩ t s rs { D0 with nx := fun s1 => DS ⟨K, ω⟩ u s1 rs D0 }) : DS ⟨K, ω⟩ (tSeq t u) s rs D0 := fun Z σ ts H E o k1 k2 k3 k4 =>
  h Z σ ts H { E with nx := u E } o (fun σ' H' s' o' q => q Z σ' ts H' E o' k1 k2 k3 k4) k2 k3 k4
theorem ds_break (q : D0.bk s) : DS ⟨K, ω⟩ tBreak s rs D0 := fun Z σ ts H E o k1 k2 k3 k4 => k3 σ H s o q
theorem ds_cont (q : D0.ct s) : DS ⟨K, ω⟩ tCont s rs D0 := fun Z σ ts H E o k1 k2 k3 k4 => k4 σ H s o q
theorem ds_drop (h : DE ⟨K, ω⟩ te s rs fun _ s1 => D0.nx s1) : DS ⟨K, ω⟩ (tDrop te) s rs D0 := fun Z σ ts H E o k1 k2 k3 k4 =>
  h Z σ ts H _ o fun x H1 s1 r o1 q => k1 σ H1 s1 o1.pop q
theorem ds_ret (h : DE ⟨K, ω⟩ te s rs D0.rt) : DS ⟨K, ω⟩ (tRet te) s rs D0 := fun Z σ ts H E o k1 k2 k3 k4 =>
  h Z σ ts H _ o fun x H1 s1 r o1 q => k2 x σ H1 s1 r o1 q
theorem ds_retN (q : D0.rt (.v .none) s) : DS ⟨K, ω⟩ tRetN s rs D0 := fun Z σ ts H E o k1 k2 k3 k4 => k2 .non σ H s _ (o.pushV .non) q
theorem ds_if {c : TT} (h : DT ⟨K, ω⟩ c s rs fun b s1 => if b = true then DS ⟨K, ω⟩ t s1 rs D0 else DS ⟨K, ω⟩ u s1 rs D0) : DS ⟨K, ω⟩ (tIfS c t u) s rs D0 := fun Z σ ts H E o k1 k2 k3 k4 =>
  h Z σ ts H _ o fun b H1 s1 o1 q => by
    cases b with
    | true => rw [if_pos rfl] at q ⊢; exact q Z σ ts H1 E o1 k1 k2 k3 k4
    | false => rw [if_neg (by decide)] at q ⊢; exact q Z σ ts H1 E o1 k1 k2 k3 k4
theorem ds_never (h : False) : DS ⟨K, ω⟩ tNever s rs D0 := h.elim
theorem DS.imp {D1 : DEn} (h : DS ⟨K, ω⟩ t s rs D0) (h1 : ∀ s', D0.nx s' → D1.nx s') (h2 : ∀ r s', D0.rt r s' → D1.rt r s') (h3 : ∀ s', D0.bk s' → D1.bk s') (h4 : ∀ s', D0.ct s' → D1.ct s') : DS ⟨K, ω⟩ t s rs D1 := fun Z σ ts H E o k1 k2 k3 k4 =>
  h Z σ ts H E o (fun σ' H' s' o' q => k1 σ' H' s' o' (h1 s' q)) (fun x σ' H' s' r o' q => k2 x σ' H' s' r o' (h2 r s' q)) (fun σ' H' s' o' q => k3 σ' H' s' o' (h3 s' q)) (fun σ' H' s' o' q => k4 σ' H' s' o' (h4 s' q))
end
end W8

/-! W8c: defs by a contract over data, their calls. -/
namespace W8
open PySem L2

abbrev DSp := List SD → (SD → List SD → Prop) → Prop
def resOk : SD → Bool
  | .v _ => true
  | .own none _ => true
  | .no => true
  | _ => false
/-- the promise of a def whose contract over data is f -/
def fnS (K : PySem.W.Frag) (f : DSp) : Sp := fun xs H Q _ => ∃ (Z : Zn) (as : List SD) (P : SD → List SD → Prop), Z.H0 = H ∧ (∀ a ∈ Z.Bs, Own1 (gv (xs.map some) []) (gs as []) a) ∧ Ok K Z (xs.map some) [] H as [] ∧ f as P ∧
  ∀ r as' x H', Ok K Z (xs.map some) [x] H' as' [r] → resOk r = true → P r as' → Q x H'
/-- what a def hands back -/
def outS (s : List SD) : SD → Option SD
  | .v d => some (.v d)
  | .own none ds => some (.own none ds)
  | .no => some .no
  | .al i => match s[i]? with | some (.own none ds) => some (.own none ds) | _ => none
  | _ => none
/-- the parameters behind the run -/
inductive BackR : List SD → List SD → List SD → Prop where
  | nil {s : List SD} : BackR [] s []
  | v {as s as' : List SD} {d : D} {r : SD} : BackR as s as' → BackR (.v d :: as) (r :: s) (.v d :: as')
  | no {as s as' : List SD} {r : SD} : BackR as s as' → BackR (.no :: as) (r :: s) (.no :: as')
  | own {as s as' : List SD} {k : Nat} {ds ds' : OD} : BackR as s as' → BackR (.own (some k) ds :: as) (.own (some k) ds' :: s) (.own (some k) ds' :: as')
/-- the parameters behind the run, reckoned -/
def backF : List SD → List SD → List SD
  | [], _ => []
  | .v d :: as, s => .v d :: backF as s.tail
  | .own (some _) _ :: as, r :: s => r :: backF as s
  | _ :: as, s => .no :: backF as s.tail
theorem BackR.get {as s as' : List SD} (h : BackR as s as') : as'.length = as.length ∧ ∀ (i : Nat) q, as'[i]? = some q → (∃ d, q = .v d ∧ as[i]? = some (SD.v d)) ∨ q = .no ∨ ∃ (k : Nat) (ds es : OD), q = .own (some k) ds ∧ as[i]? = some (SD.own (some k) es) ∧ s[i]? = some (SD.own (some k) ds) := by
  induction h with
  | nil => exact ⟨rfl, fun i q e => by simp at e⟩
  | v _ ih =>
    refine ⟨by simp [ih.1], fun i q e => ?_⟩
    cases i with
    | zero => simp at e; subst e; exact .inl ⟨_, rfl, rfl⟩
    | succ i => simpa using ih.2 i q (by simpa using e)
  | no _ ih =>
    refine ⟨by simp [ih.1], fun i q e => ?_⟩
    cases i with
    | zero => simp at e; subst e; exact .inr (.inl rfl)
    | succ i => simpa using ih.2 i q (by simpa using e)
  | own _ ih =>
    refine ⟨by simp [ih.1], fun i q e => ?_⟩
    cases i with
    | zero => simp at e; subst e; exact .inr (.inr ⟨_, _, _, rfl, rfl, rfl⟩)
    | succ i => simpa using ih.2 i q (by simpa using e)
section
variable {K : PySem.W.Frag}
theorem gs_nil {s : List SD} {i : Nat} : gs s [] (.inr i) = none := rfl
theorem gv_nil {σ : L2.St} {i : Nat} : gv σ [] (.inr i) = none := rfl
theorem gv_map {xs ts : List V} {i : Nat} : gv (xs.map some) ts (.inl i) = xs[i]? := by
  show ((xs.map some)[i]?).join = xs[i]?
  rw [List.getElem?_map]
  cases xs[i]? <;> rfl
/-- behind the body: what the caller is handed -/
theorem Ok.leave {Z : Zn} {xs : List V} {σ' : L2.St} {x : V} {H H' : Hp} {as as' s' : List SD} {r r' : SD} (h0 : Z.H0 = H) (hB : ∀ a ∈ Z.Bs, Own1 (gv (xs.map some) []) (gs as []) a) (o : Ok K Z (xs.map some) [] H as []) (o' : Ok K Z σ' [x] H' s' [r])
    (hr : outS s' r = some r') (hb : BackR as s' as') : Ok K Z (xs.map some) [x] H' as' [r'] ∧ resOk r' = true := by
  subst h0
  obtain ⟨hl, hg⟩ := hb.get
  -- places of as'
  have backV : ∀ {i : Nat} {d : D}, as'[i]? = some (SD.v d) → as[i]? = some (SD.v d) := fun {i d} e => by
    rcases hg i _ e with ⟨d', h1, h2⟩ | h1 | ⟨k, ds, es, h1, _⟩
    · cases h1; exact h2
    · cases h1
    · cases h1
  have backO : ∀ {i : Nat} {t : Option Nat} {ds : OD}, as'[i]? = some (SD.own t ds) → ∃ k es, t = some k ∧ as[i]? = some (SD.own (some k) es) ∧ s'[i]? = some (SD.own (some k) ds) := fun {i t ds} e => by
    rcases hg i _ e with ⟨d', h1, h2⟩ | h1 | ⟨k, ds, es, h1, h2, h3⟩
    · cases h1
    · cases h1
    · cases h1; exact ⟨k, es, rfl, h2, h3⟩
  have backA : ∀ {i j : Nat}, as'[i]? ≠ some (SD.al j) := fun {i j} e => by
    rcases hg i _ e with ⟨d', h1, h2⟩ | h1 | ⟨k, ds, es, h1, h2, h3⟩ <;> cases h1
  -- the lent lists
  have lent : ∀ {i k : Nat} {ds es : OD}, as[i]? = some (SD.own (some k) es) → s'[i]? = some (SD.own (some k) ds) → ∃ a ys, xs[i]? = some (V.ref a) ∧ gv σ' [x] (.inl i) = some (.ref a) ∧ H' a = some ys ∧ RpO K (Cl Z (gv σ' [x]) (gs s' [r])) H' ys ds ∧ Z.Bs[k]? = some a := fun {i k ds es} h1 h2 => by
    obtain ⟨a, ys, e1, _, _, e2⟩ := o.c.wn (.inl i) _ _ h1
    obtain ⟨b, zs, e3, e4, e5, e6⟩ := o'.c.wn (.inl i) _ _ h2
    have e2 : Z.Bs[k]? = some a := e2
    have e6 : Z.Bs[k]? = some b := e6
    rw [e2] at e6; cases e6
    rw [gv_map] at e1
    exact ⟨a, zs, e1, e3, e4, e5, e2⟩
  have out : (∃ d, r = .v d ∧ r' = .v d) ∨ (r' = .no) ∨ (∃ ds p, r' = .own none ds ∧ gs s' [r] p = some (.own none ds) ∧ gv σ' [x] p = some x) := by
    cases r with
    | v d => cases hr; exact .inl ⟨d, rfl, rfl⟩
    | no => cases hr; exact .inr (.inl rfl)
    | fz d => cases hr
    | rf a => cases hr
    | gh G => cases hr
    | own t ds =>
      cases t with
      | some k => cases hr
      | none => cases hr; exact .inr (.inr ⟨ds, .inr 0, rfl, rfl, rfl⟩)
    | al i =>
      have hr : (match s'[i]? with | some (.own none ds) => some (SD.own none ds) | _ => none) = some r' := hr
      split at hr
      · rename_i ds hs
        cases hr
        obtain ⟨t, es, y, h1, h2, h3⟩ := o'.c.al (.inr 0) i rfl
        cases (show (some x : Option V) = some y from h3)
        exact .inr (.inr ⟨ds, .inl i, rfl, hs, h2⟩)
      · cases hr
  have noGh : ∀ p q, gs as' [r'] p = some q → (∀ G, q ≠ .gh G) ∧ ∀ a, q ≠ .rf a := fun p q hp => by
    cases p with
    | inl i => rcases hg i _ hp with ⟨d', h1, h2⟩ | h1 | ⟨k, ds, es, h1, h2, h3⟩ <;> (subst h1; exact ⟨fun _ z => (by cases z), fun _ z => (by cases z)⟩)
    | inr j =>
      have hj : j = 0 := by have := gT_lt (show gT [r'] j = _ from hp); simpa using this
      subst hj
      have hp : some r' = some q := hp
      cases hp
      rcases out with ⟨d', e1, e⟩ | e | ⟨es, p, e, e2, e3⟩ <;> (rw [e]; exact ⟨fun _ z => (by cases z), fun _ z => (by cases z)⟩)
  have own : ∀ a, Own (gv (xs.map some) [x]) (gs as' [r']) a → Own (gv σ' [x]) (gs s' [r]) a := fun a z => by
    rcases z with ⟨p, t, ds, h1, h2⟩ | ⟨p, G, h1, _⟩
    rotate_left
    · exact absurd rfl ((noGh p _ h1).1 G)
    cases p with
    | inl i =>
      obtain ⟨k, es, rfl, h3, h4⟩ := backO h1
      obtain ⟨b, ys, e1, e2, _⟩ := lent h3 h4
      rw [gv_map, e1] at h2; cases h2
      exact .inl ⟨.inl i, some k, ds, h4, e2⟩
    | inr j =>
      have hj : j = 0 := by have := gT_lt (show gT [r'] j = _ from h1); simpa using this
      subst hj
      have h1 : some r' = some (SD.own t ds) := h1
      rcases out with ⟨d, _, e⟩ | e | ⟨es, p, e, e2, e3⟩
      · rw [e] at h1; cases h1
      · rw [e] at h1; cases h1
      · rw [e] at h1; cases h1
        have h2 : (some x : Option V) = some (.ref a) := h2
        exact .inl ⟨p, none, ds, e2, by rw [e3]; exact h2⟩
  have cl : ∀ a, Cl Z (gv σ' [x]) (gs s' [r]) a → Cl Z (gv (xs.map some) [x]) (gs as' [r']) a := fun a ⟨h1, h2⟩ => ⟨h1, fun z => h2 (own a z)⟩
  -- what stood at the entry
  have ownB : ∀ a, a ∈ Z.Bs → ∀ ys, ¬ Rd Z.H0 a (.tup ys) := fun a ha ys r => by
    obtain ⟨p, t, ds, h1, h2⟩ := hB a ha
    obtain ⟨b, ys, e1, e2, e3, _⟩ := o.c.wn p t ds h1
    rw [h2] at e1; cases e1
    exact e3.noT e2 r
  have keepT : ∀ a ys, Rd Z.H0 a (.tup ys) → Rd H' a (.tup ys) := fun a ys h => by
    have nb : a ∉ Z.Bs := fun z => ownB a z _ h
    rcases h with h | ⟨ob, h⟩
    · exact .inl (o'.c.fr a _ nb h)
    · exact .inr ⟨ob, o'.c.fr a _ nb h⟩
  have keepL : ∀ a ys, Cl Z (gv (xs.map some) []) (gs as []) a → Rd Z.H0 a (.lst ys) → Cl Z (gv (xs.map some) [x]) (gs as' [r']) a ∧ Rd H' a (.lst ys) := fun a ys ⟨c1, c2⟩ h => by
    have hn : Z.H0 a ≠ none := rd_some h
    have hs : Z.S a := c1.resolve_right hn
    have nb : a ∉ Z.Bs := fun z => (o.c.bs a z).1 hs
    refine ⟨⟨.inl hs, fun z => ?_⟩, ?_⟩
    · rcases z with ⟨p, t, ds, h1, h2⟩ | ⟨p, G, h1, _⟩
      rotate_left
      · exact absurd rfl ((noGh p _ h1).1 G)
      cases p with
      | inl i =>
        obtain ⟨k, es, rfl, h3, h4⟩ := backO h1
        obtain ⟨b, zs, e1, _, _, _, e2⟩ := lent h3 h4
        rw [gv_map, e1] at h2; cases h2
        exact nb (List.mem_of_getElem? e2)
      | inr j =>
        have hj : j = 0 := by have := gT_lt (show gT [r'] j = _ from h1); simpa using this
        subst hj
        have h1 : some r' = some (SD.own t ds) := h1
        have h2 : (some x : Option V) = some (.ref a) := h2
        rcases out with ⟨d, _, e⟩ | e | ⟨es, p, e, e2, e3⟩
        · rw [e] at h1; cases h1
        · rw [e] at h1; cases h1
        · obtain ⟨b, zs, q1, _, _, q2⟩ := o'.c.wn p none es e2
          rw [e3, h2] at q1; cases q1
          exact hn q2
    · rcases h with h | ⟨ob, h⟩
      · exact .inl (o'.c.fr a _ nb h)
      · exact .inr ⟨ob, o'.c.fr a _ nb h⟩
  refine ⟨⟨by simp [hl, o.ls.symm], rfl, ?_, fun i j => backA⟩, ?_⟩
  · refine ⟨o'.c.fr, o'.c.dm, o'.c.bs, fun p d hp => ?_, fun p t ds hp => ?_, fun p q t ds u es a h1 h2 h3 h4 => ?_, fun p i hp => ?_, fun p kds hp => ?_,
      fun p a hp => absurd rfl ((noGh p _ hp).2 a), fun p G hp => absurd rfl ((noGh p _ hp).1 G), fun p q G G' hp _ => absurd rfl ((noGh p _ hp).1 G), fun p G q t ds a hp _ _ => absurd rfl ((noGh p _ hp).1 G)⟩
    · cases p with
      | inl i =>
        obtain ⟨y, h1, h2⟩ := o.c.va (.inl i) d (backV hp)
        exact ⟨y, by rw [gv_map] at h1 ⊢; exact h1, Rp.mono keepT keepL _ _ h2⟩
      | inr j =>
        have hj : j = 0 := by have := gT_lt (show gT [r'] j = _ from hp); simpa using this
        subst hj
        have hp : some r' = some (SD.v d) := hp
        rcases out with ⟨d', e1, e⟩ | e | ⟨es, p, e, e2, e3⟩
        · rw [e] at hp; cases hp; subst e1
          obtain ⟨y, q1, q2⟩ := o'.c.va (.inr 0) d rfl
          exact ⟨y, q1, q2.clean cl⟩
        · rw [e] at hp; cases hp
        · rw [e] at hp; cases hp
    · cases p with
      | inl i =>
        obtain ⟨k, es, rfl, h3, h4⟩ := backO hp
        obtain ⟨a, ys, e1, _, e2, e3, e4⟩ := lent h3 h4
        exact ⟨a, ys, by rw [gv_map]; exact e1, e2, e3.clean cl, e4⟩
      | inr j =>
        have hj : j = 0 := by have := gT_lt (show gT [r'] j = _ from hp); simpa using this
        subst hj
        have hp : some r' = some (SD.own t ds) := hp
        rcases out with ⟨d', e1, e⟩ | e | ⟨es, p, e, e2, e3⟩
        · rw [e] at hp; cases hp
        · rw [e] at hp; cases hp
        · rw [e] at hp; cases hp
          obtain ⟨a, ys, q1, q2, q3, q4⟩ := o'.c.wn p none ds e2
          rw [e3] at q1
          exact ⟨a, ys, q1, q2, q3.clean cl, q4⟩
    · -- apart
      have fresh : ∀ {j t ds}, gs as' [r'] (.inr j) = some (.own t ds) → gv (xs.map some) [x] (.inr j) = some (.ref a) → j = 0 ∧ Z.H0 a = none := fun {j t ds} h1 h2 => by
        have hj : j = 0 := by have := gT_lt (show gT [r'] j = _ from h1); simpa using this
        subst hj
        have h1 : some r' = some (SD.own t ds) := h1
        have h2 : (some x : Option V) = some (.ref a) := h2
        rcases out with ⟨d', e1, e⟩ | e | ⟨es, p, e, e2, e3⟩
        · rw [e] at h1; cases h1
        · rw [e] at h1; cases h1
        · obtain ⟨b, ys, q1, _, _, q4⟩ := o'.c.wn p none es e2
          rw [e3, h2] at q1; cases q1
          exact ⟨rfl, q4⟩
      have inB : ∀ {i t ds}, gs as' [r'] (.inl i) = some (.own t ds) → gv (xs.map some) [x] (.inl i) = some (.ref a) → Z.H0 a ≠ none ∧ ∃ k es, as[i]? = some (.own (some k) es) ∧ gv (xs.map some) [] (.inl i) = some (.ref a) := fun {i t ds} h1 h2 => by
        obtain ⟨k, es, rfl, h3, h4⟩ := backO h1
        obtain ⟨b, zs, e1, _, _, _, e2⟩ := lent h3 h4
        rw [gv_map] at h2
        rw [e1] at h2; cases h2
        exact ⟨(o.c.bs _ (List.mem_of_getElem? e2)).2, k, es, h3, by rw [gv_map]; exact e1⟩
      cases p with
      | inl i =>
        obtain ⟨n1, k, fs, a1, a2⟩ := inB h1 h3
        cases q with
        | inl j =>
          obtain ⟨n2, k2, fs2, b1, b2⟩ := inB h2 h4
          exact o.c.se (.inl i) (.inl j) _ _ _ _ a a1 b1 a2 b2
        | inr j => exact absurd (fresh h2 h4).2 n1
      | inr i =>
        obtain ⟨i0, n1⟩ := fresh h1 h3
        cases q with
        | inl j => exact absurd n1 (inB h2 h4).1
        | inr j => rw [i0, (fresh h2 h4).1]
    · cases p with
      | inl j => exact absurd hp backA
      | inr j =>
        have hj : j = 0 := by have := gT_lt (show gT [r'] j = _ from hp); simpa using this
        subst hj
        have hp : some r' = some (SD.al i) := hp
        rcases out with ⟨d', e1, e⟩ | e | ⟨es, p, e, e2, e3⟩ <;> (rw [e] at hp; cases hp)
    · cases p with
      | inl j => rcases hg j _ hp with ⟨d', h1, h2⟩ | h1 | ⟨k, ds, es, h1, h2, h3⟩ <;> cases h1
      | inr j =>
        have hj : j = 0 := by have := gT_lt (show gT [r'] j = _ from hp); simpa using this
        subst hj
        have hp : some r' = some (SD.fz kds) := hp
        rcases out with ⟨d', e1, e⟩ | e | ⟨es, p, e, e2, e3⟩ <;> (rw [e] at hp; cases hp)
  · rcases out with ⟨d', e1, e⟩ | e | ⟨es, p, e, e2, e3⟩ <;> (rw [e]; rfl)
/-- the end of a body by a contract -/
def RT (P : SD → List SD → Prop) (as : List SD) (r : SD) (s' : List SD) : Prop := ∃ r', outS s' r = some r' ∧ BackR as s' (backF as s') ∧ P r' (backF as s')
end
section
variable {P : Program} {w : World} {K : PySem.W.Frag} {mg : Str → Option Value} {base : Heap}
theorem gs_app_no {as : List SD} {n : Nat} {p : Pos2} {r : SD} (h : gs (as ++ List.replicate n .no) [] p = some r) : r = .no ∨ gs as [] p = some r := by
  cases p with
  | inr i => cases h
  | inl i =>
    have h : (as ++ List.replicate n .no)[i]? = some r := h
    by_cases hi : i < as.length
    · rw [List.getElem?_append_left hi] at h; exact .inr h
    · rw [List.getElem?_append_right (by omega), List.getElem?_replicate] at h
      split at h
      · cases h; exact .inl rfl
      · cases h
theorem ok_start {Z : Zn} {xs : List V} {H : Hp} {as : List SD} {N : List Str} (o : Ok K Z (xs.map some) [] H as []) (hn : xs.length ≤ N.length) : Ok K Z (L2.start N xs) [] H (as ++ List.replicate (N.length - as.length) .no) [] := by
  have el : xs.length = as.length := by have := o.ls; simpa using this
  refine ⟨by simp [L2.start, el], rfl, ?_, fun i j e => ?_⟩
  · refine o.c.re (fun q => match q with | .inl i => if i < as.length then some (.inl i) else none | .inr _ => none) (fun q r hq => ?_) (fun q p h => ?_) (fun q q' p h1 h2 => ?_) (fun q i hq => ?_)
    · rcases gs_app_no hq with e | e
      · exact .inl e
      · cases q with
        | inr i => cases e
        | inl i => exact .inr ⟨.inl i, if_pos (List.getElem?_eq_some_iff.mp e).1, e⟩
    · cases q with
      | inr i => cases h
      | inl i =>
        have h : (if i < as.length then some (Sum.inl i : Pos2) else none) = some p := h
        by_cases hi : i < as.length
        · rw [if_pos hi] at h; cases h
          show ((L2.start N xs)[i]?).join = ((xs.map some)[i]?).join
          unfold L2.start
          rw [List.getElem?_append_left (by simp; omega)]
        · rw [if_neg hi] at h; cases h
    · cases q with
      | inr i => cases h1
      | inl i =>
        cases q' with
        | inr j => cases h2
        | inl j =>
          have h1 : (if i < as.length then some (Sum.inl i : Pos2) else none) = some p := h1
          have h2 : (if j < as.length then some (Sum.inl j : Pos2) else none) = some p := h2
          split at h1 <;> split at h2 <;> first | (cases h1; cases h2; rfl) | (cases h1; done) | cases h2
    · rcases gs_app_no hq with e | e
      · cases e
      · cases q with
        | inr j => cases e
        | inl j => exact absurd e (o.na j i)
  · have e : (as ++ List.replicate (N.length - as.length) SD.no)[i]? = some (SD.al j) := e
    rcases gs_app_no (p := .inl i) e with e | e
    · cases e
    · exact o.na i j e
/-- THE RULE for a def by a contract over data -/
theorem ok_fn {x qual : Str} {st : Stmt} {g : Addr} {fd : FuncData} {N ps : List Str} {k : Nat} {f : DSp} (F : Fun K x qual st g fd) (S : FnScope N ps (defScope st)) (hN : ps.length ≤ N.length) (hl : ∀ as P, f as P → as.length = ps.length)
    (hb : ∀ (cdv : Value) (A : Around) (outer : List Env) (s : Shared) (H : Hp) (E : XK), Room k (A.deeper (PyProof.Rows.envOfC qual (defScope st) s.heap.objs.size g cdv)) → ∀ as Pq, f as Pq →
      ∃ t, PSs (cxOf CX0 P w K mg base N qual (defScope st) g cdv A outer s H E).nox (defBody st) t ∧ DS K t (as ++ List.replicate (N.length - as.length) .no) [] { nx := fun s' => RT Pq as (.v .none) s', rt := fun r s' => RT Pq as r s' }) :
    FnOk P w K mg base CX0 (k + 1) g fd ps (fnS K f) := by
  refine F.ok S (fun vs H Q E h => ?_) (fun cdv A outer s H vs Q E hr h => ?_)
  · obtain ⟨Z, as, Pq, _, _, o, hf, _⟩ := h
    have := o.ls
    rw [← hl as Pq hf]; simpa using this
  · obtain ⟨Z, as, Pq, h0, hB, o, hf, hk⟩ := h
    obtain ⟨t, h1, h2⟩ := hb cdv A outer s H E hr as Pq hf
    have el : vs.length = as.length := by have := o.ls; simpa using this
    refine ⟨t, h1, h2 Z.x0 _ [] H _ (ok_start o (by rw [el, hl as Pq hf]; exact hN)) (fun σ' H' s' o' q => ?_) (fun y σ' H' s' r o' q => ?_) (fun _ _ _ _ q => q.elim) (fun _ _ _ _ q => q.elim)⟩
    · obtain ⟨r', e1, e2, q⟩ := q
      obtain ⟨o2, e3⟩ := Ok.leave h0 hB o (o'.pushV .non) e1 e2
      exact hk r' _ .non H' o2 e3 q
    · obtain ⟨r', e1, e2, q⟩ := q
      obtain ⟨o2, e3⟩ := Ok.leave h0 hB o o' e1 e2
      exact hk r' _ y H' o2 e3 q
end

/-! ### the call -/
/-- the arguments as the def sees them; k: how many lists are lent so far -/
def entry (s : List SD) : List SD → Nat → List SD
  | [], _ => []
  | .v d :: as, k => .v d :: entry s as k
  | .no :: as, k => .no :: entry s as k
  | .fz _ :: as, k => .no :: entry s as k
  | .rf _ :: as, k => .no :: entry s as k
  | .gh _ :: as, k => .no :: entry s as k
  | .own _ ds :: as, k => .own (some k) ds :: entry s as (k + 1)
  | .al i :: as, k => (match s[i]? with | some (.own _ ds) => .own (some k) ds | _ => .no) :: entry s as (k + 1)
def lents : List SD → List Nat
  | [] => []
  | .al i :: as => i :: lents as
  | _ :: as => lents as
/-- the lists that are lent -/
def lentA : List SD → List V → List Addr
  | .own _ _ :: as, .ref a :: xs => a :: lentA as xs
  | .al _ :: as, .ref a :: xs => a :: lentA as xs
  | .own _ _ :: as, _ :: xs => 0 :: lentA as xs
  | .al _ :: as, _ :: xs => 0 :: lentA as xs
  | _ :: as, _ :: xs => lentA as xs
  | _, _ => []
/-- behind the call -/
def after (s : List SD) : List SD → List SD → Option (List SD)
  | [], [] => some s
  | .al j :: as, r :: bs => match s[j]?, r with | some (.own t _), .own (some _) ds => after (s.set j (.own t ds)) as bs | _, _ => none
  | _ :: as, _ :: bs => after s as bs
  | _, _ => none
theorem after_spec : ∀ {as bs s s2 : List SD}, after s as bs = some s2 → (lents as).Nodup → s2.length = s.length ∧ as.length = bs.length ∧
    ∀ (j : Nat), (∃ (m : Nat) (t : Option Nat) (ds ds' : OD) (k : Nat), as[m]? = some (SD.al j) ∧ s[j]? = some (SD.own t ds) ∧ bs[m]? = some (SD.own (some k) ds') ∧ s2[j]? = some (SD.own t ds')) ∨ (j ∉ lents as ∧ s2[j]? = s[j]?)
  | [], [], s, s2, h, _ => by cases h; exact ⟨rfl, rfl, fun j => .inr ⟨by simp [lents], rfl⟩⟩
  | [], _ :: _, s, s2, h, _ => by cases h
  | r :: as, [], s, s2, h, _ => by cases r <;> cases h
  | r :: as, b :: bs, s, s2, h, hn => by
    have plain : after s as bs = some s2 → lents (r :: as) = lents as → s2.length = s.length ∧ (r :: as).length = (b :: bs).length ∧
        ∀ (j : Nat), (∃ (m : Nat) (t : Option Nat) (ds ds' : OD) (k : Nat), (r :: as)[m]? = some (SD.al j) ∧ s[j]? = some (SD.own t ds) ∧ (b :: bs)[m]? = some (SD.own (some k) ds') ∧ s2[j]? = some (SD.own t ds')) ∨ (j ∉ lents (r :: as) ∧ s2[j]? = s[j]?) := fun h e => by
      obtain ⟨h1, h2, h3⟩ := after_spec h (by rw [← e]; exact hn)
      refine ⟨h1, by simp [h2], fun j => ?_⟩
      rcases h3 j with ⟨m, t, ds, ds', k, a, b', c, d⟩ | h
      · exact .inl ⟨m + 1, t, ds, ds', k, by simpa using a, b', by simpa using c, d⟩
      · exact .inr (by rw [e]; exact h)
    cases r with
    | no => exact plain h rfl
    | v d => exact plain h rfl
    | fz d => exact plain h rfl
    | rf d => exact plain h rfl
    | gh d => exact plain h rfl
    | own t ds => exact plain h rfl
    | al i =>
      clear plain
      obtain ⟨t, ds0, k0, ds, hs, rfl, hA⟩ : ∃ (t : Option Nat) (ds0 : OD) (k0 : Nat) (ds : OD), s[i]? = some (SD.own t ds0) ∧ b = SD.own (some k0) ds ∧ after (s.set i (SD.own t ds)) as bs = some s2 := by
        unfold after at h
        cases hs : s[i]? with
        | none => simp [hs] at h
        | some q =>
          cases q with
          | no => simp [hs] at h
          | v d => simp [hs] at h
          | fz d => simp [hs] at h
          | rf d => simp [hs] at h
          | gh d => simp [hs] at h
          | al j => simp [hs] at h
          | own t ds0 =>
            cases b with
            | no => simp [hs] at h
            | v d => simp [hs] at h
            | fz d => simp [hs] at h
            | rf d => simp [hs] at h
            | gh d => simp [hs] at h
            | al j => simp [hs] at h
            | own u ds =>
              cases u with
              | none => simp [hs] at h
              | some k0 => exact ⟨t, ds0, k0, ds, rfl, rfl, by simpa [hs] using h⟩
      have hn : (i :: lents as).Nodup := hn
      rw [List.nodup_cons] at hn
      obtain ⟨h1, h2, h3⟩ := after_spec hA hn.2
      have hi : i < s.length := (List.getElem?_eq_some_iff.mp hs).1
      refine ⟨by simpa using h1, by simp [h2], fun j => ?_⟩
      by_cases hj : j = i
      · subst hj
        rcases h3 j with ⟨m, t', es, es', k, a, _, _, _⟩ | ⟨_, h⟩
        · exfalso
          have mem : ∀ {as : List SD} {m : Nat}, as[m]? = some (SD.al j) → j ∈ lents as := by
            intro as
            induction as with
            | nil => intro m e; simp at e
            | cons r as ih =>
              intro m e
              cases m with
              | zero => simp at e; subst e; exact List.mem_cons_self
              | succ m =>
                have := ih (m := m) (by simpa using e)
                cases r <;> first | exact this | exact List.mem_cons_of_mem _ this
          exact hn.1 (mem a)
        · refine .inl ⟨0, t, ds0, ds, k0, rfl, hs, rfl, ?_⟩
          rw [h, List.getElem?_set_self hi]
      · rcases h3 j with ⟨m, t', es, es', k, a, b', c, d⟩ | ⟨h, h'⟩
        · rw [List.getElem?_set_ne (Ne.symm hj)] at b'
          exact .inl ⟨m + 1, t', es, es', k, by simpa using a, b', by simpa using c, d⟩
        · rw [List.getElem?_set_ne (Ne.symm hj)] at h'
          refine .inr ⟨fun z => ?_, h'⟩
          rcases List.mem_cons.mp z with z | z
          · exact hj z
          · exact h z
theorem gT_app {α : Type} : ∀ {as rs : List α} {i : Nat} {x : α}, as.reverse[i]? = some x → gT (as ++ rs) (rs.length + i) = some x
  | [], rs, i, x, h => by simp at h
  | a :: as, rs, i, x, h => by
    rw [List.reverse_cons] at h
    show (if rs.length + i = (as ++ rs).length then some a else gT (as ++ rs) (rs.length + i)) = some x
    by_cases hi : i < as.length
    · rw [if_neg (by simp; omega)]
      rw [List.getElem?_append_left (by simpa using hi)] at h
      exact gT_app h
    · rw [List.getElem?_append_right (by simpa using hi)] at h
      have : i = as.length := by
        have := (List.getElem?_eq_some_iff.mp h).1
        simp at this; omega
      subst this
      simp at h
      rw [if_pos (by simp; omega), h]
theorem gT_low {α : Type} : ∀ {as rs : List α} {i : Nat}, i < rs.length → gT (as ++ rs) i = gT rs i
  | [], rs, i, h => rfl
  | a :: as, rs, i, h => by
    show (if i = (as ++ rs).length then some a else gT (as ++ rs) i) = gT rs i
    rw [if_neg (by simp; omega)]
    exact gT_low h

theorem entry_length {s : List SD} : ∀ {as : List SD} {k : Nat}, (entry s as k).length = as.length
  | [], _ => rfl
  | .v _ :: as, k => by simp [entry, entry_length (as := as)]
  | .no :: as, k => by simp [entry, entry_length (as := as)]
  | .fz _ :: as, k => by simp [entry, entry_length (as := as)]
  | .rf _ :: as, k => by simp [entry, entry_length (as := as)]
  | .gh _ :: as, k => by simp [entry, entry_length (as := as)]
  | .own _ _ :: as, k => by simp [entry, entry_length (as := as)]
  | .al _ :: as, k => by simp [entry, entry_length (as := as)]
/-- an argument and how the def sees it -/
theorem entry_get {s : List SD} : ∀ {as : List SD} {xs : List V} {k i : Nat} {r : SD}, xs.length = as.length → (entry s as k)[i]? = some r →
    (∃ d, r = .v d ∧ as[i]? = some (SD.v d)) ∨ r = .no ∨ (∃ (n : Nat) (ds : OD), r = .own (some (k + n)) ds ∧ ((∃ t, as[i]? = some (SD.own t ds)) ∨ ∃ j t, as[i]? = some (SD.al j) ∧ s[j]? = some (SD.own t ds)) ∧ ∀ a, xs[i]? = some (V.ref a) → (lentA as xs)[n]? = some a)
  | [], xs, k, i, r, e, h => by simp [entry] at h
  | q :: as, [], k, i, r, e, h => by cases e
  | q :: as, x :: xs, k, i, r, e, h => by
    have e' : xs.length = as.length := by simpa using e
    cases q with
    | v d =>
      cases i with
      | zero => simp [entry] at h; subst h; exact .inl ⟨d, rfl, rfl⟩
      | succ i => simpa [lentA] using entry_get (xs := xs) (k := k) e' (by simpa [entry] using h)
    | no =>
      cases i with
      | zero => simp [entry] at h; subst h; exact .inr (.inl rfl)
      | succ i => simpa [lentA] using entry_get (xs := xs) (k := k) e' (by simpa [entry] using h)
    | fz d =>
      cases i with
      | zero => simp [entry] at h; subst h; exact .inr (.inl rfl)
      | succ i => simpa [lentA] using entry_get (xs := xs) (k := k) e' (by simpa [entry] using h)
    | rf d =>
      cases i with
      | zero => simp [entry] at h; subst h; exact .inr (.inl rfl)
      | succ i => simpa [lentA] using entry_get (xs := xs) (k := k) e' (by simpa [entry] using h)
    | gh d =>
      cases i with
      | zero => simp [entry] at h; subst h; exact .inr (.inl rfl)
      | succ i => simpa [lentA] using entry_get (xs := xs) (k := k) e' (by simpa [entry] using h)
    | own t ds =>
      cases i with
      | zero =>
        simp [entry] at h; subst h
        refine .inr (.inr ⟨0, ds, rfl, .inl ⟨t, rfl⟩, fun a ha => ?_⟩)
        simp at ha; subst ha; rfl
      | succ i =>
        rcases entry_get (xs := xs) (k := k + 1) e' (by simpa [entry] using h) with ⟨d, h1, h2⟩ | h1 | ⟨n, es, h1, h2, h3⟩
        · exact .inl ⟨d, h1, by simpa using h2⟩
        · exact .inr (.inl h1)
        · refine .inr (.inr ⟨n + 1, es, by rw [h1]; congr 2; omega, by simpa using h2, fun a ha => ?_⟩)
          have := h3 a (by simpa using ha)
          cases x <;> simpa [lentA] using this
    | al j =>
      cases i with
      | zero =>
        simp [entry] at h
        cases hs : s[j]? with
        | none => rw [hs] at h; exact .inr (.inl h.symm)
        | some z =>
          rw [hs] at h
          cases z with
          | no => exact .inr (.inl h.symm)
          | v d => exact .inr (.inl h.symm)
          | fz d => exact .inr (.inl h.symm)
          | rf d => exact .inr (.inl h.symm)
          | gh d => exact .inr (.inl h.symm)
          | al m => exact .inr (.inl h.symm)
          | own t ds =>
            refine .inr (.inr ⟨0, ds, h.symm, .inr ⟨j, t, rfl, hs⟩, fun a ha => ?_⟩)
            simp at ha; subst ha; rfl
      | succ i =>
        rcases entry_get (xs := xs) (k := k + 1) e' (by simpa [entry] using h) with ⟨d, h1, h2⟩ | h1 | ⟨n, es, h1, h2, h3⟩
        · exact .inl ⟨d, h1, by simpa using h2⟩
        · exact .inr (.inl h1)
        · refine .inr (.inr ⟨n + 1, es, by rw [h1]; congr 2; omega, by simpa using h2, fun a ha => ?_⟩)
          have := h3 a (by simpa using ha)
          cases x <;> simpa [lentA] using this
theorem lentA_get : ∀ {as : List SD} {xs : List V} {n : Nat} {a : Addr}, (lentA as xs)[n]? = some a → (∀ (i : Nat) (r : SD), as[i]? = some r → ((∃ t ds, r = SD.own t ds) ∨ ∃ j, r = SD.al j) → ∃ b, xs[i]? = some (V.ref b)) →
    ∃ i : Nat, xs[i]? = some (V.ref a) ∧ ((∃ t ds, as[i]? = some (SD.own t ds)) ∨ ∃ j, as[i]? = some (SD.al j))
  | [], xs, n, a, h, _ => by simp [lentA] at h
  | q :: as, [], n, a, h, _ => by cases q <;> simp [lentA] at h
  | q :: as, x :: xs, n, a, h, w => by
    have w' : ∀ (i : Nat) (r : SD), as[i]? = some r → ((∃ t ds, r = SD.own t ds) ∨ ∃ j, r = SD.al j) → ∃ b, xs[i]? = some (V.ref b) := fun i r e c => by
      obtain ⟨b, hb⟩ := w (i + 1) r (by simpa using e) c
      exact ⟨b, by simpa using hb⟩
    have low : ∀ {n : Nat}, (lentA as xs)[n]? = some a → ∃ i : Nat, (x :: xs)[i]? = some (V.ref a) ∧ ((∃ t ds, (q :: as)[i]? = some (SD.own t ds)) ∨ ∃ j, (q :: as)[i]? = some (SD.al j)) := fun {n} h => by
      obtain ⟨i, h1, h2⟩ := lentA_get h w'
      exact ⟨i + 1, by simpa using h1, by simpa using h2⟩
    have here : ((∃ t ds, q = SD.own t ds) ∨ ∃ j, q = SD.al j) → lentA (q :: as) (x :: xs) = (match x with | .ref b => b | _ => 0) :: lentA as xs → ∃ i : Nat, (x :: xs)[i]? = some (V.ref a) ∧ ((∃ t ds, (q :: as)[i]? = some (SD.own t ds)) ∨ ∃ j, (q :: as)[i]? = some (SD.al j)) := fun c e => by
      rw [e] at h
      cases n with
      | zero =>
        obtain ⟨b, hb⟩ := w 0 q rfl c
        simp at hb; subst hb
        simp at h; subst h
        refine ⟨0, rfl, ?_⟩
        rcases c with ⟨t, ds, e⟩ | ⟨j, e⟩
        · exact .inl ⟨t, ds, by simp [e]⟩
        · exact .inr ⟨j, by simp [e]⟩
      | succ n => exact low (by simpa using h)
    cases q with
    | v d => exact low (by simpa [lentA] using h)
    | no => exact low (by simpa [lentA] using h)
    | fz d => exact low (by simpa [lentA] using h)
    | rf d => exact low (by simpa [lentA] using h)
    | gh d => exact low (by simpa [lentA] using h)
    | own t ds => exact here (.inl ⟨t, ds, rfl⟩) (by cases x <;> rfl)
    | al j => exact here (.inr ⟨j, rfl⟩) (by cases x <;> rfl)
section
variable {K : PySem.W.Frag} {Z : Zn} {σ : L2.St} {ts xs : List V} {H : Hp} {s rs as : List SD}
/-- an argument's place among the values on the way -/
theorem arg_at {i : Nat} {r : SD} (h : as[i]? = some r) : gs s (as.reverse ++ rs) (.inr (rs.length + i)) = some r := gT_app (as := as.reverse) (by simpa using h)
theorem argV_at {i : Nat} {x : V} (h : xs[i]? = some x) : gv σ (xs.reverse ++ ts) (.inr (ts.length + i)) = some x := gT_app (as := xs.reverse) (by simpa using h)
theorem Ok.argsRef (o : Ok K Z σ (xs.reverse ++ ts) H s (as.reverse ++ rs)) (e : xs.length = as.length) : ts.length = rs.length ∧ ∀ (i : Nat) (r : SD), as[i]? = some r → ((∃ t ds, r = SD.own t ds) ∨ ∃ j, r = SD.al j) → ∃ b, xs[i]? = some (V.ref b) := by
  have el : ts.length = rs.length := by have := o.lt; simp at this; omega
  refine ⟨el, fun i r h c => ?_⟩
  have hx : i < xs.length := by rw [e]; exact (List.getElem?_eq_some_iff.mp h).1
  have hv : gv σ (xs.reverse ++ ts) (.inr (rs.length + i)) = some xs[i] := by rw [← el]; exact argV_at (List.getElem?_eq_getElem hx)
  rcases c with ⟨t, ds, rfl⟩ | ⟨j, rfl⟩
  · obtain ⟨a, ys, h1, _⟩ := o.c.wn _ t ds (arg_at h)
    rw [hv] at h1
    exact ⟨a, by rw [List.getElem?_eq_getElem hx]; exact h1⟩
  · obtain ⟨t, ds, y, h1, h2, h3⟩ := o.c.al _ j (arg_at h)
    obtain ⟨a, ys, h4, _⟩ := o.c.wn _ t ds h1
    rw [hv] at h3; cases h3
    rw [h2] at h4
    exact ⟨a, by rw [List.getElem?_eq_getElem hx]; exact h4⟩
/-- the def's own world at its entry -/
def inner (Z : Zn) (σ : L2.St) (ts xs : List V) (H : Hp) (s rs as : List SD) : Zn := ⟨H, lentA as xs, Cl Z (gv σ (xs.reverse ++ ts)) (gs s (as.reverse ++ rs))⟩
theorem Ok.enter (o : Ok K Z σ (xs.reverse ++ ts) H s (as.reverse ++ rs)) (e : xs.length = as.length) (hn : (lents as).Nodup) :
    Ok K (inner Z σ ts xs H s rs as) (xs.map some) [] H (entry s as 0) [] ∧ ∀ a ∈ (inner Z σ ts xs H s rs as).Bs, Own1 (gv (xs.map some) []) (gs (entry s as 0) []) a ∧ Own1 (gv σ (xs.reverse ++ ts)) (gs s (as.reverse ++ rs)) a := by
  obtain ⟨el, hw⟩ := o.argsRef e
  -- an owned argument
  have ownA : ∀ {i n : Nat} {ds : OD}, ((∃ t, as[i]? = some (SD.own t ds)) ∨ ∃ j t, as[i]? = some (SD.al j) ∧ s[j]? = some (SD.own t ds)) → ∃ a ys, xs[i]? = some (V.ref a) ∧ H a = some ys ∧ RpO K (Cl Z (gv σ (xs.reverse ++ ts)) (gs s (as.reverse ++ rs))) H ys ds ∧
      ∃ p t, gs s (as.reverse ++ rs) p = some (.own t ds) ∧ gv σ (xs.reverse ++ ts) p = some (.ref a) ∧ (p = .inr (rs.length + i) ∨ ∃ j, as[i]? = some (SD.al j) ∧ p = .inl j) := fun {i n ds} h => by
    rcases h with ⟨t, h⟩ | ⟨j, t, h, hs⟩
    · obtain ⟨b, hb⟩ := hw i _ h (.inl ⟨t, ds, rfl⟩)
      obtain ⟨a, ys, h1, h2, h3, _⟩ := o.c.wn _ t ds (arg_at h)
      have hv : gv σ (xs.reverse ++ ts) (.inr (rs.length + i)) = some (.ref b) := by rw [← el]; exact argV_at hb
      rw [hv] at h1; cases h1
      exact ⟨_, ys, hb, h2, h3, _, t, arg_at h, hv, .inl rfl⟩
    · obtain ⟨b, hb⟩ := hw i _ h (.inr ⟨j, rfl⟩)
      obtain ⟨u, es, y, h1, h2, h3⟩ := o.c.al _ j (arg_at h)
      have hv : gv σ (xs.reverse ++ ts) (.inr (rs.length + i)) = some (.ref b) := by rw [← el]; exact argV_at hb
      rw [hv] at h3; cases h3
      have h1' : s[j]? = some (SD.own u es) := h1
      rw [hs] at h1'; cases h1'
      obtain ⟨a, ys, q1, q2, q3, _⟩ := o.c.wn _ t ds h1
      rw [h2] at q1; cases q1
      exact ⟨_, ys, hb, q2, q3, _, t, h1, h2, .inr ⟨j, h, rfl⟩⟩
  have lentOwn : ∀ a, a ∈ lentA as xs → ∃ (i : Nat) (ds : OD), xs[i]? = some (V.ref a) ∧ ((∃ t, as[i]? = some (SD.own t ds)) ∨ ∃ j t, as[i]? = some (SD.al j) ∧ s[j]? = some (SD.own t ds)) := fun a ha => by
    obtain ⟨n, hn⟩ := List.getElem?_of_mem ha
    obtain ⟨i, h1, h2⟩ := lentA_get hn hw
    rcases h2 with ⟨t, ds, h2⟩ | ⟨j, h2⟩
    · exact ⟨i, ds, h1, .inl ⟨t, h2⟩⟩
    · obtain ⟨t, ds, y, h3, _⟩ := o.c.al _ j (arg_at h2)
      exact ⟨i, ds, h1, .inr ⟨j, t, h2, h3⟩⟩
  have noGh : ∀ p q, gs (entry s as 0) [] p = some q → (∀ G, q ≠ .gh G) ∧ ∀ a, q ≠ .rf a := fun p q hp => by
    cases p with
    | inr i => cases hp
    | inl i => rcases entry_get e hp with ⟨d, q, _⟩ | q | ⟨n, es, q, _, _⟩ <;> (subst q; exact ⟨fun _ z => (by cases z), fun _ z => (by cases z)⟩)
  have ownC : ∀ a, Own (gv (xs.map some) []) (gs (entry s as 0) []) a → Own1 (gv σ (xs.reverse ++ ts)) (gs s (as.reverse ++ rs)) a := fun a z => by
    rcases z with ⟨p, t, ds, h1, h2⟩ | ⟨p, G, h1, _⟩
    rotate_left
    · exact absurd rfl ((noGh p _ h1).1 G)
    cases p with
    | inr i => cases h1
    | inl i =>
      rw [gv_map] at h2
      rcases entry_get e h1 with ⟨d, q, _⟩ | q | ⟨n, es, q, h3, h4⟩
      · cases q
      · cases q
      · cases q
        obtain ⟨b, ys, e1, _, _, p, u, e2, e3, _⟩ := ownA (n := n) h3
        rw [h2] at e1; cases e1
        exact ⟨p, u, _, e2, e3⟩
  have lentC : ∀ a, a ∈ lentA as xs → Own1 (gv (xs.map some) []) (gs (entry s as 0) []) a := fun a ha => by
    obtain ⟨i, ds, h1, h2⟩ := lentOwn a ha
    have hi : i < (entry s as 0).length := by rw [entry_length, ← e]; exact (List.getElem?_eq_some_iff.mp h1).1
    have hg : (entry s as 0)[i]? = some (entry s as 0)[i] := List.getElem?_eq_getElem hi
    rcases entry_get e hg with ⟨d, q, q2⟩ | q | ⟨n, es, q, h3, h4⟩
    · rcases h2 with ⟨t, z⟩ | ⟨j, t, z, _⟩ <;> (rw [q2] at z; cases z)
    · exfalso
      -- an owned argument is seen as owned
      have seen : ∀ {as : List SD} {k i : Nat} {ds : OD}, ((∃ t, as[i]? = some (SD.own t ds)) ∨ ∃ j t, as[i]? = some (SD.al j) ∧ s[j]? = some (SD.own t ds)) → ∃ m, (entry s as k)[i]? = some (SD.own (some m) ds) := by
        intro as
        induction as with
        | nil => intro k i ds h; rcases h with ⟨t, z⟩ | ⟨j, t, z, _⟩ <;> simp at z
        | cons r as ih =>
          intro k i ds h
          cases i with
          | zero =>
            rcases h with ⟨t, z⟩ | ⟨j, t, z, hs⟩
            · simp at z; subst z; exact ⟨k, rfl⟩
            · simp at z; subst z; exact ⟨k, by simp [entry, hs]⟩
          | succ i =>
            have h' : (∃ t, as[i]? = some (SD.own t ds)) ∨ ∃ j t, as[i]? = some (SD.al j) ∧ s[j]? = some (SD.own t ds) := by simpa using h
            cases r with
            | v d => obtain ⟨m, z⟩ := ih (k := k) h'; exact ⟨m, by simpa [entry] using z⟩
            | no => obtain ⟨m, z⟩ := ih (k := k) h'; exact ⟨m, by simpa [entry] using z⟩
            | fz d => obtain ⟨m, z⟩ := ih (k := k) h'; exact ⟨m, by simpa [entry] using z⟩
            | rf d => obtain ⟨m, z⟩ := ih (k := k) h'; exact ⟨m, by simpa [entry] using z⟩
            | gh d => obtain ⟨m, z⟩ := ih (k := k) h'; exact ⟨m, by simpa [entry] using z⟩
            | own t fs => obtain ⟨m, z⟩ := ih (k := k + 1) h'; exact ⟨m, by simpa [entry] using z⟩
            | al j => obtain ⟨m, z⟩ := ih (k := k + 1) h'; exact ⟨m, by simpa [entry] using z⟩
      obtain ⟨m, z⟩ := seen (k := 0) h2
      rw [hg, q] at z; cases z
    · exact ⟨.inl i, some (0 + n), es, by show (entry s as 0)[i]? = _; rw [hg, q], by rw [gv_map]; exact h1⟩
  have clC : ∀ a ys, Cl Z (gv σ (xs.reverse ++ ts)) (gs s (as.reverse ++ rs)) a → Rd H a (.lst ys) → Cl (inner Z σ ts xs H s rs as) (gv (xs.map some) []) (gs (entry s as 0) []) a ∧ Rd H a (.lst ys) := fun a ys h r => ⟨⟨.inl h, fun z => h.2 (.inl <| ownC a z)⟩, r⟩
  refine ⟨⟨by simp [entry_length, e], rfl, ?_, fun i j h => ?_⟩, fun a ha => ⟨lentC a ha, ownC a (.inl (lentC a ha))⟩⟩
  · refine ⟨fun a o _ h => h, fun a h => h, fun a ha => ⟨fun z => z.2 (.inl (ownC a (.inl (lentC a ha)))), ?_⟩, fun p d hp => ?_, fun p t ds hp => ?_, fun p q t ds u es a h1 h2 h3 h4 => ?_, fun p i hp => ?_, fun p kds hp => (by
      cases p with
      | inr i => cases hp
      | inl i => rcases entry_get e hp with ⟨d', q, _⟩ | q | ⟨n, es, q, _, _⟩ <;> cases q),
      fun p a hp => absurd rfl ((noGh p _ hp).2 a), fun p G hp => absurd rfl ((noGh p _ hp).1 G), fun p q G G' hp _ => absurd rfl ((noGh p _ hp).1 G), fun p G q t ds a hp _ _ => absurd rfl ((noGh p _ hp).1 G)⟩
    · obtain ⟨i, ds, h1, h2⟩ := lentOwn a ha
      obtain ⟨b, ys, e1, e2, _⟩ := ownA (n := 0) h2
      rw [h1] at e1; cases e1
      show H a ≠ none
      rw [e2]; exact fun z => by cases z
    · cases p with
      | inr i => cases hp
      | inl i =>
        rcases entry_get e hp with ⟨d', q, h2⟩ | q | ⟨n, es, q, h3, h4⟩
        · cases q
          obtain ⟨y, h3, h4⟩ := o.c.va _ d (arg_at h2)
          have hi : i < xs.length := by rw [e]; exact (List.getElem?_eq_some_iff.mp h2).1
          have hv : gv σ (xs.reverse ++ ts) (.inr (rs.length + i)) = some xs[i] := by rw [← el]; exact argV_at (List.getElem?_eq_getElem hi)
          rw [hv] at h3; cases h3
          exact ⟨_, by rw [gv_map]; exact List.getElem?_eq_getElem hi, Rp.mono (fun _ _ z => z) clC _ _ h4⟩
        · cases q
        · cases q
    · cases p with
      | inr i => cases hp
      | inl i =>
        rcases entry_get e hp with ⟨d', q, h2⟩ | q | ⟨n, es, q, h3, h4⟩
        · cases q
        · cases q
        · cases q
          obtain ⟨a, ys, e1, e2, e3, _⟩ := ownA (n := n) h3
          refine ⟨a, ys, by rw [gv_map]; exact e1, e2, RpO.mono (fun _ _ z => z) clC (fun _ _ z => z) e3, ?_⟩
          show (lentA as xs)[0 + n]? = some a
          rw [Nat.zero_add]; exact h4 a e1
    · cases p with
      | inr i => cases h1
      | inl i => cases q with
        | inr j => cases h2
        | inl j =>
          rw [gv_map] at h3 h4
          rcases entry_get e h1 with ⟨d', q, _⟩ | q | ⟨n, fs, q, a3, a4⟩
          · cases q
          · cases q
          rcases entry_get e h2 with ⟨d', q', _⟩ | q' | ⟨n', fs', q', b3, b4⟩
          · cases q'
          · cases q'
          obtain ⟨b, ys, e1, _, _, p, u1, e2, e3, e4⟩ := ownA (n := n) a3
          obtain ⟨b', ys', e1', _, _, p', u1', e2', e3', e4'⟩ := ownA (n := n') b3
          rw [h3] at e1; cases e1
          rw [h4] at e1'; cases e1'
          have := o.c.se p p' _ _ _ _ a e2 e2' e3 e3'
          subst this
          rcases e4 with e4 | ⟨j1, e4, e5⟩
          · rcases e4' with e4' | ⟨j2, e4', e5'⟩
            · rw [e4] at e4'
              have : i = j := by have := Sum.inr.inj e4'; omega
              rw [this]
            · rw [e4] at e5'; cases e5'
          · rcases e4' with e4' | ⟨j2, e4', e5'⟩
            · rw [e5] at e4'; cases e4'
            · rw [e5] at e5'; cases e5'
              -- the same slot handed in twice
              have uniq : ∀ {as : List SD} {i j : Nat}, (lents as).Nodup → as[i]? = some (SD.al j1) → as[j]? = some (SD.al j1) → i = j := by
                intro as
                induction as with
                | nil => intro i j _ h; simp at h
                | cons r as ih =>
                  intro i j hn h1 h2
                  have mem : ∀ {as : List SD} {m : Nat}, as[m]? = some (SD.al j1) → j1 ∈ lents as := by
                    intro as
                    induction as with
                    | nil => intro m e; simp at e
                    | cons r as ih =>
                      intro m e
                      cases m with
                      | zero => simp at e; subst e; exact List.mem_cons_self
                      | succ m =>
                        have := ih (m := m) (by simpa using e)
                        cases r <;> first | exact this | exact List.mem_cons_of_mem _ this
                  have hn' : (lents as).Nodup := by cases r <;> first | exact hn | exact (List.nodup_cons.mp hn).2
                  cases i with
                  | zero =>
                    cases j with
                    | zero => rfl
                    | succ j =>
                      simp at h1; subst h1
                      exact absurd (mem (m := j) (by simpa using h2)) (List.nodup_cons.mp hn).1
                  | succ i =>
                    cases j with
                    | zero =>
                      simp at h2; subst h2
                      exact absurd (mem (m := i) (by simpa using h1)) (List.nodup_cons.mp hn).1
                    | succ j =>
                      have q : i = j := ih hn' (by simpa using h1) (by simpa using h2)
                      rw [q]
              rw [uniq hn e4 e4']
    · cases p with
      | inr j => cases hp
      | inl j =>
        rcases entry_get e hp with ⟨d', q, _⟩ | q | ⟨n, fs, q, _⟩ <;> cases q
  · rcases entry_get e h with ⟨d', q, _⟩ | q | ⟨n, fs, q, _⟩ <;> cases q
/-- behind the call, the caller's world again -/
theorem Ok.back {H' : Hp} {x : V} {as' s2 : List SD} {r : SD} (o : Ok K Z σ (xs.reverse ++ ts) H s (as.reverse ++ rs)) (e : xs.length = as.length) (hn : (lents as).Nodup)
    (o' : Ok K (inner Z σ ts xs H s rs as) (xs.map some) [x] H' as' [r]) (hr : resOk r = true) (ha : after s as as' = some s2) : Ok K Z σ (x :: ts) H' s2 (r :: rs) := by
  obtain ⟨el, hw⟩ := o.argsRef e
  obtain ⟨oe, hB⟩ := o.enter e hn
  obtain ⟨l1, l2, hs2⟩ := after_spec ha hn
  have nB : ∀ a, a ∉ (inner Z σ ts xs H s rs as).Bs → ∀ u, H a = some u → H' a = some u := fun a h u hu => o'.c.fr a u h hu
  have domH : ∀ a, Own (gv σ (xs.reverse ++ ts)) (gs s (as.reverse ++ rs)) a → H a ≠ none := fun a z => by
    rcases z with ⟨p, t, ds, h1, h2⟩ | ⟨p, G, h1, h2⟩
    · obtain ⟨b, ys, e1, e2, _⟩ := o.c.wn p t ds h1
      rw [h2] at e1; cases e1
      rw [e2]; exact fun z => by cases z
    · obtain ⟨⟨b, g⟩, hb, rfl⟩ := List.mem_map.mp h2
      obtain ⟨u, e2, _⟩ := (o.c.gh p G h1).2 b g hb
      show H b ≠ none
      rw [e2]; exact fun z => by cases z
  have poolB : ∀ p G a, gs s (as.reverse ++ rs) p = some (.gh G) → a ∈ G.map (·.1) → a ∉ (inner Z σ ts xs H s rs as).Bs := fun p G a h1 h2 h3 => by
    obtain ⟨q, t, ds, e1, e2⟩ := (hB a h3).2
    exact o.c.sg p G q t ds a h1 e1 e2 h2
  -- places behind, and where they come from
  have low : ∀ {i : Nat} {q : SD}, gT rs i = some q → gs s (as.reverse ++ rs) (.inr i) = some q := fun {i q} h => (gT_low (as := as.reverse) (gT_lt h)).trans h
  have lowV : ∀ {i : Nat}, i < rs.length → gv σ (xs.reverse ++ ts) (.inr i) = gT ts i := fun {i} h => gT_low (as := xs.reverse) (by omega)
  have topR : ∀ {i : Nat} {q : SD}, gs s2 (r :: rs) (.inr i) = some q → (i = rs.length ∧ q = r) ∨ (i < rs.length ∧ gT rs i = some q) := fun {i q} h => by
    have h : (if i = rs.length then some r else gT rs i) = some q := h
    split at h
    · rename_i z; cases h; exact .inl ⟨z, rfl⟩
    · exact .inr ⟨gT_lt h, h⟩
  have topV : gv σ (x :: ts) (.inr rs.length) = some x := by rw [← el]; exact gT_top
  have lowV2 : ∀ {i : Nat}, i < rs.length → gv σ (x :: ts) (.inr i) = gT ts i := fun {i} h => if_neg (by omega)
  have slot2 : ∀ {j : Nat} {q : SD}, s2[j]? = some q → (s[j]? = some q ∧ j ∉ lents as) ∨ ∃ (m : Nat) (t : Option Nat) (ds ds' : OD) (k : Nat), q = .own t ds' ∧ as[m]? = some (SD.al j) ∧ s[j]? = some (SD.own t ds) ∧ as'[m]? = some (SD.own (some k) ds') := fun {j q} h => by
    rcases hs2 j with ⟨m, t, ds, ds', k, a, b, c, d⟩ | ⟨a, b⟩
    · rw [h] at d; cases d; exact .inr ⟨m, t, ds, ds', k, rfl, a, b, c⟩
    · rw [h] at b; exact .inl ⟨b.symm, a⟩
  have ghS : ∀ p G, gs s2 (r :: rs) p = some (.gh G) → gs s (as.reverse ++ rs) p = some (.gh G) := fun p G h => by
    cases p with
    | inl j =>
      rcases slot2 (show s2[j]? = some (SD.gh G) from h) with ⟨h, _⟩ | ⟨m, t', es, es', k, q, _⟩
      · exact h
      · cases q
    | inr i =>
      rcases topR h with ⟨rfl, q⟩ | ⟨hi, h⟩
      · subst q; cases hr
      · exact low h
  -- what is owned behind was owned, or is new
  have own2 : ∀ a, Own (gv σ (x :: ts)) (gs s2 (r :: rs)) a → Own (gv σ (xs.reverse ++ ts)) (gs s (as.reverse ++ rs)) a ∨ (∃ ds, r = .own none ds ∧ x = .ref a) := fun a z => by
    rcases z with ⟨p, t, ds, h1, h2⟩ | ⟨p, G, h1, h2⟩
    rotate_left
    · exact .inl (.inr ⟨p, G, ghS p G h1, h2⟩)
    cases p with
    | inl j =>
      rcases slot2 (show s2[j]? = some (SD.own t ds) from h1) with ⟨h, _⟩ | ⟨m, t', es, es', k, q, _, h, _⟩
      · exact .inl (.inl ⟨.inl j, t, ds, h, h2⟩)
      · exact .inl (.inl ⟨.inl j, t', es, h, h2⟩)
    | inr i =>
      rcases topR h1 with ⟨rfl, q⟩ | ⟨hi, h⟩
      · subst q
        rw [topV] at h2; cases h2
        cases t with
        | none => exact .inr ⟨ds, rfl, rfl⟩
        | some k => cases hr
      · rw [lowV2 hi] at h2
        exact .inl (.inl ⟨.inr i, t, ds, low h, by rw [lowV hi]; exact h2⟩)
  have newA : ∀ {a : Addr} {ds : OD}, r = .own none ds → x = .ref a → H a = none := fun {a ds} h1 h2 => by
    subst h1 h2
    obtain ⟨b, ys, e1, _, _, e2⟩ := o'.c.wn (.inr 0) none ds rfl
    cases (show (some (V.ref a) : Option V) = some (V.ref b) from e1)
    exact e2
  have h0 : ∀ a, H a = none → Z.H0 a = none := fun a h => by
    cases q : Z.H0 a with
    | none => rfl
    | some u => exact absurd h (o.c.dm a (by rw [q]; exact fun z => by cases z))
  have keepT : ∀ a ys, Rd H a (.tup ys) → Rd H' a (.tup ys) := fun a ys h => by
    have nb : a ∉ (inner Z σ ts xs H s rs as).Bs := fun z => by
      obtain ⟨p, t, ds, h1, h2⟩ := (hB a z).2
      obtain ⟨b, zs, e1, e2, e3, _⟩ := o.c.wn p t ds h1
      rw [h2] at e1; cases e1
      exact e3.noT e2 h
    rcases h with h | ⟨ob, h⟩
    · exact .inl (nB a nb _ h)
    · exact .inr ⟨ob, nB a nb _ h⟩
  have keepX : ∀ a us, H a = some (.xd us) → H' a = some (.xd us) := fun a us h => by
    have nb : a ∉ (inner Z σ ts xs H s rs as).Bs := fun z => by
      obtain ⟨p, t, ds, h1, h2⟩ := (hB a z).2
      obtain ⟨b, zs, e1, e2, e3, _⟩ := o.c.wn p t ds h1
      rw [h2] at e1; cases e1
      rw [h] at e2
      exact e3.noX (Option.some.inj e2).symm
    exact nB a nb _ h
  have keepW : ∀ a b, H a = some (.own b) → H' a = some (.own b) := fun a b h => by
    have nb : a ∉ (inner Z σ ts xs H s rs as).Bs := fun z => by
      obtain ⟨p, t, ds, h1, h2⟩ := (hB a z).2
      obtain ⟨b, zs, e1, e2, e3, _⟩ := o.c.wn p t ds h1
      rw [h2] at e1; cases e1
      rw [h] at e2
      exact e3.noW (Option.some.inj e2).symm
    exact nB a nb _ h
  have keepL : ∀ a ys, Cl Z (gv σ (xs.reverse ++ ts)) (gs s (as.reverse ++ rs)) a → Rd H a (.lst ys) → Cl Z (gv σ (x :: ts)) (gs s2 (r :: rs)) a ∧ Rd H' a (.lst ys) := fun a ys ⟨c1, c2⟩ h => by
    have nb : a ∉ (inner Z σ ts xs H s rs as).Bs := fun z => c2 (.inl (hB a z).2)
    refine ⟨⟨c1, fun z => ?_⟩, ?_⟩
    · rcases own2 a z with z | ⟨ds, q1, q2⟩
      · exact c2 z
      · exact rd_some h (newA q1 q2)
    · rcases h with h | ⟨ob, h⟩
      · exact .inl (nB a nb _ h)
      · exact .inr ⟨ob, nB a nb _ h⟩
  -- what the def held as shared is shared
  have clI : ∀ a, Cl (inner Z σ ts xs H s rs as) (gv (xs.map some) [x]) (gs as' [r]) a → Cl Z (gv σ (x :: ts)) (gs s2 (r :: rs)) a := fun a ⟨c1, c2⟩ => by
    have new : ∀ {ds}, r = .own none ds → x = .ref a → False := fun {ds} q1 q2 => c2 (.inl ⟨.inr 0, none, ds, by subst q1; rfl, by subst q2; rfl⟩)
    rcases c1 with c1 | c1
    · have c1 : Cl Z (gv σ (xs.reverse ++ ts)) (gs s (as.reverse ++ rs)) a := c1
      refine ⟨c1.1, fun z => ?_⟩
      rcases own2 a z with z | ⟨ds, q1, q2⟩
      · exact c1.2 z
      · exact new q1 q2
    · have c1 : H a = none := c1
      refine ⟨.inr (h0 a c1), fun z => ?_⟩
      rcases own2 a z with z | ⟨ds, q1, q2⟩
      · exact domH a z c1
      · exact new q1 q2
  -- a lent slot behind
  have lentS : ∀ {j m k : Nat} {t : Option Nat} {ds ds' : OD}, as[m]? = some (SD.al j) → s[j]? = some (SD.own t ds) → as'[m]? = some (SD.own (some k) ds') → ∃ a ys, gv σ (x :: ts) (.inl j) = some (.ref a) ∧ H' a = some ys ∧ RpO K (Cl Z (gv σ (x :: ts)) (gs s2 (r :: rs))) H' ys ds' ∧ (match t with | some k => Z.Bs[k]? = some a | none => Z.H0 a = none) := fun {j m k t ds ds'} h1 h2 h3 => by
    obtain ⟨b, ys, e1, e2, e3, _⟩ := o'.c.wn (.inl m) _ _ (show gs as' [r] (.inl m) = some (SD.own (some k) ds') from h3)
    rw [gv_map] at e1
    obtain ⟨u, es, y, q1, q2, q3⟩ := o.c.al _ j (arg_at h1)
    have hv : gv σ (xs.reverse ++ ts) (.inr (rs.length + m)) = some (.ref b) := by rw [← el]; exact argV_at e1
    rw [hv] at q3; cases q3
    obtain ⟨b', zs, w1, _, _, w4⟩ := o.c.wn (.inl j) t ds h2
    rw [q2] at w1; cases w1
    exact ⟨b, ys, q2, e2, e3.clean clI, w4⟩
  -- an owned place that is not lent is as it was
  have keepO : ∀ {p : Pos2} {t : Option Nat} {ds : OD} {a : Addr}, gs s (as.reverse ++ rs) p = some (.own t ds) → gv σ (xs.reverse ++ ts) p = some (.ref a) → (∀ m j, as[m]? = some (SD.al j) → p ≠ .inl j) → (∀ m, p = .inr (rs.length + m) → as.length ≤ m) → a ∉ (inner Z σ ts xs H s rs as).Bs := fun {p t ds a} h1 h2 n1 n2 hb => by
    obtain ⟨n, hn'⟩ := List.getElem?_of_mem (show a ∈ lentA as xs from hb)
    obtain ⟨i, q1, q2⟩ := lentA_get hn' hw
    have hi : i < as.length := by rw [← e]; exact (List.getElem?_eq_some_iff.mp q1).1
    have hv : gv σ (xs.reverse ++ ts) (.inr (rs.length + i)) = some (.ref a) := by rw [← el]; exact argV_at q1
    rcases q2 with ⟨u, es, q2⟩ | ⟨j, q2⟩
    · have := o.c.se p _ _ _ _ _ a h1 (arg_at q2) h2 hv
      exact absurd (n2 i this) (by omega)
    · obtain ⟨u, es, y, w1, w2, w3⟩ := o.c.al _ j (arg_at q2)
      rw [hv] at w3; cases w3
      exact n1 i j q2 (o.c.se p _ _ _ _ _ a h1 w1 h2 w2)
  refine ⟨by rw [o.ls, l1], by simp [el], ?_, fun i j h => ?_⟩
  · refine ⟨fun a u h1 h2 => ?_, fun a h => o'.c.dm a (o.c.dm a h), o.c.bs, fun p d hp => ?_, fun p t ds hp => ?_, fun p q t ds u es a h1 h2 h3 h4 => ?_, fun p i hp => ?_, fun p kds hp => ?_, fun p a hp => ?_,
      o.c.ghK (fun p G hp => ⟨p, ghS p G hp⟩) (fun p G a hp ha => ?_) (fun a u g => RpG.mono keepT keepL keepX keepW), fun p q G G' h1 h2 => o.c.one p q G G' (ghS p G h1) (ghS q G' h2), fun p G q t ds a h1 h2 h3 => ?_⟩
    rotate_left 6
    · cases p with
      | inl j =>
        rcases slot2 (show s2[j]? = some (SD.rf a) from hp) with ⟨h, _⟩ | ⟨m, t', es, es', k, q, _⟩
        · exact o.c.rf (.inl j) a h
        · cases q
      | inr i =>
        rcases topR hp with ⟨rfl, q⟩ | ⟨hi, h⟩
        · subst q; cases hr
        · have := o.c.rf (.inr i) a (low h)
          rw [lowV hi] at this
          rw [lowV2 hi]; exact this
    · have hp' := ghS p G hp
      obtain ⟨⟨b, g⟩, hb, rfl⟩ := List.mem_map.mp ha
      obtain ⟨u, e2, _⟩ := (o.c.gh p G hp').2 b g hb
      show H' b = H b
      rw [e2]; exact nB b (poolB p G b hp' ha) u e2
    · have h1' := ghS p G h1
      cases q with
      | inl j =>
        rcases slot2 (show s2[j]? = some (SD.own t ds) from h2) with ⟨h, _⟩ | ⟨m, t', es, es', k, q, _, h, _⟩
        · exact o.c.sg p G (.inl j) _ _ a h1' h h3
        · exact o.c.sg p G (.inl j) _ _ a h1' h h3
      | inr i =>
        rcases topR h2 with ⟨rfl, q⟩ | ⟨hi, h⟩
        · subst q
          rw [topV] at h3; cases h3
          cases t with
          | none =>
            intro ha
            exact domH a (.inr ⟨p, G, h1', ha⟩) (newA rfl rfl)
          | some k => cases hr
        · rw [lowV2 hi] at h3
          exact o.c.sg p G (.inr i) t ds a h1' (low h) (by rw [lowV hi]; exact h3)
    · refine nB a (fun z => ?_) u (o.c.fr a u h1 h2)
      obtain ⟨p, t, ds, e1, e2⟩ := (hB a z).2
      obtain ⟨b, ys, q1, _, _, q4⟩ := o.c.wn p t ds e1
      rw [e2] at q1; cases q1
      cases t with
      | none => have q4 : Z.H0 a = none := q4; rw [q4] at h2; cases h2
      | some k => exact h1 (List.mem_of_getElem? q4)
    · cases p with
      | inl j =>
        rcases slot2 (show s2[j]? = some (SD.v d) from hp) with ⟨h, _⟩ | ⟨m, t', es, es', k, q, _⟩
        · obtain ⟨y, h1, h2⟩ := o.c.va (.inl j) d h
          exact ⟨y, h1, Rp.mono keepT keepL _ _ h2⟩
        · cases q
      | inr i =>
        rcases topR hp with ⟨rfl, q⟩ | ⟨hi, h⟩
        · subst q
          obtain ⟨y, h1, h2⟩ := o'.c.va (.inr 0) d rfl
          cases (show (some x : Option V) = some y from h1)
          exact ⟨x, topV, h2.clean clI⟩
        · obtain ⟨y, h1, h2⟩ := o.c.va (.inr i) d (low h)
          rw [lowV hi] at h1
          exact ⟨y, by rw [lowV2 hi]; exact h1, Rp.mono keepT keepL _ _ h2⟩
    · cases p with
      | inl j =>
        rcases slot2 (show s2[j]? = some (SD.own t ds) from hp) with ⟨h, hj⟩ | ⟨m, t', es, es', k, q, a1, a2, a3⟩
        · obtain ⟨a, ys, h1, h2, h3, h4⟩ := o.c.wn (.inl j) t ds h
          have nb := keepO (p := .inl j) h h1 (fun m i hm z => by
            cases z
            have mem : ∀ {as : List SD} {m : Nat}, as[m]? = some (SD.al j) → j ∈ lents as := by
              intro as
              induction as with
              | nil => intro m e; simp at e
              | cons r as ih =>
                intro m e
                cases m with
                | zero => simp at e; subst e; exact List.mem_cons_self
                | succ m =>
                  have := ih (m := m) (by simpa using e)
                  cases r <;> first | exact this | exact List.mem_cons_of_mem _ this
            exact hj (mem hm)) (fun m z => by cases z)
          exact ⟨a, ys, h1, nB a nb _ h2, RpO.mono keepT keepL keepX h3, h4⟩
        · cases q
          exact lentS a1 a2 a3
      | inr i =>
        rcases topR hp with ⟨rfl, q⟩ | ⟨hi, h⟩
        · subst q
          cases t with
          | some k => cases hr
          | none =>
            obtain ⟨a, ys, h1, h2, h3, h4⟩ := o'.c.wn (.inr 0) none ds rfl
            cases (show (some x : Option V) = some (.ref a) from h1)
            exact ⟨a, ys, topV, h2, h3.clean clI, h0 a h4⟩
        · obtain ⟨a, ys, h1, h2, h3, h4⟩ := o.c.wn (.inr i) t ds (low h)
          have nb := keepO (p := .inr i) (low h) h1 (fun m j hm z => by cases z) (fun m z => by
            have := Sum.inr.inj z; omega)
          rw [lowV hi] at h1
          exact ⟨a, ys, by rw [lowV2 hi]; exact h1, nB a nb _ h2, RpO.mono keepT keepL keepX h3, h4⟩
    · -- apart
      have src : ∀ {p : Pos2} {t : Option Nat} {ds : OD}, gs s2 (r :: rs) p = some (.own t ds) → gv σ (x :: ts) p = some (.ref a) → (p = .inr rs.length ∧ H a = none) ∨ (p ≠ .inr rs.length ∧ H a ≠ none ∧ ∃ t ds, gs s (as.reverse ++ rs) p = some (.own t ds) ∧ gv σ (xs.reverse ++ ts) p = some (.ref a)) := fun {p t ds} k1 k2 => by
        cases p with
        | inl j =>
          have : ∃ t ds, gs s (as.reverse ++ rs) (.inl j) = some (.own t ds) := by
            rcases slot2 (show s2[j]? = some (SD.own t ds) from k1) with ⟨h, _⟩ | ⟨m, t', es, es', k, q, _, h, _⟩
            · exact ⟨t, ds, h⟩
            · exact ⟨t', es, h⟩
          obtain ⟨t', ds', q⟩ := this
          exact .inr ⟨by simp, domH a (.inl ⟨.inl j, t', ds', q, k2⟩), t', ds', q, k2⟩
        | inr i =>
          rcases topR k1 with ⟨rfl, q⟩ | ⟨hi, h⟩
          · subst q
            rw [topV] at k2; cases k2
            cases t with
            | none => exact .inl ⟨rfl, newA rfl rfl⟩
            | some k => cases hr
          · rw [lowV2 hi] at k2
            exact .inr ⟨fun z => by have := Sum.inr.inj z; omega, domH a (.inl ⟨.inr i, t, ds, low h, by rw [lowV hi]; exact k2⟩), t, ds, low h, by rw [lowV hi]; exact k2⟩
      rcases src h1 h3 with ⟨a1, a2⟩ | ⟨a0, a1, t1, ds1, a2, a3⟩
      · rcases src h2 h4 with ⟨b1, b2⟩ | ⟨b0, b1, _⟩
        · rw [a1, b1]
        · exact absurd a2 b1
      · rcases src h2 h4 with ⟨b1, b2⟩ | ⟨b0, b1, t2, ds2, b2, b3⟩
        · exact absurd b2 a1
        · exact o.c.se p q _ _ _ _ a a2 b2 a3 b3
    · cases p with
      | inl j =>
        rcases slot2 (show s2[j]? = some (SD.al i) from hp) with ⟨h, _⟩ | ⟨m, t', es, es', k, q, _⟩
        · exact absurd h (o.na j i)
        · cases q
      | inr m =>
        rcases topR hp with ⟨rfl, q⟩ | ⟨hi, h⟩
        · subst q; cases hr
        · obtain ⟨t, ds, y, h1, h2, h3⟩ := o.c.al (.inr m) i (low h)
          rw [lowV hi] at h3
          have : ∃ t ds, s2[i]? = some (SD.own t ds) := by
            rcases hs2 i with ⟨m', t', es, es', k, _, _, _, d⟩ | ⟨_, b⟩
            · exact ⟨t', es', d⟩
            · exact ⟨t, ds, b.trans h1⟩
          obtain ⟨t', ds', q⟩ := this
          exact ⟨t', ds', y, q, h2, by rw [lowV2 hi]; exact h3⟩
    · cases p with
      | inl j =>
        rcases slot2 (show s2[j]? = some (SD.fz kds) from hp) with ⟨h, _⟩ | ⟨m, t', es, es', k, q, _⟩
        · obtain ⟨a, od, vs, h1, h2, h3, h4⟩ := o.c.fz (.inl j) kds h
          exact ⟨a, od, vs, h1, h2, h3, RpP.mono keepT keepL h4⟩
        · cases q
      | inr m =>
        rcases topR hp with ⟨rfl, q⟩ | ⟨hi, h⟩
        · subst q; cases hr
        · obtain ⟨a, od, vs, h1, h2, h3, h4⟩ := o.c.fz (.inr m) kds (low h)
          rw [lowV hi] at h1
          exact ⟨a, od, vs, by rw [lowV2 hi]; exact h1, h2, h3, RpP.mono keepT keepL h4⟩
  · rcases slot2 h with ⟨h, _⟩ | ⟨m, t', es, es', k, q, _⟩
    · exact o.na i j h
    · cases q
/-- THE RULE for a call of a def with a contract -/
theorem de_call {f : DSp} {tl : TA} {E : XK} {Q : SD → List SD → Prop} (h : DA ⟨K, ω⟩ tl s rs fun as s1 => (lents as).Nodup ∧ f (entry s1 as 0) fun r as' => ∃ s2, after s1 as as' = some s2 ∧ Q r s2) : DE ⟨K, ω⟩ (tCall (fnS K f) [] E tl) s rs Q := fun Z σ ts H R o k =>
  h Z σ ts H _ o fun xs H1 s1 as o1 e ⟨hn, hf⟩ => by
    obtain ⟨oe, hB⟩ := o1.enter e hn
    rw [List.append_nil]
    refine ⟨inner Z σ ts xs H1 s1 rs as, entry s1 as 0, _, rfl, fun a ha => (hB a ha).1, oe, hf, fun r as' x H' o' hr ⟨s2, ha, q⟩ => ?_⟩
    exact k x H' s2 r (o1.back e hn o' hr ha) q
end
end W8

/-! W8d: targets, loops, comprehensions, built-ins, methods of lists. -/
namespace W8
open PySem L2 RZ

def storable : SD → Bool
  | .al _ => false
  | _ => true
theorem storable_al {r : SD} (h : storable r = true) : ∀ j, r ≠ SD.al j := fun j e => by subst e; cases h
section
variable {K : PySem.W.Frag} {Z : Zn} {σ : L2.St} {ts xs : List V} {H H' : Hp} {s rs as : List SD} {x : V} {r : SD} {d : D} {ds : List D}
/-- data goes onto the values on the way, first one on top -/
theorem cl_pushV (o : Ok K Z σ ts H s rs) (a : Addr) (h : Cl Z (gv σ ts) (gs s rs) a) : Cl Z (gv σ (x :: ts)) (gs s (.v d :: rs)) a :=
  ⟨h.1, fun z => h.2 (by
    rcases z with ⟨p, t, es, h1, h2⟩ | z
    · rw [gs_push] at h1
      rw [gv_push, o.lt] at h2
      by_cases e : p = .inr rs.length
      · subst e; rw [up_same] at h1; cases h1
      · rw [up_ne e] at h1 h2; exact .inl ⟨p, t, es, h1, h2⟩
    · rw [gs_push] at z
      exact .inr (own2_up (fun _ e => by cases e) z))⟩
theorem Ok.pushAll (o : Ok K Z σ ts H s rs) : ∀ {ds : List D} {xs : List V}, RpA K (Cl Z (gv σ ts) (gs s rs)) H xs ds → Ok K Z σ (xs ++ ts) H s (ds.map SD.v ++ rs) ∧ ∀ a, Cl Z (gv σ ts) (gs s rs) a → Cl Z (gv σ (xs ++ ts)) (gs s (ds.map SD.v ++ rs)) a
  | [], xs, h => by cases h; exact ⟨o, fun _ z => z⟩
  | d :: ds, xs, h => by
    cases h with
    | cons h1 h2 =>
      obtain ⟨o1, c1⟩ := Ok.pushAll o h2
      exact ⟨o1.pushV (h1.clean c1), fun a z => cl_pushV o1 a (c1 a z)⟩
/-- one below the top is dropped -/
theorem Ok.popUnder {y : V} {q : SD} (o : Ok K Z σ (x :: y :: ts) H s (r :: q :: rs)) : Ok K Z σ (x :: ts) H s (r :: rs) := by
  have e : ts.length = rs.length := by have := o.lt; simpa using this
  let φ : Pos2 → Option Pos2 := fun p => match p with | .inl i => some (.inl i) | .inr i => if i < rs.length then some (.inr i) else if i = rs.length then some (.inr (rs.length + 1)) else none
  have φl : ∀ i, φ (.inl i) = some (.inl i) := fun _ => rfl
  have φr : ∀ i, φ (.inr i) = if i < rs.length then some (.inr i) else if i = rs.length then some (.inr (rs.length + 1)) else none := fun _ => rfl
  refine ⟨o.ls, by simp [e], o.c.re φ (fun p r' hp => .inr ?_) (fun p p' h => ?_) (fun p p' z h1 h2 => ?_) (fun p i hp => ⟨rfl, rfl⟩), o.na⟩
  · cases p with
    | inl i => exact ⟨.inl i, rfl, hp⟩
    | inr i =>
      have hp : (if i = rs.length then some r else gT rs i) = some r' := hp
      by_cases hi : i = rs.length
      · rw [if_pos hi] at hp; cases hp
        exact ⟨.inr (rs.length + 1), by rw [φr, if_neg (by omega), if_pos hi], gT_top (r := q :: rs)⟩
      · rw [if_neg hi] at hp
        exact ⟨.inr i, by rw [φr, if_pos (gT_lt hp)], gT_down (gT_down hp)⟩
  · cases p with
    | inl i => rw [φl] at h; cases h; rfl
    | inr i =>
      rw [φr] at h
      by_cases h1 : i < rs.length
      · rw [if_pos h1] at h; cases h
        show (if i = ts.length then some x else gT ts i) = (if i = ts.length + 1 then some x else if i = ts.length then some y else gT ts i)
        rw [if_neg (by omega), if_neg (by omega), if_neg (by omega)]
      · rw [if_neg h1] at h
        by_cases h2 : i = rs.length
        · rw [if_pos h2] at h; cases h
          show (if i = ts.length then some x else gT ts i) = (if rs.length + 1 = ts.length + 1 then some x else _)
          rw [if_pos (by omega), if_pos (by omega)]
        · rw [if_neg h2] at h; cases h
  · cases p with
    | inl i =>
      rw [φl] at h1; cases h1
      cases p' with
      | inl j => rw [φl] at h2; cases h2; rfl
      | inr j =>
        rw [φr] at h2
        split at h2
        · cases h2
        · split at h2 <;> cases h2
    | inr i =>
      rw [φr] at h1
      cases p' with
      | inl j => rw [φl] at h2; cases h2; split at h1
                 · cases h1
                 · split at h1 <;> cases h1
      | inr j =>
        rw [φr] at h2
        by_cases a1 : i < rs.length
        · rw [if_pos a1] at h1; cases h1
          by_cases b1 : j < rs.length
          · rw [if_pos b1] at h2; cases h2; rfl
          · rw [if_neg b1] at h2
            by_cases b2 : j = rs.length
            · rw [if_pos b2] at h2; have := Sum.inr.inj (Option.some.inj h2); omega
            · rw [if_neg b2] at h2; cases h2
        · rw [if_neg a1] at h1
          by_cases a2 : i = rs.length
          · rw [if_pos a2] at h1; cases h1
            by_cases b1 : j < rs.length
            · rw [if_pos b1] at h2; have := Sum.inr.inj (Option.some.inj h2); omega
            · rw [if_neg b1] at h2
              by_cases b2 : j = rs.length
              · rw [a2, b2]
              · rw [if_neg b2] at h2; cases h2
          · rw [if_neg a2] at h1; cases h1
theorem Ok.popUnders : ∀ {as : List SD} {xs : List V}, Ok K Z σ (x :: (xs ++ ts)) H s (r :: (as ++ rs)) → xs.length = as.length → Ok K Z σ (x :: ts) H s (r :: rs)
  | [], [], o, _ => o
  | [], _ :: _, _, e => by cases e
  | _ :: _, [], _, e => by cases e
  | _ :: as, _ :: xs, o, e => Ok.popUnders (as := as) (xs := xs) (Ok.popUnder o) (by simpa using e)
theorem Ok.pops : ∀ {as : List SD} {xs : List V}, Ok K Z σ (xs ++ ts) H s (as ++ rs) → xs.length = as.length → Ok K Z σ ts H s rs
  | [], [], o, _ => o
  | [], _ :: _, _, e => by cases e
  | _ :: _, [], _, e => by cases e
  | _ :: as, _ :: xs, o, e => Ok.pops (as := as) (xs := xs) (Ok.pop o) (by simpa using e)
/-- the list on the way grows -/
theorem Ok.appT {a : Addr} (o : Ok K Z σ (x :: .ref a :: ts) H s (r :: .ow none ds :: rs)) (h : asD r = some d) : ∃ ys, H a = some (.lst ys) ∧ ys.length = ds.length ∧ Ok K Z σ (.ref a :: ts) (upd H a (.lst (ys ++ [x]))) s (.ow none (ds ++ [d]) :: rs) := by
  obtain ⟨h1, o1⟩ := o.popD h
  have e : ts.length = rs.length := by have := o1.lt; simpa using this
  obtain ⟨b, ys, q1, q2, q3, _⟩ := o1.c.ow (.inr rs.length) none ds gT_top
  have q1 : gT (V.ref a :: ts) rs.length = some (.ref b) := q1
  rw [← e, gT_top] at q1
  cases q1
  refine ⟨ys, q2, q3.length, o1.ls, by simp [e], ?_, o1.na⟩
  have c := o1.c.mut (p := .inr rs.length) (t := none) (ds := .lst ds) gT_top (by show gT (V.ref a :: ts) rs.length = _; rw [← e]; exact gT_top) (.lst (q3.append (.cons h1 .nil)))
  have eq : up (gs s (.ow none ds :: rs)) (.inr rs.length) (.ow none (ds ++ [d])) = gs s (.ow none (ds ++ [d]) :: rs) := by
    rw [gs_push, gs_push]
    funext p
    by_cases h : p = .inr rs.length
    · subst h; rw [up_same, up_same]
    · rw [up_ne h, up_ne h, up_ne h]
  rw [eq] at c
  exact c
def wipeS (s : List SD) : List Nat → List SD
  | [] => s
  | v :: vs => (wipeS s vs).set v .no
theorem wipeS_length : ∀ vs : List Nat, (wipeS s vs).length = s.length
  | [] => rfl
  | v :: vs => by unfold wipeS; rw [List.length_set, wipeS_length vs]
theorem wipeS_get {i : Nat} {q : SD} : ∀ {vs : List Nat}, (wipeS s vs)[i]? = some q → q = .no ∨ (s[i]? = some q ∧ i ∉ vs)
  | [], h => .inr ⟨h, by simp⟩
  | v :: vs, h => by
    unfold wipeS at h
    by_cases hi : v = i
    · subst hi
      by_cases hl : v < (wipeS s vs).length
      · rw [List.getElem?_set_self hl] at h; cases h; exact .inl rfl
      · rw [List.getElem?_eq_none (by simpa using hl)] at h; cases h
    · rw [List.getElem?_set_ne hi] at h
      rcases wipeS_get h with h | ⟨h1, h2⟩
      · exact .inl h
      · exact .inr ⟨h1, by simp only [List.mem_cons, not_or]; exact ⟨fun e => hi e.symm, h2⟩⟩
theorem wipe_get {i : Nat} : ∀ {vs : List Nat}, i ∉ vs → (wipe σ vs)[i]? = σ[i]?
  | [], _ => rfl
  | v :: vs, h => by
    simp only [List.mem_cons, not_or] at h
    unfold wipe
    rw [List.getElem?_set_ne (fun e => h.1 e.symm), wipe_get h.2]
/-- the slots vs are forgotten on both sides, and the frame's are as one likes there -/
theorem Ok.wiped {σ' : L2.St} {vs : List Nat} (o : Ok K Z σ ts H s rs) (hl : σ'.length = σ.length) (h : ∀ i, i ∉ vs → σ'[i]? = σ[i]?) (hv : ∀ i ∈ vs, W8.noal rs i = true) : Ok K Z σ' ts H (wipeS s vs) rs := by
  refine ⟨by rw [hl, o.ls, wipeS_length], o.lt, ?_, fun i j e => ?_⟩
  · refine o.c.re (fun q => match q with | .inl i => if i ∈ vs then none else some (.inl i) | .inr i => some (.inr i)) (fun q r hq => ?_) (fun q p hp => ?_) (fun q q' p h1 h2 => ?_) (fun q i hq => ?_)
    · cases q with
      | inr i => exact .inr ⟨.inr i, rfl, hq⟩
      | inl i =>
        rcases wipeS_get (show (wipeS s vs)[i]? = some r from hq) with e | ⟨e, hn⟩
        · exact .inl e
        · exact .inr ⟨.inl i, if_neg hn, e⟩
    · cases q with
      | inr i => cases hp; rfl
      | inl i =>
        have hp : (if i ∈ vs then none else some (Sum.inl i : Pos2)) = some p := hp
        split at hp
        · cases hp
        · rename_i hn; cases hp
          show (σ'[i]?).join = (σ[i]?).join
          rw [h i hn]
    · cases q with
      | inr i => cases h1; cases q' with
        | inr j => cases h2; rfl
        | inl j =>
          have h2 : (if j ∈ vs then none else some (Sum.inl j : Pos2)) = some (.inr i) := h2
          split at h2 <;> cases h2
      | inl i =>
        have h1 : (if i ∈ vs then none else some (Sum.inl i : Pos2)) = some p := h1
        split at h1
        · cases h1
        · cases h1; cases q' with
          | inr j => cases h2
          | inl j =>
            have h2 : (if j ∈ vs then none else some (Sum.inl j : Pos2)) = some (.inl i) := h2
            split at h2
            · cases h2
            · cases h2; rfl
    · cases q with
      | inl j =>
        rcases wipeS_get (show (wipeS s vs)[j]? = some (SD.al i) from hq) with e | ⟨e, _⟩
        · cases e
        · exact absurd e (o.na j i)
      | inr j =>
        have hq : gT rs j = some (SD.al i) := hq
        have hi : i ∉ vs := fun z => o.noal (hv i z) (.inr j) hq
        refine ⟨if_neg hi, ?_⟩
        obtain ⟨t, ds, y, h1, _⟩ := o.c.al (.inr j) i hq
        have h1 : s[i]? = some (SD.own t ds) := h1
        show (wipeS s vs)[i]? = s[i]?
        have : ∀ vs : List Nat, i ∉ vs → (wipeS s vs)[i]? = s[i]? := by
          intro vs
          induction vs with
          | nil => intro _; rfl
          | cons v vs ih =>
            intro hn
            simp only [List.mem_cons, not_or] at hn
            unfold wipeS
            rw [List.getElem?_set_ne (fun e => hn.1 e.symm), ih hn.2]
        exact this vs hi
  · rcases wipeS_get e with e | ⟨e, _⟩
    · cases e
    · exact o.na i j e
end

section
variable {K : PySem.W.Frag} {s rs as : List SD} {Q : SD → List SD → Prop} {QS : List SD → Prop} {QA : List SD → List SD → Prop} {te ta tb : TE} {tl : TA} {d e : D} {ds es : List D} {r : SD} {D0 : DEn} {tS uS : TS} {g : TG}
/-! targets -/
theorem dg_name {i : Nat} (hi : i < s.length) (hr : storable r = true) (ha : noal rs i = true) (q : QS (s.set i r)) : DG ⟨K, ω⟩ (gName i) r s rs QS := fun Z σ ts H x R o k =>
  k _ H _ (o.store hi (storable_al hr) ha) q
theorem ds_asg (h : DE ⟨K, ω⟩ te s rs fun r s1 => DG ⟨K, ω⟩ g r s1 rs D0.nx) : DS ⟨K, ω⟩ (tAsg te g) s rs D0 := fun Z σ ts H E o k1 k2 k3 k4 =>
  h Z σ ts H _ o fun x H1 s1 r o1 q => q Z σ ts H1 x E.nx o1 k1
def DGs (κ : KX) (t : TGs) (as s rs : List SD) (Q : List SD → Prop) : Prop := ∀ (Z : ZX κ) σ ts H xs (R : L2.St → Hp → Prop), Ok κ.fr Z.z σ (xs ++ ts) H s (as ++ rs) → xs.length = as.length → (∀ σ' H' s', Ok κ.fr Z.z σ' ts H' s' rs → Q s' → R σ' H') → t xs σ H R
theorem dgs_nil (q : QS s) : DGs ⟨K, ω⟩ gNil [] s rs QS := fun Z σ ts H xs R o e k => by
  have : xs = [] := List.length_eq_zero_iff.mp e
  subst this
  exact ⟨rfl, k σ H s o q⟩
theorem dgs_cons {u : TGs} (h : DG ⟨K, ω⟩ g r s (as ++ rs) fun s1 => DGs ⟨K, ω⟩ u as s1 rs QS) : DGs ⟨K, ω⟩ (gCons g u) (r :: as) s rs QS := fun Z σ ts H xs R o e k => by
  cases xs with
  | nil => cases e
  | cons x xs => exact ⟨x, xs, rfl, h Z σ (xs ++ ts) H x _ o fun σ' H' s' o' q => q Z σ' ts H' xs R o' (by simpa using e) k⟩
theorem dg_tup {n : Nat} {t : TGs} (hr : r = .v (.tuple ds)) (hn : ds.length = n) (h : DGs ⟨K, ω⟩ t (ds.map SD.v) s rs QS) : DG ⟨K, ω⟩ (gTup K n t) r s rs QS := fun Z σ ts H x R o k => by
  subst hr
  obtain ⟨a, xs, rfl, h1, h2⟩ := o.tupTop rfl
  exact ⟨a, xs, rfl, h1, by rw [h2.length, hn], h Z σ ts H xs R (o.pop.pushAll h2).1 (by simp [h2.length]) k⟩
theorem ds_par {i j : Nat} (h : DA ⟨K, ω⟩ tl s rs fun as s1 => ∃ r1 r2, as = [r1, r2] ∧ i ≠ j ∧ i < s1.length ∧ j < s1.length ∧ storable r1 = true ∧ storable r2 = true ∧ noal rs i = true ∧ noal rs j = true ∧ D0.nx ((s1.set j r2).set i r1)) : DS ⟨K, ω⟩ (tPar i j tl) s rs D0 := fun Z σ ts H E o k1 k2 k3 k4 =>
  h Z σ ts H _ o fun xs H1 s1 as o1 e ⟨r1, r2, ea, hij, hi, hj, h1, h2, n1, n2, q⟩ => by
    subst ea
    obtain ⟨x, y, rfl⟩ : ∃ x y, xs = [x, y] := by
      match xs, e with
      | [x, y], _ => exact ⟨x, y, rfl⟩
    refine ⟨x, y, rfl, ?_⟩
    have o1 : Ok K Z σ (y :: x :: ts) H1 s1 (r2 :: r1 :: rs) := o1
    have o2 := o1.store hj (storable_al h2) (by
      unfold noal at n2 ⊢
      rw [List.all_cons, n2, Bool.and_true]
      cases r1 <;> first | rfl | cases h1)
    have o3 := o2.store (i := i) (by simpa using hi) (storable_al h1) n1
    rw [List.set_comm _ _ hij]
    exact k1 _ H1 _ o3 q
theorem ds_par3 {i j l : Nat} (h : DA ⟨K, ω⟩ tl s rs fun as s1 => ∃ r1 r2 r3, as = [r1, r2, r3] ∧ (i ≠ j ∧ i ≠ l ∧ j ≠ l) ∧ (i < s1.length ∧ j < s1.length ∧ l < s1.length) ∧ (storable r1 = true ∧ storable r2 = true ∧ storable r3 = true) ∧ (noal rs i = true ∧ noal rs j = true ∧ noal rs l = true) ∧ D0.nx (((s1.set l r3).set j r2).set i r1)) :
    DS ⟨K, ω⟩ (tPar3 i j l tl) s rs D0 := fun Z σ ts H E o k1 k2 k3 k4 =>
  h Z σ ts H _ o fun xs H1 s1 as o1 e ⟨r1, r2, r3, ea, ⟨hij, hil, hjl⟩, ⟨hi, hj, hl⟩, ⟨h1, h2, h3⟩, ⟨n1, n2, n3⟩, q⟩ => by
    subst ea
    obtain ⟨x, y, z, rfl⟩ : ∃ x y z, xs = [x, y, z] := by
      match xs, e with
      | [x, y, z], _ => exact ⟨x, y, z, rfl⟩
    refine ⟨x, y, z, rfl, ?_⟩
    have nc : ∀ {r : SD} {rs : List SD} {i}, storable r = true → noal rs i = true → noal (r :: rs) i = true := fun {r rs i} h n => by
      unfold noal at n ⊢
      rw [List.all_cons, n, Bool.and_true]
      cases r <;> first | rfl | cases h
    have o1 : Ok K Z σ (z :: y :: x :: ts) H1 s1 (r3 :: r2 :: r1 :: rs) := o1
    have o2 := o1.store hl (storable_al h3) (nc h2 (nc h1 n3))
    have o3 := o2.store (i := j) (by simpa using hj) (storable_al h2) (nc h1 n2)
    have o4 := o3.store (i := i) (by simpa using hi) (storable_al h1) n1
    have eq : ((σ.set i (some x)).set j (some y)).set l (some z) = ((σ.set l (some z)).set j (some y)).set i (some x) := by
      rw [List.set_comm _ _ hij, List.set_comm _ _ hil, List.set_comm _ _ hjl]
    rw [eq]
    exact k1 _ H1 _ o4 q
/-- x[i] = .. of an own list -/
theorem dg_setL {i : Nat} {ti : TE} (hs : ∃ t ds, s[i]? = some (SD.ow t ds)) (h : DE ⟨K, ω⟩ ti s (.al i :: r :: rs) fun ri s2 => ∃ k j t ds d, ri = .v (.int k) ∧ s2[i]? = some (SD.ow t ds) ∧ ixN ds.length k = some j ∧ asD r = some d ∧ QS (s2.set i (.ow t (ds.set j d)))) :
    DG ⟨K, ω⟩ (gSub (tVar i) ti rSetL) r s rs QS := fun Z σ ts H x R o k => by
  obtain ⟨t0, ds0, hs⟩ := hs
  obtain ⟨a, ys, h1, h2, h3, _⟩ := o.c.ow (.inl i) t0 ds0 hs
  refine ⟨.ref a, gv_slot.mp h1, ?_⟩
  refine h Z σ _ H _ (o.pushA hs (gv_slot.mp h1)) fun y H2 s2 ri o2 q => ?_
  obtain ⟨k', j, t, ds, d, rfl, e2, e3, e4, q⟩ := q
  have := o2.top
  cases this
  obtain ⟨b, zs, w2, w3, w4, w5⟩ := o2.pop.ali e2
  cases w3
  obtain ⟨hd, o3⟩ := o2.pop.pop.popD e4
  have w5' := w5.clean (cl_pop o2.pop.pop)
  refine ⟨_, zs, k', j, rfl, rfl, w4, by rw [w5.length]; exact e3, ?_⟩
  exact k σ _ _ (o3.mutS e2 w2 (w5'.set hd j)) q
/-! loops -/
theorem ds_while {c : TT} (I : List SD → Prop) (μ : List SD → Nat) (h0 : I s)
    (h : ∀ s', I s' → DT ⟨K, ω⟩ c s' rs fun b s1 => if b = true then DS ⟨K, ω⟩ tS s1 rs { nx := fun s2 => I s2 ∧ μ s2 < μ s', rt := D0.rt, bk := D0.nx, ct := fun s2 => I s2 ∧ μ s2 < μ s' } else D0.nx s1) : DS ⟨K, ω⟩ (tWhile c tS) s rs D0 := fun Z σ ts H E o k1 k2 k3 k4 => by
  refine ⟨fun m σ H => ∃ s', Ok K Z σ ts H s' rs ∧ I s' ∧ m = μ s', ⟨μ s, s, o, h0, rfl⟩, ?_⟩
  rintro m σ H ⟨s', o', i', rfl⟩
  refine h s' i' Z σ ts H _ o' fun b H1 s1 o1 q => ?_
  cases b with
  | true =>
    rw [if_pos rfl] at q ⊢
    refine ⟨fun σ2 H2 => ∃ s2, Ok K Z σ2 ts H2 s2 rs ∧ I s2 ∧ μ s2 < μ s', fun σ2 H2 ⟨s2, o2, i2, m2⟩ => ⟨μ s2, m2, s2, o2, i2, rfl⟩, ?_⟩
    exact q Z σ ts H1 _ o1 (fun σ' H' s2 o2 q => ⟨s2, o2, q.1, q.2⟩) k2 k1 (fun σ' H' s2 o2 q => ⟨s2, o2, q.1, q.2⟩)
  | false =>
    rw [if_neg (by decide)] at q ⊢
    exact k1 σ H1 s1 o1 q
/-- what a loop walks, as data -/
def Grow (H H' : Hp) : Prop := ∀ a o, H a = some o → H' a = some o
def SrcOk (K : PySem.W.Frag) (J : It) (its : List D) (H : Hp) (C : Addr → Prop) : Prop :=
  (∀ (i : Nat) d, its[i]? = some d → J.go i H ∧ ∀ x H', J.yld i H x H' → Grow H H' ∧ Rp K C H' x d) ∧ J.stop its.length H
def DI (κ : KX) (wi : TI) (s rs : List SD) (Q : List D → List SD → (List SD → Prop) → List SD → Prop) : Prop := ∀ (Z : ZX κ) σ ts H (R : It → Hp → Prop), Ok κ.fr Z.z σ ts H s rs →
  (∀ J H' s1 as xs its (W : List SD → Prop), Ok κ.fr Z.z σ (xs ++ ts) H' s1 (as ++ rs) → xs.length = as.length →
    (∀ σ' H2 s2 tx ax, Ok κ.fr Z.z σ' (tx ++ (xs ++ ts)) H2 s2 (ax ++ (as ++ rs)) → W s2 → SrcOk κ.fr J its H2 (Cl Z.z (gv σ' (tx ++ (xs ++ ts))) (gs s2 (ax ++ (as ++ rs))))) → Q its as W s1 → R J H') → wi σ H R
theorem ds_for {wi : TI} (h : DI ⟨K, ω⟩ wi s rs fun its as W s1 => ∃ I : Nat → List SD → Prop, I 0 s1 ∧ (∀ k s', k ≤ its.length → I k s' → W s') ∧
    (∀ (k : Nat) d s', its[k]? = some d → I k s' → DG ⟨K, ω⟩ g (.v d) s' (as ++ rs) fun s2 => DS ⟨K, ω⟩ tS s2 (as ++ rs) { nx := I (k + 1), rt := D0.rt, bk := D0.nx, ct := I (k + 1) }) ∧ ∀ s', I its.length s' → D0.nx s') : DS ⟨K, ω⟩ (tFor wi g tS) s rs D0 := fun Z σ ts H E o k1 k2 k3 k4 =>
  h Z σ ts H _ o fun J H' s1 as xs its W o1 e hW ⟨I, i0, hI, hs, hd⟩ => by
    refine ⟨fun i m σ H => m = its.length - i ∧ i ≤ its.length ∧ ∃ s', Ok K Z σ (xs ++ ts) H s' (as ++ rs) ∧ I i s', ⟨its.length, by simp, Nat.zero_le _, s1, o1, i0⟩, ?_⟩
    rintro i m σ H ⟨rfl, hi, s', o', i'⟩
    obtain ⟨go, stop⟩ := hW σ H s' [] [] o' (hI i s' hi i')
    by_cases hlt : i < its.length
    · refine .inr ⟨(go i its[i] (List.getElem?_eq_getElem hlt)).1, fun σ' H' => ∃ s', Ok K Z σ' (xs ++ ts) H' s' (as ++ rs) ∧ I (i + 1) s', fun σ' H' ⟨s2, o2, i2⟩ => ⟨its.length - (i + 1), by omega, rfl, hlt, s2, o2, i2⟩, fun x H2 y => ?_⟩
      obtain ⟨gr, rp⟩ := (go i its[i] (List.getElem?_eq_getElem hlt)).2 x H2 y
      refine hs i its[i] s' (List.getElem?_eq_getElem hlt) i' Z σ _ H2 x _ ((o'.ext gr).pushV rp) fun σ3 H3 s3 o3 q => ?_
      exact q Z σ3 _ H3 _ o3 (fun σ' H' s' o' q => ⟨s', o', q⟩) (fun x σ' H' s' r o' q => k2 x σ' H' s' r (o'.popUnders e) q) (fun σ' H' s' o' q => k1 σ' H' s' (o'.pops e) q) (fun σ' H' s' o' q => ⟨s', o', q⟩)
    · have ei : i = its.length := by omega
      subst ei
      exact .inl ⟨stop, k1 σ H s' (o'.pops e) (hd s' i')⟩
theorem rd_grow {H H' : Hp} (e : Grow H H') {a : Addr} {xs : List V} (h : SqL K H a xs) : SqL K H' a xs := h.imp (rd_ext e) id
theorem upd_grow {H : Hp} {p : Addr} {o : HO} (h : H p = none) : Grow H (upd H p o) := fun a u e => by rw [upd_ne (ne_of_none e h)]; exact e
theorem Rp.grow {C : Addr → Prop} {H H' : Hp} {x : V} (e : Grow H H') (h : Rp K C H x d) : Rp K C H' x d := Rp.mono (fun _ _ => rd_ext e) (fun _ _ q r => ⟨q, rd_ext e r⟩) _ _ h
variable {QI : List D → List SD → (List SD → Prop) → List SD → Prop}
theorem src_list {C : Addr → Prop} {H : Hp} {a : Addr} {ys : List V} (h : SqL K H a ys) (h2 : RpA K C H ys ds) : SrcOk K (Itl K a) ds H C := by
  refine ⟨fun i d hd => ?_, ⟨ys, h, by rw [h2.length]; exact Nat.le_refl _⟩⟩
  obtain ⟨x, hx, hr⟩ := h2.get hd
  refine ⟨⟨ys, x, h, hx⟩, fun y H' ⟨e, hy⟩ => ?_⟩
  subst e
  have := hy ys h
  rw [hx] at this; cases this
  exact ⟨fun _ _ z => z, hr⟩
theorem src_tup {C : Addr → Prop} {H : Hp} {a : Addr} {ys : List V} (h : SqT K H a ys) (h2 : RpA K C H ys ds) : SrcOk K (Itt K a) ds H C := by
  refine ⟨fun i d hd => ?_, ⟨ys, h, by rw [h2.length]; exact Nat.le_refl _⟩⟩
  obtain ⟨x, hx, hr⟩ := h2.get hd
  refine ⟨⟨ys, x, h, hx⟩, fun y H' ⟨e, hy⟩ => ?_⟩
  subst e
  have := hy ys h
  rw [hx] at this; cases this
  exact ⟨fun _ _ z => z, hr⟩
/-- a value on the way, others above it -/
theorem Ok.place {tx : List V} {ax : List SD} {Z : Zn} {σ : L2.St} {ts : List V} {H : Hp} {x : V} (o : Ok K Z σ (tx ++ (x :: ts)) H s (ax ++ (r :: rs))) (e : ts.length = rs.length) : gs s (ax ++ (r :: rs)) (.inr rs.length) = some r ∧ gv σ (tx ++ (x :: ts)) (.inr rs.length) = some x := by
  constructor
  · show gT (ax ++ (r :: rs)) rs.length = some r
    rw [gT_low (by simp)]; exact gT_top
  · show gT (tx ++ (x :: ts)) rs.length = some x
    rw [gT_low (by simp [e]), ← e]; exact gT_top
theorem Ok.placeL {tx : List V} {ax : List SD} {Z : Zn} {σ : L2.St} {ts : List V} {H : Hp} {a : Addr} (o : Ok K Z σ (tx ++ (.ref a :: ts)) H s (ax ++ (r :: rs))) (e : ts.length = rs.length) (h : dat s r = some (.list ds)) :
    ∃ ys, SqL K H a ys ∧ RpA K (Cl Z (gv σ (tx ++ (.ref a :: ts))) (gs s (ax ++ (r :: rs)))) H ys ds := by
  obtain ⟨h1, h2⟩ := o.place e
  obtain ⟨b, ys, q1, q2, q3⟩ := o.atList h1 h
  rw [h2] at q1; cases q1
  exact ⟨ys, q2, q3⟩
theorem Ok.placeT {tx : List V} {ax : List SD} {Z : Zn} {σ : L2.St} {ts : List V} {H : Hp} {a : Addr} (o : Ok K Z σ (tx ++ (.ref a :: ts)) H s (ax ++ (.v (.tuple ds) :: rs))) (e : ts.length = rs.length) :
    ∃ ys, SqT K H a ys ∧ RpA K (Cl Z (gv σ (tx ++ (.ref a :: ts))) (gs s (ax ++ (.v (.tuple ds) :: rs)))) H ys ds := by
  obtain ⟨h1, h2⟩ := o.place e
  obtain ⟨y, q1, q2⟩ := o.c.va _ _ h1
  rw [h2] at q1; cases q1
  cases q2 with
  | tup c q => exact ⟨_, c, q⟩
theorem di_list (h : DE ⟨K, ω⟩ te s rs fun r s1 => ∃ ds, dat s1 r = some (.list ds) ∧ QI ds [r] (fun s2 => dat s2 r = some (.list ds)) s1) : DI ⟨K, ω⟩ (iList K te) s rs QI := fun Z σ ts H R o k =>
  h Z σ ts H _ o fun x H1 s1 r o1 ⟨ds, e1, q⟩ => by
    obtain ⟨a, ys, rfl, h2, h3⟩ := o1.listTop e1
    refine ⟨a, rfl, ⟨ys, h2⟩, k _ H1 s1 [r] [.ref a] ds _ o1 rfl (fun σ' H2 s2 tx ax o2 w => ?_) q⟩
    obtain ⟨zs, h4, h5⟩ := Ok.placeL (r := r) (rs := rs) (ts := ts) o2 o.lt w
    exact src_list h4 h5
theorem di_tup (h : DE ⟨K, ω⟩ te s rs fun r s1 => ∃ ds, r = .v (.tuple ds) ∧ QI ds [r] (fun _ => True) s1) : DI ⟨K, ω⟩ (iTup K te) s rs QI := fun Z σ ts H R o k =>
  h Z σ ts H _ o fun x H1 s1 r o1 ⟨ds, e1, q⟩ => by
    subst e1
    obtain ⟨a, ys, rfl, h2, h3⟩ := o1.tupTop rfl
    refine ⟨a, rfl, ⟨ys, h2⟩, k _ H1 s1 [_] [.ref a] ds _ o1 rfl (fun σ' H2 s2 tx ax o2 w => ?_) q⟩
    obtain ⟨zs, h4, h5⟩ := Ok.placeT (rs := rs) (ts := ts) o2 o.lt
    exact src_tup h4 h5
/-- lo, lo + 1, .. -/
def rngD (lo : Int) (n : Nat) : List D := (List.range n).map fun (k : Nat) => PyData.int (lo + (k : Int))
theorem rngD_length {lo : Int} {n : Nat} : (rngD lo n).length = n := by simp [rngD]
theorem rngD_get {lo : Int} {n i : Nat} {d : D} (h : (rngD lo n)[i]? = some d) : i < n ∧ d = .int (lo + (i : Int)) := by
  unfold rngD at h
  rw [List.getElem?_map] at h
  by_cases hi : i < n
  · rw [List.getElem?_range hi] at h
    exact ⟨hi, (Option.some.inj h).symm⟩
  · rw [List.getElem?_eq_none (by simpa using hi)] at h; cases h
theorem src_rng {C : Addr → Prop} {H : Hp} {lo : Int} {n : Nat} : SrcOk K (Itr lo n) (rngD lo n) H C := by
  refine ⟨fun i d hd => ?_, by rw [rngD_length]; exact Nat.le_refl _⟩
  obtain ⟨hi, rfl⟩ := rngD_get hd
  exact ⟨hi, fun y H' ⟨e, hy⟩ => by subst e hy; exact ⟨fun _ _ z => z, .int _⟩⟩
theorem di_rng1 (h : DA ⟨K, ω⟩ tl s rs fun as s1 => ∃ j, as = [.v (.int j)] ∧ -(2 ^ 62) ≤ j ∧ j < 2 ^ 62 ∧ QI (rngD 0 j.toNat) [] (fun _ => True) s1) : DI ⟨K, ω⟩ (iRng1 tl) s rs QI := fun Z σ ts H R o k =>
  h Z σ ts H _ o fun xs H1 s1 as o1 e ⟨j, ea, b1, b2, q⟩ => by
    subst ea
    obtain ⟨x, rfl⟩ : ∃ x, xs = [x] := by match xs, e with | [x], _ => exact ⟨x, rfl⟩
    have o1 : Ok K Z σ (x :: ts) H1 s1 (.v (.int j) :: rs) := o1
    have := o1.top
    cases this
    exact ⟨j, rfl, b1, b2, k _ H1 s1 [] [] _ _ o1.pop rfl (fun σ' H2 s2 tx ax o2 _ => src_rng) q⟩
theorem di_rng2 (h : DA ⟨K, ω⟩ tl s rs fun as s1 => ∃ i j, as = [.v (.int i), .v (.int j)] ∧ (-(2 ^ 62) ≤ i ∧ i < 2 ^ 62 ∧ -(2 ^ 62) ≤ j ∧ j < 2 ^ 62) ∧ QI (rngD i (j - i).toNat) [] (fun _ => True) s1) : DI ⟨K, ω⟩ (iRng2 tl) s rs QI := fun Z σ ts H R o k =>
  h Z σ ts H _ o fun xs H1 s1 as o1 e ⟨i, j, ea, b, q⟩ => by
    subst ea
    obtain ⟨x, y, rfl⟩ : ∃ x y, xs = [x, y] := by match xs, e with | [x, y], _ => exact ⟨x, y, rfl⟩
    have o1 : Ok K Z σ (y :: x :: ts) H1 s1 (.v (.int j) :: .v (.int i) :: rs) := o1
    have h1 := o1.top
    have h2 := o1.pop.top
    cases h1; cases h2
    exact ⟨i, j, rfl, b, k _ H1 s1 [] [] _ _ o1.pop.pop rfl (fun σ' H2 s2 tx ax o2 _ => src_rng) q⟩
def enumD (ds : List D) : List D := ds.mapIdx fun (i : Nat) d => PyData.tuple [.int (i : Int), d]
theorem enumD_length : (enumD ds).length = ds.length := by simp [enumD]
theorem enumD_get {i : Nat} (h : (enumD ds)[i]? = some d) : ∃ e, ds[i]? = some e ∧ d = .tuple [.int (i : Int), e] := by
  unfold enumD at h
  rw [List.getElem?_mapIdx] at h
  cases q : ds[i]? with
  | none => rw [q] at h; cases h
  | some e => rw [q] at h; exact ⟨e, rfl, (Option.some.inj h).symm⟩
theorem rp_pair {C : Addr → Prop} {H : Hp} {T : Addr} {x y : V} (hn : H T = none) (h1 : Rp K C H x d) (h2 : Rp K C H y e) : Rp K C (upd H T (.tup [x, y])) (.ref T) (.tuple [d, e]) :=
  .tup (SqT.of upd_same) (.cons (h1.grow (upd_grow hn)) (.cons (h2.grow (upd_grow hn)) .nil))
theorem src_enum {C : Addr → Prop} {H : Hp} {a : Addr} {ys : List V} (h : SqL K H a ys) (h2 : RpA K C H ys ds) : SrcOk K (Ite K a) (enumD ds) H C := by
  refine ⟨fun i d hd => ?_, ⟨ys, h, by rw [enumD_length, h2.length]; exact Nat.le_refl _⟩⟩
  obtain ⟨e, he, rfl⟩ := enumD_get hd
  obtain ⟨x, hx, hr⟩ := h2.get he
  refine ⟨⟨ys, x, h, hx⟩, fun y H' ⟨T, z, e1, hn, e2, hz⟩ => ?_⟩
  subst e1 e2
  have := hz ys h
  rw [hx] at this; cases this
  exact ⟨upd_grow hn, rp_pair hn (.int _) hr⟩
theorem di_enum (h : DA ⟨K, ω⟩ tl s rs fun as s1 => ∃ r ds, as = [r] ∧ dat s1 r = some (.list ds) ∧ QI (enumD ds) [r] (fun s2 => dat s2 r = some (.list ds)) s1) : DI ⟨K, ω⟩ (iEnum K tl) s rs QI := fun Z σ ts H R o k =>
  h Z σ ts H _ o fun xs H1 s1 as o1 e ⟨r, ds, ea, e1, q⟩ => by
    subst ea
    obtain ⟨x, rfl⟩ : ∃ x, xs = [x] := by match xs, e with | [x], _ => exact ⟨x, rfl⟩
    have o1 : Ok K Z σ (x :: ts) H1 s1 (r :: rs) := o1
    obtain ⟨a, ys, rfl, h2, h3⟩ := o1.listTop e1
    refine ⟨a, ys, rfl, h2, k _ H1 s1 [r] [.ref a] _ _ o1 rfl (fun σ' H2 s2 tx ax o2 w => ?_) q⟩
    obtain ⟨zs, h4, h5⟩ := Ok.placeL (r := r) (rs := rs) (ts := ts) o2 o.lt w
    exact src_enum h4 h5
def zipD (ds es : List D) : List D := List.zipWith (fun a b => PyData.tuple [a, b]) ds es
theorem zipD_get {i : Nat} (h : (zipD ds es)[i]? = some d) : ∃ a b, ds[i]? = some a ∧ es[i]? = some b ∧ d = .tuple [a, b] := by
  unfold zipD at h
  rw [List.getElem?_zipWith] at h
  cases q : ds[i]? with
  | none => rw [q] at h; cases h
  | some a => cases q2 : es[i]? with
    | none => rw [q, q2] at h; cases h
    | some b => rw [q, q2] at h; exact ⟨a, b, rfl, rfl, (Option.some.inj h).symm⟩
theorem zipD_length : (zipD ds es).length = min ds.length es.length := by simp [zipD]
theorem src_zip {C : Addr → Prop} {H : Hp} {a b : Addr} {ys zs : List V} (h : SqL K H a ys) (h2 : RpA K C H ys ds) (h' : SqL K H b zs) (h2' : RpA K C H zs es) : SrcOk K (Itz K a b) (zipD ds es) H C := by
  refine ⟨fun i d hd => ?_, ⟨ys, zs, h, h', by rw [zipD_length, h2.length, h2'.length]; omega⟩⟩
  obtain ⟨u, v, hu, hv, rfl⟩ := zipD_get hd
  obtain ⟨x, hx, hr⟩ := h2.get hu
  obtain ⟨y, hy, hr'⟩ := h2'.get hv
  refine ⟨⟨ys, zs, x, y, h, h', hx, hy⟩, fun w H' ⟨T, p, q, e1, hn, e2, hp, hq⟩ => ?_⟩
  subst e1 e2
  have w1 := hp ys h
  have w2 := hq zs h'
  rw [hx] at w1; cases w1
  rw [hy] at w2; cases w2
  exact ⟨upd_grow hn, rp_pair hn hr hr'⟩
theorem src_zipT {C : Addr → Prop} {H : Hp} {a b : Addr} {ys zs : List V} (h : SqT K H a ys) (h2 : RpA K C H ys ds) (h' : SqT K H b zs) (h2' : RpA K C H zs es) : SrcOk K (ItzT K a b) (zipD ds es) H C := by
  refine ⟨fun i d hd => ?_, ⟨ys, zs, h, h', by rw [zipD_length, h2.length, h2'.length]; omega⟩⟩
  obtain ⟨u, v, hu, hv, rfl⟩ := zipD_get hd
  obtain ⟨x, hx, hr⟩ := h2.get hu
  obtain ⟨y, hy, hr'⟩ := h2'.get hv
  refine ⟨⟨ys, zs, x, y, h, h', hx, hy⟩, fun w H' ⟨T, p, q, e1, hn, e2, hp, hq⟩ => ?_⟩
  subst e1 e2
  have w1 := hp ys h
  have w2 := hq zs h'
  rw [hx] at w1; cases w1
  rw [hy] at w2; cases w2
  exact ⟨upd_grow hn, rp_pair hn hr hr'⟩
theorem di_zip (h : DA ⟨K, ω⟩ tl s rs fun as s1 => ∃ r1 r2 ds es, as = [r1, r2] ∧ dat s1 r1 = some (.list ds) ∧ dat s1 r2 = some (.list es) ∧ QI (zipD ds es) [r2, r1] (fun s2 => dat s2 r1 = some (.list ds) ∧ dat s2 r2 = some (.list es)) s1) : DI ⟨K, ω⟩ (iZipA K tl) s rs QI := fun Z σ ts H R o k =>
  h Z σ ts H _ o fun xs H1 s1 as o1 e ⟨r1, r2, ds, es, ea, e1, e2, q⟩ => by
    subst ea
    obtain ⟨x, y, rfl⟩ : ∃ x y, xs = [x, y] := by match xs, e with | [x, y], _ => exact ⟨x, y, rfl⟩
    have o1 : Ok K Z σ (y :: x :: ts) H1 s1 (r2 :: r1 :: rs) := o1
    obtain ⟨b, zs, rfl, h4, h5⟩ := o1.listTop e2
    obtain ⟨a, ys, rfl, h2, h3⟩ := o1.pop.listTop e1
    refine ⟨a, b, ys, zs, rfl, .inl ⟨h2, h4, k _ H1 s1 [r2, r1] [.ref b, .ref a] _ _ o1 rfl (fun σ' H2 s2 tx ax o2 w => ?_) q⟩⟩
    have o3 : Ok K Z σ' ((tx ++ [.ref b]) ++ (.ref a :: ts)) H2 s2 ((ax ++ [r2]) ++ (r1 :: rs)) := by simpa using o2
    obtain ⟨zs', q2, q3⟩ := Ok.placeL (r := r2) (rs := r1 :: rs) (ts := .ref a :: ts) o2 (by simp [o.lt]) w.2
    obtain ⟨ys', q5, q6⟩ := Ok.placeL (r := r1) (rs := rs) (ts := ts) o3 o.lt w.1
    have q6 : RpA K (Cl Z (gv σ' (tx ++ ([.ref b, .ref a] ++ ts))) (gs s2 (ax ++ ([r2, r1] ++ rs)))) H2 ys' ds := by simpa using q6
    exact src_zip q5 q6 q2 q3
theorem di_zipT (h : DA ⟨K, ω⟩ tl s rs fun as s1 => ∃ ds es, as = [.v (.tuple ds), .v (.tuple es)] ∧ QI (zipD ds es) [.v (.tuple es), .v (.tuple ds)] (fun _ => True) s1) : DI ⟨K, ω⟩ (iZipA K tl) s rs QI := fun Z σ ts H R o k =>
  h Z σ ts H _ o fun xs H1 s1 as o1 e ⟨ds, es, ea, q⟩ => by
    subst ea
    obtain ⟨x, y, rfl⟩ : ∃ x y, xs = [x, y] := by match xs, e with | [x, y], _ => exact ⟨x, y, rfl⟩
    have o1 : Ok K Z σ (y :: x :: ts) H1 s1 (.v (.tuple es) :: .v (.tuple ds) :: rs) := o1
    obtain ⟨b, zs, rfl, h4, h5⟩ := o1.tupTop rfl
    obtain ⟨a, ys, rfl, h2, h3⟩ := o1.pop.tupTop rfl
    refine ⟨a, b, ys, zs, rfl, .inr ⟨h2, h4, k _ H1 s1 [_, _] [.ref b, .ref a] _ _ o1 rfl (fun σ' H2 s2 tx ax o2 w => ?_) q⟩⟩
    have o3 : Ok K Z σ' ((tx ++ [.ref b]) ++ (.ref a :: ts)) H2 s2 ((ax ++ [.v (.tuple es)]) ++ (.v (.tuple ds) :: rs)) := by simpa using o2
    obtain ⟨zs', q2, q3⟩ := Ok.placeT (rs := .v (.tuple ds) :: rs) (ts := .ref a :: ts) o2 (by simp [o.lt])
    obtain ⟨ys', q5, q6⟩ := Ok.placeT (rs := rs) (ts := ts) o3 o.lt
    have q6 : RpA K (Cl Z (gv σ' (tx ++ ([.ref b, .ref a] ++ ts))) (gs s2 (ax ++ ([.v (.tuple es), .v (.tuple ds)] ++ rs)))) H2 ys' ds := by simpa using q6
    exact src_zipT q5 q6 q2 q3
/-! comprehensions -/
/-- the target stores in the slots vs alone -/
def GW (g : TG) (vs : List Nat) : Prop := ∀ v σ H (P R : L2.St → Hp → Prop), (∀ σ2 H2, wipe σ2 vs = wipe σ vs → P σ2 H2 → R σ2 H2) → g v σ H P → g v σ H R
def GWs (g : TGs) (vs : List Nat) : Prop := ∀ v σ H (P R : L2.St → Hp → Prop), (∀ σ2 H2, wipe σ2 vs = wipe σ vs → P σ2 H2 → R σ2 H2) → g v σ H P → g v σ H R
theorem wipe_set {i : Nat} {σ : L2.St} {x : Option V} : ∀ {vs : List Nat}, i ∈ vs → wipe (σ.set i x) vs = wipe σ vs
  | v :: vs, h => by
    unfold wipe
    by_cases hv : i ∈ vs
    · rw [wipe_set hv]
    · have e : i = v := (List.mem_cons.mp h).resolve_right hv
      subst e
      have : ∀ vs : List Nat, i ∉ vs → wipe (σ.set i x) vs = (wipe σ vs).set i x := by
        intro vs
        induction vs with
        | nil => intro _; rfl
        | cons w vs ih =>
          intro hn
          simp only [List.mem_cons, not_or] at hn
          unfold wipe
          rw [ih hn.2, List.set_comm _ _ hn.1]
      rw [this vs hv, List.set_set]
theorem wipe_wipe {σ : L2.St} : ∀ {vs ws : List Nat}, (∀ v ∈ vs, v ∈ ws) → wipe (wipe σ vs) ws = wipe σ ws
  | [], ws, _ => rfl
  | v :: vs, ws, h => by
    show wipe ((wipe σ vs).set v none) ws = wipe σ ws
    rw [wipe_set (h v List.mem_cons_self), wipe_wipe fun u hu => h u (List.mem_cons_of_mem _ hu)]
theorem gw_name {i : Nat} {vs : List Nat} (h : i ∈ vs) : GW (gName i) vs := fun v σ H P R k q => k _ H (wipe_set h) q
theorem gws_nil {vs : List Nat} : GWs gNil vs := fun v σ H P R k q => ⟨q.1, k _ H rfl q.2⟩
theorem gws_cons {t : TG} {u : TGs} {vs : List Nat} (h : GW t vs) (h2 : GWs u vs) : GWs (gCons t u) vs := fun v σ H P R k ⟨x, r, e, q⟩ =>
  ⟨x, r, e, h x σ H _ _ (fun σ2 H2 e2 q2 => h2 r σ2 H2 _ _ (fun σ3 H3 e3 q3 => k σ3 H3 (e3.trans e2) q3) q2) q⟩
theorem gw_tup {n : Nat} {t : TGs} {vs : List Nat} (h : GWs t vs) : GW (gTup K n t) vs := fun v σ H P R k ⟨a, xs, e, h1, h2, q⟩ => ⟨a, xs, e, h1, h2, h xs σ H P R k q⟩
theorem de_lc {wi : TI} {tt : TT} {vs : List Nat} (hg : GW g vs) (h : DI ⟨K, ω⟩ wi s rs fun its as W s1 => ∃ I : Nat → List SD → List D → Prop, (∀ i ∈ vs, noal as i = true ∧ noal rs i = true) ∧ I 0 (wipeS s1 vs) [] ∧ (∀ k s' acc, k ≤ its.length → I k s' acc → W s') ∧ its.length ≤ 100000 ∧
    (∀ (k : Nat) d s' acc, its[k]? = some d → acc.length ≤ k → I k s' acc → DG ⟨K, ω⟩ g (.v d) s' (.ow none acc :: (as ++ rs)) fun s2 => DT ⟨K, ω⟩ tt s2 (.ow none acc :: (as ++ rs)) fun b s3 => if b = true then DE ⟨K, ω⟩ te s3 (.ow none acc :: (as ++ rs)) fun r s4 => ∃ e, asD r = some e ∧ I (k + 1) (wipeS s4 vs) (acc ++ [e]) else I (k + 1) (wipeS s3 vs) acc) ∧
    ∀ s' acc, I its.length s' acc → Q (.ow none acc) (wipeS s' vs)) : DE ⟨K, ω⟩ (tLc wi g tt te vs) s rs Q := fun Z σ ts H R o k =>
  h Z σ ts H _ o fun J H1 s1 as xs its W o1 e hW ⟨I, hv, i0, hI, hz, hs, hd⟩ => by
    intro p hp
    have el : ts.length = rs.length := (o1.pops e).lt
    have nv : ∀ acc, ∀ i ∈ vs, noal (.ow none acc :: (as ++ rs)) i = true := fun acc i hi => by
      obtain ⟨n1, n2⟩ := hv i hi
      unfold noal at n1 n2 ⊢
      rw [List.all_cons, List.all_append, n1, n2]; rfl
    have w0 : Ok K Z (wipe σ vs) (.ref p :: (xs ++ ts)) (upd H1 p (.lst [])) (wipeS s1 vs) (.ow none [] :: (as ++ rs)) :=
      (o1.pushO hp .nil).wiped (wipe_length σ vs) (fun i hi => wipe_get hi) (nv [])
    refine ⟨fun i m H => m = its.length - i ∧ i ≤ its.length ∧ ∃ s' acc, acc.length ≤ i ∧ Ok K Z (wipe σ vs) (.ref p :: (xs ++ ts)) H s' (.ow none acc :: (as ++ rs)) ∧ I i s' acc, ⟨its.length, by simp, Nat.zero_le _, _, [], Nat.le_refl _, w0, i0⟩, ?_⟩
    rintro i m H ⟨rfl, hi, s', acc, hac, o', i'⟩
    obtain ⟨go, stop⟩ := hW _ H s' [.ref p] [.ow none acc] o' (hI i s' acc hi i')
    by_cases hlt : i < its.length
    · refine .inr ⟨(go i its[i] (List.getElem?_eq_getElem hlt)).1, fun H' => ∃ s' acc, acc.length ≤ i + 1 ∧ Ok K Z (wipe σ vs) (.ref p :: (xs ++ ts)) H' s' (.ow none acc :: (as ++ rs)) ∧ I (i + 1) s' acc, fun H' ⟨s2, ac2, l2, o2, i2⟩ => ⟨its.length - (i + 1), by omega, rfl, hlt, s2, ac2, l2, o2, i2⟩, fun x H2 y => ?_⟩
      obtain ⟨gr, rp⟩ := (go i its[i] (List.getElem?_eq_getElem hlt)).2 x H2 y
      have fin : ∀ {σ3 : L2.St} {H3 : Hp} {s3 : List SD} {ac : List D}, wipe σ3 vs = wipe σ vs → Ok K Z σ3 (.ref p :: (xs ++ ts)) H3 s3 (.ow none ac :: (as ++ rs)) → Ok K Z (wipe σ vs) (.ref p :: (xs ++ ts)) H3 (wipeS s3 vs) (.ow none ac :: (as ++ rs)) := fun {σ3 H3 s3 ac} hw o3 => by
        have l3 : σ3.length = σ.length := by
          have := congrArg List.length hw
          rwa [wipe_length, wipe_length] at this
        exact o3.wiped (by rw [wipe_length, l3]) (fun i hi => by rw [← hw, wipe_get hi]) (nv ac)
      refine hg x (wipe σ vs) H2 (fun σ3 H3 => wipe σ3 vs = wipe σ vs → tt σ3 H3 fun b H4 => if b = true then te σ3 H4 fun y H5 => ∃ acc, H5 p = some (.lst acc) ∧ acc.length < sizeLine ∧ (∃ s' acc', acc'.length ≤ i + 1 ∧ Ok K Z (wipe σ vs) (.ref p :: (xs ++ ts)) (upd H5 p (.lst (acc ++ [y]))) s' (.ow none acc' :: (as ++ rs)) ∧ I (i + 1) s' acc') else ∃ s' acc, acc.length ≤ i + 1 ∧ Ok K Z (wipe σ vs) (.ref p :: (xs ++ ts)) H4 s' (.ow none acc :: (as ++ rs)) ∧ I (i + 1) s' acc) _ (fun σ3 H3 e3 q3 => ?_) ?_
      · have e3' : wipe σ3 vs = wipe σ vs := by rw [e3]; exact wipe_wipe fun _ h => h
        exact ⟨e3', q3 e3'⟩
      · refine hs i its[i] s' acc (List.getElem?_eq_getElem hlt) hac i' Z (wipe σ vs) _ H2 x _ ((o'.ext gr).pushV rp) fun σ3 H3 s3 o3 q e3 => ?_
        refine q Z σ3 _ H3 _ o3 fun b H4 s4 o4 q4 => ?_
        cases b with
        | true =>
          rw [if_pos rfl] at q4 ⊢
          refine q4 Z σ3 _ H4 _ o4 fun y H5 s5 r o5 q5 => ?_
          obtain ⟨e, he, ie⟩ := q5
          obtain ⟨ys, h1, h2, o6⟩ := o5.appT he
          exact ⟨ys, h1, by rw [h2]; exact Nat.lt_of_lt_of_le (show acc.length < 100001 by omega) (by decide), _, _, by simp; omega, fin e3 o6, ie⟩
        | false =>
          rw [if_neg (by decide)] at q4 ⊢
          exact ⟨_, _, by omega, fin e3 o4, q4⟩
    · have ei : i = its.length := by omega
      subst ei
      refine .inl ⟨stop, ?_⟩
      have o2 : Ok K Z (wipe σ vs) (.ref p :: ts) H s' (.ow none acc :: rs) := o'.popUnders e
      have n2 : ∀ i ∈ vs, noal (.ow none acc :: rs) i = true := fun i hi => by
        have := (hv i hi).2
        unfold noal at this ⊢
        rw [List.all_cons, this]; rfl
      exact k _ H _ _ (o2.wiped (wipe_length σ vs).symm (fun i hi => (wipe_get hi).symm) n2) (hd s' acc i')
theorem dt_yes {QT : Bool → List SD → Prop} (q : QT true s) : DT ⟨K, ω⟩ tYes s rs QT := fun Z σ ts H R o k => k true H s o q
end
end W8

/-! W8e: built-ins, methods of lists, great numbers. -/
namespace W8
open PySem L2 RZ

/-! ### operators for any size -/
def CMulX (i j : Int) : Prop := CMul i j ∨ CMulW i j
def CDivX (i j : Int) : Prop := CDiv i j ∨ CDivW i j
section
variable {X : Cx}
theorem CMulX.ok {i j : Int} (h : CMulX i j) : PySem.IntMulOk i j := h.elim CMul.ok CMulW.ok
theorem op_mulX : OpR X (binaryOp .Mult) (rI CMulX fun i j => .int (i * j)) := opI fun _ _ _ _ _ _ _ hc q => PyProof.Rows.mul_int q hc.ok
theorem op_fdivX : OpR X (binaryOp .FloorDiv) (rI CDivX fun i j => .int (i / j)) := by
  intro pins s σ H x y v u Q I r1 r2 h
  obtain ⟨i, j, e1, e2, hc, q⟩ := h
  rcases hc with hc | hc
  · exact op_fdiv pins s σ H x y v u Q I r1 r2 ⟨i, j, e1, e2, hc, q⟩
  · exact op_fdivW pins s σ H x y v u Q I r1 r2 ⟨i, j, e1, e2, hc, q⟩
/-- == by data -/
theorem op_mulA : OpR X (binaryOp .Mult) (fun x y H Q => rI CMulX (fun i j => .int (i * j)) x y H Q ∨ rRep x y H Q) := op_mulX.or op_rep
theorem op_addA : OpR X (binaryOp .Add) (fun x y H Q => rI0 (fun i j => .int (i + j)) x y H Q ∨ rCat x y H Q) := op_add.or op_cat
theorem call_lenA : CallR X (.builtin "len") (fun xs H Q => (∃ p ys, xs = [.ref p] ∧ (SqL X.K H p ys ∨ SqT X.K H p ys) ∧ Q (.int ys.length) H) ∨ ∃ z, xs = [.str z] ∧ z.length ≤ sizeLine ∧ Q (.int z.length) H) := call_len_seq.or call_len_str
theorem sl_any : SlR X (fun x lo hi H Q => rSlL X.K x lo hi H Q ∨ rSlT X.K x lo hi H Q ∨ rSlS x lo hi H Q) := sl_list.or (sl_tup.or sl_str)
end

/-! ### kinds -/
inductive Ty where
  | int | bool | str | list | tuple
  deriving DecidableEq
@[reducible] def Ty.nm : Ty → String
  | .int => "int"
  | .bool => "bool"
  | .str => "str"
  | .list => "list"
  | .tuple => "tuple"
def isTy : Ty → D → Bool
  | .int, .int _ => true
  | .int, .bool _ => true
  | .bool, .bool _ => true
  | .str, .str _ => true
  | .list, .list _ => true
  | .tuple, .tuple _ => true
  | _, _ => false
def tyOf : D → String
  | .none => "NoneType"
  | .bool _ => "bool"
  | .int _ => "int"
  | .str _ => "str"
  | .list _ => "list"
  | .tuple _ => "tuple"
  | .dict _ => "dict"
def tyN : Ty → String → Bool
  | .int, n => n == "int" || n == "bool"
  | t, n => n == t.nm
theorem kit_n (t : Ty) : ∀ n ∈ ["NoneType", "bool", "int", "str", "list", "tuple"], kitB n t.nm = some (tyN t n) := by
  cases t <;> decide +kernel
theorem kit_is (t : Ty) {d : D} (h : ∀ kvs, d ≠ .dict kvs) : kitB (tyOf d) t.nm = some (isTy t d) := by
  have e : tyN t (tyOf d) = isTy t d := by
    cases d <;> first | (cases t <;> (simp only [tyOf, isTy, tyN, Ty.nm]; first | rfl | decide)) | exact absurd rfl (h _)
  rw [← e]
  refine kit_n t _ ?_
  cases d <;> first | (simp only [tyOf]; decide) | exact absurd rfl (h _)
section
variable {K : PySem.W.Frag} {C : Addr → Prop} {H : Hp} {x : V} {d : D}
theorem dp_ty (h : Dp K H x d) : TyX K H x (.type (tyOf d)) ∧ ∀ kvs, d ≠ .dict kvs := by
  cases h with
  | non => exact ⟨.base .non, fun _ z => nomatch z⟩
  | bl b => exact ⟨.base (.bl b), fun _ z => nomatch z⟩
  | int i => exact ⟨.base (.int i), fun _ z => nomatch z⟩
  | str z => exact ⟨.base (.str z), fun _ z => nomatch z⟩
  | lst h _ =>
    refine ⟨?_, fun _ z => nomatch z⟩
    rcases h with (h | ⟨o, h⟩) | ⟨o, its, n, h1, h2, _⟩
    · exact .base (.lst h)
    · exact .base (.frz h)
    · exact .kList h1 h2
  | tup h _ =>
    refine ⟨?_, fun _ z => nomatch z⟩
    rcases h with (h | ⟨o, h⟩) | ⟨o, its, n, h1, h2, _⟩
    · exact .base (.tup h)
    · exact .fTuple h
    · exact .kTuple h1 h2
end
mutual
theorem dpGrow {K : PySem.W.Frag} {H H' : Hp} (g : Grow H H') : ∀ (d : D) (v : V), Dp K H v d → Dp K H' v d
  | .none, _, h => by cases h; exact .non
  | .bool b, _, h => by cases h; exact .bl b
  | .int i, _, h => by cases h; exact .int i
  | .str x, _, h => by cases h; exact .str x
  | .list ds, _, h => by
    cases h with
    | lst r q => exact .lst (r.imp (rd_ext g) id) (dpGrowA g ds _ q)
  | .tuple ds, _, h => by
    cases h with
    | tup r q => exact .tup (r.imp (rd_ext g) id) (dpGrowA g ds _ q)
  | .dict _, _, h => by cases h
theorem dpGrowA {K : PySem.W.Frag} {H H' : Hp} (g : Grow H H') : ∀ (ds : List D) (vs : List V), DpAll K H vs ds → DpAll K H' vs ds
  | [], _, h => by cases h; exact .nil
  | d :: ds, _, h => by
    cases h with
    | cons a b => exact .cons (dpGrow g d _ a) (dpGrowA g ds _ b)
end
section
variable {K : PySem.W.Frag} {s rs as : List SD} {Q : SD → List SD → Prop} {QA : List SD → List SD → Prop} {te ta tb : TE} {tl : TA} {d e : D} {ds es : List D} {r r1 r2 : SD} {D0 : DEn}
/-- isinstance(x, C) -/
theorem de_isi (t : Ty) (h : DE ⟨K, ω⟩ ta s rs fun r s1 => ∃ d, dat s1 r = some d ∧ Q (.v (.bool (isTy t d))) s1) : DE ⟨K, ω⟩ (tCB (rIsi K) (tCons ta (tCons (tC (.ty t.nm)) tNil))) s rs Q := fun Z σ ts H R o k =>
  h Z σ ts H _ o fun x H1 s1 r o1 ⟨d, e1, q⟩ => by
    obtain ⟨h1, h2⟩ := dp_ty (o1.dpTop e1)
    exact ⟨x, _, _, _, isTy t d, rfl, .ty _, h1, kit_ty (kit_is t h2), k _ H1 s1 _ (o1.pop.pushV (.bl _)) q⟩
theorem kit_any {ts : List Ty} {d : D} (h2 : ∀ kvs, d ≠ .dict kvs) : PySem.W.kitAny K (.type (tyOf d)) (ts.map fun t => Value.type t.nm) = some (ts.any fun t => isTy t d) := by
  induction ts with
  | nil => rfl
  | cons t ts ih =>
    refine kitAny_cons (kit_ty (kit_is t h2)) (fun e => ?_) (fun e => by rw [List.any_cons, e]; rfl)
    rw [List.any_cons, e, Bool.false_or]
    exact ih
/-- isinstance(x, (C, D)) -/
theorem de_isi2 (t u : Ty) (h : DE ⟨K, ω⟩ ta s rs fun r s1 => ∃ d, dat s1 r = some d ∧ Q (.v (.bool (isTy t d || isTy u d))) s1) :
    DE ⟨K, ω⟩ (tCB (rIsiT K) (tCons ta (tCons (tTup (tCons (tC (.ty t.nm)) (tCons (tC (.ty u.nm)) tNil))) tNil))) s rs Q := fun Z σ ts H R o k =>
  h Z σ ts H _ o fun x H1 s1 r o1 ⟨d, e1, q⟩ => by
    obtain ⟨h1, h2⟩ := dp_ty (o1.dpTop e1)
    refine ⟨by show 2 ≤ sizeLine; decide, fun p hp => ?_⟩
    have gr := upd_grow (o := HO.tup [.ty t.nm, .ty u.nm]) hp
    have h3 : TyX K (upd H1 p (.tup [.ty t.nm, .ty u.nm])) x (.type (tyOf d)) := (dp_ty (dpGrow gr _ _ (o1.dpTop e1))).1
    have h4 := kit_any (K := K) (ts := [t, u]) h2
    refine ⟨x, p, _, _, _, _, rfl, upd_same, .cons (.ty _) (.cons (.ty _) .nil), h3, h4, ?_⟩
    have e : ([t, u].any fun t => isTy t d) = (isTy t d || isTy u d) := by simp
    rw [e]
    exact k _ _ s1 _ ((o1.pop.ext gr).pushV (.bl _)) q
/-! built-ins of one, two arguments -/
theorem opc_lenL (h : dat s r = some (.list ds)) (q : Q (.v (.int (ds.length : Int))) s) : OPC ⟨K, ω⟩ (fun xs H Q => (∃ p ys, xs = [.ref p] ∧ (SqL K H p ys ∨ SqT K H p ys) ∧ Q (.int ys.length) H) ∨ ∃ z, xs = [.str z] ∧ z.length ≤ sizeLine ∧ Q (.int z.length) H) [r] s rs Q := fun Z σ ts H xs R o e k => by
  obtain ⟨x, rfl⟩ : ∃ x, xs = [x] := by match xs, e with | [x], _ => exact ⟨x, rfl⟩
  have o1 : Ok K Z σ (x :: ts) H s (r :: rs) := o
  obtain ⟨a, ys, rfl, h2, h3⟩ := o1.listTop h
  refine .inl ⟨a, ys, rfl, .inl h2, ?_⟩
  rw [h3.length]
  exact k _ H s _ (o1.pop.pushV (.int _)) q
theorem opc_lenT (h : dat s r = some (.tuple ds)) (q : Q (.v (.int (ds.length : Int))) s) : OPC ⟨K, ω⟩ (fun xs H Q => (∃ p ys, xs = [.ref p] ∧ (SqL K H p ys ∨ SqT K H p ys) ∧ Q (.int ys.length) H) ∨ ∃ z, xs = [.str z] ∧ z.length ≤ sizeLine ∧ Q (.int z.length) H) [r] s rs Q := fun Z σ ts H xs R o e k => by
  obtain ⟨x, rfl⟩ : ∃ x, xs = [x] := by match xs, e with | [x], _ => exact ⟨x, rfl⟩
  have o1 : Ok K Z σ (x :: ts) H s (r :: rs) := o
  obtain ⟨a, ys, rfl, h2, h3⟩ := o1.tupTop h
  refine .inl ⟨a, ys, rfl, .inr h2, ?_⟩
  rw [h3.length]
  exact k _ H s _ (o1.pop.pushV (.int _)) q
theorem opc_lenS {z : Str} (h : z.length ≤ sizeLine) (q : Q (.v (.int (z.length : Int))) s) : OPC ⟨K, ω⟩ (fun xs H Q => (∃ p ys, xs = [.ref p] ∧ (SqL K H p ys ∨ SqT K H p ys) ∧ Q (.int ys.length) H) ∨ ∃ z, xs = [.str z] ∧ z.length ≤ sizeLine ∧ Q (.int z.length) H) [.v (.str z)] s rs Q := fun Z σ ts H xs R o e k => by
  obtain ⟨x, rfl⟩ : ∃ x, xs = [x] := by match xs, e with | [x], _ => exact ⟨x, rfl⟩
  have o1 : Ok K Z σ (x :: ts) H s (.v (.str z) :: rs) := o
  have := o1.top
  cases this
  exact .inr ⟨z, rfl, h, k _ H s _ (o1.pop.pushV (.int _)) q⟩
theorem opc_abs {i : Int} (q : Q (.v (.int (if i < 0 then -i else i))) s) : OPC ⟨K, ω⟩ (fun xs H Q => ∃ i, xs = [.int i] ∧ Q (.int (if i < 0 then -i else i)) H) [.v (.int i)] s rs Q := fun Z σ ts H xs R o e k => by
  obtain ⟨x, rfl⟩ : ∃ x, xs = [x] := by match xs, e with | [x], _ => exact ⟨x, rfl⟩
  have o1 : Ok K Z σ (x :: ts) H s (.v (.int i) :: rs) := o
  have := o1.top
  cases this
  exact ⟨i, rfl, k _ H s _ (o1.pop.pushV (.int _)) q⟩
theorem opc_intI {i : Int} (q : Q (.v (.int i)) s) : OPC ⟨K, ω⟩ (fun xs H Q => (∃ i, xs = [.int i] ∧ Q (.int i) H) ∨ ∃ k, xs = [.bl k] ∧ Q (.int (if k then 1 else 0)) H) [.v (.int i)] s rs Q := fun Z σ ts H xs R o e k => by
  obtain ⟨x, rfl⟩ : ∃ x, xs = [x] := by match xs, e with | [x], _ => exact ⟨x, rfl⟩
  have o1 : Ok K Z σ (x :: ts) H s (.v (.int i) :: rs) := o
  have := o1.top
  cases this
  exact .inl ⟨i, rfl, k _ H s _ (o1.pop.pushV (.int _)) q⟩
theorem opc_intB {b : Bool} (q : Q (.v (.int (if b then 1 else 0))) s) : OPC ⟨K, ω⟩ (fun xs H Q => (∃ i, xs = [.int i] ∧ Q (.int i) H) ∨ ∃ k, xs = [.bl k] ∧ Q (.int (if k then 1 else 0)) H) [.v (.bool b)] s rs Q := fun Z σ ts H xs R o e k => by
  obtain ⟨x, rfl⟩ : ∃ x, xs = [x] := by match xs, e with | [x], _ => exact ⟨x, rfl⟩
  have o1 : Ok K Z σ (x :: ts) H s (.v (.bool b) :: rs) := o
  have := o1.top
  cases this
  exact .inr ⟨b, rfl, k _ H s _ (o1.pop.pushV (.int _)) q⟩
theorem opc_two {g : Int → Int → Int} {i j : Int} (q : Q (.v (.int (g i j))) s) : OPC ⟨K, ω⟩ (fun xs H Q => ∃ i j, xs = [.int i, .int j] ∧ Q (.int (g i j)) H) [.v (.int i), .v (.int j)] s rs Q := fun Z σ ts H xs R o e k => by
  obtain ⟨x, y, rfl⟩ : ∃ x y, xs = [x, y] := by match xs, e with | [x, y], _ => exact ⟨x, y, rfl⟩
  have o1 : Ok K Z σ (y :: x :: ts) H s (.v (.int j) :: .v (.int i) :: rs) := o
  have h1 := o1.top
  have h2 := o1.pop.top
  cases h1; cases h2
  exact ⟨i, j, rfl, k _ H s _ (o1.pop.pop.pushV (.int _)) q⟩
theorem opc_max2 {i j : Int} (q : Q (.v (.int (if j > i then j else i))) s) : OPC ⟨K, ω⟩ (fun xs H Q => ∃ i j, xs = [.int i, .int j] ∧ Q (.int (if j > i then j else i)) H) [.v (.int i), .v (.int j)] s rs Q := opc_two (g := fun i j => if j > i then j else i) q
theorem opc_min2 {i j : Int} (q : Q (.v (.int (if j < i then j else i))) s) : OPC ⟨K, ω⟩ (fun xs H Q => ∃ i j, xs = [.int i, .int j] ∧ Q (.int (if j < i then j else i)) H) [.v (.int i), .v (.int j)] s rs Q := opc_two (g := fun i j => if j < i then j else i) q
/-- all, any, sum of a list -/
theorem opc_all {bs : List Bool} (h : dat s r = some (.list (bs.map .bool))) (q : Q (.v (.bool (bs.all id))) s) : OPC ⟨K, ω⟩ (rAll K) [r] s rs Q := fun Z σ ts H xs R o e k => by
  obtain ⟨x, rfl⟩ : ∃ x, xs = [x] := by match xs, e with | [x], _ => exact ⟨x, rfl⟩
  have o1 : Ok K Z σ (x :: ts) H s (r :: rs) := o
  obtain ⟨a, ys, rfl, h2, h3⟩ := o1.listTop h
  rw [h3.bools] at h2
  exact ⟨a, bs, rfl, h2, k _ H s _ (o1.pop.pushV (.bl _)) q⟩
theorem opc_any {bs : List Bool} (h : dat s r = some (.list (bs.map .bool))) (q : Q (.v (.bool (bs.any id))) s) : OPC ⟨K, ω⟩ (rAny K) [r] s rs Q := fun Z σ ts H xs R o e k => by
  obtain ⟨x, rfl⟩ : ∃ x, xs = [x] := by match xs, e with | [x], _ => exact ⟨x, rfl⟩
  have o1 : Ok K Z σ (x :: ts) H s (r :: rs) := o
  obtain ⟨a, ys, rfl, h2, h3⟩ := o1.listTop h
  rw [h3.bools] at h2
  exact ⟨a, bs, rfl, h2, k _ H s _ (o1.pop.pushV (.bl _)) q⟩
theorem opc_sum {ns : List Int} (h : dat s r = some (.list (ns.map .int))) (q : Q (.v (.int ns.sum)) s) : OPC ⟨K, ω⟩ (rSum K) [r] s rs Q := fun Z σ ts H xs R o e k => by
  obtain ⟨x, rfl⟩ : ∃ x, xs = [x] := by match xs, e with | [x], _ => exact ⟨x, rfl⟩
  have o1 : Ok K Z σ (x :: ts) H s (r :: rs) := o
  obtain ⟨a, ys, rfl, h2, h3⟩ := o1.listTop h
  rw [h3.ints] at h2
  exact ⟨a, ns, rfl, h2, k _ H s _ (o1.pop.pushV (.int _)) q⟩
/-- list(..): a new list -/
theorem opc_list (h : dat s r = some (.list ds) ∨ dat s r = some (.tuple ds)) (q : Q (.ow none ds) s) : OPC ⟨K, ω⟩ (fun xs H Q => ∃ p ys, xs = [.ref p] ∧ (SqL K H p ys ∨ SqT K H p ys) ∧ ∀ l, H l = none → Q (.ref l) (upd H l (.lst ys))) [r] s rs Q := fun Z σ ts H xs R o e k => by
  obtain ⟨x, rfl⟩ : ∃ x, xs = [x] := by match xs, e with | [x], _ => exact ⟨x, rfl⟩
  have o1 : Ok K Z σ (x :: ts) H s (r :: rs) := o
  rcases h with h | h
  · obtain ⟨a, ys, rfl, h2, h3⟩ := o1.listTop h
    exact ⟨a, ys, rfl, .inl h2, fun l hl => k _ _ s _ (o1.pop.pushO hl h3) q⟩
  · obtain ⟨a, ys, rfl, h2, h3⟩ := o1.tupTop h
    exact ⟨a, ys, rfl, .inr h2, fun l hl => k _ _ s _ (o1.pop.pushO hl h3) q⟩
/-- tuple(list) -/
theorem opc_tuple (h : dat s r = some (.list ds)) (q : Q (.v (.tuple ds)) s) : OPC ⟨K, ω⟩ (fun xs H Q => ∃ p ys, xs = [.ref p] ∧ ((SqL K H p ys ∧ ∀ l, H l = none → Q (.ref l) (upd H l (.tup ys))) ∨ (SqT K H p ys ∧ Q (.ref p) H))) [r] s rs Q := fun Z σ ts H xs R o e k => by
  obtain ⟨x, rfl⟩ : ∃ x, xs = [x] := by match xs, e with | [x], _ => exact ⟨x, rfl⟩
  have o1 : Ok K Z σ (x :: ts) H s (r :: rs) := o
  obtain ⟨a, ys, rfl, h2, h3⟩ := o1.listTop h
  refine ⟨a, ys, rfl, .inl ⟨h2, fun l hl => ?_⟩⟩
  have gr := upd_grow (o := HO.tup ys) hl
  exact k _ _ s _ ((o1.pop.ext gr).pushV (.tup (SqT.of upd_same) (RpA.mono (fun _ _ => rd_ext gr) (fun _ _ q r => ⟨q, rd_ext gr r⟩) _ _ h3))) q
theorem opc_str {i : Int} (h : i.natAbs.log2 < 1920) (q : Q (.v (.str (toString i))) s) : OPC ⟨K, ω⟩ (fun xs H Q => ∃ i, xs = [.int i] ∧ i.natAbs.log2 < 1920 ∧ Q (.str (toString i)) H) [.v (.int i)] s rs Q := fun Z σ ts H xs R o e k => by
  obtain ⟨x, rfl⟩ : ∃ x, xs = [x] := by match xs, e with | [x], _ => exact ⟨x, rfl⟩
  have o1 : Ok K Z σ (x :: ts) H s (.v (.int i) :: rs) := o
  have := o1.top
  cases this
  exact ⟨i, rfl, h, k _ H s _ (o1.pop.pushV (.str _)) q⟩
theorem opc_orL {f g : List V → Hp → VK → Prop} (h : OPC ⟨K, ω⟩ f as s rs Q) : OPC ⟨K, ω⟩ (fun x H Q => f x H Q ∨ g x H Q) as s rs Q := fun Z σ ts H xs R o e k => .inl (h Z σ ts H xs R o e k)
theorem opc_orR {f g : List V → Hp → VK → Prop} (h : OPC ⟨K, ω⟩ g as s rs Q) : OPC ⟨K, ω⟩ (fun x H Q => f x H Q ∨ g x H Q) as s rs Q := fun Z σ ts H xs R o e k => .inr (h Z σ ts H xs R o e k)
/-! slices -/
def DO (κ : KX) (to : TO) (s rs : List SD) (Q : Option Int → List SD → Prop) : Prop := ∀ (Z : ZX κ) σ ts H (R : Option Int → Hp → Prop), Ok κ.fr Z.z σ ts H s rs → (∀ b H' s', Ok κ.fr Z.z σ ts H' s' rs → Q b s' → R b H') → to σ H R
theorem do_none {QO : Option Int → List SD → Prop} (q : QO none s) : DO ⟨K, ω⟩ tNoPart s rs QO := fun Z σ ts H R o k => k none H s o q
theorem do_some {QO : Option Int → List SD → Prop} (h : DE ⟨K, ω⟩ te s rs fun r s1 => ∃ i, r = .v (.int i) ∧ QO (some i) s1) : DO ⟨K, ω⟩ (tPart te) s rs QO := fun Z σ ts H R o k =>
  h Z σ ts H _ o fun x H1 s1 r o1 ⟨i, e1, q⟩ => by
    subst e1
    have := o1.top
    cases this
    exact ⟨i, rfl, k _ H1 s1 o1.pop q⟩
def cutD (ds : List D) (lo hi : Option Int) : List D := (ds.drop (HT.sIx ds.length 0 lo)).take (HT.sIx ds.length ds.length hi - HT.sIx ds.length 0 lo)
theorem RpA.cut {C : Addr → Prop} {H : Hp} {xs : List V} (h : RpA K C H xs ds) (lo hi : Option Int) : RpA K C H (cutV xs lo hi) (cutD ds lo hi) := by
  unfold cutV cutD
  rw [h.length]
  exact (h.drop _).take _
theorem de_slL {tl th : TO} (h : DE ⟨K, ω⟩ te s rs fun r s1 => DO ⟨K, ω⟩ tl s1 (r :: rs) fun lo s2 => DO ⟨K, ω⟩ th s2 (r :: rs) fun hi s3 => ∃ ds, dat s3 r = some (.list ds) ∧ Q (.ow none (cutD ds lo hi)) s3) :
    DE ⟨K, ω⟩ (tSl (fun x lo hi H Q => rSlL K x lo hi H Q ∨ rSlT K x lo hi H Q ∨ rSlS x lo hi H Q) te tl th) s rs Q := fun Z σ ts H R o k =>
  h Z σ ts H _ o fun x H1 s1 r o1 q1 => q1 Z σ _ H1 _ o1 fun lo H2 s2 o2 q2 => q2 Z σ _ H2 _ o2 fun hi H3 s3 o3 ⟨ds, e1, q⟩ => by
    obtain ⟨a, ys, rfl, h2, h3⟩ := o3.listTop e1
    exact .inl ⟨a, ys, rfl, h2, fun p hp => k _ _ s3 _ (o3.pop.pushO hp (h3.cut lo hi)) q⟩
theorem de_slS {tl th : TO} (h : DE ⟨K, ω⟩ te s rs fun r s1 => DO ⟨K, ω⟩ tl s1 (r :: rs) fun lo s2 => DO ⟨K, ω⟩ th s2 (r :: rs) fun hi s3 => ∃ z, r = .v (.str z) ∧ z.length ≤ sizeLine ∧ Q (.v (.str (cutS z lo hi))) s3) :
    DE ⟨K, ω⟩ (tSl (fun x lo hi H Q => rSlL K x lo hi H Q ∨ rSlT K x lo hi H Q ∨ rSlS x lo hi H Q) te tl th) s rs Q := fun Z σ ts H R o k =>
  h Z σ ts H _ o fun x H1 s1 r o1 q1 => q1 Z σ _ H1 _ o1 fun lo H2 s2 o2 q2 => q2 Z σ _ H2 _ o2 fun hi H3 s3 o3 ⟨z, e1, hz, q⟩ => by
    subst e1
    have := o3.top
    cases this
    exact .inr (.inr ⟨z, rfl, hz, k _ _ s3 _ (o3.pop.pushV (.str _)) q⟩)
theorem de_revL (h : DE ⟨K, ω⟩ te s rs fun r s1 => ∃ ds, dat s1 r = some (.list ds) ∧ Q (.ow none ds.reverse) s1) : DE ⟨K, ω⟩ (tRevL K te) s rs Q := fun Z σ ts H R o k =>
  h Z σ ts H _ o fun x H1 s1 r o1 ⟨ds, e1, q⟩ => by
    obtain ⟨a, ys, rfl, h2, h3⟩ := o1.listTop e1
    exact ⟨a, ys, rfl, h2, fun p hp => k _ _ s1 _ (o1.pop.pushO hp h3.reverse) q⟩
/-! lists: +, * -/
theorem Ok.lstTop {Z : Zn} {σ : L2.St} {ts : List V} {H : Hp} {x : V} (o : Ok K Z σ (x :: ts) H s (r :: rs)) (hr : (∃ t, r = SD.ow t ds) ∨ ∃ i t, r = SD.al i ∧ s[i]? = some (SD.ow t ds)) : ∃ a xs, x = .ref a ∧ H a = some (.lst xs) ∧ RpA K (Cl Z (gv σ ts) (gs s rs)) H xs ds := by
  rcases hr with ⟨t, rfl⟩ | ⟨i, t, rfl, hs⟩
  · obtain ⟨a, xs, h1, h2, h3, _⟩ := o.c.ow _ t ds o.topAt.1
    rw [o.topAt.2] at h1
    exact ⟨a, xs, Option.some.inj h1, h2, h3.clean (cl_pop o)⟩
  · obtain ⟨a, xs, h2, h3, h4, h5⟩ := o.ali hs
    exact ⟨a, xs, h3, h4, h5⟩
/-- the value is a list of one's own: its items -/
def ownL (s : List SD) : SD → Option (List D)
  | .own _ (.lst ds) => some ds
  | .al i => match s[i]? with | some (.own _ (.lst ds)) => some ds | _ => none
  | _ => none
theorem ownL_is (h : ownL s r = some ds) : (∃ t, r = SD.ow t ds) ∨ ∃ i t, r = SD.al i ∧ s[i]? = some (SD.ow t ds) := by
  cases r with
  | no => cases h
  | v d => cases h
  | fz d => cases h
  | rf d => cases h
  | gh d => cases h
  | own t es => cases es with
    | lst es => cases h; exact .inl ⟨t, rfl⟩
    | _ => cases h
  | al i =>
    have h : (match s[i]? with | some (.own _ (.lst ds)) => some ds | _ => none) = some ds := h
    split at h
    · rename_i t es hs; cases h; exact .inr ⟨i, t, rfl, hs⟩
    · cases h
theorem op2_cat (h1 : ownL s r1 = some ds) (h2 : ownL s r2 = some es) (hl : ds.length + es.length ≤ 100000) (q : Q (.ow none (ds ++ es)) s) : OP2 ⟨K, ω⟩ rCat r1 r2 s rs Q := fun Z σ ts H x y R o k => by
  obtain ⟨b, zs, rfl, b2, b3⟩ := o.lstTop (ownL_is h2)
  obtain ⟨a, ys, rfl, a2, a3⟩ := o.pop.lstTop (ownL_is h1)
  refine ⟨a, b, ys, zs, rfl, rfl, a2, b2, by rw [a3.length, b3.length]; exact Nat.le_trans hl (by decide), fun p hp => k _ _ s _ (o.pop.pop.pushO hp (a3.append (b3.clean (cl_pop o.pop)))) q⟩
theorem op2_rep {n : Int} (h1 : ownL s r1 = some ds) (h2 : -(2 ^ 63) ≤ n ∧ n < 2 ^ 63) (hl : ds.length * n.toNat ≤ 100000) (q : Q (.ow none (List.replicate n.toNat ds).flatten) s) : OP2 ⟨K, ω⟩ rRep r1 (.v (.int n)) s rs Q := fun Z σ ts H x y R o k => by
  have := o.top
  cases this
  obtain ⟨a, ys, rfl, a2, a3⟩ := o.pop.lstTop (ownL_is h1)
  refine ⟨a, n, ys, rfl, rfl, a2, h2.1, h2.2, by rw [a3.length]; exact Nat.le_trans hl (by decide), fun p hp => k _ _ s _ (o.pop.pop.pushO hp (a3.flatrep _)) q⟩
/-! methods of lists, as statements or values; the list stands at a slot -/
/-- the slot holds a list of one's own -/
def IsLst (s : List SD) (i : Nat) : Prop := ∃ t ds, s[i]? = some (SD.ow t ds)
theorem IsLst.mk {i : Nat} {t : Option Nat} {ds : List D} (h : s[i]? = some (SD.ow t ds)) : IsLst s i := ⟨t, ds, h⟩
theorem Ok.tyL {Z : Zn} {σ : L2.St} {ts : List V} {H : Hp} {x : V} {i : Nat} (o : Ok K Z σ (x :: ts) H s (.al i :: rs)) (hs : IsLst s i) : tyV K "list" x H := by
  obtain ⟨t, ds, hs⟩ := hs
  obtain ⟨a, xs, h2, rfl, h4, h5⟩ := o.ali hs
  exact .inl ⟨rfl, xs, .inl (.inl h4)⟩
/-- a method with arguments that changes the list: f tells what is asked, and how -/
theorem de_meth {f : V → List V → Hp → VK → Prop} (h : DE ⟨K, ω⟩ te s rs fun r0 s1 => ∃ i, r0 = .al i ∧ IsLst s1 i ∧ DA ⟨K, ω⟩ tl s1 (r0 :: rs) fun as s2 => ∀ Z σ ts H x xs (R : VK), Ok K Z σ (xs.reverse ++ (x :: ts)) H s2 (as.reverse ++ (.al i :: rs)) → xs.length = as.length → (∀ z H' s' r, Ok K Z σ (z :: ts) H' s' (r :: rs) → Q r s' → R z H') → f x xs H R) :
    DE ⟨K, ω⟩ (tBM K "list" f te tl) s rs Q := fun Z σ ts H R o k =>
  h Z σ ts H _ o fun x H1 s1 r0 o1 ⟨i, e0, hi, q1⟩ => by
    subst e0
    exact ⟨o1.tyL hi, q1 Z σ _ H1 _ o1 fun xs H2 s2 as o2 e q2 => q2 Z σ ts H2 x xs R o2 e k⟩
theorem de_meth0 {f : V → List V → Hp → VK → Prop} (h : DE ⟨K, ω⟩ te s rs fun r0 s1 => ∃ i, r0 = .al i ∧ IsLst s1 i ∧ ∀ Z σ ts H x (R : VK), Ok K Z σ (x :: ts) H s1 (.al i :: rs) → (∀ z H' s' r, Ok K Z σ (z :: ts) H' s' (r :: rs) → Q r s' → R z H') → f x [] H R) :
    DE ⟨K, ω⟩ (tBM0 K "list" f te) s rs Q := fun Z σ ts H R o k =>
  h Z σ ts H _ o fun x H1 s1 r0 o1 ⟨i, e0, hi, q1⟩ => by
    subst e0
    exact ⟨o1.tyL hi, q1 Z σ ts H1 x R o1 k⟩
theorem de_append (h : DE ⟨K, ω⟩ te s rs fun r0 s1 => ∃ i, r0 = .al i ∧ IsLst s1 i ∧ DA ⟨K, ω⟩ tl s1 (r0 :: rs) fun as s2 => ∃ r d t ds, as = [r] ∧ asD r = some d ∧ s2[i]? = some (SD.ow t ds) ∧ ds.length < 100000 ∧ Q (.v .none) (s2.set i (.ow t (ds ++ [d])))) : DE ⟨K, ω⟩ (tBM K "list" rAppend te tl) s rs Q :=
  de_meth (h.imp fun r0 s1 ⟨i, e0, hi, h⟩ => ⟨i, e0, hi, fun Z σ ts H R o k => h Z σ ts H R o fun xs H' s' as o' e q => k xs H' s' as o' e (by
    obtain ⟨r, d, t, ds, ea, hd, hs, hl, q⟩ := q
    intro Z σ ts H x xs R o e k
    subst ea
    obtain ⟨y, rfl⟩ : ∃ y, xs = [y] := by match xs, e with | [y], _ => exact ⟨y, rfl⟩
    have o1 : Ok K Z σ (y :: x :: ts) H s' (r :: .al i :: rs) := o
    obtain ⟨hy, o2⟩ := o1.popD hd
    obtain ⟨a, ys, h2, rfl, h4, h5⟩ := o2.ali hs
    refine ⟨a, ys, y, rfl, rfl, h4, by rw [h5.length]; exact Nat.lt_of_lt_of_le hl (by decide), ?_⟩
    exact k _ _ _ _ ((o2.pop.mutS hs h2 (h5.append (.cons (hy.clean (cl_pop o2)) .nil))).pushV .non) q)⟩)
theorem de_insert (h : DE ⟨K, ω⟩ te s rs fun r0 s1 => ∃ i, r0 = .al i ∧ IsLst s1 i ∧ DA ⟨K, ω⟩ tl s1 (r0 :: rs) fun as s2 => ∃ k r d t ds, as = [.v (.int k), r] ∧ asD r = some d ∧ s2[i]? = some (SD.ow t ds) ∧ ds.length < 100000 ∧ 0 ≤ k ∧ k < 2 ^ 63 ∧ Q (.v .none) (s2.set i (.ow t (ds.take k.toNat ++ [d] ++ ds.drop k.toNat)))) :
    DE ⟨K, ω⟩ (tBM K "list" (fun x vs H Q => ∃ (l : Addr) (xs : List V) (i : Int) (y : V), x = .ref l ∧ vs = [.int i, y] ∧ H l = some (.lst xs) ∧ xs.length < sizeLine ∧ 0 ≤ i ∧ i < 2 ^ 63 ∧ Q .non (upd H l (.lst (xs.take i.toNat ++ [y] ++ xs.drop i.toNat)))) te tl) s rs Q :=
  de_meth (h.imp fun r0 s1 ⟨i, e0, hi, h⟩ => ⟨i, e0, hi, fun Z σ ts H R o k => h Z σ ts H R o fun xs H' s' as o' e q => k xs H' s' as o' e (by
    obtain ⟨n, r, d, t, ds, ea, hd, hs, hl, n0, n1, q⟩ := q
    intro Z σ ts H x xs R o e k
    subst ea
    obtain ⟨w, y, rfl⟩ : ∃ w y, xs = [w, y] := by match xs, e with | [w, y], _ => exact ⟨w, y, rfl⟩
    have o1 : Ok K Z σ (y :: w :: x :: ts) H s' (r :: .v (.int n) :: .al i :: rs) := o
    obtain ⟨hy, o2⟩ := o1.popD hd
    have hw := o2.top
    cases hw
    obtain ⟨a, ys, h2, rfl, h4, h5⟩ := o2.pop.ali hs
    refine ⟨a, ys, n, y, rfl, rfl, h4, by rw [h5.length]; exact Nat.lt_of_lt_of_le hl (by decide), n0, n1, ?_⟩
    have hy' := (hy.clean (cl_pop o2)).clean (cl_pop o2.pop)
    exact k _ _ _ _ ((o2.pop.pop.mutS hs h2 (((h5.take _).append (.cons hy' .nil)).append (h5.drop _))).pushV .non) q)⟩)
theorem de_pop (h : DE ⟨K, ω⟩ te s rs fun r0 s1 => ∃ i t ds d, r0 = .al i ∧ s1[i]? = some (SD.ow t ds) ∧ ds[ds.length - 1]? = some d ∧ Q (.v d) (s1.set i (.ow t ds.dropLast))) : DE ⟨K, ω⟩ (tBM0 K "list" rPop te) s rs Q :=
  de_meth0 (h.imp fun r0 s1 ⟨i, t, ds, d, e0, hs, hd, q⟩ => ⟨i, e0, .mk hs, fun Z σ ts H x R o k => by
    obtain ⟨a, ys, h2, rfl, h4, h5⟩ := o.ali hs
    obtain ⟨y, hy, hr⟩ := h5.get hd
    refine ⟨a, ys, y, rfl, rfl, h4, by rw [h5.length]; exact hy, ?_⟩
    -- the item stays clean when its list is changed
    have o2 := o.pop.pushV hr
    have h2' : σ[i]? = some (some (.ref a)) := h2
    have o3 := o2.mutS hs h2' ((h5.clean fun b z => cl_pushV o.pop b z).dropLast)
    exact k _ _ _ _ o3 q⟩)
theorem de_popAt (h : DE ⟨K, ω⟩ te s rs fun r0 s1 => ∃ i, r0 = .al i ∧ IsLst s1 i ∧ DA ⟨K, ω⟩ tl s1 (r0 :: rs) fun as s2 => ∃ n k d t ds, as = [.v (.int n)] ∧ s2[i]? = some (SD.ow t ds) ∧ -(2 ^ 63) ≤ n ∧ n < 2 ^ 63 ∧ seqIndex? n ds.length = some k ∧ ds[k]? = some d ∧ Q (.v d) (s2.set i (.ow t (ds.eraseIdx k)))) : DE ⟨K, ω⟩ (tBM K "list" rPopAt te tl) s rs Q :=
  de_meth (h.imp fun r0 s1 ⟨i, e0, hi, h⟩ => ⟨i, e0, hi, fun Z σ ts H R o k => h Z σ ts H R o fun xs H' s' as o' e q => k xs H' s' as o' e (by
    obtain ⟨n, m, d, t, ds, ea, hs, n0, n1, hn, hd, q⟩ := q
    intro Z σ ts H x xs R o e k
    subst ea
    obtain ⟨w, rfl⟩ : ∃ w, xs = [w] := by match xs, e with | [w], _ => exact ⟨w, rfl⟩
    have o2 : Ok K Z σ (w :: x :: ts) H s' (.v (.int n) :: .al i :: rs) := o
    have hw := o2.top
    cases hw
    obtain ⟨a, ys, h2, rfl, h4, h5⟩ := o2.pop.ali hs
    obtain ⟨y, hy, hr⟩ := h5.get hd
    refine ⟨a, ys, n, m, y, rfl, rfl, h4, n0, n1, by rw [h5.length]; exact hn, hy, ?_⟩
    have o3 := o2.pop.pop.pushV hr
    exact k _ _ _ _ (o3.mutS hs h2 ((h5.clean fun b z => cl_pushV o2.pop.pop b z).eraseIdx m)) q)⟩)
theorem de_reverse (h : DE ⟨K, ω⟩ te s rs fun r0 s1 => ∃ i t ds, r0 = .al i ∧ s1[i]? = some (SD.ow t ds) ∧ Q (.v .none) (s1.set i (.ow t ds.reverse))) : DE ⟨K, ω⟩ (tBM0 K "list" rReverse te) s rs Q :=
  de_meth0 (h.imp fun r0 s1 ⟨i, t, ds, e0, hs, q⟩ => ⟨i, e0, .mk hs, fun Z σ ts H x R o k => by
    obtain ⟨a, ys, h2, rfl, h4, h5⟩ := o.ali hs
    exact ⟨a, ys, rfl, rfl, h4, k _ _ _ _ ((o.pop.mutS hs h2 h5.reverse).pushV .non) q⟩⟩)
theorem de_clear (h : DE ⟨K, ω⟩ te s rs fun r0 s1 => ∃ i t ds, r0 = .al i ∧ s1[i]? = some (SD.ow t ds) ∧ Q (.v .none) (s1.set i (.ow t []))) : DE ⟨K, ω⟩ (tBM0 K "list" rClear te) s rs Q :=
  de_meth0 (h.imp fun r0 s1 ⟨i, t, ds, e0, hs, q⟩ => ⟨i, e0, .mk hs, fun Z σ ts H x R o k => by
    obtain ⟨a, ys, h2, rfl, h4, h5⟩ := o.ali hs
    exact ⟨a, ys, rfl, rfl, h4, k _ _ _ _ ((o.pop.mutS hs h2 .nil).pushV .non) q⟩⟩)
/-- an own list of a slot is shared from here on -/
theorem ds_freeze {tS : TS} (i : Nat) (h : s[i]? = some (SD.ow none ds)) (hn : noal rs i = true) (q : DS ⟨K, ω⟩ tS (s.set i (.v (.list ds))) rs D0) : DS ⟨K, ω⟩ tS s rs D0 := fun Z σ ts H E o k1 k2 k3 k4 =>
  q Z σ ts H E (o.freezeS h hn) k1 k2 k3 k4
theorem de_freeze (i : Nat) (h : s[i]? = some (SD.ow none ds)) (hn : noal rs i = true) (q : DE ⟨K, ω⟩ te (s.set i (.v (.list ds))) rs Q) : DE ⟨K, ω⟩ te s rs Q := fun Z σ ts H R o k => q Z σ ts H R (o.freezeS h hn) k
theorem ds_forget {tS : TS} (i : Nat) (hn : noal rs i = true) (q : DS ⟨K, ω⟩ tS (s.set i .no) rs D0) : DS ⟨K, ω⟩ tS s rs D0 := fun Z σ ts H E o k1 k2 k3 k4 => q Z σ ts H E (o.forget hn) k1 k2 k3 k4
end
end W8

/-! W8f: what the printed terms lean on. -/
namespace W8
open PySem L2 RZ PySem.Spec PyProof.Rows

/-- a def of the module, as its callers see it -/
structure Cal (P : Program) (w : World) (K : PySem.W.Frag) (mg : Str → Option Value) (base : Heap) (k : Nat) (x : Str) (ps : List Str) (f : DSp) : Prop where
  ex : ∃ (a : Addr) (fd : FuncData), mg x = some (.ref a) ∧ PySem.W.keepIn K (.ref a) = true ∧ Binds K fd ps [] ∧ FnOk P w K mg base CX0 k a fd ps (fnS K f)
section
variable {X : Cx} {x : Str} {ps : List Str} {f : DSp} {k : Nat} {e : Expr} {es : List Expr} {t : TA} {p pos : Pos}
theorem pe_cal (c : Cal X.prog X.w X.K X.mg X.base k x ps f) (hr : Room k X.A) (hg : Gl X x) (ha : PA X (e :: es) t)
    (hdb : (x == ("__debug__" : Str)) = false := by decide) (he : starEach (e :: es) X.env = (false, eval e X.env) :: starEach es X.env := by rfl) (hpl : (backTo pos (starEach es X.env)).any (·.1) = false := by rfl) : PE X (.Call (.Name x p) (e :: es) [] pos) (tCall (fnS X.K f) [] E0 t) := by
  refine ⟨fun pins s σ H Q I h => ?_⟩
  obtain ⟨a, fd, h1, h2, h3, h4⟩ := c.ex
  exact (pe_call (pos := pos) (p := p) h4 hr hg h1 h2 h3 .nil pass0 ha hdb he hpl).run pins s σ H Q I h
/-- a list or a tuple, walked -/
def iAny (K : PySem.W.Frag) (tl : TE) : TI := fun σ H R => tl σ H fun x H1 => ∃ a, x = .ref a ∧ (((∃ xs, SqL K H1 a xs) ∧ R (Itl K a) H1) ∨ ((∃ xs, SqT K H1 a xs) ∧ R (Itt K a) H1))
theorem pi_any {tg l : Expr} {tl : TE} (hl : PE X l tl) : PI X tg l (iAny X.K tl) := by
  refine ⟨fun pins s σ H R I h => ?_⟩
  refine thn (hl.run pins s σ H _ I h) fun v s1 ⟨x, H1, I1, r1, q1⟩ => ?_
  obtain ⟨a, e, q⟩ := q1
  subst e
  cases r1
  rcases q with ⟨⟨xs, hq⟩, q⟩ | ⟨⟨xs, hq⟩, q⟩
  · obtain ⟨its, rv, p, hz⟩ := I1.list hq
    refine wpAny_pyIter_list p.isList ?_
    refine ⟨s1.heap.objs.size, [s1.heap.objs.size], _, _, H1, rfl, I1.kept (t' := s1.toks) fun b o e => Heap.get?_push_of_some _ e, turn_list a _, ⟨_, Heap.get?_push_size _ rfl, rfl, rfl⟩, fun b hb => ?_, q⟩
    have e : b = s1.heap.objs.size := by simpa using hb
    subst e
    exact I1.fpOk (Nat.le_refl _) (I1.hok.fresh (Nat.le_refl _))
  · obtain ⟨its, rv, p, hz⟩ := I1.tuple hq
    refine wpAny_pyIter_tuple (show s1.heap.IsTuple a its.toArray from p) ?_
    refine ⟨s1.heap.objs.size, [s1.heap.objs.size], _, _, H1, rfl, I1.kept (t' := s1.toks) fun b o e => Heap.get?_push_of_some _ e, turn_tuple a _, ⟨_, Heap.get?_push_size _ rfl, rfl, rfl⟩, fun b hb => ?_, q⟩
    have e : b = s1.heap.objs.size := by simpa using hb
    subst e
    exact I1.fpOk (Nat.le_refl _) (I1.hok.fresh (Nat.le_refl _))
/-- + of ints, lists, texts -/
def rAddA : R2 := fun x y H Q => rI0 (fun i j => .int (i + j)) x y H Q ∨ rCat x y H Q ∨ ∃ i j, x = .str i ∧ y = .str j ∧ i.length + j.length ≤ sizeLine ∧ Q (.str (i ++ j)) H
theorem op_addS : OpR X (binaryOp .Add) rAddA := op_add.or (op_cat.or op_add_str)
end
section
variable {K : PySem.W.Frag} {s rs : List SD} {Q : SD → List SD → Prop} {te : TE} {d : D} {ds es : List D} {r1 r2 : SD} {QI : List D → List SD → (List SD → Prop) → List SD → Prop}
theorem di_anyL (h : DE ⟨K, ω⟩ te s rs fun r s1 => ∃ ds, dat s1 r = some (.list ds) ∧ QI ds [r] (fun s2 => dat s2 r = some (.list ds)) s1) : DI ⟨K, ω⟩ (iAny K te) s rs QI := fun Z σ ts H R o k =>
  h Z σ ts H _ o fun x H1 s1 r o1 ⟨ds, e1, q⟩ => by
    obtain ⟨a, ys, rfl, h2, h3⟩ := o1.listTop e1
    refine ⟨a, rfl, .inl ⟨⟨ys, h2⟩, k _ H1 s1 [r] [.ref a] ds _ o1 rfl (fun σ' H2 s2 tx ax o2 w => ?_) q⟩⟩
    obtain ⟨zs, h4, h5⟩ := Ok.placeL (r := r) (rs := rs) (ts := ts) o2 o.lt w
    exact src_list h4 h5
theorem di_anyT (h : DE ⟨K, ω⟩ te s rs fun r s1 => ∃ ds, r = .v (.tuple ds) ∧ QI ds [r] (fun _ => True) s1) : DI ⟨K, ω⟩ (iAny K te) s rs QI := fun Z σ ts H R o k =>
  h Z σ ts H _ o fun x H1 s1 r o1 ⟨ds, e1, q⟩ => by
    subst e1
    obtain ⟨a, ys, rfl, h2, h3⟩ := o1.tupTop rfl
    refine ⟨a, rfl, .inr ⟨⟨ys, h2⟩, k _ H1 s1 [_] [.ref a] ds _ o1 rfl (fun σ' H2 s2 tx ax o2 w => ?_) q⟩⟩
    obtain ⟨zs, h4, h5⟩ := Ok.placeT (rs := rs) (ts := ts) o2 o.lt
    exact src_tup h4 h5
theorem op2_addI {i j : Int} (q : Q (.v (.int (i + j))) s) : OP2 ⟨K, ω⟩ rAddA (.v (.int i)) (.v (.int j)) s rs Q := op2_orL (op2_int (g := fun i j => i + j) q)
theorem op2_addL (h1 : ownL s r1 = some ds) (h2 : ownL s r2 = some es) (hl : ds.length + es.length ≤ 100000) (q : Q (.ow none (ds ++ es)) s) : OP2 ⟨K, ω⟩ rAddA r1 r2 s rs Q := op2_orR (op2_orL (op2_cat h1 h2 hl q))
theorem op2_addT {a b : Str} (h : a.length + b.length ≤ sizeLine) (q : Q (.v (.str (a ++ b))) s) : OP2 ⟨K, ω⟩ rAddA (.v (.str a)) (.v (.str b)) s rs Q := op2_orR (op2_orR fun Z σ ts H x y R o k => by
  have h1 := o.top
  have h2 := o.pop.top
  cases h1; cases h2
  exact ⟨a, b, rfl, rfl, h, k _ H s _ (o.pop.pop.pushV (.str _)) q⟩)
theorem op2_sub {i j : Int} (q : Q (.v (.int (i - j))) s) : OP2 ⟨K, ω⟩ (rI0 fun i j => .int (i - j)) (.v (.int i)) (.v (.int j)) s rs Q := op2_int (g := fun i j => i - j) q
theorem op2_mulI {i j : Int} (hc : CMulX i j) (q : Q (.v (.int (i * j))) s) : OP2 ⟨K, ω⟩ (fun x y H Q => rI CMulX (fun i j => .int (i * j)) x y H Q ∨ rRep x y H Q) (.v (.int i)) (.v (.int j)) s rs Q := op2_orL (op2_intC (g := fun i j => i * j) hc q)
theorem op2_mulL {n : Int} (h1 : ownL s r1 = some ds) (h2 : -(2 ^ 63) ≤ n ∧ n < 2 ^ 63) (hl : ds.length * n.toNat ≤ 100000) (q : Q (.ow none (List.replicate n.toNat ds).flatten) s) : OP2 ⟨K, ω⟩ (fun x y H Q => rI CMulX (fun i j => .int (i * j)) x y H Q ∨ rRep x y H Q) r1 (.v (.int n)) s rs Q := op2_orR (op2_rep h1 h2 hl q)
theorem op2_fdiv {i j : Int} (hc : CDivX i j) (q : Q (.v (.int (i / j))) s) : OP2 ⟨K, ω⟩ (rI CDivX fun i j => .int (i / j)) (.v (.int i)) (.v (.int j)) s rs Q := op2_intC (g := fun i j => i / j) hc q
theorem op2_mod {i j : Int} (hc : 0 < j) (q : Q (.v (.int (i % j))) s) : OP2 ⟨K, ω⟩ (rI (fun _ j => 0 < j) fun i j => .int (i % j)) (.v (.int i)) (.v (.int j)) s rs Q := op2_intC (C := fun _ j => 0 < j) (g := fun i j => i % j) hc q
theorem op2_pow {i j : Int} (hc : CPow i j) (q : Q (.v (.int (i ^ j.toNat))) s) : OP2 ⟨K, ω⟩ (rI CPow fun i j => .int (i ^ j.toNat)) (.v (.int i)) (.v (.int j)) s rs Q := op2_intC (g := fun i j => i ^ j.toNat) hc q
theorem op2_lt {i j : Int} (q : Q (.v (.bool (decide (i < j)))) s) : OP2 ⟨K, ω⟩ (rI0 fun i j => .bl (decide (i < j))) (.v (.int i)) (.v (.int j)) s rs Q := op2_cmp (g := fun i j => decide (i < j)) q
theorem op2_le {i j : Int} (q : Q (.v (.bool (decide (i ≤ j)))) s) : OP2 ⟨K, ω⟩ (rI0 fun i j => .bl (decide (i ≤ j))) (.v (.int i)) (.v (.int j)) s rs Q := op2_cmp (g := fun i j => decide (i ≤ j)) q
theorem op2_gt {i j : Int} (q : Q (.v (.bool (decide (j < i)))) s) : OP2 ⟨K, ω⟩ (rI0 fun i j => .bl (decide (j < i))) (.v (.int i)) (.v (.int j)) s rs Q := op2_cmp (g := fun i j => decide (j < i)) q
theorem op2_ge {i j : Int} (q : Q (.v (.bool (decide (j ≤ i)))) s) : OP2 ⟨K, ω⟩ (rI0 fun i j => .bl (decide (j ≤ i))) (.v (.int i)) (.v (.int j)) s rs Q := op2_cmp (g := fun i j => decide (j ≤ i)) q
theorem op1_neg {i : Int} (q : Q (.v (.int (-i))) s) : OP1 ⟨K, ω⟩ (rU fun i => .int (-i)) (.v (.int i)) s rs Q := op1_int (g := fun i => -i) q
theorem ite_dec {p : Prop} [Decidable p] {A B : Prop} (h1 : p → A) (h2 : ¬ p → B) : if decide p = true then A else B := by
  by_cases h : p
  · rw [if_pos (decide_eq_true h)]; exact h1 h
  · rw [if_neg (by rw [decide_eq_false h]; exact Bool.false_ne_true)]; exact h2 h
theorem ite_b {b : Bool} {A B : Prop} (h1 : b = true → A) (h2 : b = false → B) : if b = true then A else B := by
  cases b with
  | true => rw [if_pos rfl]; exact h1 rfl
  | false => rw [if_neg Bool.false_ne_true]; exact h2 rfl
/-- a < b < c -/
theorem de_chain {f g : R2} {ta tb tc : TE} (h : DE ⟨K, ω⟩ ta s rs fun r1 s1 => DE ⟨K, ω⟩ tb s1 (r1 :: rs) fun r2 s2 => ∃ i j, r1 = .v (.int i) ∧ r2 = .v (.int j) ∧ OP2 ⟨K, ω⟩ f (.v (.int i)) (.v (.int j)) s2 rs fun r3 s3 => ∃ b, r3 = .v (.bool b) ∧
    if b = true then DE ⟨K, ω⟩ tc s3 (.v (.int j) :: rs) fun r4 s4 => OP2 ⟨K, ω⟩ g (.v (.int j)) r4 s4 rs Q else Q (.v (.bool false)) s3) : DE ⟨K, ω⟩ (tChain f g ta tb tc) s rs Q := fun Z σ ts H R o k =>
  h Z σ ts H _ o fun x H1 s1 r1 o1 q1 => q1 Z σ _ H1 _ o1 fun y H2 s2 r2 o2 ⟨i, j, e1, e2, q2⟩ => by
    subst e1 e2
    have hy := o2.top
    cases hy
    refine q2 Z σ ts H2 x _ _ o2 fun z H3 s3 r3 o3 ⟨b, e3, q3⟩ => ?_
    subst e3
    have hz := o3.top
    cases hz
    refine ⟨b, rfl, ?_⟩
    cases b with
    | true =>
      rw [if_pos rfl] at q3 ⊢
      exact q3 Z σ _ H3 _ (o3.pop.pushV (.int j)) fun w H4 s4 r4 o4 q4 => q4 Z σ ts H4 _ w R o4 k
    | false => rw [if_neg (by decide)] at q3 ⊢; exact k _ H3 s3 _ (o3.pop.pushV (.bl false)) q3
end
end W8

/-! W8g: forms that the walk's rows use; bounds of numbers. -/
namespace W8
open PySem L2 RZ
section
variable {K : PySem.W.Frag} {s rs as : List SD} {Q : SD → List SD → Prop} {QS : List SD → Prop} {te ta tb : TE} {tl : TA} {d e : D} {ds es : List D} {r r1 r2 : SD} {D0 : DEn} {tS uS : TS} {g : TG} {i j : Nat}
theorem dg_nameB (hi : Nat.ble (i + 1) s.length = true) (hr : storable r = true) (ha : noal rs i = true) (q : QS (s.set i r)) : DG ⟨K, ω⟩ (gName i) r s rs QS := dg_name (Nat.le_of_ble_eq_true hi) hr ha q
theorem parB {QQ : List SD → Prop} {s1 : List SD} (hij : Nat.beq i j = false) (hi : Nat.ble (i + 1) s1.length = true) (hj : Nat.ble (j + 1) s1.length = true) (h1 : storable r1 = true) (h2 : storable r2 = true) (n1 : noal rs i = true) (n2 : noal rs j = true) (q : QQ ((s1.set j r2).set i r1)) :
    ∃ a b, [r1, r2] = [a, b] ∧ i ≠ j ∧ i < s1.length ∧ j < s1.length ∧ storable a = true ∧ storable b = true ∧ noal rs i = true ∧ noal rs j = true ∧ QQ ((s1.set j b).set i a) :=
  ⟨r1, r2, rfl, fun e => by subst e; simp at hij, Nat.le_of_ble_eq_true hi, Nat.le_of_ble_eq_true hj, h1, h2, n1, n2, q⟩
theorem par3B {QQ : List SD → Prop} {s1 : List SD} {l : Nat} {r3 : SD} (hij : Nat.beq i j = false) (hil : Nat.beq i l = false) (hjl : Nat.beq j l = false) (hi : Nat.ble (i + 1) s1.length = true) (hj : Nat.ble (j + 1) s1.length = true) (hl : Nat.ble (l + 1) s1.length = true) (h1 : storable r1 = true) (h2 : storable r2 = true) (h3 : storable r3 = true) (n1 : noal rs i = true) (n2 : noal rs j = true) (n3 : noal rs l = true)
    (q : QQ (((s1.set l r3).set j r2).set i r1)) :
    ∃ a b c, [r1, r2, r3] = [a, b, c] ∧ (i ≠ j ∧ i ≠ l ∧ j ≠ l) ∧ (i < s1.length ∧ j < s1.length ∧ l < s1.length) ∧ (storable a = true ∧ storable b = true ∧ storable c = true) ∧ (noal rs i = true ∧ noal rs j = true ∧ noal rs l = true) ∧ QQ (((s1.set l c).set j b).set i a) :=
  ⟨r1, r2, r3, rfl, ⟨fun e => by subst e; simp at hij, fun e => by subst e; simp at hil, fun e => by subst e; simp at hjl⟩, ⟨Nat.le_of_ble_eq_true hi, Nat.le_of_ble_eq_true hj, Nat.le_of_ble_eq_true hl⟩, ⟨h1, h2, h3⟩, ⟨n1, n2, n3⟩, q⟩
theorem dispB {QQ : List D → Prop} (h : asDs as = some ds) (hl : Nat.ble ds.length 100000 = true) (q : QQ ds) : ∃ ds, asDs as = some ds ∧ ds.length ≤ 100000 ∧ QQ ds := ⟨ds, h, Nat.le_of_ble_eq_true hl, q⟩
theorem callB {f : DSp} {QQ : SD → List SD → Prop} (hn : decide (lents as).Nodup = true) (q : f (entry s as 0) fun r as' => ∃ s2, after s as as' = some s2 ∧ QQ r s2) : (lents as).Nodup ∧ f (entry s as 0) fun r as' => ∃ s2, after s as as' = some s2 ∧ QQ r s2 := ⟨of_decide_eq_true hn, q⟩
end
section
variable {K : PySem.W.Frag} {s rs as : List SD} {Q : SD → List SD → Prop} {te : TE} {wi : TI} {r : SD}
/-- [f(x) for x in ..], nothing else done -/
theorem de_lcM {i : Nat} (f : D → D) (h : DI ⟨K, ω⟩ wi s rs fun its as W s1 => noal as i = true ∧ noal rs i = true ∧ i < s1.length ∧ W (s1.set i .no) ∧ its.length ≤ 100000 ∧
    (∀ d ∈ its, ∀ acc, DE ⟨K, ω⟩ te (s1.set i (.v d)) (.ow none acc :: (as ++ rs)) fun r s4 => ∃ e, asD r = some e ∧ e = f d ∧ s4.set i .no = s1.set i .no) ∧ Q (.ow none (its.map f)) (s1.set i .no)) : DE ⟨K, ω⟩ (tLc wi (gName i) tYes te [i]) s rs Q := by
  refine de_lc (gw_name List.mem_cons_self) fun Z σ ts H R o k => h Z σ ts H R o fun J H' s1 as xs its W o' e hW ⟨n1, n2, hi, hw, hl, hs, q⟩ => k J H' s1 as xs its W o' e hW ?_
  have e0 : ∀ s : List SD, wipeS s [i] = s.set i .no := fun s => rfl
  refine ⟨fun k s' acc => s' = s1.set i .no ∧ acc = (its.take k).map f, fun j hj => ?_, ⟨e0 s1, by simp⟩, ?_, hl, ?_, ?_⟩
  · obtain rfl : j = i := by simpa using hj
    exact ⟨n1, n2⟩
  · rintro k s' acc _ ⟨rfl, _⟩; exact hw
  · rintro k d s' acc hd _ ⟨rfl, rfl⟩
    refine dg_name (by simpa using hi) rfl ?_ ?_
    · unfold noal at n1 n2 ⊢
      rw [List.all_cons, List.all_append, n1, n2]; rfl
    · refine dt_yes (iteT ?_)
      rw [List.set_set]
      refine (hs d (List.mem_of_getElem? hd) _).imp fun r s4 ⟨e, h1, h2, h3⟩ => ⟨e, h1, by rw [e0, h3], ?_⟩
      rw [h2, List.take_succ, hd, List.map_append]; rfl
  · rintro s' acc ⟨rfl, rfl⟩
    rw [List.take_length, e0, List.set_set]
    exact q
theorem opc_anyM {its : List D} {g : D → Bool} (h : dat s r = some (.list (its.map fun d => .bool (g d)))) (q : Q (.v (.bool (its.any g))) s) : OPC ⟨K, ω⟩ (rAny K) [r] s rs Q :=
  opc_any (bs := its.map g) (by rw [h, List.map_map]; rfl) (by rw [List.any_map]; exact q)
theorem opc_allM {its : List D} {g : D → Bool} (h : dat s r = some (.list (its.map fun d => .bool (g d)))) (q : Q (.v (.bool (its.all g))) s) : OPC ⟨K, ω⟩ (rAll K) [r] s rs Q :=
  opc_all (bs := its.map g) (by rw [h, List.map_map]; rfl) (by rw [List.all_map]; exact q)
end
theorem iteTR {b : Bool} {A B : Prop} (h : b = true) (x : A) : if b = true then A else B := by rw [if_pos h]; exact x
theorem iteFR {b : Bool} {A B : Prop} (h : b = false) (x : B) : if b = true then A else B := by rw [h, if_neg Bool.false_ne_true]; exact x
theorem op2_eqI {K : PySem.W.Frag} {s rs : List SD} {Q : SD → List SD → Prop} {i j : Int} (q : Q (.v (.bool (decide (i = j)))) s) : OP2 ⟨K, ω⟩ (rEqD K) (.v (.int i)) (.v (.int j)) s rs Q := op2_eq (d := .int i) (e := .int j) rfl rfl rfl rfl q
theorem op2_neI {K : PySem.W.Frag} {s rs : List SD} {Q : SD → List SD → Prop} {i j : Int} (q : Q (.v (.bool (!decide (i = j)))) s) : OP2 ⟨K, ω⟩ (rNeD K) (.v (.int i)) (.v (.int j)) s rs Q := op2_ne (d := .int i) (e := .int j) rfl rfl rfl rfl q
theorem ite_ndec {p : Prop} [Decidable p] {A B : Prop} (h1 : ¬ p → A) (h2 : p → B) : if (!decide p) = true then A else B := by
  by_cases h : p
  · rw [decide_eq_true h, if_neg (by decide)]; exact h2 h
  · rw [decide_eq_false h, if_pos (by decide)]; exact h1 h
theorem ite_nb {b : Bool} {A B : Prop} (h1 : b = false → A) (h2 : b = true → B) : if (!b) = true then A else B := by
  cases b with
  | false => rw [if_pos (by rfl)]; exact h1 rfl
  | true => rw [if_neg (by decide)]; exact h2 rfl
theorem atI_menu {α : Type} {xs : List α} {i : Int} (h0 : 0 ≤ i) (h : i < (xs.length : Int)) : ∃ d, atI xs i = some d ∧ d ∈ xs := by
  obtain ⟨j, rfl⟩ := Int.eq_ofNat_of_zero_le h0
  have hj : j < xs.length := by omega
  exact ⟨xs[j], atI_nat (by simp [hj]), List.getElem_mem hj⟩
theorem bt_len : bootBuiltins "len" = some (.builtin "len") := by decide +kernel
theorem bt_abs : bootBuiltins "abs" = some (.builtin "abs") := by decide +kernel
theorem bt_all : bootBuiltins "all" = some (.builtin "all") := by decide +kernel
theorem bt_any : bootBuiltins "any" = some (.builtin "any") := by decide +kernel
theorem bt_sum : bootBuiltins "sum" = some (.builtin "sum") := by decide +kernel
theorem bt_sorted : bootBuiltins "sorted" = some (.builtin "sorted") := by decide +kernel
theorem bt_isinstance : bootBuiltins "isinstance" = some (.builtin "isinstance") := by decide +kernel
theorem bt_max : bootBuiltins "max" = some (.builtin "max") := by decide +kernel
theorem bt_min : bootBuiltins "min" = some (.builtin "min") := by decide +kernel
theorem bt_repr : bootBuiltins "repr" = some (.builtin "repr") := by decide +kernel
theorem bt_int : bootBuiltins "int" = some (.type "int") := by decide +kernel
theorem bt_list : bootBuiltins "list" = some (.type "list") := by decide +kernel
theorem bt_tuple : bootBuiltins "tuple" = some (.type "tuple") := by decide +kernel
theorem bt_str : bootBuiltins "str" = some (.type "str") := by decide +kernel
theorem bt_bool : bootBuiltins "bool" = some (.type "bool") := by decide +kernel
theorem bt_dict : bootBuiltins "dict" = some (.type "dict") := by decide +kernel
theorem bt_set : bootBuiltins "set" = some (.type "set") := by decide +kernel
/-! ### bounds -/
def Bd (n : Nat) (i : Int) : Prop := i.natAbs < 2 ^ n
theorem Bd.mono {m n : Nat} {i : Int} (h : Bd m i) (e : m ≤ n) : Bd n i := Nat.lt_of_lt_of_le h (Nat.pow_le_pow_right (by decide) e)
theorem Bd.mul {m n : Nat} {i j : Int} (h : Bd m i) (h' : Bd n j) : Bd (m + n) (i * j) := wide_lt h h'
theorem Bd.neg {n : Nat} {i : Int} (h : Bd n i) : Bd n (-i) := by unfold Bd; rw [Int.natAbs_neg]; exact h
theorem Bd.abs {n : Nat} {i : Int} (h : Bd n i) : Bd n (if i < 0 then -i else i) := by split; exact h.neg; exact h
theorem Bd.add {m n : Nat} {i j : Int} (h : Bd m i) (h' : Bd n j) : Bd (max m n + 1) (i + j) := by
  have h1 := h.mono (Nat.le_max_left m n)
  have h2 := h'.mono (Nat.le_max_right m n)
  unfold Bd at *
  rw [Nat.pow_succ]
  have := Int.natAbs_add_le i j
  omega
theorem Bd.sub {m n : Nat} {i j : Int} (h : Bd m i) (h' : Bd n j) : Bd (max m n + 1) (i - j) := by
  rw [Int.sub_eq_add_neg]; exact h.add h'.neg
theorem Bd.mulX {m n : Nat} {i j : Int} (h : Bd m i) (h' : Bd n j) (e : m + n + 2 ≤ 1000000) : CMulX i j := .inr (wide_mul (h.mono (Nat.le_succ m)) (h'.mono (Nat.le_succ n)) (Nat.succ_pos _) (Nat.succ_pos _) (by omega))
theorem Bd.divX {m : Nat} {i j : Int} (h : Bd m j) (h0 : 0 < j) (e : m + 1 ≤ 9000) : CDivX i j := .inr (wide_div h0 (h.mono (Nat.le_succ m)) (Nat.succ_pos _) e)
theorem Bd.of {n : Nat} {i : Int} (h1 : -(2 ^ n : Int) < i) (h2 : i < 2 ^ n) : Bd n i := by
  unfold Bd
  have : ((2 ^ n : Nat) : Int) = (2 : Int) ^ n := by simp
  omega
theorem Bd.le {n : Nat} {i j : Int} (h : Bd n j) (h0 : 0 ≤ i) (e : i ≤ j) : Bd n i := wide_le h0 e h
theorem CMulX.small {i j : Int} (h : -(2 ^ 64) < j ∧ j < 2 ^ 64) : CMulX i j := .inl (.inr h)
theorem CMulX.smallL {i j : Int} (h : -(2 ^ 64) < i ∧ i < 2 ^ 64) : CMulX i j := .inl (.inl h)
theorem CDivX.small {i j : Int} (h : 0 < j ∧ j < 1073741824) : CDivX i j := .inl h
end W8

/-! W8h: the rules with the written part said. -/
namespace W8
open PySem L2 RZ PySem.Spec PyProof.Rows
section
variable {X : Cx} (K : PySem.W.Frag)
theorem k_eqD (hk : X.K = K) (hu : X.A.units + 64 < cLine) : OpR X (compareOp .Eq) (rEqD K) := by subst hk; exact op_eqD hu
theorem k_neD (hk : X.K = K) (hu : X.A.units + 64 < cLine) : OpR X (compareOp .NotEq) (rNeD K) := by subst hk; exact op_neD hu
theorem k_ix (hk : X.K = K) : IxR X (rIx K) := by subst hk; exact ix_seq
theorem k_len (hk : X.K = K) : CallR X (.builtin "len") (fun xs H Q => (∃ p ys, xs = [.ref p] ∧ (SqL K H p ys ∨ SqT K H p ys) ∧ Q (.int ys.length) H) ∨ ∃ z, xs = [.str z] ∧ z.length ≤ sizeLine ∧ Q (.int z.length) H) := by subst hk; exact call_lenA
theorem k_sl (hk : X.K = K) : SlR X (fun x lo hi H Q => rSlL K x lo hi H Q ∨ rSlT K x lo hi H Q ∨ rSlS x lo hi H Q) := by subst hk; exact sl_any
theorem k_isi (hk : X.K = K) : CallR X (.builtin "isinstance") (rIsi K) := by subst hk; exact call_isi
theorem k_isiT (hk : X.K = K) : CallR X (.builtin "isinstance") (rIsiT K) := by subst hk; exact call_isiT
theorem k_all (hk : X.K = K) (hc : X.calm = true) : CallR X (.builtin "all") (rAll K) := by subst hk; exact cr_all hc
theorem k_any (hk : X.K = K) (hc : X.calm = true) : CallR X (.builtin "any") (rAny K) := by subst hk; exact cr_any hc
theorem k_sum (hk : X.K = K) (hc : X.calm = true) : CallR X (.builtin "sum") (rSum K) := by subst hk; exact cr_sum hc
theorem k_list (hk : X.K = K) : CallR X (.type "list") (fun xs H Q => ∃ p ys, xs = [.ref p] ∧ (SqL K H p ys ∨ SqT K H p ys) ∧ ∀ l, H l = none → Q (.ref l) (upd H l (.lst ys))) := by subst hk; exact call_list_of
theorem k_tuple (hk : X.K = K) : CallR X (.type "tuple") (fun xs H Q => ∃ p ys, xs = [.ref p] ∧ ((SqL K H p ys ∧ ∀ l, H l = none → Q (.ref l) (upd H l (.tup ys))) ∨ (SqT K H p ys ∧ Q (.ref p) H))) := by subst hk; exact call_tuple_of
variable {x : Str} {ps : List Str} {f : DSp} {k : Nat} {e o : Expr} {es : List Expr} {t : TA} {p pos apos cpos tpos : Pos} {to : TE} {name : Str} {T id : String} {r : V → List V → Hp → VK → Prop}
theorem k_cal (hk : X.K = K) (c : Cal X.prog X.w K X.mg X.base k x ps f) (hr : Room k X.A) (hg : Gl X x) (ha : PA X (e :: es) t)
    (hdb : (x == ("__debug__" : Str)) = false := by decide) (he : starEach (e :: es) X.env = (false, eval e X.env) :: starEach es X.env := by rfl) (hpl : (backTo pos (starEach es X.env)).any (·.1) = false := by rfl) : PE X (.Call (.Name x p) (e :: es) [] pos) (tCall (fnS K f) [] E0 t) := by
  subst hk; exact pe_cal c hr hg ha hdb he hpl
theorem k_bm0 (hk : X.K = K) (pa : PlainAttrs T) (slot : Slot T name id) (hty : typeOf (.builtin id) = pure (.type "method_descriptor")) (hm : MtR X id r) (ho : PE X o to)
    (hbase : attributeBase o name X.env (eval o X.env) = eval o X.env := by rfl) (hline : (apos.endLine == cpos.line) = true := by rfl) : PE X (.Call (.Attribute o name apos) [] [] cpos) (tBM0 K T r to) := by
  subst hk; exact pe_bm0 pa slot hty hm ho hbase hline
theorem k_bm (hk : X.K = K) (pa : PlainAttrs T) (slot : Slot T name id) (hty : typeOf (.builtin id) = pure (.type "method_descriptor")) (hm : MtR X id r) (ho : PE X o to) (ha : PA X (e :: es) t)
    (hbase : attributeBase o name X.env (eval o X.env) = eval o X.env := by rfl)
    (hfew : ((backTo cpos (starEach (e :: es) X.env)).all (fun x => !x.1) && (backToKw cpos (keywordEach [] X.env)).all (fun x => x.1.isSome)
      && decide ((e :: es).length + ([] : List Keyword).length + (if ([] : List Keyword).isEmpty then 0 else 1) < 30)) = true := by rfl)
    (hline : (apos.endLine == cpos.line) = true := by rfl) (hs : starEach (e :: es) X.env = (false, eval e X.env) :: starEach es X.env := by rfl) (hplain : (backTo cpos (starEach es X.env)).any (·.1) = false := by rfl) :
    PE X (.Call (.Attribute o name apos) (e :: es) [] cpos) (tBM K T r to t) := by
  subst hk; exact pe_bm pa slot hty hm ho ha hbase hfew hline hs hplain
theorem k_gtup (hk : X.K = K) {es : List Expr} {k : Nat} {t : TGs} {n : Nat} (hc : X.calm = true) (h : PGs X es t)
    (hn : (assignEach es X.env).length = n := by rfl) (hst : (assignEach es X.env).findIdx? (·.1) = none := by rfl) : PG X (.Tuple es k pos) (gTup K n t) := by
  subst hk; exact pg_tup hc h hn hst
theorem k_iany (hk : X.K = K) {tg l : Expr} {tl : TE} (hl : PE X l tl) : PI X tg l (iAny K tl) := by subst hk; exact pi_any hl
theorem k_enum (hk : X.K = K) {e : Expr} {ta : TA} {elts : List Expr} {kk : Nat} (hg : Gl X "enumerate") (hm : X.mg "enumerate" = none) (ha : PA X [e] ta) (hs : starEach [e] X.env = [(false, eval e X.env)] := by rfl) :
    PI X (.Tuple elts kk tpos) (.Call (.Name "enumerate" p) [e] [] pos) (iEnum K ta) := by subst hk; exact pi_enum hg hm ha hs
theorem k_zip (hk : X.K = K) {e e2 : Expr} {ta : TA} {elts : List Expr} {kk : Nat} (hg : Gl X "zip") (hm : X.mg "zip" = none) (ha : PA X [e, e2] ta)
    (hs : starEach [e, e2] X.env = (false, eval e X.env) :: starEach [e2] X.env := by rfl) (hpl : (backTo pos (starEach [e2] X.env)).any (·.1) = false := by rfl) :
    PI X (.Tuple elts kk tpos) (.Call (.Name "zip" p) [e, e2] [] pos) (iZipA K ta) := by subst hk; exact pi_zipA hg hm ha hs hpl
theorem k_revL (hk : X.K = K) {e : Expr} {te : TE} {k : Nat} {p1 p2 p3 : Pos} (he : PE X e te) : PE X (.Subscript e (.Slice none none (some (.UnaryOp .USub (.Constant (.int 1) k p1) p2)) p3) pos) (tRevL K te) := by subst hk; exact pe_revL he
end
theorem iteTr {A B : Prop} {d : Decidable True} (x : A) : @ite Prop True d A B := by rw [if_pos trivial]; exact x
theorem iteFa {A B : Prop} {d : Decidable False} (x : B) : @ite Prop False d A B := by rw [if_neg id]; exact x
end W8

/-! W8i: the law's promise at the heap behind the top. -/
namespace W8
open PySem L2
section
variable {K : PySem.W.Frag} {H : Hp} {a : Addr} {ns : List Int}
theorem rpa_ints {C : Addr → Prop} : ∀ ns : List Int, RpA K C H (ns.map V.int) (ns.map PyData.int)
  | [] => .nil
  | n :: ns => .cons (.int n) (rpa_ints ns)
theorem ok_script (hS : SqL K H a (ns.map V.int)) : Ok K ⟨H, [], fun b => b = a⟩ [some (.ref a)] [] H [.v (.list (ns.map .int))] [] := by
  have g0 : ∀ p q, gs [.v (.list (ns.map PyData.int))] [] p = some q → p = .inl 0 ∧ q = .v (.list (ns.map PyData.int)) := by
    intro p q e
    cases p with
    | inl i =>
      cases i with
      | zero => exact ⟨rfl, (Option.some.inj e).symm⟩
      | succ i => exact absurd e (by show ¬ ([.v (.list (ns.map PyData.int))] : List SD)[i + 1]? = some q; simp)
    | inr i => exact absurd e (by show ¬ gT ([] : List SD) i = some q; simp [gT])
  refine ⟨rfl, rfl, ⟨fun _ _ _ h => h, fun _ h => h, fun _ h => (nomatch h), ?_, ?_, ?_, ?_, fun p kds e => (by have := (g0 _ _ e).2; cases this), fun p a e => (by have := (g0 _ _ e).2; cases this), fun p G e => (by have := (g0 _ _ e).2; cases this), fun p q G G' e _ => (by have := (g0 _ _ e).2; cases this), fun p G q t ds a e _ _ => (by have := (g0 _ _ e).2; cases this)⟩, ?_⟩
  · intro p d e
    obtain ⟨rfl, e2⟩ := g0 _ _ e
    injection e2 with e2
    subst e2
    refine ⟨.ref a, rfl, ?_⟩
    have nO : ∀ b, ¬ Own (gv [some (.ref a)] []) (gs [.v (.list (ns.map PyData.int))] []) b := fun b z => by
      rcases z with ⟨p, t, ds, e, _⟩ | ⟨p, G, e, _⟩ <;> (have := (g0 _ _ e).2; cases this)
    rcases hS with h | h
    · exact .lst ⟨.inl rfl, nO _⟩ h (rpa_ints ns)
    · exact .lstK h (rpa_ints ns)
  · intro p t ds e; have := (g0 _ _ e).2; cases this
  · intro p q t ds u es b e; have := (g0 _ _ e).2; cases this
  · intro p i e; have := (g0 _ _ e).2; cases this
  · intro i j e
    have := (g0 (.inl i) _ e).2
    cases this
theorem fnS_law {f : DSp} {E : XK} (hf : f [.v (.list (ns.map .int))] (fun r _ => r = .v (.bool true))) (hS : SqL K H a (ns.map V.int)) : fnS K f [.ref a] H (fun v _ => v = .bl true) E := by
  refine ⟨⟨H, [], fun b => b = a⟩, _, _, rfl, fun _ h => (nomatch h), ok_script hS, hf, fun r as' x H' o _ e => ?_⟩
  subst e
  have := o.top
  cases this
  rfl
/-- a tuple among the module's names -/
theorem rp_constT {a : Addr} {od : Option Addr} {its : Array Value} {n : Nat} {sl : Array (Option Value)} {xs : List V} {ds : List D} (l : K.lookup a = some ⟨.type "tuple", od, .seq its n, sl⟩) (hs : its.size ≤ sizeLine) (v : Vals xs its.toList) (r : ∀ C H, RpA K C H xs ds) : ∀ C H, Rp K C H (.ref a) (.tuple ds) :=
  fun C H => .tup (.inr ⟨_, its, n, l, rfl, rfl, hs, v⟩) (r C H)
theorem de_cstK {s rs : List SD} {Q : SD → List SD → Prop} {v : V} {d : D} (h : ∀ C H, Rp K C H v d) (q : Q (.v d) s) : DE ⟨K, ω⟩ (tC v) s rs Q := fun Z σ ts H R o k =>
  k v H s (.v d) (o.pushV (h _ _)) q
/-- [f(x) for x in .. if p(x)], nothing else done -/
theorem de_lcF {s rs : List SD} {Q : SD → List SD → Prop} {te : TE} {wi : TI} {tt : TT} {i : Nat} (f : D → D) (p : D → Bool) (h : DI ⟨K, ω⟩ wi s rs fun its as W s1 => noal as i = true ∧ noal rs i = true ∧ i < s1.length ∧ W (s1.set i .no) ∧ its.length ≤ 100000 ∧
    (∀ d ∈ its, ∀ acc, DT ⟨K, ω⟩ tt (s1.set i (.v d)) (.ow none acc :: (as ++ rs)) fun b s3 => b = p d ∧ s3 = s1.set i (.v d)) ∧
    (∀ d ∈ its, p d = true → ∀ acc, DE ⟨K, ω⟩ te (s1.set i (.v d)) (.ow none acc :: (as ++ rs)) fun r s4 => ∃ e, asD r = some e ∧ e = f d ∧ s4.set i .no = s1.set i .no) ∧ Q (.ow none ((its.filter p).map f)) (s1.set i .no)) : DE ⟨K, ω⟩ (tLc wi (gName i) tt te [i]) s rs Q := by
  refine de_lc (gw_name List.mem_cons_self) fun Z σ ts H R o k => h Z σ ts H R o fun J H' s1 as xs its W o' e hW ⟨n1, n2, hi, hw, hl, ht, hs, q⟩ => k J H' s1 as xs its W o' e hW ?_
  have e0 : ∀ s : List SD, wipeS s [i] = s.set i .no := fun s => rfl
  refine ⟨fun k s' acc => s' = s1.set i .no ∧ acc = ((its.take k).filter p).map f, fun j hj => ?_, ⟨e0 s1, by simp⟩, ?_, hl, ?_, ?_⟩
  · obtain rfl : j = i := by simpa using hj
    exact ⟨n1, n2⟩
  · rintro k s' acc _ ⟨rfl, _⟩; exact hw
  · rintro k d s' acc hd _ ⟨rfl, rfl⟩
    refine dg_name (by simpa using hi) rfl ?_ ?_
    · unfold noal at n1 n2 ⊢
      rw [List.all_cons, List.all_append, n1, n2]; rfl
    · rw [List.set_set]
      refine (ht d (List.mem_of_getElem? hd) _).imp ?_
      rintro b s3 ⟨rfl, rfl⟩
      have et : (its.take (k + 1)).filter p = (its.take k).filter p ++ [d].filter p := by rw [List.take_succ, hd, List.filter_append]; rfl
      by_cases hp : p d = true
      · rw [if_pos hp]
        refine (hs d (List.mem_of_getElem? hd) hp _).imp fun r s4 ⟨e, h1, h2, h3⟩ => ⟨e, h1, by rw [e0, h3], ?_⟩
        rw [h2, et, List.map_append, List.filter_cons, if_pos hp]; rfl
      · rw [if_neg hp]
        refine ⟨by rw [e0, List.set_set], ?_⟩
        rw [et, List.filter_cons, if_neg hp]; simp
  · rintro s' acc ⟨rfl, rfl⟩
    rw [List.take_length, e0, List.set_set]
    exact q
end
end W8

/-! W8j: comprehensions over any items. -/
namespace W8
open PySem L2 RZ
section
variable {K : PySem.W.Frag} {s rs as : List SD} {Q : SD → List SD → Prop} {te : TE} {wi : TI} {tt : TT} {g : TG} {vs : List Nat} {r : SD}
/-- [f(x) for x in .. if p(x)] with any target, nothing else done -/
theorem de_lcG {α : Type} (hg : GW g vs) (xs : List α) (u : α → D) (p : α → Bool) (f : α → D) (h : DI ⟨K, ω⟩ wi s rs fun its as W s1 => its = xs.map u ∧ (∀ i ∈ vs, noal as i = true ∧ noal rs i = true) ∧ W (wipeS s1 vs) ∧ its.length ≤ 100000 ∧
    (∀ x ∈ xs, ∀ acc, DG ⟨K, ω⟩ g (.v (u x)) (wipeS s1 vs) (.ow none acc :: (as ++ rs)) fun s2 => DT ⟨K, ω⟩ tt s2 (.ow none acc :: (as ++ rs)) fun b s3 => b = p x ∧ if p x = true then DE ⟨K, ω⟩ te s3 (.ow none acc :: (as ++ rs)) fun r s4 => ∃ e, asD r = some e ∧ e = f x ∧ wipeS s4 vs = wipeS s1 vs else wipeS s3 vs = wipeS s1 vs) ∧
    wipeS (wipeS s1 vs) vs = wipeS s1 vs ∧ Q (.ow none ((xs.filter p).map f)) (wipeS s1 vs)) : DE ⟨K, ω⟩ (tLc wi g tt te vs) s rs Q := by
  refine de_lc hg fun Z σ ts H R o k => h Z σ ts H R o fun J H' s1 as ys its W o' e hW ⟨hi, hv, hw, hl, hs, hx, q⟩ => k J H' s1 as ys its W o' e hW ?_
  subst hi
  refine ⟨fun k s' acc => s' = wipeS s1 vs ∧ acc = ((xs.take k).filter p).map f, hv, ⟨rfl, by simp⟩, ?_, hl, ?_, ?_⟩
  · rintro k s' acc _ ⟨rfl, _⟩; exact hw
  · rintro k d s' acc hd _ ⟨rfl, rfl⟩
    rw [List.getElem?_map] at hd
    cases e : xs[k]? with
    | none => rw [e] at hd; cases hd
    | some x =>
      rw [e] at hd
      obtain rfl : u x = d := Option.some.inj hd
      have et : (xs.take (k + 1)).filter p = (xs.take k).filter p ++ [x].filter p := by rw [List.take_succ, e, List.filter_append]; rfl
      intro Z σ ts H v R o k
      refine hs x (List.mem_of_getElem? e) _ Z σ ts H v R o fun σ' H' s' o' q => k σ' H' s' o' (q.imp ?_)
      rintro b s3 ⟨rfl, q⟩
      by_cases hp : p x = true
      · rw [if_pos hp] at q ⊢
        refine q.imp fun r s4 ⟨e, h1, h2, h3⟩ => ⟨e, h1, h3, ?_⟩
        rw [h2, et, List.map_append, List.filter_cons, if_pos hp]; rfl
      · rw [if_neg hp] at q ⊢
        refine ⟨q, ?_⟩
        rw [et, List.filter_cons, if_neg hp]; simp
  · rintro s' acc ⟨rfl, rfl⟩
    rw [List.length_map, List.take_length, hx]
    exact q
/-- the same without a test -/
theorem de_lcY {α : Type} (hg : GW g vs) (xs : List α) (u : α → D) (f : α → D) (h : DI ⟨K, ω⟩ wi s rs fun its as W s1 => its = xs.map u ∧ (∀ i ∈ vs, noal as i = true ∧ noal rs i = true) ∧ W (wipeS s1 vs) ∧ its.length ≤ 100000 ∧
    (∀ x ∈ xs, ∀ acc, DG ⟨K, ω⟩ g (.v (u x)) (wipeS s1 vs) (.ow none acc :: (as ++ rs)) fun s2 => DE ⟨K, ω⟩ te s2 (.ow none acc :: (as ++ rs)) fun r s4 => ∃ e, asD r = some e ∧ e = f x ∧ wipeS s4 vs = wipeS s1 vs) ∧
    wipeS (wipeS s1 vs) vs = wipeS s1 vs ∧ Q (.ow none (xs.map f)) (wipeS s1 vs)) : DE ⟨K, ω⟩ (tLc wi g tYes te vs) s rs Q := by
  refine de_lcG hg xs u (fun _ => true) f fun Z σ ts H R o k => h Z σ ts H R o fun J H' s1 as ys its W o' e hW ⟨hi, hv, hw, hl, hs, hx, q⟩ => k J H' s1 as ys its W o' e hW ?_
  refine ⟨hi, hv, hw, hl, fun x hx acc Z σ ts H v R o k => ?_, hx, ?_⟩
  · refine hs x hx acc Z σ ts H v R o fun σ' H' s' o' q => k σ' H' s' o' (dt_yes ⟨rfl, ?_⟩)
    rw [if_pos rfl]
    exact q
  · rw [List.filter_eq_self.mpr fun _ _ => rfl]; exact q
theorem gw_pair {i j : Nat} {n : Nat} (hi : i ∈ vs) (hj : j ∈ vs) : GW (gTup K n (gCons (gName i) (gCons (gName j) gNil))) vs := gw_tup (gws_cons (gw_name hi) (gws_cons (gw_name hj) gws_nil))
theorem opc_anyG {α : Type} {xs : List α} {g : α → Bool} (h : dat s r = some (.list (xs.map fun x => .bool (g x)))) (q : Q (.v (.bool (xs.any g))) s) : OPC ⟨K, ω⟩ (rAny K) [r] s rs Q :=
  opc_any (bs := xs.map g) (by rw [h, List.map_map]; rfl) (by rw [List.any_map]; exact q)
theorem opc_allG {α : Type} {xs : List α} {g : α → Bool} (h : dat s r = some (.list (xs.map fun x => .bool (g x)))) (q : Q (.v (.bool (xs.all g))) s) : OPC ⟨K, ω⟩ (rAll K) [r] s rs Q :=
  opc_all (bs := xs.map g) (by rw [h, List.map_map]; rfl) (by rw [List.all_map]; exact q)
end
theorem all_in2 {i j : Nat} {P : Nat → Prop} (h1 : P i) (h2 : P j) : ∀ k ∈ [i, j], P k := fun k hk => by
  rcases List.mem_cons.mp hk with rfl | hk
  · exact h1
  · rw [List.mem_singleton.mp hk]; exact h2
theorem all_in1 {i : Nat} {P : Nat → Prop} (h1 : P i) : ∀ k ∈ [i], P k := fun k hk => by rw [List.mem_singleton.mp hk]; exact h1
theorem map_snoc {α : Type} {its : List α} {k : Nat} {d : α} (h : its[k]? = some d) : its.take (k + 1) = its.take k ++ [d] := by rw [List.take_succ, h]; rfl
end W8

/-! W8k: defs that are promised only where no repr is under way; repr of data. -/
namespace W8
open PySem L2 RZ PySem.Spec PyProof.Rows
/-- a def's promise where nothing is guarded -/
structure GOk (P : Program) (w : World) (K : PySem.W.Frag) (mg : Str → Option Value) (base : Heap) (k : Nat) (f : Addr) (fd : FuncData) (ps : List Str) (sp : Sp) : Prop where
  many : ∀ vs H Q E, sp vs H Q E → vs.length = ps.length
  go : ∀ (A : Around) (fr : List Env) (s : Shared) (H : Hp) (args : Args) (us : List Value) (vs : List V) (Q : VK), A.guards = some [] → Room k A → Env0 P w K mg base A fr s H → BindsTo s fd args (ps.zip us) → Vals vs us → sp vs H Q E0 →
    codeAny (model P w) A (.call (.ref f) args) (CR CX0 fr P w H s Q E0) s
section
variable {P : Program} {w : World} {K : PySem.W.Frag} {mg : Str → Option Value} {base : Heap}
theorem ok_g {k : Nat} {f : Addr} {fd : FuncData} {ps : List Str} {sp : Sp} (F : FnOk P w K mg base CX0 k f fd ps sp) : GOk P w K mg base k f fd ps sp :=
  ⟨F.len, fun A fr s H args us vs Q _ => F.run A fr s H args us vs Q E0⟩
/-- THE RULE for a def by a contract over data, no repr under way -/
theorem ok_fnG {x qual : Str} {st : Stmt} {g : Addr} {fd : FuncData} {N ps : List Str} {k : Nat} {f : DSp} (F : Fun K x qual st g fd) (S : FnScope N ps (defScope st)) (hN : ps.length ≤ N.length) (hl : ∀ as P, f as P → as.length = ps.length)
    (hb : ∀ (cdv : Value) (A : Around) (outer : List Env) (s : Shared) (H : Hp) (E : XK), A.guards = some [] → Room k (A.deeper (envOfC qual (defScope st) s.heap.objs.size g cdv)) → ∀ as Pq, f as Pq →
      ∃ t, PSs (cxOf CX0 P w K mg base N qual (defScope st) g cdv A outer s H E).nox (defBody st) t ∧ DS K t (as ++ List.replicate (N.length - as.length) .no) [] { nx := fun s' => RT Pq as (.v .none) s', rt := fun r s' => RT Pq as r s' }) :
    GOk P w K mg base (k + 1) g fd ps (fnS K f) := by
  have many : ∀ vs H Q E, fnS K f vs H Q E → vs.length = ps.length := by
    rintro vs H Q E ⟨Z, as, Pq, _, _, o, hf, _⟩
    have := o.ls
    rw [← hl as Pq hf]; simpa using this
  refine ⟨many, ?_⟩
  intro A fr s H args us vs Q hgd room env bind rel hsp
  obtain ⟨oc, od, kV, doc, pm, an, cdv, ct, osl, e0, look, code⟩ := F.ex
  subst e0
  have cnt := many vs H Q E0 hsp
  have old : ∀ b o, base.get? b = some o → s.heap.get? b = some o := fun b o e => (env.bs b o e).1
  have kin : K.In s.heap := env.mod.kin.keeps old
  refine codeAny_call_function room.depth (kin _ _ look) rfl S.co S.gen rfl (PySem.W.codeRec_of kin code) (bind _ _ _ _ ?_)
  have kinds : ∀ y ∈ ps.zip us, (defScope st).names.lookup y.1 = some .local ∨ ((defScope st).names.lookup y.1 = some .cell ∧ ((cellsFrom (s.heap.objs.size + 1) (defScope st).names []).lookup y.1).isSome = true) := by
    rintro ⟨n, v⟩ hy
    exact (S.par n (List.of_mem_zip hy).1).imp id fun q => ⟨q, PySem.W.cellsFrom_some _ _ _ (.inl q)⟩
  refine wpAny_newFunctionEnv_cells S.kind kinds fun env1 he s1 inc => ?_
  cases he
  refine ⟨(env.mod.nolimit.keeps old).keeps inc.toInCall.keep, codeAny_func ?_⟩
  obtain ⟨Z, as, Pq, h0, hB, o, hf, hk⟩ := hsp
  obtain ⟨t, h1, h2⟩ := hb cdv A fr s H E0 hgd (room.deeper _) as Pq hf
  have el : vs.length = as.length := by have := o.ls; simpa using this
  have start0 := inv_start (E := E0) (CX := CX0) S room.hd env cnt rel inc
  have body := h2 Z.x0 _ [] H { nx := fun _ H' => Q .non H', rt := Q } (ok_start (N := N) o (by rw [el, hl as Pq hf]; exact hN)) (fun σ' H' s' o' q => by
      obtain ⟨r', e1, e2, q⟩ := q
      obtain ⟨o2, e3⟩ := Ok.leave h0 hB o (o'.pushV .non) e1 e2
      exact hk r' _ .non H' o2 e3 q) (fun y σ' H' s' r o' q => by
      obtain ⟨r', e1, e2, q⟩ := q
      obtain ⟨o2, e3⟩ := Ok.leave h0 hB o o' e1 e2
      exact hk r' _ y H' o2 e3 q) (fun _ _ _ _ q => q.elim) (fun _ _ _ _ q => q.elim)
  refine wpAny_mono (h1.nox.run [] s1 _ H _ start0 body) ?_ fun e s' z => z
  intro fl s' z
  match fl, z with
  | .ret u, ⟨v, σ', H', J, rv, q⟩ => exact ⟨v, H', J.os, J.bare, J.base, J.hok, rv, q⟩
  | .next, ⟨σ', H', J, q⟩ => exact ⟨.non, H', J.os, J.bare, J.base, J.hok, rfl, q⟩
  | .brk, ⟨_, _, _, q⟩ => exact False.elim q
  | .cont, ⟨_, _, _, q⟩ => exact False.elim q
end
/-- a def of the module, as its callers see it, no repr under way -/
structure CalG (P : Program) (w : World) (K : PySem.W.Frag) (mg : Str → Option Value) (base : Heap) (k : Nat) (x : Str) (ps : List Str) (f : DSp) : Prop where
  ex : ∃ (a : Addr) (fd : FuncData), mg x = some (.ref a) ∧ PySem.W.keepIn K (.ref a) = true ∧ Binds K fd ps [] ∧ GOk P w K mg base k a fd ps (fnS K f)
theorem Cal.g {P : Program} {w : World} {K : PySem.W.Frag} {mg : Str → Option Value} {base : Heap} {k : Nat} {x : Str} {ps : List Str} {f : DSp} (c : Cal P w K mg base k x ps f) : CalG P w K mg base k x ps f := by
  obtain ⟨a, fd, h1, h2, h3, h4⟩ := c.ex
  exact ⟨a, fd, h1, h2, h3, ok_g h4⟩
section
variable {X : Cx} {x : Str} {ps : List Str} {f : DSp} {k : Nat} {e : Expr} {es : List Expr} {t : TA} {p pos : Pos}
theorem pe_calG (c : CalG X.prog X.w X.K X.mg X.base k x ps f) (hgd : X.A.guards = some []) (hr : Room k X.A) (hg : Gl X x) (ha : PA X (e :: es) t)
    (hdb : (x == ("__debug__" : Str)) = false := by decide) (he : starEach (e :: es) X.env = (false, eval e X.env) :: starEach es X.env := by rfl) (hpl : (backTo pos (starEach es X.env)).any (·.1) = false := by rfl) : PE X (.Call (.Name x p) (e :: es) [] pos) (tCall (fnS X.K f) [] E0 t) := by
  obtain ⟨a, fd, h1, h2, h3, h4⟩ := c.ex
  constructor
  intro pins s σ H Q I h
  refine wpAny_Call_Name_kw (ld_glob I hg h1 ?_ hdb)
  refine PySem.W.callWith_K (h₀ := X.base) I.ok.mod.kin h2 (thn (ha.run pos pins s σ H _ I h) ?_) he hpl
  rintro us s1 ⟨vs, H1, I1, r, q⟩
  refine ⟨I1.kIn, ?_⟩
  rw [List.append_nil] at q
  have cnt : us.length = ps.length := by rw [← r.length]; exact h4.many _ _ _ _ q
  have bind : BindsTo s1 fd ⟨us, []⟩ (ps.zip us) := by
    have := h3 s1 us I1.kIn (by rw [List.append_nil]; exact cnt)
    rwa [List.append_nil] at this
  refine wpAny_call (codeAny_mono (h4.go X.A X.stack s1 H1 ⟨us, []⟩ us vs _ hgd hr I1.env0 bind r q) ?_)
  intro r' s' hq
  match r', hq with
  | .error _, hq => exact False.elim hq
  | .ok (.ret u), hq => exact I1.after hq
  | .ok .next, hq => exact False.elim hq
  | .ok .brk, hq => exact False.elim hq
  | .ok .cont, hq => exact False.elim hq
end
/-- repr of a list or tuple of data -/
def rRepr (K : PySem.W.Frag) : List V → Hp → VK → Prop := fun xs H Q => ∃ a d, xs = [.ref a] ∧ Dp K H (.ref a) d ∧ d.showable = true ∧ d.hasDict = false ∧ d.depth ≤ 60 ∧ d.shown.length ≤ sizeLine ∧ Q (.str d.shown) H
section
variable {X : Cx}
theorem call_repr (hgd : X.A.guards = some []) (hu : X.A.units + 64 < cLine) : CallR X (.builtin "repr") (rRepr X.K) := by
  intro pins s σ H xs us Q I r h
  obtain ⟨a, d, rfl, hd, h1, h2, h3, h4, q⟩ := h
  obtain ⟨u, rfl, ru⟩ := vals1 r
  cases ru
  obtain ⟨as, rd⟩ := Dp.reads I d (.ref a) (.ref a) hd rfl
  refine repr_of_reads' rd h1 (fun z => by rw [h2] at z; cases z) hgd (by omega) (fun _ _ z => z) (fun h' u tk ext => ?_) h4
  exact ⟨.str d.shown, H, I.kept (t' := tk) ext, ⟨u, rfl⟩, q⟩
theorem k_repr (K : PySem.W.Frag) (hk : X.K = K) (hgd : X.A.guards = some []) (hu : X.A.units + 64 < cLine) : CallR X (.builtin "repr") (rRepr K) := by subst hk; exact call_repr hgd hu
end
theorem opc_repr {K : PySem.W.Frag} {s rs : List SD} {r : SD} {Q : SD → List SD → Prop} {d : D} (h : dat s r = some d) (hl : (∃ ds, d = .list ds) ∨ ∃ ds, d = .tuple ds) (h1 : d.showable = true) (h2 : d.hasDict = false) (h3 : d.depth ≤ 60) (h4 : d.shown.length ≤ sizeLine) (q : Q (.v (.str d.shown)) s) : OPC ⟨K, ω⟩ (rRepr K) [r] s rs Q := fun Z σ ts H xs R o e k => by
  obtain ⟨x, rfl⟩ : ∃ x, xs = [x] := by match xs, e with | [x], _ => exact ⟨x, rfl⟩
  have o1 : Ok K Z σ (x :: ts) H s (r :: rs) := o
  have dp := o1.dpTop h
  have hx : ∃ a, x = .ref a := by
    rcases hl with ⟨ds, rfl⟩ | ⟨ds, rfl⟩ <;> cases dp <;> exact ⟨_, rfl⟩
  obtain ⟨a, rfl⟩ := hx
  exact ⟨a, d, rfl, dp, h1, h2, h3, h4, k _ H s _ (o1.pop.pushV (.str _)) q⟩
section
variable {X : Cx} {x : Str} {ps : List Str} {f : DSp} {k : Nat} {e : Expr} {es : List Expr} {t : TA} {p pos : Pos} (K : PySem.W.Frag)
theorem k_calG (hk : X.K = K) (c : CalG X.prog X.w K X.mg X.base k x ps f) (hgd : X.A.guards = some []) (hr : Room k X.A) (hg : Gl X x) (ha : PA X (e :: es) t)
    (hdb : (x == ("__debug__" : Str)) = false := by decide) (he : starEach (e :: es) X.env = (false, eval e X.env) :: starEach es X.env := by rfl) (hpl : (backTo pos (starEach es X.env)).any (·.1) = false := by rfl) : PE X (.Call (.Name x p) (e :: es) [] pos) (tCall (fnS K f) [] E0 t) := by
  subst hk; exact pe_calG c hgd hr hg ha hdb he hpl
end
/-- a promise that is never asked for -/
theorem ok_never {P : Program} {w : World} {K : PySem.W.Frag} {mg : Str → Option Value} {base : Heap} {k : Nat} {f : Addr} {fd : FuncData} {ps : List Str} {g : DSp} (h : ∀ as Q, ¬ g as Q) : FnOk P w K mg base CX0 k f fd ps (fnS K g) :=
  ⟨fun vs H Q E ⟨Z, as, Pq, _, _, _, hf, _⟩ => (h _ _ hf).elim, fun A fr s H args us vs Q E _ _ _ _ ⟨Z, as, Pq, _, _, _, hf, _⟩ => (h _ _ hf).elim⟩
end W8

/-! W8l: the law's call, nothing guarded. -/
namespace W8
open PySem L2 RZ PySem.Spec PyProof.Rows
section
variable {P : Program} {w : World} {K : PySem.W.Frag} {a : Addr} {vs : List Value} {ns : List Int}
/-- the script, kept as it is -/
def frzS (vs : List Value) (ns : List Int) : HO := .frz { cls := .type "list", data := .seq vs.toArray } (.lst (ns.map V.int))
theorem script_hp {s : Shared} (kin : K.In s.heap) (at_ : s.heap.get? a = some { cls := .type "list", data := .seq vs.toArray }) (whole : IntsAre vs ns) (short : ns.length ≤ sizeLine) :
    ∃ H : Hp, (∀ b, H b = none ∨ (b = a ∧ K.lookup a = none ∧ H b = some (frzS vs ns))) ∧ SqL K H a (ns.map V.int) ∧ HOk P w H s.heap := by
  have rel := vals_ints whole
  have cnt := whole.length
  cases look : K.lookup a with
  | some o =>
    have e := kin a o look
    rw [at_] at e
    obtain rfl := Option.some.inj e
    refine ⟨fun _ => none, fun _ => .inl rfl, .inr ?_, fun b u z => absurd z (by simp)⟩
    exact ⟨_, vs.toArray, _, look, rfl, rfl, rfl, by rw [List.size_toArray, cnt]; exact short, by simpa using rel⟩
  | none =>
    refine ⟨fun b => if b = a then some (frzS vs ns) else none, fun b => ?_, .inl (.inr ⟨_, if_pos rfl⟩), ?_⟩
    · by_cases e : b = a
      · exact .inr ⟨e, rfl, if_pos e⟩
      · exact .inl (if_neg e)
    · intro b u z
      by_cases e : b = a
      · subst e
        have z := (if_pos rfl).symm.trans z
        obtain rfl := Option.some.inj z
        exact ⟨at_, by rw [List.length_map]; exact short, vs, _, rel, at_⟩
      · exact absurd ((if_neg e).symm.trans z) (by simp)
theorem law_go {mg mb : Str → Option Value} {k : Nat} {fa : Addr} {fd : FuncData} {x : Str} {f : DSp} {s : Shared}
    (kin : K.In s.heap) (names : s.heap.Ns mainGlobals mg) (bnames : s.heap.Ns builtinsNs mb) (boot : ∀ x : Str, x ≠ "__name__" → mb x = bootBuiltins x) (lim : s.heap.NoLimit) (gens : s.gens = #[])
    (at_ : s.heap.get? a = some { cls := .type "list", data := .seq vs.toArray }) (whole : IntsAre vs ns) (short : ns.length ≤ sizeLine) (room : Room k callerA)
    (F : ∀ base : Heap, K.In base → base.Ns mainGlobals mg → GOk P w K mg base k fa fd [x] (fnS K f)) (bind : ∀ (s : Shared) (u : Value), BindsTo s fd ⟨[u], []⟩ [(x, u)])
    (hf : f [.v (.list (ns.map .int))] fun r _ => r = .v (.bool true)) :
    codeAny (model P w) callerA (.call (.ref fa) ⟨[.ref a], []⟩) (fun r s' => r = .ok (.ret (.bool true)) ∧ OldK s.heap s'.heap ∧ s'.os = s.os ∧ AllBare s'.gens) s := by
  obtain ⟨H, only, sq, ok⟩ := script_hp (P := P) (w := w) kin at_ whole short
  have free : ∀ {b : Addr} {o : Obj}, s.heap.get? b = some o → (b = a → K.lookup a = none → False) → (hidT s.heap H).get? b = some o := by
    intro b o e no
    refine hidT_get e ?_
    rcases only b with z | ⟨z1, z2, _⟩
    · exact z
    · exact (no z1 z2).elim
  have spaces : ∀ {b : Addr} {m : Str → Option Value}, s.heap.Ns b m → (hidT s.heap H).Ns b m := by
    rintro b m ⟨o, es, ep, e, d, r⟩
    refine ⟨o, es, ep, free e fun z _ => ?_, d, r⟩
    subst z
    rw [at_] at e
    obtain rfl := Option.some.inj e
    cases d
  have kin' : K.In (hidT s.heap H) := by
    intro b o e
    refine free (kin b o e) fun z l => ?_
    subst z
    rw [l] at e
    cases e
  have md : Mod K mg (hidT s.heap H) := ⟨kin', spaces names, ⟨mb, spaces bnames, boot⟩, by
    obtain ⟨m, l1, l2⟩ := lim
    exact ⟨m, spaces l1, l2⟩⟩
  have env : Env0 P w K mg (hidT s.heap H) callerA [] s H := {
    frames := rfl, mod := md, bs := fun b o e => of_hidT e, bsz := Nat.le_of_eq (hidT_size _ _), funs := trivial, frf := (fun b hb => nomatch hb), hok := ok, bare := .of_eq gens }
  have call := (F _ kin' (spaces names)).go callerA [] s H ⟨[.ref a], []⟩ [.ref a] [.ref a] (fun v _ => v = .bl true) rfl room env (bind s (.ref a)) (.cons rfl .nil) (fnS_law hf sq)
  refine codeAny_mono call ?_
  intro r s' z
  match r, z with
  | .error _, z => exact False.elim z
  | .ok .next, z => exact False.elim z
  | .ok .brk, z => exact False.elim z
  | .ok .cont, z => exact False.elim z
  | .ok (.ret u), ⟨v, H', os, bare, un, ok', ru, q⟩ =>
    subst q
    obtain rfl : u = Value.bool true := ru
    refine ⟨rfl, OldK.of_keep ?_, os, bare⟩
    intro b o e
    rcases only b with z | ⟨rfl, _, z⟩
    · exact un.keep b o e z (by intro y; cases y) (by simp)
    · have same := un.frzs _ _ _ z
      obtain ⟨x1, _⟩ := ok _ _ z
      obtain ⟨x2, _⟩ := ok' _ _ same
      rw [e] at x1
      obtain rfl := Option.some.inj x1
      exact x2
end
theorem walk_g {l : PySem.W.OpenLaw} {k : Nat} {q : Program} {loose : List Str} {XP : (Str → Option Value) → Heap → Prop} {YP : World → Heap → Prop} {d : DefRec} {K : Params → PySem.W.Frag} {f : DSp} {x : Str}
    (hn : l.most = some 63) (hdf : d.params.defaults = []) (hr : Room k callerA)
    (hY : ∀ (w : World) (h : Heap), YP w h → (K w.params).In h)
    (F : ∀ (w : World) (mg : Str → Option Value) (fa : Addr) (h : Heap), (K w.params).In h → h.Ns mainGlobals mg → mg d.name = some (.ref fa) →
      ∃ fd : FuncData, (∀ (s : Shared) (u : Value), BindsTo s fd ⟨[u], []⟩ [(x, u)]) ∧ ∀ base : Heap, (K w.params).In base → base.Ns mainGlobals mg → GOk l.prog w (K w.params) mg base k fa fd [x] (fnS (K w.params) f))
    (hf : ∀ ns : List Int, ns.length ≤ 63 → f [.v (.list (ns.map .int))] fun r _ => r = .v (.bool true)) : PySem.W.WalkO q loose XP YP l.row.toRowW d [] (fun f vs => PySem.call f vs) := by
  refine Att.attach_call hn hdf ?_
  intro w s₀ s₁ mg mb fa o pm cd doc a vs ns G Y _ _ _ nm obj whole cnt gens
  have kin := hY w _ Y
  obtain ⟨fd, bind, run⟩ := F w mg fa _ kin G.T.g nm
  exact law_go kin G.T.g G.T.b G.T.builtins G.T.nolimit gens obj whole (Nat.le_trans cnt (by decide)) hr run bind (hf ns cnt)
end W8

/-! W8m: what repr makes of data: how long, of which signs. -/
namespace W8
open PySem L2 RZ PySem.Spec PyProof.Rows
/-- signs that there are -/
def tOk (s : Str) : Prop := ∀ c ∈ s.cps.toList, c < 0x110000
theorem chr_lt (c : Char) : c.toNat < 0x110000 := by
  have h := c.valid
  have h : Nat.isValidChar c.val.toNat := h
  unfold Nat.isValidChar at h
  show c.val.toNat < _
  omega
theorem tOk_of (s : String) : tOk (Str.ofString s) := by
  intro c hc
  rw [Str.ofString_eq_toList] at hc
  simp only [List.mem_map] at hc
  obtain ⟨x, _, rfl⟩ := hc
  exact chr_lt x
theorem tOk.app {a b : Str} (ha : tOk a) (hb : tOk b) : tOk (a ++ b) := by
  intro c hc
  have e : (a ++ b).cps = a.cps ++ b.cps := rfl
  rw [e, Array.toList_append] at hc
  rcases List.mem_append.mp hc with h | h
  · exact ha c h
  · exact hb c h
theorem tOk.str {s : Str} (h : tOk s) : SeqAt.shaped (.str s) = true := by
  refine Bool.and_eq_true_iff.mpr ⟨?_, decide_eq_true (Nat.zero_le _)⟩
  show s.cps.all (· < 0x110000) = true
  rw [Array.all_eq_true_iff_forall_mem]
  intro c hc
  exact decide_eq_true (h c (Array.mem_toList_iff.mpr hc))
theorem tOk_if {b : Bool} {x y : String} : tOk (Str.ofString (if b = true then x else y)) := tOk_of _
theorem tOk_from : ∀ (ts : List Str) (k : Nat) (acc : Str), tOk acc → (∀ t ∈ ts, tOk t) → tOk (textFrom k acc ts)
  | [], _, _, h, _ => h
  | t :: ts, k, acc, h, ht => tOk_from ts (k + 1) _ ((h.app (tOk_of _)).app (ht t List.mem_cons_self)) fun u hu => ht u (List.mem_cons_of_mem _ hu)
theorem tOk_join {sep : Str} (hs : tOk sep) : ∀ ts : List Str, (∀ t ∈ ts, tOk t) → tOk (Str.join sep ts)
  | [], _ => by
    intro c hc
    exact absurd hc (by show ¬ c ∈ (#[] : Array Nat).toList; simp)
  | [x], h => h x List.mem_cons_self
  | x :: y :: r, h => ((h x List.mem_cons_self).app hs).app (tOk_join hs (y :: r) fun t ht => h t (List.mem_cons_of_mem _ ht))
theorem chr_ok {q c : Nat} (hq : q < 0x110000) (hc : c < 0x110000) : ∀ x ∈ Builtin.Str.reprChar q c, x < 0x110000 := by
  have hx : ∀ w : Nat, ∀ x ∈ (List.replicate (w - ((Nat.toDigits 16 c).map Char.toNat).length) 48 ++ (Nat.toDigits 16 c).map Char.toNat), x < 0x110000 := by
    intro w x hx
    rcases List.mem_append.mp hx with h | h
    · rw [(List.mem_replicate.mp h).2]; decide
    · obtain ⟨y, _, rfl⟩ := List.mem_map.mp h
      exact chr_lt y
  have l2 : ∀ {a b : Nat} {l : List Nat}, a < 0x110000 → b < 0x110000 → (∀ x ∈ l, x < 0x110000) → ∀ x ∈ [a, b] ++ l, x < 0x110000 := by
    intro a b l ha hb hl x h
    rcases List.mem_append.mp h with h | h
    · rcases List.mem_cons.mp h with rfl | h
      · exact ha
      · rw [List.mem_singleton.mp h]; exact hb
    · exact hl x h
  have nil : ∀ x ∈ ([] : List Nat), x < 0x110000 := fun x h => nomatch h
  unfold Builtin.Str.reprChar
  dsimp only
  split
  · exact l2 (by decide) hc nil
  split
  · exact l2 (by decide) (by decide) nil
  split
  · exact l2 (by decide) (by decide) nil
  split
  · exact l2 (by decide) (by decide) nil
  split
  · intro x h; rw [List.mem_singleton.mp h]; exact hc
  split
  · exact l2 (by decide) (by decide) (hx 2)
  split
  · exact l2 (by decide) (by decide) (hx 4)
  · exact l2 (by decide) (by decide) (hx 8)
theorem tOk_repr {x : Str} (h : tOk x) : tOk (reprText x) := by
  have hq : reprQuote x < 0x110000 := by unfold reprQuote; split <;> decide
  have fold : ∀ (l : List Nat) (out : Array Nat), (∀ c ∈ out.toList, c < 0x110000) → (∀ c ∈ l, c < 0x110000) → ∀ c ∈ (l.foldl (fun out c => out ++ (Builtin.Str.reprChar (reprQuote x) c).toArray) out).toList, c < 0x110000 := by
    intro l
    induction l with
    | nil => intro out h _; exact h
    | cons a l ih =>
      intro out h hl
      rw [List.foldl_cons]
      refine ih _ (fun c hc => ?_) fun c hc => hl c (List.mem_cons_of_mem _ hc)
      rw [Array.toList_append] at hc
      rcases List.mem_append.mp hc with h' | h'
      · exact h c h'
      · exact chr_ok hq (hl a List.mem_cons_self) c h'
  intro c hc
  unfold reprText at hc
  rw [Array.toList_push] at hc
  rcases List.mem_append.mp hc with h' | h'
  · rw [← Array.foldl_toList] at h'
    exact fold x.cps.toList _ (fun c hc => by have : c = reprQuote x := by simpa using hc
                                              rw [this]; exact hq) h c h'
  · rw [List.mem_singleton.mp h']; exact hq
/-- what repr can tell, how deep, of which weight -/
structure Rpd (B n w : Nat) (d : D) : Prop where
  sh : d.showable = true
  nd : d.hasDict = false
  dp : d.depth ≤ n
  sm : d.leavesShort B = true
  wt : d.weight ≤ w
  ok : tOk d.shown
theorem Rpd.mono {B n w n' w' : Nat} {d : D} (h : Rpd B n w d) (e : n ≤ n') (e2 : w ≤ w') : Rpd B n' w' d := ⟨h.sh, h.nd, Nat.le_trans h.dp e, h.sm, Nat.le_trans h.wt e2, h.ok⟩
theorem Rpd.int {B n : Nat} {i : Int} {k : Nat} (h : i.natAbs < 2 ^ k) (hk : 0 < k) (hB : k + 1 ≤ B) (h19 : k ≤ 1900) : Rpd B n k (.int i) := by
  have hl : i.natAbs.log2 < k := by
    by_cases h0 : i.natAbs = 0
    · rw [h0]; exact hk
    · exact (Nat.log2_lt h0).mpr h
  refine ⟨decide_eq_true (by omega), rfl, Nat.zero_le _, decide_eq_true ?_, ?_, tOk_of _⟩
  · show (Str.ofString (toString i)).length ≤ B
    have := int_text_length_le (a := i) hk hl
    have e := PySem.ofString_length (toString i)
    rw [e]; omega
  · show (if i == 0 then 0 else i.natAbs.log2 + 1) ≤ k
    split <;> omega
theorem Rpd.bool {B n w : Nat} (b : Bool) : Rpd B n w (.bool b) := ⟨rfl, rfl, Nat.zero_le _, rfl, Nat.zero_le _, by cases b <;> exact tOk_of _⟩
theorem Rpd.non {B n w : Nat} : Rpd B n w .none := ⟨rfl, rfl, Nat.zero_le _, rfl, Nat.zero_le _, tOk_of _⟩
theorem Rpd.str {B n : Nat} {x : Str} (h : tOk x) : Rpd B n x.length (.str x) := by
  refine ⟨rfl, rfl, Nat.zero_le _, ?_, Nat.le_refl _, tOk_repr h⟩
  show (x.cps.toList.all fun c => decide (c < 16 ^ 8)) = true
  rw [List.all_eq_true]
  intro c hc
  exact decide_eq_true (Nat.lt_trans (h c hc) (by decide))
theorem rpd_all {B n w : Nat} : ∀ {ds : List D}, (∀ d ∈ ds, Rpd B n w d) → PyData.showableAll ds = true ∧ PyData.hasDictAll ds = false ∧ PyData.depthAll ds ≤ n ∧ PyData.leavesShortAll B ds = true ∧ PyData.weightAll ds ≤ (w + 1) * ds.length ∧ ∀ t ∈ PyData.shownAll ds, tOk t
  | [], _ => ⟨rfl, rfl, Nat.zero_le _, rfl, Nat.zero_le _, fun _ h => nomatch h⟩
  | d :: ds, h => by
    obtain ⟨h1, h2, h3, h4, h5, h6⟩ := h d List.mem_cons_self
    obtain ⟨g1, g2, g3, g4, g5, g6⟩ := rpd_all fun e he => h e (List.mem_cons_of_mem d he)
    refine ⟨Bool.and_eq_true_iff.mpr ⟨h1, g1⟩, Bool.or_eq_false_iff.mpr ⟨h2, g2⟩, Nat.max_le.mpr ⟨h3, g3⟩, Bool.and_eq_true_iff.mpr ⟨h4, g4⟩, ?_, fun t ht => ?_⟩
    · show d.weight + 1 + PyData.weightAll ds ≤ _
      rw [List.length_cons, Nat.mul_add, Nat.mul_one]; omega
    · rcases List.mem_cons.mp ht with rfl | ht
      · exact h6
      · exact g6 t ht
theorem Rpd.list {B n w m : Nat} {ds : List D} (h : ∀ d ∈ ds, Rpd B n w d) (hm : ds.length ≤ m) : Rpd B (n + 1) ((w + 1) * m) (.list ds) := by
  obtain ⟨g1, g2, g3, g4, g5, g6⟩ := rpd_all h
  refine ⟨g1, g2, Nat.add_le_add_right g3 1, g4, Nat.le_trans g5 (Nat.mul_le_mul_left _ hm), ?_⟩
  exact (tOk_from _ 0 _ (tOk_of _) g6).app (tOk_of _)
theorem Rpd.tuple {B n w m : Nat} {ds : List D} (h : ∀ d ∈ ds, Rpd B n w d) (hm : ds.length ≤ m) : Rpd B (n + 1) ((w + 1) * m) (.tuple ds) := by
  obtain ⟨g1, g2, g3, g4, g5, g6⟩ := rpd_all h
  refine ⟨g1, g2, Nat.add_le_add_right g3 1, g4, Nat.le_trans g5 (Nat.mul_le_mul_left _ hm), ?_⟩
  exact ((tOk_of _).app (tOk_join (tOk_of _) _ g6)).app (tOk_of _)
theorem Rpd.lmap {α : Type} {B n w m : Nat} {f : α → D} {xs : List α} (h : ∀ x ∈ xs, Rpd B n w (f x)) (hm : xs.length ≤ m) : Rpd B (n + 1) ((w + 1) * m) (.list (xs.map f)) := .list (fun d hd => by
  obtain ⟨x, hx, rfl⟩ := List.mem_map.mp hd
  exact h x hx) (by rw [List.length_map]; exact hm)
theorem Rpd.fits {B n w : Nat} {d : D} (h : Rpd B n w d) (hB : 8 ≤ B) (e : (B + 2) * w + B ≤ 16777216) : d.shown.length ≤ sizeLine := by
  have h1 := PyData.shown_le B hB d h.sm
  have h2 := Nat.mul_le_mul_left (B + 2) h.wt
  rw [sizeLine_eq]
  omega
theorem opc_reprD {K : PySem.W.Frag} {s rs : List SD} {r : SD} {Q : SD → List SD → Prop} {d : D} {B n w : Nat} (h : dat s r = some d) (hl : (∃ ds, d = .list ds) ∨ ∃ ds, d = .tuple ds) (hr : Rpd B n w d) (hn : n ≤ 60) (hB : 8 ≤ B) (e : (B + 2) * w + B ≤ 16777216) (q : Q (.v (.str d.shown)) s) : OPC ⟨K, ω⟩ (rRepr K) [r] s rs Q :=
  opc_repr h hl hr.sh hr.nd (Nat.le_trans hr.dp hn) (hr.fits hB e) q
theorem eqv_str (x : Str) : PyData.eqv (.str x) (.str x) = true := decide_eq_true rfl
end W8

/-! W8n: lists unpacked into names. -/
namespace W8
open PySem L2 RZ PySem.Spec PyProof.Rows
section
variable {X : Cx} (K : PySem.W.Frag)
theorem k_glst {pos : Pos} (hk : X.K = K) {es : List Expr} {k : Nat} {t : TGs} {n : Nat} (hc : X.calm = true) (h : PGs X es t)
    (hn : (assignEach es X.env).length = n := by rfl) (hst : (assignEach es X.env).findIdx? (·.1) = none := by rfl) : PG X (.Tuple es k pos) (gLst K n t) := by subst hk; exact pg_lst hc h hn hst
end
section
variable {K : PySem.W.Frag} {s rs : List SD} {QS : List SD → Prop} {r : SD} {ds : List D}
theorem dg_lst {n : Nat} {t : TGs} (hr : dat s r = some (.list ds)) (hn : ds.length = n) (h : DGs ⟨K, ω⟩ t (ds.map SD.v) s rs QS) : DG ⟨K, ω⟩ (gLst K n t) r s rs QS := fun Z σ ts H x R o k => by
  obtain ⟨a, xs, rfl, h1, h2⟩ := o.listTop hr
  exact ⟨a, xs, rfl, h1, by rw [h2.length, hn], h Z σ ts H xs R (o.pop.pushAll h2).1 (by simp [h2.length]) k⟩
end
section
variable {K : PySem.W.Frag} {s rs : List SD} {D0 : DEn} {ta tb tc : TE} {i j l n : Nat}
theorem nc_push {r : SD} {rs : List SD} {i : Nat} (h : storable r = true) (m : noal rs i = true) : noal (r :: rs) i = true := by
  unfold noal at m ⊢
  rw [List.all_cons, m, Bool.and_true]
  cases r <;> first | rfl | cases h
/-- x, y = (.., ..), the tuple made and taken apart: lists stay one's own -/
theorem ds_tup2 (hn : n = 2) (h : DA ⟨K, ω⟩ (tCons ta (tCons tb tNil)) s rs fun as s1 => ∃ r1 r2, as = [r1, r2] ∧ i ≠ j ∧ i < s1.length ∧ j < s1.length ∧ storable r1 = true ∧ storable r2 = true ∧ noal rs i = true ∧ noal rs j = true ∧ D0.nx ((s1.set j r2).set i r1)) :
    DS ⟨K, ω⟩ (tAsg (tTup (tCons ta (tCons tb tNil))) (gTup K n (gCons (gName i) (gCons (gName j) gNil)))) s rs D0 := fun Z σ ts H E o k1 k2 k3 k4 => by
    refine h Z σ ts H (fun xs H1 => xs.length ≤ sizeLine ∧ ∀ p, H1 p = none → gTup K n (gCons (gName i) (gCons (gName j) gNil)) (.ref p) σ (upd H1 p (.tup xs)) E.nx) o ?_
    rintro xs H1 s1 as o1 e ⟨r1, r2, rfl, hij, hi, hj, h1, h2, n1, n2, q⟩
    obtain ⟨x, y, rfl⟩ : ∃ x y, xs = [x, y] := by
      match xs, e with
      | [x, y], _ => exact ⟨x, y, rfl⟩
    refine ⟨Nat.le_of_ble_eq_true rfl, fun p hp => ⟨p, [x, y], rfl, SqT.of upd_same, by rw [hn]; rfl, x, [y], rfl, y, [], rfl, rfl, ?_⟩⟩
    have ext : ∀ a u, H1 a = some u → upd H1 p (.tup [x, y]) a = some u := fun a u ha => by rw [upd_ne (ne_of_none ha hp)]; exact ha
    have o1 : Ok K Z σ (y :: x :: ts) H1 s1 (r2 :: r1 :: rs) := o1
    have o2 := (o1.ext ext).store hj (storable_al h2) (nc_push h1 n2)
    have o3 := o2.store (i := i) (by simpa using hi) (storable_al h1) n1
    rw [List.set_comm _ _ hij]
    exact k1 _ _ _ o3 q
theorem ds_tup3 (hn : n = 3) (h : DA ⟨K, ω⟩ (tCons ta (tCons tb (tCons tc tNil))) s rs fun as s1 => ∃ r1 r2 r3, as = [r1, r2, r3] ∧ (i ≠ j ∧ i ≠ l ∧ j ≠ l) ∧ (i < s1.length ∧ j < s1.length ∧ l < s1.length) ∧ (storable r1 = true ∧ storable r2 = true ∧ storable r3 = true) ∧ (noal rs i = true ∧ noal rs j = true ∧ noal rs l = true) ∧ D0.nx (((s1.set l r3).set j r2).set i r1)) :
    DS ⟨K, ω⟩ (tAsg (tTup (tCons ta (tCons tb (tCons tc tNil)))) (gTup K n (gCons (gName i) (gCons (gName j) (gCons (gName l) gNil))))) s rs D0 := fun Z σ ts H E o k1 k2 k3 k4 => by
    refine h Z σ ts H (fun xs H1 => xs.length ≤ sizeLine ∧ ∀ p, H1 p = none → gTup K n (gCons (gName i) (gCons (gName j) (gCons (gName l) gNil))) (.ref p) σ (upd H1 p (.tup xs)) E.nx) o ?_
    rintro xs H1 s1 as o1 e ⟨r1, r2, r3, rfl, ⟨hij, hil, hjl⟩, ⟨hi, hj, hl⟩, ⟨h1, h2, h3⟩, ⟨n1, n2, n3⟩, q⟩
    obtain ⟨x, y, z, rfl⟩ : ∃ x y z, xs = [x, y, z] := by
      match xs, e with
      | [x, y, z], _ => exact ⟨x, y, z, rfl⟩
    refine ⟨Nat.le_of_ble_eq_true rfl, fun p hp => ⟨p, [x, y, z], rfl, SqT.of upd_same, by rw [hn]; rfl, x, [y, z], rfl, y, [z], rfl, z, [], rfl, rfl, ?_⟩⟩
    have ext : ∀ a u, H1 a = some u → upd H1 p (.tup [x, y, z]) a = some u := fun a u ha => by rw [upd_ne (ne_of_none ha hp)]; exact ha
    have o1 : Ok K Z σ (z :: y :: x :: ts) H1 s1 (r3 :: r2 :: r1 :: rs) := o1
    have o2 := (o1.ext ext).store hl (storable_al h3) (nc_push h2 (nc_push h1 n3))
    have o3 := o2.store (i := j) (by simpa using hj) (storable_al h2) (nc_push h1 n2)
    have o4 := o3.store (i := i) (by simpa using hi) (storable_al h1) n1
    have eq : ((σ.set i (some x)).set j (some y)).set l (some z) = ((σ.set l (some z)).set j (some y)).set i (some x) := by
      rw [List.set_comm _ _ hij, List.set_comm _ _ hil, List.set_comm _ _ hjl]
    rw [eq]
    exact k1 _ _ _ o4 q
end
end W8

/-! W8z: zip of three lists. -/
namespace W8
open PySem L2 RZ PySem.Spec PyProof.Rows
/-- three lists side by side -/
def Itz3 (K : PySem.W.Frag) (a b c : Addr) : It where
  go := fun i H => ∃ (xs ys zs : List V) (x y z : V), (SqL K H a xs ∧ SqL K H b ys ∧ SqL K H c zs) ∧ xs[i]? = some x ∧ ys[i]? = some y ∧ zs[i]? = some z
  yld := fun i H v H' => ∃ T x y z, v = .ref T ∧ H T = none ∧ H' = upd H T (.tup [x, y, z]) ∧ (∀ xs, SqL K H a xs → xs[i]? = some x) ∧ (∀ ys, SqL K H b ys → ys[i]? = some y) ∧ ∀ zs, SqL K H c zs → zs[i]? = some z
  stop := fun i H => ∃ xs ys zs : List V, (SqL K H a xs ∧ SqL K H b ys ∧ SqL K H c zs) ∧ (xs.length ≤ i ∨ ys.length ≤ i ∨ zs.length ≤ i) ∧ i ≤ xs.length ∧ i ≤ ys.length ∧ i ≤ zs.length
abbrev Zst (a b c z TI TO i1 i2 i3 : Addr) (i : Nat) (h : Heap) : Prop :=
  (IsZip h z TI TO .none ∧ IsTupOf3 h TI (.ref i1) (.ref i2) (.ref i3) ∧ ∃ u v w, IsTupOf3 h TO u v w) ∧ h.IsListIter i1 a i ∧ h.IsListIter i2 b i ∧ h.IsListIter i3 c i
theorem mem6 {z TI TO i1 i2 i3 e : Addr} (h : e ∈ [z, TI, TO, i1, i2, i3]) : e = z ∨ e = TI ∨ e = TO ∨ e = i1 ∨ e = i2 ∨ e = i3 := by simpa using h
section
variable {P : Program} {w : World} {K : PySem.W.Frag} {elts : List Expr} {kk : Nat} {tpos : Pos} {a b c z TI TO i1 i2 i3 : Addr}
theorem turn_z3 (S : ZipSep3 z TI TO i1 i2 i3 [i1, a] [i2, b] [i3, c]) (na : a ≠ i1) (nb : b ≠ i2) (nc : c ≠ i3) : Turn P w K (.Tuple elts kk tpos) (Itz3 K a b c) [z, TI, TO, i1, i2, i3] z (Zst a b c z TI TO i1 i2 i3) := by
  constructor
  case mem => exact List.mem_cons_self
  case obj =>
    rintro i h ⟨⟨hz, hTI, _, _, _, hTO⟩, ⟨o1, e1, _, d1⟩, ⟨o2, e2, _, d2⟩, ⟨o3, e3, _, d3⟩⟩ e he
    rcases mem6 he with rfl | rfl | rfl | rfl | rfl | rfl
    · exact ⟨_, hz, fun _ y => nomatch y⟩
    · exact ⟨_, hTI, fun _ y => nomatch y⟩
    · exact ⟨_, hTO, fun _ y => nomatch y⟩
    · exact ⟨o1, e1, fun _ y => by rw [d1] at y; cases y⟩
    · exact ⟨o2, e2, fun _ y => by rw [d2] at y; cases y⟩
    · exact ⟨o3, e3, fun _ y => by rw [d3] at y; cases y⟩
  case keep =>
    rintro i h h' ⟨⟨hz, hTI, u, v, w', hTO⟩, s1, s2, s3⟩ k
    exact ⟨⟨k z (by simp) _ hz, k TI (by simp) _ hTI, u, v, w', k TO (by simp) _ hTO⟩, s1.at fun o y => k i1 (by simp) o y, s2.at fun o y => k i2 (by simp) o y, s3.at fun o y => k i3 (by simp) o y⟩
  case item =>
    intro X hP hw hK hc i pins s σ H E I hf st hg
    subst hP hw hK
    obtain ⟨⟨hz, hTI, u0, v0, w0, hTO⟩, s1, s2, s3⟩ := st
    obtain ⟨xs, ys, zs, x, y, zz, ⟨qa, qb, qc⟩, hx, hy, hzz⟩ := hg
    obtain ⟨la, ra, pa, _⟩ := I.list qa
    obtain ⟨lb, rb, pb, _⟩ := I.list qb
    obtain ⟨lc, rc, pc, _⟩ := I.list qc
    obtain ⟨ua, hua, rua⟩ := ra.get hx
    obtain ⟨ub, hub, rub⟩ := rb.get hy
    obtain ⟨uc, huc, ruc⟩ := rc.get hzz
    have hh : X.A.in1.handled = none := I.ok.hd hc
    have A1 := Draws.list (prog := X.prog) (w := X.w) hh i1 a na la.toArray
    have A2 := Draws.list (prog := X.prog) (w := X.w) hh i2 b nb lb.toArray
    have A3 := Draws.list (prog := X.prog) (w := X.w) hh i3 c nc lc.toArray
    have ga : la.toArray[i]? = some ua := by simpa using hua
    have gb : lb.toArray[i]? = some ub := by simpa using hub
    have gc : lc.toArray[i]? = some uc := by simpa using huc
    have ba := (Array.getElem?_eq_some_iff.mp ga).1
    have bb := (Array.getElem?_eq_some_iff.mp gb).1
    have bc := (Array.getElem?_eq_some_iff.mp gc).1
    refine wpAny_pyNext_zipD3_item S A1 A2 A3 hz hTI hTO ⟨s1, pa.isList⟩ ⟨s2, pb.isList⟩ ⟨s3, pc.isList⟩ ba bb bc ?_
    intro va vb vc h1 tk ea eb ec hz1 hTO1 t1 t2 t3 hnew hsz old
    obtain rfl : ua = va := Option.some.inj (ga.symm.trans ea)
    obtain rfl : ub = vb := Option.some.inj (gb.symm.trans eb)
    obtain rfl : uc = vc := Option.some.inj (gc.symm.trans ec)
    refine ⟨_, rfl, wpAny_letOwnedTupleGo_zip (s := { s with heap := h1, toks := tk }) hz1 ?_⟩
    intro h2 hz2 sb
    have zlow : z < s.heap.objs.size := Heap.lt_size hz
    have made : h2.get? s.heap.objs.size = some { cls := .type "tuple", data := .seq #[ua, ub, uc] } := (sb.2 _ (Nat.ne_of_gt zlow)).trans hnew
    have okn : ObjOk X.prog X.w (upd H s.heap.objs.size (.tup [x, y, zz])) h2 s.heap.objs.size (.tup [x, y, zz]) := by
      refine ⟨?_, [ua, ub, uc], .cons rua (.cons rub (.cons ruc .nil)), ⟨_, made, rfl, _, rfl⟩⟩
      show 3 ≤ sizeLine
      decide
    have kept : ∀ e o, e ∉ [z, TI, TO, i1, i2, i3] → s.heap.get? e = some o → h2.get? e = some o := by
      intro e o ne q
      simp only [List.mem_cons, List.not_mem_nil, or_false, not_or] at ne
      exact (sb.2 e ne.1).trans (old e o ne.1 ne.2.2.1 ne.2.2.2.1 ne.2.2.2.2.1 ne.2.2.2.2.2 q)
    have I2 : Inv X pins σ (upd H s.heap.objs.size (.tup [x, y, zz])) { s with heap := h2, toks := tk } := I.turnedNew (t' := tk) (ch := [z, TI, TO, i1, i2, i3]) (fun e o ne q => kept e o ne q) hf (Nat.le_refl _) okn
    refine ⟨.ref s.heap.objs.size, _, I2, rfl, ⟨_, x, y, zz, rfl, I.hok.fresh (Nat.le_refl _), rfl, ?_, ?_, ?_⟩, ⟨⟨hz2, ?_, ua, ub, uc, (sb.2 _ S.TOz).trans hTO1⟩, ?_, ?_, ?_⟩, ?_⟩
    · intro l hl; rw [I.list_inj hl qa]; exact hx
    · intro l hl; rw [I.list_inj hl qb]; exact hy
    · intro l hl; rw [I.list_inj hl qc]; exact hzz
    · exact (sb.2 _ S.TIz).trans (old _ _ S.TIz S.TITO S.TIi1 S.TIi2 S.TIi3 hTI)
    · exact t1.1.at fun o q => (sb.2 _ S.zi1.symm).trans q
    · exact t2.1.at fun o q => (sb.2 _ S.zi2.symm).trans q
    · exact t3.1.at fun o q => (sb.2 _ S.zi3.symm).trans q
    · intro e he
      have low : e < s.heap.objs.size := by
        rcases mem6 he with rfl | rfl | rfl | rfl | rfl | rfl
        · exact zlow
        · exact Heap.lt_size hTI
        · exact Heap.lt_size hTO
        · obtain ⟨_, q, _⟩ := s1; exact Heap.lt_size q
        · obtain ⟨_, q, _⟩ := s2; exact Heap.lt_size q
        · obtain ⟨_, q, _⟩ := s3; exact Heap.lt_size q
      rw [upd_ne (Nat.ne_of_lt low)]
      exact (hf e he).1
  case done =>
    intro X hP hw hK hc i pins s σ H E I hf st hg
    subst hP hw hK
    obtain ⟨⟨hz, hTI, u0, v0, w0, hTO⟩, s1, s2, s3⟩ := st
    obtain ⟨xs, ys, zs, ⟨qa, qb, qc⟩, over, n1, n2, n3⟩ := hg
    obtain ⟨la, ra, pa, _⟩ := I.list qa
    obtain ⟨lb, rb, pb, _⟩ := I.list qb
    obtain ⟨lc, rc, pc, _⟩ := I.list qc
    have hh : X.A.in1.handled = none := I.ok.hd hc
    have A1 := Draws.list (prog := X.prog) (w := X.w) hh i1 a na la.toArray
    have A2 := Draws.list (prog := X.prog) (w := X.w) hh i2 b nb lb.toArray
    have A3 := Draws.list (prog := X.prog) (w := X.w) hh i3 c nc lc.toArray
    have c1 : la.toArray.size = xs.length := by rw [List.size_toArray]; exact ra.length.symm
    have c2 : lb.toArray.size = ys.length := by rw [List.size_toArray]; exact rb.length.symm
    have c3 : lc.toArray.size = zs.length := by rw [List.size_toArray]; exact rc.length.symm
    refine wpAny_pyNext_zipD3_end S A1 A2 A3 hz hTI hTO ⟨s1, pa.isList⟩ ⟨s2, pb.isList⟩ ⟨s3, pc.isList⟩ (by omega) (by omega) (by omega) (by omega) ?_
    intro h1 tk old
    refine ⟨rfl, I.turnedL (t' := tk) (ch := [z, TI, TO, i1, i2, i3]) (fun e o ne q => ?_) hf⟩
    simp only [List.mem_cons, List.not_mem_nil, or_false, not_or] at ne
    exact old e o ne.1 ne.2.2.1 ne.2.2.2.1 ne.2.2.2.2.1 ne.2.2.2.2.2 q
  case self => intro A i s Q E st h; exact wpAny_pyIter_zip st.1.1 h
end
def iZip3 (K : PySem.W.Frag) (ta : TA) : TI := fun σ H R => ta σ H fun vs H1 => ∃ a b c xs ys zs, vs = [.ref a, .ref b, .ref c] ∧ (SqL K H1 a xs ∧ SqL K H1 b ys ∧ SqL K H1 c zs) ∧ R (Itz3 K a b c) H1
theorem sep3 (I a b c : Nat) (h1 : a < I) (h2 : b < I) (h3 : c < I) : ZipSep3 (I + 5) (I + 3) (I + 4) I (I + 1) (I + 2) [I, a] [I + 1, b] [I + 2, c] := by
  constructor <;> first
    | (simp; done)
    | (show ¬ ((_ : Nat) = _); omega)
    | (simp only [List.mem_cons, List.not_mem_nil, or_false, not_or]; refine ⟨?_, ?_⟩ <;> (show ¬ ((_ : Nat) = _); omega))
theorem pi_z3 {X : Cx} {e1 e2 e3 : Expr} {ta : TA} {p pos tpos : Pos} {elts : List Expr} {kk : Nat} (hg : Gl X "zip") (hm : X.mg "zip" = none) (ha : PA X [e1, e2, e3] ta)
    (hs : starEach [e1, e2, e3] X.env = (false, eval e1 X.env) :: starEach [e2, e3] X.env := by rfl) (hpl : (backTo pos (starEach [e2, e3] X.env)).any (·.1) = false := by rfl) :
    PI X (.Tuple elts kk tpos) (.Call (.Name "zip" p) [e1, e2, e3] [] pos) (iZip3 X.K ta) := by
  constructor
  intro pins s σ H R I h
  refine Call_ (ld_blt I hg hm PyProof.Rows.boot_zip (PyProof.Rows.callWith_type1 (thn (ha.run pos pins s σ H _ I h) ?_) hs hpl))
  rintro us s1 ⟨vs, H1, I1, r1, a, b, c, xs, ys, zs, ex, ⟨qa, qb, qc⟩, q⟩
  subst ex
  match us, r1 with
  | [_, _, _], .cons ra (.cons rb (.cons rc .nil)) =>
    cases ra
    cases rb
    cases rc
    obtain ⟨la, va, pa, _⟩ := I1.list qa
    obtain ⟨lb, vb, pb, _⟩ := I1.list qb
    obtain ⟨lc, vc, pc, _⟩ := I1.list qc
    refine zip_begins3 (begins_list a la.toArray) (begins_list b lb.toArray) (begins_list c lc.toArray) pa.isList pb.isList pc.isList ?_
    intro h1 hz hTI hTO g1 g2 g3 hsz old
    refine wpAny_pyIter_zip hz ?_
    have I2 : Inv X pins σ H1 { s1 with heap := h1 } := I1.kept (t' := s1.toks) old
    have sep := sep3 s1.heap.objs.size a b c pa.lt pb.lt pc.lt
    refine ⟨s1.heap.objs.size + 5, [s1.heap.objs.size + 5, s1.heap.objs.size + 3, s1.heap.objs.size + 4, s1.heap.objs.size, s1.heap.objs.size + 1, s1.heap.objs.size + 2], _, _, H1, rfl, I2, turn_z3 sep (Nat.ne_of_lt pa.lt) (Nat.ne_of_lt (Nat.lt_succ_of_lt pb.lt)) (Nat.ne_of_lt (Nat.lt_succ_of_lt (Nat.lt_succ_of_lt pc.lt))), ⟨⟨hz, hTI, _, _, _, hTO⟩, ⟨_, g1, rfl, rfl⟩, ⟨_, g2, rfl, rfl⟩, ⟨_, g3, rfl, rfl⟩⟩, ?_, q⟩
    intro e he
    have high : s1.heap.objs.size ≤ e := by
      rcases mem6 he with rfl | rfl | rfl | rfl | rfl | rfl
      · exact Nat.le_add_right _ _
      · exact Nat.le_add_right _ _
      · exact Nat.le_add_right _ _
      · exact Nat.le_refl _
      · exact Nat.le_add_right _ _
      · exact Nat.le_add_right _ _
    exact I1.fpOk high (I1.hok.fresh high)
def zip3D (ds es fs : List D) : List D := (ds.zip (es.zip fs)).map fun t => .tuple [t.1, t.2.1, t.2.2]
section
variable {K : PySem.W.Frag} {s rs : List SD} {tl : TA} {ds es fs : List D} {d : D} {QI : List D → List SD → (List SD → Prop) → List SD → Prop}
theorem zip3D_get {i : Nat} (h : (zip3D ds es fs)[i]? = some d) : ∃ a b c, ds[i]? = some a ∧ es[i]? = some b ∧ fs[i]? = some c ∧ d = .tuple [a, b, c] := by
  unfold zip3D at h
  rw [List.getElem?_map] at h
  cases e : (ds.zip (es.zip fs))[i]? with
  | none => rw [e] at h; cases h
  | some t =>
    rw [e] at h
    obtain ⟨h1, h2⟩ := List.getElem?_zip_eq_some.mp e
    obtain ⟨h3, h4⟩ := List.getElem?_zip_eq_some.mp h2
    exact ⟨_, _, _, h1, h3, h4, (Option.some.inj h).symm⟩
theorem zip3D_length : (zip3D ds es fs).length = min ds.length (min es.length fs.length) := by simp [zip3D]
theorem zip3D_maps {α : Type} (f g h : α → D) : ∀ zs : List α, zip3D (zs.map f) (zs.map g) (zs.map h) = zs.map fun z => .tuple [f z, g z, h z]
  | [] => rfl
  | z :: zs => by
    have := zip3D_maps f g h zs
    unfold zip3D at *
    simp only [List.map_cons, List.zip_cons_cons]
    rw [this]
theorem src_z3 {C : Addr → Prop} {H : Hp} {a b c : Addr} {xs ys zs : List V} (qa : SqL K H a xs) (ra : RpA K C H xs ds) (qb : SqL K H b ys) (rb : RpA K C H ys es) (qc : SqL K H c zs) (rc : RpA K C H zs fs) : SrcOk K (Itz3 K a b c) (zip3D ds es fs) H C := by
  have la := ra.length
  have lb := rb.length
  have lc := rc.length
  constructor
  · intro i d hd
    obtain ⟨u, v, w, hu, hv, hw, rfl⟩ := zip3D_get hd
    obtain ⟨x, hx, px⟩ := ra.get hu
    obtain ⟨y, hy, py⟩ := rb.get hv
    obtain ⟨z, hz, pz⟩ := rc.get hw
    refine ⟨⟨xs, ys, zs, x, y, z, ⟨qa, qb, qc⟩, hx, hy, hz⟩, ?_⟩
    rintro _ _ ⟨T, x', y', z', rfl, hn, rfl, fx, fy, fz⟩
    have e1 := fx xs qa
    have e2 := fy ys qb
    have e3 := fz zs qc
    rw [hx] at e1; cases e1
    rw [hy] at e2; cases e2
    rw [hz] at e3; cases e3
    have gr := upd_grow (o := HO.tup [x, y, z]) hn
    exact ⟨gr, .tup (SqT.of upd_same) (.cons (px.grow gr) (.cons (py.grow gr) (.cons (pz.grow gr) .nil)))⟩
  · rw [zip3D_length]
    exact ⟨xs, ys, zs, ⟨qa, qb, qc⟩, by omega, by omega, by omega, by omega⟩
theorem di_zip3 (h : DA ⟨K, ω⟩ tl s rs fun as s1 => ∃ r1 r2 r3 ds es fs, as = [r1, r2, r3] ∧ dat s1 r1 = some (.list ds) ∧ dat s1 r2 = some (.list es) ∧ dat s1 r3 = some (.list fs) ∧ QI (zip3D ds es fs) [r3, r2, r1] (fun s2 => dat s2 r1 = some (.list ds) ∧ dat s2 r2 = some (.list es) ∧ dat s2 r3 = some (.list fs)) s1) : DI ⟨K, ω⟩ (iZip3 K tl) s rs QI := fun Z σ ts H R o k =>
  h Z σ ts H _ o fun xs H1 s1 as o1 e ⟨r1, r2, r3, ds, es, fs, ea, e1, e2, e3, q⟩ => by
    subst ea
    obtain ⟨x, y, z, rfl⟩ : ∃ x y z, xs = [x, y, z] := by match xs, e with | [x, y, z], _ => exact ⟨x, y, z, rfl⟩
    have o1 : Ok K Z σ (z :: y :: x :: ts) H1 s1 (r3 :: r2 :: r1 :: rs) := o1
    obtain ⟨c, cs, rfl, c2, _⟩ := o1.listTop e3
    obtain ⟨b, bs, rfl, b2, _⟩ := o1.pop.listTop e2
    obtain ⟨a, as, rfl, a2, _⟩ := o1.pop.pop.listTop e1
    refine ⟨a, b, c, as, bs, cs, rfl, ⟨a2, b2, c2⟩, k _ H1 s1 [r3, r2, r1] [.ref c, .ref b, .ref a] _ _ o1 rfl (fun σ' H2 s2 tx ax o2 w => ?_) q⟩
    have o3 : Ok K Z σ' ((tx ++ [.ref c]) ++ (.ref b :: .ref a :: ts)) H2 s2 ((ax ++ [r3]) ++ (r2 :: r1 :: rs)) := by simpa using o2
    have o4 : Ok K Z σ' ((tx ++ [.ref c, .ref b]) ++ (.ref a :: ts)) H2 s2 ((ax ++ [r3, r2]) ++ (r1 :: rs)) := by simpa using o2
    obtain ⟨cs', p1, p2⟩ := Ok.placeL (r := r3) (rs := r2 :: r1 :: rs) (ts := .ref b :: .ref a :: ts) o2 (by simp [o.lt]) w.2.2
    obtain ⟨bs', p3, p4⟩ := Ok.placeL (r := r2) (rs := r1 :: rs) (ts := .ref a :: ts) o3 (by simp [o.lt]) w.2.1
    obtain ⟨as', p5, p6⟩ := Ok.placeL (r := r1) (rs := rs) (ts := ts) o4 o.lt w.1
    have p4 : RpA K (Cl Z (gv σ' (tx ++ ([.ref c, .ref b, .ref a] ++ ts))) (gs s2 (ax ++ ([r3, r2, r1] ++ rs)))) H2 bs' es := by simpa using p4
    have p6 : RpA K (Cl Z (gv σ' (tx ++ ([.ref c, .ref b, .ref a] ++ ts))) (gs s2 (ax ++ ([r3, r2, r1] ++ rs)))) H2 as' ds := by simpa using p6
    exact src_z3 p5 p6 p3 p4 p1 p2
end
theorem k_zip3 (K : PySem.W.Frag) {X : Cx} {e1 e2 e3 : Expr} {ta : TA} {p pos tpos : Pos} {elts : List Expr} {kk : Nat} (hk : X.K = K) (hg : Gl X "zip") (hm : X.mg "zip" = none) (ha : PA X [e1, e2, e3] ta)
    (hs : starEach [e1, e2, e3] X.env = (false, eval e1 X.env) :: starEach [e2, e3] X.env := by rfl) (hpl : (backTo pos (starEach [e2, e3] X.env)).any (·.1) = false := by rfl) :
    PI X (.Tuple elts kk tpos) (.Call (.Name "zip" p) [e1, e2, e3] [] pos) (iZip3 K ta) := by subst hk; exact pi_z3 hg hm ha hs hpl
section
variable {K : PySem.W.Frag} {s rs : List SD} {D0 : DEn} {ta tb tc td : TE} {i j l m n : Nat}
/-- a, b, c, d = (.., .., .., ..) -/
theorem ds_tup4 (hn : n = 4) (hd : [i, j, l, m].Nodup) (h : DA ⟨K, ω⟩ (tCons ta (tCons tb (tCons tc (tCons td tNil)))) s rs fun as s1 => ∃ r1 r2 r3 r4, as = [r1, r2, r3, r4] ∧ (i < s1.length ∧ j < s1.length ∧ l < s1.length ∧ m < s1.length) ∧ (storable r1 = true ∧ storable r2 = true ∧ storable r3 = true ∧ storable r4 = true) ∧ (noal rs i = true ∧ noal rs j = true ∧ noal rs l = true ∧ noal rs m = true) ∧ D0.nx ((((s1.set m r4).set l r3).set j r2).set i r1)) :
    DS ⟨K, ω⟩ (tAsg (tTup (tCons ta (tCons tb (tCons tc (tCons td tNil))))) (gTup K n (gCons (gName i) (gCons (gName j) (gCons (gName l) (gCons (gName m) gNil)))))) s rs D0 := fun Z σ ts H E o k1 k2 k3 k4 => by
    refine h Z σ ts H (fun xs H1 => xs.length ≤ sizeLine ∧ ∀ p, H1 p = none → gTup K n (gCons (gName i) (gCons (gName j) (gCons (gName l) (gCons (gName m) gNil)))) (.ref p) σ (upd H1 p (.tup xs)) E.nx) o ?_
    rintro xs H1 s1 as o1 e ⟨r1, r2, r3, r4, rfl, ⟨hi, hj, hl, hm⟩, ⟨h1, h2, h3, h4⟩, ⟨n1, n2, n3, n4⟩, q⟩
    obtain ⟨x, y, z, u, rfl⟩ : ∃ x y z u, xs = [x, y, z, u] := by
      match xs, e with
      | [x, y, z, u], _ => exact ⟨x, y, z, u, rfl⟩
    simp only [List.nodup_cons, List.mem_cons, List.not_mem_nil, or_false, not_or, not_false_eq_true, List.nodup_nil, and_true] at hd
    obtain ⟨⟨hij, hil, him⟩, ⟨hjl, hjm⟩, hlm⟩ := hd
    refine ⟨Nat.le_of_ble_eq_true rfl, fun p hp => ⟨p, [x, y, z, u], rfl, SqT.of upd_same, by rw [hn]; rfl, x, [y, z, u], rfl, y, [z, u], rfl, z, [u], rfl, u, [], rfl, rfl, ?_⟩⟩
    have ext : ∀ a v, H1 a = some v → upd H1 p (.tup [x, y, z, u]) a = some v := fun a v ha => by rw [upd_ne (ne_of_none ha hp)]; exact ha
    have o1 : Ok K Z σ (u :: z :: y :: x :: ts) H1 s1 (r4 :: r3 :: r2 :: r1 :: rs) := o1
    have o2 := (o1.ext ext).store hm (storable_al h4) (nc_push h3 (nc_push h2 (nc_push h1 n4)))
    have o3 := o2.store (i := l) (by simpa using hl) (storable_al h3) (nc_push h2 (nc_push h1 n3))
    have o4 := o3.store (i := j) (by simpa using hj) (storable_al h2) (nc_push h1 n2)
    have o5 := o4.store (i := i) (by simpa using hi) (storable_al h1) n1
    have eq : (((σ.set i (some x)).set j (some y)).set l (some z)).set m (some u) = (((σ.set m (some u)).set l (some z)).set j (some y)).set i (some x) := by
      rw [List.set_comm _ _ hij, List.set_comm _ _ hil, List.set_comm _ _ him, List.set_comm _ _ hjl, List.set_comm _ _ hjm, List.set_comm _ _ hlm]
    rw [eq]
    exact k1 _ _ _ o5 q
end
end W8

/-! W8s: texts: join, times a bit, len, sorted. -/
namespace W8
open PySem L2 RZ PySem.Spec PyProof.Rows
section
variable {X : Cx}
/-- a text once, or not at all -/
def rMulB : R2 := fun x y H Q => ∃ z n, x = .str z ∧ y = .int n ∧ ((n = 0 ∧ Q (.str Str.empty) H) ∨ (n = 1 ∧ Q (.str z) H))
theorem op_mulB : OpR X (binaryOp .Mult) rMulB := by
  intro pins s σ H x y v u Q I rx ry h
  obtain ⟨z, n, rfl, rfl, h⟩ := h
  obtain ⟨t, rfl⟩ := rx
  obtain ⟨t2, rfl⟩ := ry
  rcases h with ⟨rfl, q⟩ | ⟨rfl, q⟩
  · exact P.mul_str_none (by decide) (by decide) ⟨.str Str.empty, H, I.tok _, ⟨_, rfl⟩, q⟩
  · refine P.mul_str (by decide) (fun _ h => ?_) (fun _ h => ?_) ?_
    · exact absurd h (by simp)
    · exact absurd h (by simp)
    · rw [if_neg (by decide), if_pos (by simp)]
      exact ⟨.str z, H, I, ⟨_, rfl⟩, q⟩
theorem k_sortedA (K : PySem.W.Frag) (hk : X.K = K) : CallR X (.builtin "sorted") (fun xs H Q => rSorted K xs H Q ∨ rSortedS K xs H Q) := by
  subst hk
  intro pins s σ H xs us Q I r h
  rcases h with h | h
  · exact cr_sorted pins s σ H xs us Q I r h
  · exact cr_sortedS pins s σ H xs us Q I r h
def rJoin (K : PySem.W.Frag) : V → List V → Hp → VK → Prop := fun x xs H Q => ∃ a p, ∃ ys : List Str, x = .str a ∧ xs = [.ref p] ∧ (SqL K H p (ys.map V.str) ∨ SqT K H p (ys.map V.str)) ∧
  (ys.map (·.length)).sum + ys.length * a.length ≤ 16777216 ∧ Q (.str (Txt.join a ys)) H
theorem k_join (K : PySem.W.Frag) (hk : X.K = K) {o e : Expr} {to te : TE} {apos pos : Pos} (ho : PE X o to) (he : PE X e te) (hs : starEach [e] X.env = [(false, eval e X.env)] := by rfl) (hbase : attributeBase o "join" X.env (eval o X.env) = eval o X.env := by rfl) (hline : (apos.endLine == pos.line) = true := by rfl) :
    PE X (.Call (.Attribute o "join" apos) [e] [] pos) (tM1 (rJoin K) to te) := by subst hk; exact pe_join ho he hs hbase hline
end
section
variable {K : PySem.W.Frag} {s rs : List SD} {Q : SD → List SD → Prop} {to te : TE} {r : SD}
theorem op2_mulB {z : Str} {n : Int} (q0 : n = 0 → Q (.v (.str Str.empty)) s) (q1 : n = 1 → Q (.v (.str z)) s) (h : n = 0 ∨ n = 1) : OP2 ⟨K, ω⟩ rMulB (.v (.str z)) (.v (.int n)) s rs Q := fun Z σ ts H x y R o k => by
  have h1 := o.top
  have h2 := o.pop.top
  cases h1; cases h2
  refine ⟨z, n, rfl, rfl, ?_⟩
  rcases h with h | h
  · exact .inl ⟨h, k _ H s _ (o.pop.pop.pushV (.str _)) (q0 h)⟩
  · exact .inr ⟨h, k _ H s _ (o.pop.pop.pushV (.str _)) (q1 h)⟩
theorem op2_mulT {z : Str} {n : Int} (h : n = 0 ∨ n = 1) (q : Q (.v (.str (if n = 0 then Str.empty else z))) s) : OP2 ⟨K, ω⟩ rMulB (.v (.str z)) (.v (.int n)) s rs Q :=
  op2_mulB (fun e => by rw [if_pos e] at q; exact q) (fun e => by rw [if_neg (by omega)] at q; exact q) h
theorem opc_sortedS {ys : List Str} (h : dat s r = some (.list (ys.map .str))) (hl : ys.length < 64) (q : ∀ zs : List Str, zs.Perm ys → sortedS zs = true → Q (.ow none (zs.map .str)) s) : OPC ⟨K, ω⟩ (fun xs H Q => rSorted K xs H Q ∨ rSortedS K xs H Q) [r] s rs Q := fun Z σ ts H xs R o e k => by
  obtain ⟨x, rfl⟩ : ∃ x, xs = [x] := by match xs, e with | [x], _ => exact ⟨x, rfl⟩
  have o1 : Ok K Z σ (x :: ts) H s (r :: rs) := o
  obtain ⟨a, vs, rfl, h2, h3⟩ := o1.listTop h
  rw [h3.strs] at h2
  refine .inr ⟨a, ys, rfl, h2, hl, fun zs p hp hs hn => ?_⟩
  have rp : RpA K (Cl Z (gv σ ts) (gs s rs)) H (zs.map V.str) (zs.map .str) := by
    clear hp hs
    induction zs with
    | nil => exact .nil
    | cons z zs ih => exact .cons (.str z) ih
  exact k _ _ s _ (o1.pop.pushO hn rp) (q zs hp hs)
theorem opc_sortedI {ys : List Int} (h : dat s r = some (.list (ys.map .int))) (hl : ys.length < 64) (q : ∀ zs : List Int, zs.Perm ys → zs.Pairwise (· ≤ ·) → Q (.ow none (zs.map .int)) s) : OPC ⟨K, ω⟩ (fun xs H Q => rSorted K xs H Q ∨ rSortedS K xs H Q) [r] s rs Q := fun Z σ ts H xs R o e k => by
  obtain ⟨x, rfl⟩ : ∃ x, xs = [x] := by match xs, e with | [x], _ => exact ⟨x, rfl⟩
  have o1 : Ok K Z σ (x :: ts) H s (r :: rs) := o
  obtain ⟨a, vs, rfl, h2, h3⟩ := o1.listTop h
  rw [h3.ints] at h2
  exact .inl ⟨a, ys, rfl, h2, hl, fun zs p hp hs hn => k _ _ s _ (o1.pop.pushO hn (rpA_ints zs)) (q zs hp hs)⟩
theorem de_join (h : DE ⟨K, ω⟩ to s rs fun r0 s1 => ∃ a, r0 = .v (.str a) ∧ DE ⟨K, ω⟩ te s1 (r0 :: rs) fun r s2 => ∃ ys : List Str, dat s2 r = some (.list (ys.map .str)) ∧ (ys.map (·.length)).sum + ys.length * a.length ≤ 16777216 ∧ Q (.v (.str (Txt.join a ys))) s2) : DE ⟨K, ω⟩ (tM1 (rJoin K) to te) s rs Q := fun Z σ ts H R o k =>
  h Z σ ts H _ o fun x H1 s1 r0 o1 ⟨a, e0, q1⟩ => by
    subst e0
    have hx := o1.top
    cases hx
    refine ⟨⟨a, rfl⟩, q1 Z σ _ H1 _ o1 fun y H2 s2 r o2 ⟨ys, e1, hl, q⟩ => ?_⟩
    obtain ⟨p, vs, rfl, h2, h3⟩ := o2.listTop e1
    rw [h3.strs] at h2
    exact ⟨a, p, ys, rfl, rfl, .inl h2, hl, k _ H2 s2 _ (o2.pop.pop.pushV (.str _)) q⟩
end
section
variable {K : PySem.W.Frag} {s rs : List SD} {Q : SD → List SD → Prop} {te : TE}
/-- x[lo:hi] of a list or a text -/
theorem de_slA {tl th : TO} (h : DE ⟨K, ω⟩ te s rs fun r s1 => DO ⟨K, ω⟩ tl s1 (r :: rs) fun lo s2 => DO ⟨K, ω⟩ th s2 (r :: rs) fun hi s3 => (∃ ds, dat s3 r = some (.list ds) ∧ Q (.ow none (cutD ds lo hi)) s3) ∨ ∃ z, r = .v (.str z) ∧ z.length ≤ sizeLine ∧ Q (.v (.str (cutS z lo hi))) s3) :
    DE ⟨K, ω⟩ (tSl (fun x lo hi H Q => rSlL K x lo hi H Q ∨ rSlT K x lo hi H Q ∨ rSlS x lo hi H Q) te tl th) s rs Q := fun Z σ ts H R o k =>
  h Z σ ts H _ o fun x H1 s1 r o1 q1 => q1 Z σ _ H1 _ o1 fun lo H2 s2 o2 q2 => q2 Z σ _ H2 _ o2 fun hi H3 s3 o3 q3 => by
    rcases q3 with ⟨ds, e1, q⟩ | ⟨z, e1, hz, q⟩
    · obtain ⟨a, ys, rfl, h2, h3⟩ := o3.listTop e1
      exact .inl ⟨a, ys, rfl, h2, fun p hp => k _ _ s3 _ (o3.pop.pushO hp (h3.cut lo hi)) q⟩
    · subst e1
      have := o3.top
      cases this
      exact .inr (.inr ⟨z, rfl, hz, k _ _ s3 _ (o3.pop.pushV (.str _)) q⟩)
end
/-! texts by their signs -/
def tx (l : List Nat) : Str := ⟨l.toArray⟩
theorem tx_len (l : List Nat) : (tx l).length = l.length := List.size_toArray
theorem tx_app (a b : List Nat) : tx a ++ tx b = tx (a ++ b) := by
  show (⟨a.toArray ++ b.toArray⟩ : Str) = ⟨(a ++ b).toArray⟩
  rw [List.append_toArray]
theorem tx_inj {a b : List Nat} (h : tx a = tx b) : a = b := by
  have := congrArg (fun s : Str => s.cps.toList) h
  simpa [tx] using this
theorem tx_ok {l : List Nat} (h : ∀ c ∈ l, c < 0x110000) : tOk (tx l) := by
  intro c hc
  exact h c (by simpa [tx] using hc)
theorem tx_cutT (l : List Nat) (m : Nat) : cutS (tx l) none (some (m : Int)) = tx (l.take m) := by
  unfold cutS tx
  rw [HT.sIx_none, HT.sIx_nat, show (⟨l.toArray⟩ : Str).length = l.length from List.size_toArray]
  simp only [List.drop_zero, Nat.sub_zero]
  rw [← List.take_eq_take_min]
theorem tx_cutD (l : List Nat) (m : Nat) : cutS (tx l) (some (m : Int)) none = tx (l.drop m) := by
  unfold cutS tx
  rw [HT.sIx_none, HT.sIx_nat, show (⟨l.toArray⟩ : Str).length = l.length from List.size_toArray]
  simp only
  congr 1
  by_cases h : m ≤ l.length
  · rw [Nat.min_eq_left h, List.take_of_length_le (by simp)]
  · rw [Nat.min_eq_right (by omega), List.drop_eq_nil_of_le (Nat.le_refl _), List.drop_eq_nil_of_le (by omega), List.take_nil]
theorem tx_join : ∀ ls : List (List Nat), Str.join Str.empty (ls.map tx) = tx ls.flatten
  | [] => rfl
  | [x] => by simp [Str.join]
  | x :: y :: r => by
    have ih := tx_join (y :: r)
    show tx x ++ Str.empty ++ Str.join Str.empty ((y :: r).map tx) = _
    rw [ih, show Str.empty = tx [] from rfl, tx_app, tx_app]
    simp
theorem eqv_tx (a b : List Nat) : PyData.eqv (.str (tx a)) (.str (tx b)) = decide (a = b) := by
  show decide (tx a = tx b) = _
  by_cases h : a = b
  · subst h; simp
  · rw [decide_eq_false h, decide_eq_false fun z => h (tx_inj z)]
end W8

/-! W8t: in, texts walked and compared, slices of tuples. -/
namespace W8
open PySem L2 RZ PySem.Spec PyProof.Rows
section
variable {X : Cx}
/-- x in a list of data, a sign in a text -/
def rInA (K : PySem.W.Frag) : R2 := fun x y H Q => rInS x y H Q ∨ rInD K x y H Q
def rNotInA (K : PySem.W.Frag) : R2 := fun x y H Q => rNotInS x y H Q ∨ rNotInD K x y H Q
theorem _root_.L2.Room.units65 {k : Nat} {A : Around} (r : L2.Room k A) : A.units + 65 < cLine := by have := r.un; omega
theorem op_in_any (K : PySem.W.Frag) (hk : X.K = K) (hu : X.A.units + 65 < cLine) : OpR X (compareOp .In) (rInA K) := by subst hk; exact op_inS.or (op_inD hu)
theorem op_notIn_any (K : PySem.W.Frag) (hk : X.K = K) (hu : X.A.units + 65 < cLine) : OpR X (compareOp .NotIn) (rNotInA K) := by subst hk; exact op_notInS.or (op_notInD hu)
def rLtS : R2 := fun x y H Q => ∃ i j, x = .str i ∧ y = .str j ∧ Q (.bl (decide (i.cps.toList < j.cps.toList))) H
theorem op_ltS : OpR X (compareOp .Lt) rLtS := op_lt_str
def rSlB (K : PySem.W.Frag) : V → Option Int → Option Int → Hp → VK → Prop := fun x lo hi H Q => rSlL K x lo hi H Q ∨ rSlA K x lo hi H Q ∨ rSlS x lo hi H Q
theorem k_slB (K : PySem.W.Frag) (hk : X.K = K) : SlR X (rSlB K) := by
  subst hk
  intro pins s σ H x v vl vu lo hi sl Q I rx hs pl pu h
  rcases h with h | h | h
  · exact sl_list pins s σ H x v vl vu lo hi sl Q I rx hs pl pu h
  · exact sl_tupA pins s σ H x v vl vu lo hi sl Q I rx hs pl pu h
  · exact sl_str pins s σ H x v vl vu lo hi sl Q I rx hs pl pu h
def rAddB (K : PySem.W.Frag) : R2 := fun x y H Q => rAddA x y H Q ∨ rCatA K x y H Q
theorem op_addB (K : PySem.W.Frag) (hk : X.K = K) : OpR X (binaryOp .Add) (rAddB K) := by subst hk; exact op_addS.or op_catA
end
section
variable {K : PySem.W.Frag} {s rs : List SD} {Q : SD → List SD → Prop} {te : TE} {d : D} {ds es : List D} {r1 r2 : SD} {QI : List D → List SD → (List SD → Prop) → List SD → Prop}
theorem op2_inS {c : Nat} {z : Str} (q : Q (.v (.bool (decide (c ∈ z.cps.toList)))) s) : OP2 ⟨K, ω⟩ (rInA K) (.v (.str ⟨#[c]⟩)) (.v (.str z)) s rs Q := fun Z σ ts H x y R o k => by
  have h1 := o.top
  have h2 := o.pop.top
  cases h1; cases h2
  exact .inl ⟨c, z, rfl, rfl, k _ H s _ (o.pop.pop.pushV (.bl _)) q⟩
theorem op2_in (h1 : dat s r1 = some d) (h2 : dat s r2 = some (.list ds)) (s1 : SeqAt.shaped d = true) (s2 : SeqAt.shaped (.list ds) = true) (q : Q (.v (.bool (ds.any fun z => PyData.eqv z d))) s) : OP2 ⟨K, ω⟩ (rInA K) r1 r2 s rs Q := fun Z σ ts H x y R o k =>
  .inr ⟨d, ds, o.pop.dpTop h1, o.dpTop h2, s1, s2, k _ H s _ (o.pop.pop.pushV (.bl _)) q⟩
theorem op2_notIn (h1 : dat s r1 = some d) (h2 : dat s r2 = some (.list ds)) (s1 : SeqAt.shaped d = true) (s2 : SeqAt.shaped (.list ds) = true) (q : Q (.v (.bool (!ds.any fun z => PyData.eqv z d))) s) : OP2 ⟨K, ω⟩ (rNotInA K) r1 r2 s rs Q := fun Z σ ts H x y R o k =>
  .inr ⟨d, ds, o.pop.dpTop h1, o.dpTop h2, s1, s2, k _ H s _ (o.pop.pop.pushV (.bl _)) q⟩
theorem op2_ltS {a b : Str} (q : Q (.v (.bool (decide (a.cps.toList < b.cps.toList)))) s) : OP2 ⟨K, ω⟩ rLtS (.v (.str a)) (.v (.str b)) s rs Q := fun Z σ ts H x y R o k => by
  have h1 := o.top
  have h2 := o.pop.top
  cases h1; cases h2
  exact ⟨a, b, rfl, rfl, k _ H s _ (o.pop.pop.pushV (.bl _)) q⟩
def signsD (z : Str) : List D := z.cps.toList.map fun c => PyData.str ⟨#[c]⟩
theorem src_str {C : Addr → Prop} {H : Hp} {z : Str} : SrcOk K (Its z) (signsD z) H C := by
  refine ⟨fun i d hd => ?_, by unfold signsD; rw [List.length_map]; exact Nat.le_refl _⟩
  unfold signsD at hd
  rw [List.getElem?_map] at hd
  cases e : z.cps.toList[i]? with
  | none => rw [e] at hd; cases hd
  | some c =>
    rw [e] at hd; cases hd
    have hi : i < z.cps.size := by
      have := (List.getElem?_eq_some_iff.mp e).1
      simpa using this
    refine ⟨hi, fun y H' ⟨e1, c1, h1, h2⟩ => ?_⟩
    subst e1 h2
    have : c1 = c := by
      rw [← Array.getElem?_toList, e] at h1
      exact (Option.some.inj h1).symm
    subst this
    exact ⟨fun _ _ z => z, .str _⟩
theorem di_str (h : DE ⟨K, ω⟩ te s rs fun r s1 => ∃ z, r = .v (.str z) ∧ QI (signsD z) [] (fun _ => True) s1) : DI ⟨K, ω⟩ (iStr te) s rs QI := fun Z σ ts H R o k =>
  h Z σ ts H _ o fun x H1 s1 r o1 ⟨z, e1, q⟩ => by
    subst e1
    have := o1.top
    cases this
    exact ⟨z, rfl, k _ H1 s1 [] [] _ _ o1.pop rfl (fun σ' H2 s2 tx ax o2 _ => src_str) q⟩
/-- slices of lists, tuples, texts -/
theorem de_slB {tl th : TO} (h : DE ⟨K, ω⟩ te s rs fun r s1 => DO ⟨K, ω⟩ tl s1 (r :: rs) fun lo s2 => DO ⟨K, ω⟩ th s2 (r :: rs) fun hi s3 => (∃ ds, dat s3 r = some (.list ds) ∧ Q (.ow none (cutD ds lo hi)) s3) ∨ (∃ ds, r = .v (.tuple ds) ∧ Q (.v (.tuple (cutD ds lo hi))) s3) ∨ ∃ z, r = .v (.str z) ∧ z.length ≤ sizeLine ∧ Q (.v (.str (cutS z lo hi))) s3) :
    DE ⟨K, ω⟩ (tSl (rSlB K) te tl th) s rs Q := fun Z σ ts H R o k =>
  h Z σ ts H _ o fun x H1 s1 r o1 q1 => q1 Z σ _ H1 _ o1 fun lo H2 s2 o2 q2 => q2 Z σ _ H2 _ o2 fun hi H3 s3 o3 q3 => by
    rcases q3 with ⟨ds, e1, q⟩ | ⟨ds, e1, q⟩ | ⟨z, e1, hz, q⟩
    · obtain ⟨a, ys, rfl, h2, h3⟩ := o3.listTop e1
      exact .inl ⟨a, ys, rfl, h2, fun p hp => k _ _ s3 _ (o3.pop.pushO hp (h3.cut lo hi)) q⟩
    · subst e1
      obtain ⟨a, ys, rfl, h2, h3⟩ := o3.tupTop rfl
      refine .inr (.inl ⟨a, ys, rfl, h2, fun hw => ?_, fun _ p hp => ?_⟩)
      · have e : cutD ds lo hi = ds := by
          unfold cutD
          rw [← h3.length, hw.1, hw.2, List.drop_zero, Nat.sub_zero, h3.length, List.take_length]
        rw [e] at q
        exact k _ _ s3 _ o3 q
      · have ext : ∀ a u, H3 a = some u → upd H3 p (.tup (cutV ys lo hi)) a = some u := fun a u ha => by rw [upd_ne (ne_of_none ha hp)]; exact ha
        exact k _ _ s3 _ ((o3.pop.ext ext).pushV (.tup (SqT.of upd_same) (RpA.mono (fun _ _ => rd_ext ext) (fun _ _ q r => ⟨q, rd_ext ext r⟩) _ _ (h3.cut lo hi)))) q
    · subst e1
      have := o3.top
      cases this
      exact .inr (.inr ⟨z, rfl, hz, k _ _ s3 _ (o3.pop.pushV (.str _)) q⟩)
/-- + of tuples too -/
theorem op2_addB {r1 r2 : SD} (h : OP2 ⟨K, ω⟩ rAddA r1 r2 s rs Q) : OP2 ⟨K, ω⟩ (rAddB K) r1 r2 s rs Q := fun Z σ ts H x y R o k => .inl (h Z σ ts H x y R o k)
theorem op2_addU (hl : ds.length + es.length ≤ 100000) (q : Q (.v (.tuple (ds ++ es))) s) : OP2 ⟨K, ω⟩ (rAddB K) (.v (.tuple ds)) (.v (.tuple es)) s rs Q := fun Z σ ts H x y R o k => by
  obtain ⟨b, zs, rfl, b2, b3⟩ := o.tupTop rfl
  obtain ⟨a, ys, rfl, a2, a3⟩ := o.pop.tupTop rfl
  refine .inr ⟨a, b, ys, zs, rfl, rfl, a2, b2, by rw [a3.length, b3.length]; exact Nat.le_trans hl (by decide), fun e => ?_, fun _ e => ?_, fun _ _ p hp => ?_⟩
  · subst e
    have : ds = [] := List.eq_nil_of_length_eq_zero (by have := a3.length; simpa using this.symm)
    subst this
    exact k _ _ s _ (o.pop.pop.pushV (.tup b2 (b3.clean (cl_pop o.pop)))) q
  · subst e
    have : es = [] := List.eq_nil_of_length_eq_zero (by have := b3.length; simpa using this.symm)
    subst this
    rw [List.append_nil] at q
    exact k _ _ s _ o.pop q
  · have ext : ∀ c u, H c = some u → upd H p (.tup (ys ++ zs)) c = some u := fun c u ha => by rw [upd_ne (ne_of_none ha hp)]; exact ha
    exact k _ _ s _ ((o.pop.pop.ext ext).pushV (.tup (SqT.of upd_same) (RpA.mono (fun _ _ => rd_ext ext) (fun _ _ q r => ⟨q, rd_ext ext r⟩) _ _ (a3.append (b3.clean (cl_pop o.pop)))))) q
end
end W8

/-! W8u: comprehensions whose items come late. -/
namespace W8
open PySem L2 RZ
section
variable {K : PySem.W.Frag} {s rs as : List SD} {Q : SD → List SD → Prop} {te : TE} {wi : TI} {tt : TT} {g : TG} {vs : List Nat} {r : SD}
/-- [f(x) for x in .. if p(x)], all told once the items stand -/
theorem de_lcVG (α : Type) (hg : GW g vs) (h : DI ⟨K, ω⟩ wi s rs fun its as W s1 => ∃ (xs : List α) (u : α → D) (p : α → Bool) (f : α → D), its = xs.map u ∧ (∀ i ∈ vs, noal as i = true ∧ noal rs i = true) ∧ W (wipeS s1 vs) ∧ its.length ≤ 100000 ∧
    (∀ x ∈ xs, ∀ acc, DG ⟨K, ω⟩ g (.v (u x)) (wipeS s1 vs) (.ow none acc :: (as ++ rs)) fun s2 => DT ⟨K, ω⟩ tt s2 (.ow none acc :: (as ++ rs)) fun b s3 => b = p x ∧ if p x = true then DE ⟨K, ω⟩ te s3 (.ow none acc :: (as ++ rs)) fun r s4 => ∃ e, asD r = some e ∧ e = f x ∧ wipeS s4 vs = wipeS s1 vs else wipeS s3 vs = wipeS s1 vs) ∧
    wipeS (wipeS s1 vs) vs = wipeS s1 vs ∧ Q (.ow none ((xs.filter p).map f)) (wipeS s1 vs)) : DE ⟨K, ω⟩ (tLc wi g tt te vs) s rs Q := by
  refine de_lc hg fun Z σ ts H R o k => h Z σ ts H R o fun J H' s1 as ys its W o' e hW ⟨xs, u, p, f, hi, hv, hw, hl, hs, hx, q⟩ => k J H' s1 as ys its W o' e hW ?_
  subst hi
  refine ⟨fun k s' acc => s' = wipeS s1 vs ∧ acc = ((xs.take k).filter p).map f, hv, ⟨rfl, by simp⟩, ?_, hl, ?_, ?_⟩
  · rintro k s' acc _ ⟨rfl, _⟩; exact hw
  · rintro k d s' acc hd _ ⟨rfl, rfl⟩
    rw [List.getElem?_map] at hd
    cases e : xs[k]? with
    | none => rw [e] at hd; cases hd
    | some x =>
      rw [e] at hd
      obtain rfl : u x = d := Option.some.inj hd
      have et : (xs.take (k + 1)).filter p = (xs.take k).filter p ++ [x].filter p := by rw [List.take_succ, e, List.filter_append]; rfl
      intro Z σ ts H v R o k
      refine hs x (List.mem_of_getElem? e) _ Z σ ts H v R o fun σ' H' s' o' q => k σ' H' s' o' (q.imp ?_)
      rintro b s3 ⟨rfl, q⟩
      by_cases hp : p x = true
      · rw [if_pos hp] at q ⊢
        refine q.imp fun r s4 ⟨e, h1, h2, h3⟩ => ⟨e, h1, h3, ?_⟩
        rw [h2, et, List.map_append, List.filter_cons, if_pos hp]; rfl
      · rw [if_neg hp] at q ⊢
        refine ⟨q, ?_⟩
        rw [et, List.filter_cons, if_neg hp]; simp
  · rintro s' acc ⟨rfl, rfl⟩
    rw [List.length_map, List.take_length, hx]
    exact q
theorem de_lcV (α : Type) (hg : GW g vs) (h : DI ⟨K, ω⟩ wi s rs fun its as W s1 => ∃ (xs : List α) (u : α → D) (f : α → D), its = xs.map u ∧ (∀ i ∈ vs, noal as i = true ∧ noal rs i = true) ∧ W (wipeS s1 vs) ∧ its.length ≤ 100000 ∧
    (∀ x ∈ xs, ∀ acc, DG ⟨K, ω⟩ g (.v (u x)) (wipeS s1 vs) (.ow none acc :: (as ++ rs)) fun s2 => DE ⟨K, ω⟩ te s2 (.ow none acc :: (as ++ rs)) fun r s4 => ∃ e, asD r = some e ∧ e = f x ∧ wipeS s4 vs = wipeS s1 vs) ∧
    wipeS (wipeS s1 vs) vs = wipeS s1 vs ∧ Q (.ow none (xs.map f)) (wipeS s1 vs)) : DE ⟨K, ω⟩ (tLc wi g tYes te vs) s rs Q := by
  refine de_lcVG α hg fun Z σ ts H R o k => h Z σ ts H R o fun J H' s1 as ys its W o' e hW ⟨xs, u, f, hi, hv, hw, hl, hs, hx, q⟩ => k J H' s1 as ys its W o' e hW ?_
  refine ⟨xs, u, fun _ => true, f, hi, hv, hw, hl, fun x hx acc Z σ ts H v R o k => ?_, hx, ?_⟩
  · refine hs x hx acc Z σ ts H v R o fun σ' H' s' o' q => k σ' H' s' o' (dt_yes ⟨rfl, ?_⟩)
    rw [if_pos rfl]
    exact q
  · rw [List.filter_eq_self.mpr fun _ _ => rfl]; exact q
/-- the invariant told once the items stand -/
theorem gw_trip {i j l : Nat} {n : Nat} (hi : i ∈ vs) (hj : j ∈ vs) (hl : l ∈ vs) : GW (gTup K n (gCons (gName i) (gCons (gName j) (gCons (gName l) gNil)))) vs := gw_tup (gws_cons (gw_name hi) (gws_cons (gw_name hj) (gws_cons (gw_name hl) gws_nil)))
end
theorem all_in3 {i j l : Nat} {P : Nat → Prop} (h1 : P i) (h2 : P j) (h3 : P l) : ∀ k ∈ [i, j, l], P k := fun k hk => by
  rcases List.mem_cons.mp hk with rfl | hk
  · exact h1
  · exact all_in2 h2 h3 k hk
end W8

/-! W8v: zip of a list and a tuple, either way. -/
namespace W8
open PySem L2 RZ PySem.Spec PyProof.Rows
/-- at a stands a list (false), a tuple (true) -/
def SqK (K : PySem.W.Frag) (k : Bool) (H : Hp) (a : Addr) (xs : List V) : Prop := if k then SqT K H a xs else SqL K H a xs
def HpK (k : Bool) (h : Heap) (a : Addr) (its : Array Value) : Prop := if k then h.IsTuple a its else h.IsList a its
def ItK (k : Bool) (h : Heap) (it a : Addr) (i : Nat) : Prop := if k then h.IsTupleIter it a i else h.IsListIter it a i
def ObK (k : Bool) (a : Addr) : Obj := if k then { cls := .type "tuple_iterator", data := .fields #[.ref a, .int 0 0] } else { cls := .type "list_iterator", data := .fields #[.ref a, .int 0 0] }
theorem draws_k {prog : Program} {w : World} {A : Around} (hh : A.handled = none) (k : Bool) (it t : Addr) (hne : t ≠ it) (items : Array Value) :
    Draws prog w A it [it, t] items.size (fun i v => items[i]? = some v) (fun i h => ItK k h it t i ∧ HpK k h t items) := by
  cases k
  · exact Draws.list hh it t hne items
  · exact Draws.tuple hh it t hne items
theorem begins_k (k : Bool) (l : Addr) (items : Array Value) : Begins (.ref l) (ObK k l) fun h => HpK k h l items := by
  cases k
  · exact begins_list l items
  · exact begins_tuple l items
theorem ItK.get {k : Bool} {h : Heap} {it a : Addr} {i : Nat} (x : ItK k h it a i) : ∃ o, h.get? it = some o ∧ ∃ vs, o.data = .fields vs := by
  cases k <;> (obtain ⟨o, e, _, d⟩ := x; exact ⟨o, e, _, d⟩)
theorem ItK.at {k : Bool} {h h' : Heap} {it a : Addr} {i : Nat} (x : ItK k h it a i) (f : ∀ o, h.get? it = some o → h'.get? it = some o) : ItK k h' it a i := by
  cases k
  · exact (show h.IsListIter it a i from x).at f
  · exact (show h.IsTupleIter it a i from x).at f
theorem sqK_at {X : Cx} {pins : List (Addr × Obj)} {σ : L2.St} {H : Hp} {s : Shared} {k : Bool} {a : Addr} {xs : List V} (I : Inv X pins σ H s) (q : SqK X.K k H a xs) : ∃ its : List Value, Vals xs its ∧ HpK k s.heap a its.toArray ∧ a < s.heap.objs.size := by
  cases k
  · obtain ⟨l, r, p, _⟩ := I.list q; exact ⟨l, r, p.isList, p.lt⟩
  · obtain ⟨l, r, p, _⟩ := I.tuple q
    have p' : s.heap.IsTuple a l.toArray := p
    obtain ⟨o, e, _⟩ := p'
    exact ⟨l, r, p, Heap.lt_size e⟩
theorem sqK_inj {X : Cx} {pins : List (Addr × Obj)} {σ : L2.St} {H : Hp} {s : Shared} {k : Bool} {a : Addr} {xs ys : List V} (I : Inv X pins σ H s) (q : SqK X.K k H a xs) (q' : SqK X.K k H a ys) : xs = ys := by
  cases k
  · exact I.list_inj q q'
  · exact I.tuple_inj q q'
/-- two of them side by side -/
def ItzM (K : PySem.W.Frag) (ka kb : Bool) (a b : Addr) : It where
  go := fun i H => ∃ (xs ys : List V) (x y : V), (SqK K ka H a xs ∧ SqK K kb H b ys) ∧ xs[i]? = some x ∧ ys[i]? = some y
  yld := fun i H v H' => ∃ T x y, v = .ref T ∧ H T = none ∧ H' = upd H T (.tup [x, y]) ∧ (∀ xs, SqK K ka H a xs → xs[i]? = some x) ∧ ∀ ys, SqK K kb H b ys → ys[i]? = some y
  stop := fun i H => ∃ xs ys : List V, (SqK K ka H a xs ∧ SqK K kb H b ys) ∧ (xs.length ≤ i ∨ ys.length ≤ i) ∧ i ≤ xs.length ∧ i ≤ ys.length
abbrev Zs2 (ka kb : Bool) (a b z TI TO i1 i2 : Addr) (i : Nat) (h : Heap) : Prop :=
  (IsZip h z TI TO .none ∧ IsTupOf2 h TI (.ref i1) (.ref i2) ∧ ∃ u v, IsTupOf2 h TO u v) ∧ ItK ka h i1 a i ∧ ItK kb h i2 b i
theorem mem5 {z TI TO i1 i2 e : Addr} (h : e ∈ [z, TI, TO, i1, i2]) : e = z ∨ e = TI ∨ e = TO ∨ e = i1 ∨ e = i2 := by simpa using h
section
variable {P : Program} {w : World} {K : PySem.W.Frag} {elts : List Expr} {kk : Nat} {tpos : Pos} {ka kb : Bool} {a b z TI TO i1 i2 : Addr}
theorem turn_zm (S : ZipSep2 z TI TO i1 i2 [i1, a] [i2, b]) (na : a ≠ i1) (nb : b ≠ i2) : Turn P w K (.Tuple elts kk tpos) (ItzM K ka kb a b) [z, TI, TO, i1, i2] z (Zs2 ka kb a b z TI TO i1 i2) := by
  constructor
  case mem => exact List.mem_cons_self
  case obj =>
    rintro i h ⟨⟨hz, hTI, _, _, hTO⟩, s1, s2⟩ e he
    obtain ⟨o1, e1, v1, d1⟩ := s1.get
    obtain ⟨o2, e2, v2, d2⟩ := s2.get
    rcases mem5 he with rfl | rfl | rfl | rfl | rfl
    · exact ⟨_, hz, fun _ y => nomatch y⟩
    · exact ⟨_, hTI, fun _ y => nomatch y⟩
    · exact ⟨_, hTO, fun _ y => nomatch y⟩
    · exact ⟨o1, e1, fun _ y => by rw [d1] at y; cases y⟩
    · exact ⟨o2, e2, fun _ y => by rw [d2] at y; cases y⟩
  case keep =>
    rintro i h h' ⟨⟨hz, hTI, u, v, hTO⟩, s1, s2⟩ k
    exact ⟨⟨k z (by simp) _ hz, k TI (by simp) _ hTI, u, v, k TO (by simp) _ hTO⟩, s1.at fun o y => k i1 (by simp) o y, s2.at fun o y => k i2 (by simp) o y⟩
  case item =>
    intro X hP hw hK hc i pins s σ H E I hf st hg
    subst hP hw hK
    obtain ⟨⟨hz, hTI, u0, v0, hTO⟩, s1, s2⟩ := st
    obtain ⟨xs, ys, x, y, ⟨qa, qb⟩, hx, hy⟩ := hg
    obtain ⟨la, ra, pa, _⟩ := sqK_at I qa
    obtain ⟨lb, rb, pb, _⟩ := sqK_at I qb
    obtain ⟨ua, hua, rua⟩ := ra.get hx
    obtain ⟨ub, hub, rub⟩ := rb.get hy
    have hh : X.A.in1.handled = none := I.ok.hd hc
    have A1 := draws_k (prog := X.prog) (w := X.w) hh ka i1 a na la.toArray
    have A2 := draws_k (prog := X.prog) (w := X.w) hh kb i2 b nb lb.toArray
    have ga : la.toArray[i]? = some ua := by simpa using hua
    have gb : lb.toArray[i]? = some ub := by simpa using hub
    have ba := (Array.getElem?_eq_some_iff.mp ga).1
    have bb := (Array.getElem?_eq_some_iff.mp gb).1
    refine wpAny_pyNext_zipD2_item S A1 A2 hz hTI hTO ⟨s1, pa⟩ ⟨s2, pb⟩ ba bb ?_
    intro va vb h1 tk ea eb hz1 hTO1 t1 t2 hnew hsz old
    obtain rfl : ua = va := Option.some.inj (ga.symm.trans ea)
    obtain rfl : ub = vb := Option.some.inj (gb.symm.trans eb)
    refine ⟨_, rfl, wpAny_letOwnedTupleGo_zip (s := { s with heap := h1, toks := tk }) hz1 ?_⟩
    intro h2 hz2 sb
    have zlow : z < s.heap.objs.size := Heap.lt_size hz
    have made : h2.get? s.heap.objs.size = some { cls := .type "tuple", data := .seq #[ua, ub] } := (sb.2 _ (Nat.ne_of_gt zlow)).trans hnew
    have okn : ObjOk X.prog X.w (upd H s.heap.objs.size (.tup [x, y])) h2 s.heap.objs.size (.tup [x, y]) := by
      refine ⟨?_, [ua, ub], .cons rua (.cons rub .nil), ⟨_, made, rfl, _, rfl⟩⟩
      show 2 ≤ sizeLine
      decide
    have kept : ∀ e o, e ∉ [z, TI, TO, i1, i2] → s.heap.get? e = some o → h2.get? e = some o := by
      intro e o ne q
      simp only [List.mem_cons, List.not_mem_nil, or_false, not_or] at ne
      exact (sb.2 e ne.1).trans (old e o ne.1 ne.2.2.1 ne.2.2.2.1 ne.2.2.2.2 q)
    have I2 : Inv X pins σ (upd H s.heap.objs.size (.tup [x, y])) { s with heap := h2, toks := tk } := I.turnedNew (t' := tk) (ch := [z, TI, TO, i1, i2]) (fun e o ne q => kept e o ne q) hf (Nat.le_refl _) okn
    obtain ⟨o1, g1, _⟩ := s1.get
    obtain ⟨o2, g2, _⟩ := s2.get
    refine ⟨.ref s.heap.objs.size, _, I2, rfl, ⟨_, x, y, rfl, I.hok.fresh (Nat.le_refl _), rfl, ?_, ?_⟩, ⟨⟨hz2, ?_, ua, ub, (sb.2 _ S.TOz).trans hTO1⟩, ?_, ?_⟩, ?_⟩
    · intro l hl; rw [sqK_inj I hl qa]; exact hx
    · intro l hl; rw [sqK_inj I hl qb]; exact hy
    · exact (sb.2 _ S.TIz).trans (old _ _ S.TIz S.TITO S.TIi1 S.TIi2 hTI)
    · exact t1.1.at fun o q => (sb.2 _ S.zi1.symm).trans q
    · exact t2.1.at fun o q => (sb.2 _ S.zi2.symm).trans q
    · intro e he
      have low : e < s.heap.objs.size := by
        rcases mem5 he with rfl | rfl | rfl | rfl | rfl
        · exact zlow
        · exact Heap.lt_size hTI
        · exact Heap.lt_size hTO
        · exact Heap.lt_size g1
        · exact Heap.lt_size g2
      rw [upd_ne (Nat.ne_of_lt low)]
      exact (hf e he).1
  case done =>
    intro X hP hw hK hc i pins s σ H E I hf st hg
    subst hP hw hK
    obtain ⟨⟨hz, hTI, u0, v0, hTO⟩, s1, s2⟩ := st
    obtain ⟨xs, ys, ⟨qa, qb⟩, over, n1, n2⟩ := hg
    obtain ⟨la, ra, pa, _⟩ := sqK_at I qa
    obtain ⟨lb, rb, pb, _⟩ := sqK_at I qb
    have hh : X.A.in1.handled = none := I.ok.hd hc
    have A1 := draws_k (prog := X.prog) (w := X.w) hh ka i1 a na la.toArray
    have A2 := draws_k (prog := X.prog) (w := X.w) hh kb i2 b nb lb.toArray
    have c1 : la.toArray.size = xs.length := by rw [List.size_toArray]; exact ra.length.symm
    have c2 : lb.toArray.size = ys.length := by rw [List.size_toArray]; exact rb.length.symm
    refine wpAny_pyNext_zipD2_end S A1 A2 hz hTI hTO ⟨s1, pa⟩ ⟨s2, pb⟩ (by omega) (by omega) (by omega) ?_
    intro h1 tk old
    refine ⟨rfl, I.turnedL (t' := tk) (ch := [z, TI, TO, i1, i2]) (fun e o ne q => ?_) hf⟩
    simp only [List.mem_cons, List.not_mem_nil, or_false, not_or] at ne
    exact old e o ne.1 ne.2.2.1 ne.2.2.2.1 ne.2.2.2.2 q
  case self => intro A i s Q E st h; exact wpAny_pyIter_zip st.1.1 h
end
def iZipM (K : PySem.W.Frag) (ta : TA) : TI := fun σ H R => ta σ H fun vs H1 => ∃ ka kb a b xs ys, vs = [.ref a, .ref b] ∧ (SqK K ka H1 a xs ∧ SqK K kb H1 b ys) ∧ R (ItzM K ka kb a b) H1
theorem sep2 (I a b : Nat) (h1 : a < I) (h2 : b < I) : ZipSep2 (I + 4) (I + 2) (I + 3) I (I + 1) [I, a] [I + 1, b] := by
  constructor <;> first
    | (simp; done)
    | (show ¬ ((_ : Nat) = _); omega)
    | (simp only [List.mem_cons, List.not_mem_nil, or_false, not_or]; refine ⟨?_, ?_⟩ <;> (show ¬ ((_ : Nat) = _); omega))
theorem ItK.first (k : Bool) {h : Heap} {it a : Addr} (e : h.get? it = some (ObK k a)) : ItK k h it a 0 := by
  cases k
  · exact ⟨_, e, rfl, rfl⟩
  · exact ⟨_, e, rfl, rfl⟩
theorem pi_zm {X : Cx} {e1 e2 : Expr} {ta : TA} {p pos tpos : Pos} {elts : List Expr} {kk : Nat} (hg : Gl X "zip") (hm : X.mg "zip" = none) (ha : PA X [e1, e2] ta)
    (hs : starEach [e1, e2] X.env = (false, eval e1 X.env) :: starEach [e2] X.env := by rfl) (hpl : (backTo pos (starEach [e2] X.env)).any (·.1) = false := by rfl) :
    PI X (.Tuple elts kk tpos) (.Call (.Name "zip" p) [e1, e2] [] pos) (iZipM X.K ta) := by
  constructor
  intro pins s σ H R I h
  refine Call_ (ld_blt I hg hm PyProof.Rows.boot_zip (PyProof.Rows.callWith_type1 (thn (ha.run pos pins s σ H _ I h) ?_) hs hpl))
  rintro us s1 ⟨vs, H1, I1, r1, ka, kb, a, b, xs, ys, ex, ⟨qa, qb⟩, q⟩
  subst ex
  match us, r1 with
  | [_, _], .cons ra (.cons rb .nil) =>
    cases ra
    cases rb
    obtain ⟨la, va, pa, ga⟩ := sqK_at I1 qa
    obtain ⟨lb, vb, pb, gb⟩ := sqK_at I1 qb
    refine zip_begins2 (begins_k ka a la.toArray) (begins_k kb b lb.toArray) pa pb ?_
    intro h1 hz hTI hTO g1 g2 hsz old
    refine wpAny_pyIter_zip hz ?_
    have I2 : Inv X pins σ H1 { s1 with heap := h1 } := I1.kept (t' := s1.toks) old
    have sep := sep2 s1.heap.objs.size a b ga gb
    refine ⟨s1.heap.objs.size + 4, [s1.heap.objs.size + 4, s1.heap.objs.size + 2, s1.heap.objs.size + 3, s1.heap.objs.size, s1.heap.objs.size + 1], _, _, H1, rfl, I2, turn_zm sep (Nat.ne_of_lt ga) (Nat.ne_of_lt (Nat.lt_succ_of_lt gb)), ⟨⟨hz, hTI, _, _, hTO⟩, .first ka g1, .first kb g2⟩, ?_, q⟩
    intro e he
    have high : s1.heap.objs.size ≤ e := by
      rcases mem5 he with rfl | rfl | rfl | rfl | rfl
      · exact Nat.le_add_right _ _
      · exact Nat.le_add_right _ _
      · exact Nat.le_add_right _ _
      · exact Nat.le_refl _
      · exact Nat.le_add_right _ _
    exact I1.fpOk high (I1.hok.fresh high)
section
variable {K : PySem.W.Frag} {s rs : List SD} {tl : TA} {ds es : List D} {d : D} {QI : List D → List SD → (List SD → Prop) → List SD → Prop}
theorem src_zm {C : Addr → Prop} {H : Hp} {ka kb : Bool} {a b : Addr} {xs ys : List V} (qa : SqK K ka H a xs) (ra : RpA K C H xs ds) (qb : SqK K kb H b ys) (rb : RpA K C H ys es) : SrcOk K (ItzM K ka kb a b) (zipD ds es) H C := by
  have la := ra.length
  have lb := rb.length
  constructor
  · intro i d hd
    obtain ⟨u, v, hu, hv, rfl⟩ := zipD_get hd
    obtain ⟨x, hx, px⟩ := ra.get hu
    obtain ⟨y, hy, py⟩ := rb.get hv
    refine ⟨⟨xs, ys, x, y, ⟨qa, qb⟩, hx, hy⟩, ?_⟩
    rintro _ _ ⟨T, x', y', rfl, hn, rfl, fx, fy⟩
    have e1 := fx xs qa
    have e2 := fy ys qb
    rw [hx] at e1; cases e1
    rw [hy] at e2; cases e2
    exact ⟨upd_grow hn, rp_pair hn px py⟩
  · rw [zipD_length]
    exact ⟨xs, ys, ⟨qa, qb⟩, by omega, by omega, by omega⟩
/-- a tuple and a list -/
theorem di_zipTL (h : DA ⟨K, ω⟩ tl s rs fun as s1 => ∃ r2 ds es, as = [.v (.tuple ds), r2] ∧ dat s1 r2 = some (.list es) ∧ QI (zipD ds es) [r2, .v (.tuple ds)] (fun s2 => dat s2 r2 = some (.list es)) s1) : DI ⟨K, ω⟩ (iZipM K tl) s rs QI := fun Z σ ts H R o k =>
  h Z σ ts H _ o fun xs H1 s1 as o1 e ⟨r2, ds, es, ea, e2, q⟩ => by
    subst ea
    obtain ⟨x, y, rfl⟩ : ∃ x y, xs = [x, y] := by match xs, e with | [x, y], _ => exact ⟨x, y, rfl⟩
    have o1 : Ok K Z σ (y :: x :: ts) H1 s1 (r2 :: .v (.tuple ds) :: rs) := o1
    obtain ⟨b, bs, rfl, b2, _⟩ := o1.listTop e2
    obtain ⟨a, as, rfl, a2, _⟩ := o1.pop.tupTop rfl
    refine ⟨true, false, a, b, as, bs, rfl, ⟨a2, b2⟩, k _ H1 s1 [r2, .v (.tuple ds)] [.ref b, .ref a] _ _ o1 rfl (fun σ' H2 s2 tx ax o2 w => ?_) q⟩
    have o3 : Ok K Z σ' ((tx ++ [.ref b]) ++ (.ref a :: ts)) H2 s2 ((ax ++ [r2]) ++ (.v (.tuple ds) :: rs)) := by simpa using o2
    obtain ⟨bs', p1, p2⟩ := Ok.placeL (r := r2) (rs := .v (.tuple ds) :: rs) (ts := .ref a :: ts) o2 (by simp [o.lt]) w
    obtain ⟨as', p3, p4⟩ := Ok.placeT (rs := rs) (ts := ts) o3 o.lt
    have p4 : RpA K (Cl Z (gv σ' (tx ++ ([.ref b, .ref a] ++ ts))) (gs s2 (ax ++ ([r2, .v (.tuple ds)] ++ rs)))) H2 as' ds := by simpa using p4
    exact src_zm (ka := true) (kb := false) p3 p4 p1 p2
/-- a list and a tuple -/
theorem di_zipLT (h : DA ⟨K, ω⟩ tl s rs fun as s1 => ∃ r1 ds es, as = [r1, .v (.tuple es)] ∧ dat s1 r1 = some (.list ds) ∧ QI (zipD ds es) [.v (.tuple es), r1] (fun s2 => dat s2 r1 = some (.list ds)) s1) : DI ⟨K, ω⟩ (iZipM K tl) s rs QI := fun Z σ ts H R o k =>
  h Z σ ts H _ o fun xs H1 s1 as o1 e ⟨r1, ds, es, ea, e1, q⟩ => by
    subst ea
    obtain ⟨x, y, rfl⟩ : ∃ x y, xs = [x, y] := by match xs, e with | [x, y], _ => exact ⟨x, y, rfl⟩
    have o1 : Ok K Z σ (y :: x :: ts) H1 s1 (.v (.tuple es) :: r1 :: rs) := o1
    obtain ⟨b, bs, rfl, b2, _⟩ := o1.tupTop rfl
    obtain ⟨a, as, rfl, a2, _⟩ := o1.pop.listTop e1
    refine ⟨false, true, a, b, as, bs, rfl, ⟨a2, b2⟩, k _ H1 s1 [.v (.tuple es), r1] [.ref b, .ref a] _ _ o1 rfl (fun σ' H2 s2 tx ax o2 w => ?_) q⟩
    have o3 : Ok K Z σ' ((tx ++ [.ref b]) ++ (.ref a :: ts)) H2 s2 ((ax ++ [.v (.tuple es)]) ++ (r1 :: rs)) := by simpa using o2
    obtain ⟨bs', p1, p2⟩ := Ok.placeT (rs := r1 :: rs) (ts := .ref a :: ts) o2 (by simp [o.lt])
    obtain ⟨as', p3, p4⟩ := Ok.placeL (r := r1) (rs := rs) (ts := ts) o3 o.lt w
    have p4 : RpA K (Cl Z (gv σ' (tx ++ ([.ref b, .ref a] ++ ts))) (gs s2 (ax ++ ([.v (.tuple es), r1] ++ rs)))) H2 as' ds := by simpa using p4
    exact src_zm (ka := false) (kb := true) p3 p4 p1 p2
end
theorem k_zipM (K : PySem.W.Frag) {X : Cx} {e1 e2 : Expr} {ta : TA} {p pos tpos : Pos} {elts : List Expr} {kk : Nat} (hk : X.K = K) (hg : Gl X "zip") (hm : X.mg "zip" = none) (ha : PA X [e1, e2] ta)
    (hs : starEach [e1, e2] X.env = (false, eval e1 X.env) :: starEach [e2] X.env := by rfl) (hpl : (backTo pos (starEach [e2] X.env)).any (·.1) = false := by rfl) :
    PI X (.Tuple elts kk tpos) (.Call (.Name "zip" p) [e1, e2] [] pos) (iZipM K ta) := by subst hk; exact pi_zm hg hm ha hs hpl
/-! ### a tuple turned about -/
theorem fm_congr {α β : Type} {f g : α → Option β} : ∀ {l : List α}, (∀ x ∈ l, f x = g x) → l.filterMap f = l.filterMap g
  | [], _ => rfl
  | x :: l, h => by
    rw [List.filterMap_cons, List.filterMap_cons, h x List.mem_cons_self, fm_congr fun y hy => h y (List.mem_cons_of_mem _ hy)]
theorem range_all {α : Type} (ys : List α) : ∀ n, n ≤ ys.length → (List.range n).filterMap (fun m => ys[m]?) = ys.take n
  | 0, _ => rfl
  | n + 1, h => by
    rw [List.range_succ, List.filterMap_append, range_all ys n (by omega), List.take_succ]
    congr 1
theorem turned_all (xs : Array Value) : ((List.range xs.size).filterMap fun (m : Nat) => xs[(((xs.size : Int) - 1) + (m : Int) * -1).toNat]?) = xs.toList.reverse := by
  have e : ∀ m ∈ List.range xs.size, xs[(((xs.size : Int) - 1) + (m : Int) * -1).toNat]? = xs.toList.reverse[m]? := by
    intro m hm
    have hm := List.mem_range.mp hm
    have hl : xs.toList.length = xs.size := Array.length_toList
    rw [List.getElem?_reverse (by omega), hl, Array.getElem?_toList]
    congr 1
    omega
  rw [fm_congr e]
  have hl : xs.size = xs.toList.reverse.length := by simp
  rw [hl, range_all _ _ (Nat.le_refl _), List.take_length]
section
variable {prog : Program} {w : World} {A : Around} {E : Value → Shared → Prop} {s : Shared}
theorem applied_rev {sl : Addr} {vs : Value} {n : Nat} {Q : Int × Int × Nat → Shared → Prop} (hs : s.heap.IsSliceOf sl .none .none vs) (ps : IsPart vs (some (-1))) (h : Q ((n : Int) - 1, -1, n) s) :
    wpAny (model prog w) A (Builtin.Slice.sliceApplied (.ref sl) (pure (n : Int))) Q E s := by
  obtain ⟨ob, g1, g2, g3⟩ := id hs
  unfold Builtin.Slice.sliceApplied Builtin.Slice.sliceFields
  refine wpAny_bind (wpAny_bind (wpAny_field g1 g3 (x := .none) rfl ?_))
  refine wpAny_bind (wpAny_field g1 g3 (x := .none) rfl ?_)
  refine wpAny_bind (wpAny_field g1 g3 (x := vs) rfl (wpAny_pure ?_))
  refine wpAny_bind (HT.slicePart_ ps ?_)
  show wpAny _ _ (if ((-1 : Int) == 0) = true then _ else _) _ _ s
  rw [if_neg (by decide)]
  refine wpAny_bind (slicePart_none (wpAny_bind (slicePart_none ?_)))
  refine wpAny_bind (wpAny_pure ?_)
  show wpAny _ _ (pure ((n : Int) - 1, (-1 : Int), Builtin.Slice.slicePlaces ((n : Int) - 1) (-1) (-1))) _ _ s
  have e : Builtin.Slice.slicePlaces ((n : Int) - 1) (-1) (-1) = n := by
    unfold Builtin.Slice.slicePlaces
    rw [if_neg (by decide)]
    by_cases hn : (n : Int) - 1 > -1
    · rw [if_pos hn, show (- -1 : Int) = 1 by decide, Int.ediv_one]; omega
    · rw [if_neg hn]; omega
  rw [e]
  exact wpAny_pure h
theorem item_rev {t sl : Addr} {its : Array Value} {vs : Value} {Q : Value → Shared → Prop} (ht : IsTup s.heap t its) (hs : s.heap.IsSliceOf sl .none .none vs) (ps : IsPart vs (some (-1))) (hz : its.size ≤ sizeLine)
    (h : Q (.ref s.heap.objs.size) { s with heap := s.heap.push { cls := .type "tuple", data := .seq its.toList.reverse.toArray } }) : wpAny (model prog w) A (getItem (.ref t) (.ref sl)) Q E s := by
  obtain ⟨ob, g1, g2, g3⟩ := id hs
  have hTs : s.TypeIs (.ref sl) "slice" := ⟨ob, g1, g2⟩
  unfold getItem
  try with_reducible refine wpAny_holding ?_
  first | refine wpAny_bind (wpAny_pure ?_) | skip
  refine wpAny_bind (wpAny_sequenceKey ht.typeIs (by decide) ?_)
  refine wpAny_bind (wpAny_callSpecial?_slot (name := Str.ofString "__getitem__") ht.typeIs PyProof.Rows.slot_tuple_getitem ?_)
  refine wpAny_call_entry PyProof.Rows.slot_tuple_getitem ht.typeIs entry_tuple_getitem ?_ (args_tuple_getitem _ _)
  show wpAny _ _ (Builtin.Tuple.tupleItemsOf (.ref t) >>= _) _ _ s
  refine wpAny_bind (tupleItemsOf_ ht ?_)
  refine wpAny_bind (wpAny_typeOf hTs ?_)
  rw [if_pos (by decide)]
  refine wpAny_bind (applied_rev hs ps ?_)
  have hno : ¬ ((((its.size : Int) - 1) == 0 && (-1 : Int) == 1 && its.size == its.size) = true) := by
    rw [show ((-1 : Int) == 1) = false by decide]; simp
  show wpAny _ _ (if (((its.size : Int) - 1) == 0 && (-1 : Int) == 1 && its.size == its.size) = true then _ else _) _ _ s
  rw [if_neg hno, turned_all]
  have hsz : its.toList.reverse.toArray.size ≤ sizeLine := by rw [List.size_toArray, List.length_reverse, Array.length_toList]; exact hz
  first
    | exact wpAny_bind (m := Builtin.Tuple.tupleExact _) (wpAny_newObj_type (wpAny_pure ⟨_, rfl, wpAny_pure h⟩) hsz)
    | exact wpAny_bind (m := Builtin.Tuple.tupleExact _) (wpAny_newObj_type (wpAny_bind (wpAny_pure (wpAny_pure ⟨_, rfl, wpAny_pure h⟩))) hsz)
    | exact wpAny_bind (wpAny_bind (m := Builtin.Tuple.tupleExact _) (wpAny_newObj_type (wpAny_pure (wpAny_pure ⟨_, rfl, wpAny_pure h⟩)) hsz))
    | exact wpAny_bind (wpAny_bind (m := Builtin.Tuple.tupleExact _) (wpAny_newObj_type (wpAny_pure ⟨_, rfl, wpAny_pure h⟩) hsz))
end
/-- t[::-1] of a tuple -/
def tRevT (K : PySem.W.Frag) (te : TE) : TE := fun σ H Q => te σ H fun x H1 => ∃ a xs, x = .ref a ∧ SqT K H1 a xs ∧ ∀ p, H1 p = none → Q (.ref p) (upd H1 p (.tup xs.reverse))
theorem pe_revT {X : Cx} {e : Expr} {te : TE} {k : Nat} {p1 p2 p3 pos : Pos} (he : PE X e te) : PE X (.Subscript e (.Slice none none (some (.UnaryOp .USub (.Constant (.int 1) k p1) p2)) p3) pos) (tRevT X.K te) := by
  constructor
  intro pins s σ H Q I h
  refine Subscript_ (thn (he.run pins s σ H _ I h) ?_)
  rintro v s1 ⟨x, H1, I1, r1, a, xs, rfl, hx, q⟩
  cases r1
  have step : PO X (some (.UnaryOp .USub (.Constant (.int 1) k p1) p2)) (tPart (tUn (rU fun i => .int (-i)) (tC (.int 1)))) := po_some (pe_un un_neg pe_int)
  refine wpAny_Slice (thn (po_none.run pins s1 σ H1 (fun o H2 => o = none ∧ H2 = H1) I1 ⟨rfl, rfl⟩) ?_)
  rintro vl s2 ⟨_, _, I2, pl, rfl, rfl⟩
  refine thn (po_none.run pins s2 σ _ (fun o H3 => o = none ∧ H3 = _) I2 ⟨rfl, rfl⟩) ?_
  rintro vu s3 ⟨_, _, I3, pu, rfl, rfl⟩
  refine thn (step.run pins s3 σ _ (fun o H4 => o = some (-1) ∧ H4 = _) I3 ⟨1, rfl, -1, rfl, rfl, rfl⟩) ?_
  rintro vs s4 ⟨_, H4, I4, ps, rfl, rfl⟩
  cases pl
  cases pu
  have I5 : Inv X pins σ H4 { s4 with heap := s4.heap.push { cls := .type "slice", data := .fields #[.none, .none, vs] } } := I4.kept (t' := s4.toks) fun b ob q => Heap.get?_push_of_some _ q
  obtain ⟨its, r, ht, hz⟩ := I5.tuple hx
  have hlen := r.length
  have htup : IsTup (s4.heap.push { cls := .type "slice", data := .fields #[.none, .none, vs] }) a its.toArray := ht
  show wpAny (model X.prog X.w) X.A (subscriptTail e (.Slice none none (some (.UnaryOp .USub (.Constant (.int 1) k p1) p2)) p3) (.ref a) (.ref s4.heap.objs.size)) (EP X pins σ Q) X.xe { s4 with heap := s4.heap.push { cls := .type "slice", data := .fields #[.none, .none, vs] } }
  refine tail_any (ops := [.ref a, .ref s4.heap.objs.size]) htup.typeIs (PyProof.Rows.slot_tuple_getitem.lookup) ?_ (by with_unfolding_all rfl)
  refine item_rev htup (Heap.IsSliceOf.new _ .none .none vs) ps (by rw [List.size_toArray]; omega) ?_
  refine ⟨.ref _, _, I5.laid (t' := s4.toks) (o := .tup xs.reverse) (fun b ob q => Heap.get?_push_of_some _ q) (Nat.le_refl _) ?_, rfl, q _ (I5.hok.fresh (Nat.le_refl _))⟩
  exact ⟨by rw [List.length_reverse]; exact hz, its.reverse, r.reverse, ⟨_, Heap.get?_push_size _ rfl, rfl, 0, rfl⟩⟩
theorem k_revT (K : PySem.W.Frag) {X : Cx} (hk : X.K = K) {e : Expr} {te : TE} {k : Nat} {p1 p2 p3 pos : Pos} (he : PE X e te) : PE X (.Subscript e (.Slice none none (some (.UnaryOp .USub (.Constant (.int 1) k p1) p2)) p3) pos) (tRevT K te) := by subst hk; exact pe_revT he
section
variable {K : PySem.W.Frag} {s rs : List SD} {Q : SD → List SD → Prop} {te : TE}
theorem de_revT (h : DE ⟨K, ω⟩ te s rs fun r s1 => ∃ ds, r = .v (.tuple ds) ∧ Q (.v (.tuple ds.reverse)) s1) : DE ⟨K, ω⟩ (tRevT K te) s rs Q := fun Z σ ts H R o k =>
  h Z σ ts H _ o fun x H1 s1 r o1 ⟨ds, e1, q⟩ => by
    subst e1
    obtain ⟨a, ys, rfl, h2, h3⟩ := o1.tupTop rfl
    refine ⟨a, ys, rfl, h2, fun p hp => ?_⟩
    have ext : ∀ a u, H1 a = some u → upd H1 p (.tup ys.reverse) a = some u := fun a u ha => by rw [upd_ne (ne_of_none ha hp)]; exact ha
    exact k _ _ s1 _ ((o1.pop.ext ext).pushV (.tup (SqT.of upd_same) (RpA.mono (fun _ _ => rd_ext ext) (fun _ _ q r => ⟨q, rd_ext ext r⟩) _ _ h3.reverse))) q
end
section
variable {K : PySem.W.Frag} {s rs : List SD} {Q : SD → List SD → Prop} {ds es : List D} {r1 r2 : SD}
theorem op2_addBI {i j : Int} (q : Q (.v (.int (i + j))) s) : OP2 ⟨K, ω⟩ (rAddB K) (.v (.int i)) (.v (.int j)) s rs Q := op2_addB (op2_addI q)
theorem op2_addBL (h1 : ownL s r1 = some ds) (h2 : ownL s r2 = some es) (hl : ds.length + es.length ≤ 100000) (q : Q (.ow none (ds ++ es)) s) : OP2 ⟨K, ω⟩ (rAddB K) r1 r2 s rs Q := op2_addB (op2_addL h1 h2 hl q)
theorem op2_addBT {a b : Str} (h : a.length + b.length ≤ sizeLine) (q : Q (.v (.str (a ++ b))) s) : OP2 ⟨K, ω⟩ (rAddB K) (.v (.str a)) (.v (.str b)) s rs Q := op2_addB (op2_addT h q)
end
end W8

/-! W8w: sorted of data, order of data. -/
namespace W8
open PySem L2 RZ PySem.Spec PyProof.Rows
/-- a is not behind b -/
def leD (a b : D) : Bool := !PySem.W.dataLt b a
section
variable {X : Cx}
def rSortedD (K : PySem.W.Frag) : List V → Hp → VK → Prop := fun xs H Q => ∃ (a : Addr) (ys : List V) (ds : List D), xs = [.ref a] ∧ SqL K H a ys ∧ DpAll K H ys ds ∧ PySem.W.AllAlike ds ∧ PySem.W.Sortable ds ∧ (∀ d ∈ ds, d.depth ≤ 30) ∧
  ∀ p, H p = none → Q (.ref p) (upd H p (.lst (((ys.zip ds).mergeSort fun x y => leD x.2 y.2).map Prod.fst)))
theorem each_of_reads {h h' : Heap} (k : ∀ b o, h.get? b = some o → h'.get? b = some o) : ∀ {us : List Value} {ds : List D} {as : List Addr}, ReadsAll h us ds as → PySem.W.EachIs (fun v d => ∃ as, Reads h' v d as) us ds
  | _, _, _, .nil => .nil
  | _, _, _, .cons r t => .cons ⟨_, Reads.keeps k r⟩ (each_of_reads k t)
theorem each_zip2 {R : Value → D → Prop} {R' : Value → V × D → Prop} (k : ∀ u d y, R u d → R' u (y, d)) : ∀ {us : List Value} {ds : List D} {ys : List V}, PySem.W.EachIs R us ds → ds.length = ys.length → PySem.W.EachIs R' us (ys.zip ds)
  | _, _, [], .nil, _ => .nil
  | _, _, _ :: _, .nil, e => by cases e
  | _, _, [], .cons _ _, e => by cases e
  | _, _, y :: ys, .cons h t, e => .cons (k _ _ _ h) (each_zip2 k t (by simpa using e))
theorem each_vals {R : Value → V × D → Prop} (hR : ∀ v b, R v b → RelV b.1 v) : ∀ {us : List Value} {bs : List (V × D)}, PySem.W.EachIs R us bs → Vals (bs.map Prod.fst) us
  | _, _, .nil => .nil
  | _, _, .cons h t => .cons (hR _ _ h) (each_vals hR t)
theorem each_zip {R : Value → V × D → Prop} : ∀ {ys : List V} {us : List Value} {ds : List D}, Vals ys us → ds.length = ys.length → (∀ u y d, RelV y u → R u (y, d)) → PySem.W.EachIs R us (ys.zip ds)
  | [], _, ds, .nil, e, _ => by cases ds with | nil => exact .nil | cons _ _ => cases e
  | y :: ys, _, ds, .cons h t, e, k => by
    cases ds with
    | nil => cases e
    | cons d ds => exact .cons (k _ _ _ h) (each_zip t (by simpa using e) k)
theorem dpAll_length {K : PySem.W.Frag} {H : Hp} : ∀ {ys : List V} {ds : List D}, DpAll K H ys ds → ds.length = ys.length
  | _, [], h => by cases h; rfl
  | _, d :: ds, h => by
    cases h with
    | cons a b => simp [dpAll_length b]
theorem cr_sortedD (hu : X.A.units + 64 < cLine) : CallR X (.builtin "sorted") (rSortedD X.K) := by
  intro pins s σ H vs us Q I r h
  obtain ⟨a, ys, ds, rfl, hs, hd, hal, hk, hdep, q⟩ := h
  obtain ⟨its, rv, hl, hz⟩ := I.list hs
  rw [Vals.ref1 r]
  obtain ⟨as, hr⟩ := Dp.readsAll I ds ys its hd rv
  have hlen : ds.length = ys.length := dpAll_length hd
  have each := each_of_reads (h' := PySem.W.sortingHeap (PySem.W.copyHeap s.heap its) (s.heap.objs.size + 1) its) (fun b o e => PySem.W.sorting_copy_old e) hr
  have eachK := each
  have S := PySem.W.SortsAt.data (prog := X.prog) (w := X.w) (A := X.A.in1.in1) (s := { s with heap := PySem.W.sortingHeap (PySem.W.copyHeap s.heap its) (s.heap.objs.size + 1) its }) each hal hk (fun d hd => by
    have := hdep d hd
    show X.A.units + 1 + 1 + d.depth < cLine
    omega)
  refine PySem.W.sorted_vals hl.isList S (by rw [← rv.length]; exact hz) ?_
  have ek : PySem.W.EachIs (fun v (b : V × D) => (PySem.W.dataKind (PySem.W.sortingHeap (PySem.W.copyHeap s.heap its) (s.heap.objs.size + 1) its) ds).keyOf v = some (PySem.W.keyToks b.2)) its (ys.zip ds) :=
    each_zip2 (fun u d y ⟨⟨as, r⟩, hm⟩ => PySem.W.dataKind_some hal hm r) (PySem.W.each_mem each) hlen
  have e := PySem.W.sortVals_each (κ := PySem.W.dataKind (PySem.W.sortingHeap (PySem.W.copyHeap s.heap its) (s.heap.objs.size + 1) its) ds) (rev := false) (fun b : V × D => PySem.W.keyToks b.2) (each_zip (R := fun v b => RelV b.1 v) rv hlen fun _ _ _ h => h) ek
  have vz := each_vals (fun _ _ h => h) e
  obtain ⟨ep, he⟩ := PyProof.Rows.sortedAll_at s.heap its (PySem.W.sortVals (PySem.W.dataKind (PySem.W.sortingHeap (PySem.W.copyHeap s.heap its) (s.heap.objs.size + 1) its) ds) false its its).toArray
  refine ⟨.ref _, upd H (s.heap.objs.size + 1) (.lst (((ys.zip ds).mergeSort fun x y => leD x.2 y.2).map Prod.fst)), I.laid (t' := s.toks) (fun _ _ => PyProof.Rows.sortedAll_old) (Nat.le_succ _) ⟨?_, _, ep, vz, he⟩, rfl, q _ (I.hok.fresh (Nat.le_succ _))⟩
  rw [List.length_map, (List.mergeSort_perm _ _).length_eq, List.length_zip]
  omega
end
section
variable {K : PySem.W.Frag} {s rs : List SD} {Q : SD → List SD → Prop} {r r1 r2 : SD} {d e : D} {ds : List D}
theorem RpA.ofPairs {C : Addr → Prop} {H : Hp} : ∀ {ps : List (V × D)}, (∀ p ∈ ps, Rp K C H p.1 p.2) → RpA K C H (ps.map Prod.fst) (ps.map Prod.snd)
  | [], _ => .nil
  | p :: ps, h => .cons (h p List.mem_cons_self) (RpA.ofPairs fun q hq => h q (List.mem_cons_of_mem _ hq))
theorem RpA.zipAll {C : Addr → Prop} {H : Hp} : ∀ {ys : List V} {ds : List D}, RpA K C H ys ds → ∀ p ∈ ys.zip ds, Rp K C H p.1 p.2
  | _, [], h, p, hp => by cases h; cases hp
  | _, d :: ds, h, p, hp => by
    cases h with
    | cons a b =>
      rcases List.mem_cons.mp hp with rfl | hp
      · exact a
      · exact RpA.zipAll b p hp
theorem opc_sortedD (h : dat s r = some (.list ds)) (hal : PySem.W.AllAlike ds) (hk : PySem.W.Sortable ds) (hd : ∀ d ∈ ds, d.depth ≤ 30) (q : Q (.ow none (ds.mergeSort leD)) s) : OPC ⟨K, ω⟩ (rSortedD K) [r] s rs Q := fun Z σ ts H xs R o e k => by
  obtain ⟨x, rfl⟩ : ∃ x, xs = [x] := by match xs, e with | [x], _ => exact ⟨x, rfl⟩
  have o1 : Ok K Z σ (x :: ts) H s (r :: rs) := o
  obtain ⟨a, vs, rfl, h2, h3⟩ := o1.listTop h
  have hl := h3.length
  refine ⟨a, vs, ds, rfl, h2, RpA.dp _ _ h3, hal, hk, hd, fun p hp => ?_⟩
  have hm : ∀ x ∈ (vs.zip ds).mergeSort (fun x y => leD x.2 y.2), Rp K (Cl Z (gv σ ts) (gs s rs)) H x.1 x.2 := fun x hx => RpA.zipAll h3 x ((List.mergeSort_perm _ _).mem_iff.mp hx)
  have e2 : ((vs.zip ds).mergeSort (fun x y => leD x.2 y.2)).map Prod.snd = ds.mergeSort leD := by
    rw [PySem.W.sort_maps (s := leD) Prod.snd (fun _ _ _ _ => rfl), List.map_snd_zip (by omega)]
  have rp := RpA.ofPairs hm
  rw [e2] at rp
  exact k _ _ _ _ (o1.pop.pushO hp rp) q
end
section
variable {X : Cx}
/-- a < b of data of one form -/
def rLtD (K : PySem.W.Frag) : R2 := fun x y H Q => ∃ d e, Dp K H x d ∧ Dp K H y e ∧ PySem.W.alike d e = true ∧ d ≠ .none ∧ d.depth ≤ 60 ∧ Q (.bl (PySem.W.dataLt d e)) H
theorem op_ltD (hu : X.A.units + 64 < cLine) : OpR X (compareOp .Lt) (rLtD X.K) := by
  intro pins s σ H x y v u Q I rx ry h
  obtain ⟨d, e, hd, he, ha, hn, hl, q⟩ := h
  obtain ⟨as, r1⟩ := Dp.reads I d x v hd rx
  obtain ⟨bs, r2⟩ := Dp.reads I e y u he ry
  exact PySem.W.lt_data r1 r2 ha hn (by have := Nat.min_le_left d.depth e.depth; omega) ⟨.bl _, H, I, rfl, q⟩
theorem k_ltD (K : PySem.W.Frag) (hk : X.K = K) (hu : X.A.units + 64 < cLine) : OpR X (compareOp .Lt) (rLtD K) := by subst hk; exact op_ltD hu
theorem k_sortedD (K : PySem.W.Frag) (hk : X.K = K) (hu : X.A.units + 64 < cLine) : CallR X (.builtin "sorted") (rSortedD K) := by subst hk; exact cr_sortedD hu
end
section
variable {K : PySem.W.Frag} {s rs : List SD} {Q : SD → List SD → Prop} {r1 r2 : SD} {d e : D}
theorem op2_ltD (h1 : dat s r1 = some d) (h2 : dat s r2 = some e) (ha : PySem.W.alike d e = true) (hn : d ≠ .none) (hl : d.depth ≤ 60) (q : Q (.v (.bool (PySem.W.dataLt d e))) s) : OP2 ⟨K, ω⟩ (rLtD K) r1 r2 s rs Q := fun Z σ ts H x y R o k =>
  ⟨d, e, o.pop.dpTop h1, o.dpTop h2, ha, hn, hl, k _ H s _ (o.pop.pop.pushV (.bl _)) q⟩
end
/-! what sorting gives -/
theorem leD_total : PySem.W.TotalLe leD := PySem.W.sortLe_total (PyProof.Rows.listOrd PyProof.Rows.itemOrd) false PySem.W.keyToks
theorem sortD_perm (ds : List D) : (ds.mergeSort leD).Perm ds := List.mergeSort_perm _ _
theorem sortD_pw (ds : List D) : (ds.mergeSort leD).Pairwise fun a b => leD a b = true := PySem.W.sort_pairwise leD_total ds
end W8

/-! W8x: own dicts whose keys are tuples of ints and texts. -/
namespace W8
open PySem L2 RZ PySem.Spec PyProof.Rows
def keyD : Key → D
  | .inl i => .int i
  | .inr z => .str z
section
variable {κ : Type} [DecidableEq κ]
def valD (kds : List (κ × D)) (k : κ) : Option D := (kds.find? fun kv => decide (kv.1 = k)).map (·.2)
def putD (kds : List (κ × D)) (k : κ) (d : D) : List (κ × D) :=
  if (kds.any fun kv => decide (kv.1 = k)) = true then kds.map (fun kv => if kv.1 = k then (kv.1, d) else kv) else kds ++ [(k, d)]
variable {K : PySem.W.Frag} {C : Addr → Prop} {H : Hp} {vs : List (κ × V)} {ds : List (κ × D)}
theorem RpP.val (h : RpP K C H vs ds) (k : κ) : Rp K C H ((valV vs k).getD .non) ((valD ds k).getD .none) := by
  induction h with
  | nil => exact .non
  | @cons k' v d vs ds a _ ih =>
    unfold valV valD at ih ⊢
    rw [List.find?_cons, List.find?_cons]
    by_cases e : k' = k
    · rw [decide_eq_true e]; exact a
    · rw [decide_eq_false e]; exact ih
theorem RpP.isSome (h : RpP K C H vs ds) (k : κ) : (valV vs k).isSome = (valD ds k).isSome := by
  induction h with
  | nil => rfl
  | @cons k' v d vs ds a _ ih =>
    unfold valV valD at ih ⊢
    rw [List.find?_cons, List.find?_cons]
    by_cases e : k' = k
    · rw [decide_eq_true e]; rfl
    · rw [decide_eq_false e]; exact ih
theorem RpP.anyK (h : RpP K C H vs ds) (k : κ) : (vs.any fun kv => decide (kv.1 = k)) = ds.any fun kv => decide (kv.1 = k) := by
  induction h with
  | nil => rfl
  | cons _ _ ih => rw [List.any_cons, List.any_cons, ih]
theorem RpP.repl {v : V} {d : D} (h : RpP K C H vs ds) (k : κ) (hv : Rp K C H v d) : RpP K C H (vs.map fun kv => if kv.1 = k then (kv.1, v) else kv) (ds.map fun kv => if kv.1 = k then (kv.1, d) else kv) := by
  induction h with
  | nil => exact .nil
  | @cons k' v' d' vs ds a _ ih =>
    rw [List.map_cons, List.map_cons]
    by_cases e : k' = k
    · rw [if_pos e, if_pos e]; exact .cons hv ih
    · rw [if_neg e, if_neg e]; exact .cons a ih
theorem RpP.snoc {v : V} {d : D} (h : RpP K C H vs ds) (k : κ) (hv : Rp K C H v d) : RpP K C H (vs ++ [(k, v)]) (ds ++ [(k, d)]) := by
  induction h with
  | nil => exact .cons hv .nil
  | cons a _ ih => exact .cons a ih
theorem RpP.put {v : V} {d : D} (h : RpP K C H vs ds) (k : κ) (hv : Rp K C H v d) : RpP K C H (putK vs k v) (putD ds k d) := by
  unfold putK putD
  rw [h.anyK k]
  by_cases e : (ds.any fun kv => decide (kv.1 = k)) = true
  · rw [if_pos e, if_pos e]; exact h.repl k hv
  · rw [if_neg e, if_neg e]; exact h.snoc k hv
theorem RpP.len (h : RpP K C H vs ds) : vs.length = ds.length := by
  induction h with
  | nil => rfl
  | cons _ _ ih => rw [List.length_cons, List.length_cons, ih]
end
section
variable {K : PySem.W.Frag} {C : Addr → Prop} {H : Hp}
theorem rp_key {x : V} {k : Key} (h : Rp K C H x (keyD k)) : x = kV k := by
  cases k with
  | inl i => have h : Rp K C H x (.int i) := h; cases h; rfl
  | inr z => have h : Rp K C H x (.str z) := h; cases h; rfl
theorem rpA_keys : ∀ {xs : List V} {ks : List Key}, RpA K C H xs (ks.map keyD) → xs = ks.map kV
  | [], [], _ => rfl
  | [], _ :: _, h => by cases h
  | _ :: _, [], h => by cases h
  | x :: xs, k :: ks, h => by
    rw [List.map_cons] at h
    cases h with
    | cons a r => rw [rp_key a, rpA_keys r]; rfl
end
section
variable {K : PySem.W.Frag} {s rs : List SD} {Q : SD → List SD → Prop} {D0 : DEn}
theorem de_dnewT (q : Q (.own none (.dT [])) s) : DE ⟨K, ω⟩ tDNewT s rs Q := fun Z σ ts H R o k p hp => k _ _ s _ (o.pushW hp (.dT .nil)) q
/-- d[(.., ..)] = v -/
theorem ds_dputT {i : Nat} {ta : TA} {tv : TE} (h : DE ⟨K, ω⟩ tv s rs fun r s1 => (∃ t kds, s1[i]? = some (.own t (.dT kds))) ∧ DA ⟨K, ω⟩ ta s1 (.al i :: r :: rs) fun as s2 => ∃ t kds ks d, asDs as = some (ks.map keyD) ∧ ks.length ≤ 100000 ∧ s2[i]? = some (.own t (.dT kds)) ∧ kds.length < 100000 ∧ asD r = some d ∧ D0.nx (s2.set i (.own t (.dT (putD kds ks d))))) :
    DS ⟨K, ω⟩ (sDPut (tVar i) (tTup ta) tv) s rs D0 := fun Z σ ts H E o k1 k2 k3 k4 => h Z σ ts H _ o fun v H1 s1 r o1 ⟨⟨t0, kds0, hs0⟩, q⟩ => by
  obtain ⟨a, u, q1, q2, q3, _⟩ := o1.c.wn (.inl i) t0 _ hs0
  refine ⟨.ref a, gv_slot.mp q1, ?_⟩
  refine q Z σ _ H1 _ (o1.pushA hs0 (gv_slot.mp q1)) fun xs H2 s2 as o2 e ⟨t, kds, ks, d, ha, hkl, hs, hl, hd, q⟩ => ?_
  obtain ⟨h3, o3⟩ := o2.args e ha
  have ex := rpA_keys h3
  refine ⟨by rw [h3.length, List.length_map]; exact Nat.le_trans hkl (by decide), fun p hp => ?_⟩
  have ext : ∀ b u, H2 b = some u → upd H2 p (.tup xs) b = some u := fun b u hb => by rw [upd_ne (ne_of_none hb hp)]; exact hb
  have o4 := o3.ext ext
  obtain ⟨t', w', a', u', w1, w2, w3, w4, w5⟩ := o4.aliW
  rw [hs] at w1; cases w1
  cases w3
  generalize hO : OD.dT kds = od at w5
  cases w5 with
  | lst _ => cases hO
  | ex _ _ => cases hO
  | dK _ => cases hO
  | dT w5 =>
  cases hO
  obtain ⟨hd', o5⟩ := o4.pop.popD hd
  have w6 := RpP.mono (fun _ _ z => z) (fun b _ z r => ⟨cl_pop o4.pop b z, r⟩) w5
  refine ⟨a, _, rfl, DPut.t w4 (by rw [upd_same, ex]) (by rw [w6.len]; exact Nat.lt_of_lt_of_le hl (by decide)), ?_⟩
  exact k1 σ _ _ (o5.mutW hs w2 (.dT (w6.put ks hd'))) q
/-- d.get((.., ..)) -/
theorem de_dget1T {i : Nat} {ta : TA} (hs : ∃ t kds, s[i]? = some (.own t (.dT kds))) (h : DA ⟨K, ω⟩ ta s (.al i :: rs) fun as s1 => ∃ t kds ks, asDs as = some (ks.map keyD) ∧ ks.length ≤ 100000 ∧ s1[i]? = some (.own t (.dT kds)) ∧ Q (.v ((valD kds ks).getD .none)) s1) :
    DE ⟨K, ω⟩ (tDGet1 (tVar i) (tTup ta)) s rs Q := fun Z σ ts H R o k => by
  obtain ⟨t0, kds0, hs0⟩ := hs
  obtain ⟨a, u, q1, q2, q3, _⟩ := o.c.wn (.inl i) t0 _ hs0
  have hd0 : IsD H a := by
    generalize hO : OD.dT kds0 = od at q3
    cases q3 with
    | lst _ => cases hO
    | ex _ _ => cases hO
    | dK _ => cases hO
    | dT _ => exact .inr ⟨_, .inl q2⟩
  refine ⟨.ref a, gv_slot.mp q1, a, rfl, hd0, ?_⟩
  refine h Z σ _ H _ (o.pushA hs0 (gv_slot.mp q1)) fun xs H2 s2 as o2 e ⟨t, kds, ks, ha, hkl, hs, q⟩ => ?_
  obtain ⟨h3, o3⟩ := o2.args e ha
  have ex := rpA_keys h3
  refine ⟨by rw [h3.length, List.length_map]; exact Nat.le_trans hkl (by decide), fun p hp => ?_⟩
  have ext : ∀ b u, H2 b = some u → upd H2 p (.tup xs) b = some u := fun b u hb => by rw [upd_ne (ne_of_none hb hp)]; exact hb
  have o4 := o3.ext ext
  obtain ⟨t', w', a', u', w1, w2, w3, w4, w5⟩ := o4.aliW
  rw [hs] at w1; cases w1
  cases w3
  generalize hO : OD.dT kds = od at w5
  cases w5 with
  | lst _ => cases hO
  | ex _ _ => cases hO
  | dK _ => cases hO
  | dT w5 =>
  cases hO
  exact ⟨_, DGet.t w4 (by rw [upd_same, ex]), k _ _ s2 _ (o4.pop.pushV (w5.val ks)) q⟩
/-- (.., ..) in d -/
theorem op_dinT {i : Nat} {ta : TA} (h : DA ⟨K, ω⟩ ta s rs fun as s1 => ∃ t kds ks, asDs as = some (ks.map keyD) ∧ ks.length ≤ 100000 ∧ s1[i]? = some (.own t (.dT kds)) ∧ Q (.v (.bool (valD kds ks).isSome)) s1) :
    DE ⟨K, ω⟩ (tDIn (tTup ta) (tVar i)) s rs Q := fun Z σ ts H R o k => by
  refine h Z σ _ H _ o fun xs H2 s2 as o2 e ⟨t, kds, ks, ha, hkl, hs, q⟩ => ?_
  obtain ⟨h3, o3⟩ := o2.args e ha
  have ex := rpA_keys h3
  refine ⟨by rw [h3.length, List.length_map]; exact Nat.le_trans hkl (by decide), fun p hp => ?_⟩
  have ext : ∀ b u, H2 b = some u → upd H2 p (.tup xs) b = some u := fun b u hb => by rw [upd_ne (ne_of_none hb hp)]; exact hb
  have o4 := o3.ext ext
  obtain ⟨a, u, q1, q2, q3, _⟩ := o4.c.wn (.inl i) t _ hs
  generalize hO : OD.dT kds = od at q3
  cases q3 with
  | lst _ => cases hO
  | ex _ _ => cases hO
  | dK _ => cases hO
  | dT w5 =>
  cases hO
  refine ⟨.ref a, gv_slot.mp q1, a, _, rfl, DGet.t q2 (by rw [upd_same, ex]), ?_⟩
  rw [w5.isSome ks]
  exact k _ _ s2 _ (o4.pushV (.bl _)) q
end
section
variable {X : Cx} {o i value e : Expr} {pos pos' apos cpos : Pos} {td ty tv : TE}
theorem k_dput (K : PySem.W.Frag) (hk : X.K = K) (hu : X.A.units + 64 < cLine) (ho : PE X o td) (hi : PE X i ty) (hv : PE X value tv) (hs : swapsWith value (some (.Subscript o i pos')) pos.line X.env = pure false) :
    PS X (.Assign [.Subscript o i pos'] value pos) (sDPut td ty tv) := ps_dput (Nat.lt_of_le_of_lt (Nat.add_le_add_left (by decide) _) hu) ho hi hv hs
theorem k_dget1 (K : PySem.W.Frag) (hk : X.K = K) (hu : X.A.units + 64 < cLine) (ho : PE X o td) (he : PE X e ty) (m : M1 X o "get" apos e cpos) : PE X (.Call (.Attribute o "get" apos) [e] [] cpos) (tDGet1 td ty) := pe_dget1 (Nat.lt_of_le_of_lt (Nat.add_le_add_left (by decide) _) hu) ho he m
end
/-! lists put one behind the other, whatever they are -/
def rCatA (K : PySem.W.Frag) : R2 := fun x y H Q => ∃ a b xs ys, x = .ref a ∧ y = .ref b ∧ SqL K H a xs ∧ SqL K H b ys ∧ xs.length + ys.length ≤ sizeLine ∧
  ∀ p, H p = none → Q (.ref p) (upd H p (.lst (xs ++ ys)))
section
variable {X : Cx}
theorem op_catL : OpR X (binaryOp .Add) (rCatA X.K) := by
  intro pins s σ H x y v u Q I rx ry h
  obtain ⟨a, b, xs, ys, rfl, rfl, ha, hb, hz, q⟩ := h
  cases rx
  cases ry
  obtain ⟨its, r1, ⟨⟨cls, dd, data, sl⟩, n, ho, hc, hn, hd⟩, _⟩ := I.list ha
  obtain ⟨its2, r2, ⟨⟨cls2, dd2, data2, sl2⟩, n2, ho2, hc2, hn2, hd2⟩, _⟩ := I.list hb
  have l1 := r1.length
  have l2 := r2.length
  simp only at hc hd hc2 hd2
  subst hc hd hc2 hd2
  have e : its.toArray ++ its2.toArray = (its ++ its2).toArray := by simp
  have hsz : its.toArray.size + its2.toArray.size ≤ sizeLine := by rw [List.size_toArray, List.size_toArray]; omega
  refine concat_meets ⟨_, ho, rfl⟩ ⟨_, ho2, rfl⟩ noFill_list_add seq_list_add
    PySem.F.slot_list_add PySem.F.entry_list_add (PySem.F.args_list_add_2 _ _)
    (list_addW a b its.toArray its2.toArray n n2 dd dd2 sl sl2 hsz) ⟨ho, ho2, ?_⟩
  rw [e]
  exact ⟨.ref _, _, I.lnew (t' := s.toks) (r1.append r2) (by rw [List.length_append]; omega), rfl, q _ I.fresh⟩
theorem op_catV (K : PySem.W.Frag) (hk : X.K = K) : OpR X (binaryOp .Add) (rCatA K) := by subst hk; exact op_catL
end
theorem op2_catV {K : PySem.W.Frag} {s rs : List SD} {r1 r2 : SD} {ds es : List D} {Q : SD → List SD → Prop} (h1 : dat s r1 = some (.list ds)) (h2 : dat s r2 = some (.list es)) (hl : ds.length + es.length ≤ 100000) (q : Q (.ow none (ds ++ es)) s) : OP2 ⟨K, ω⟩ (rCatA K) r1 r2 s rs Q := fun Z σ ts H x y R o k => by
  obtain ⟨b, zs, rfl, b2, b3⟩ := o.listTop h2
  obtain ⟨a, ys, rfl, a2, a3⟩ := o.pop.listTop h1
  have b3 := b3.clean (cl_pop o.pop)
  refine ⟨a, b, ys, zs, rfl, rfl, a2, b2, by rw [a3.length, b3.length]; exact Nat.le_trans hl (by decide), fun p hp => ?_⟩
  exact k _ _ s _ (o.pop.pop.pushO hp (a3.append b3)) q
end W8

/-! W8y: sorted(set(..)) of spots. -/
namespace W8
open PySem L2 RZ PySem.Spec PyProof.Rows
def spotD (p : Int × Int) : D := .tuple [.int p.1, .int p.2]
def spotL (p : Int × Int) : List Int := [p.1, p.2]
def spotLt (p q : Int × Int) : Prop := p.1 < q.1 ∨ (p.1 = q.1 ∧ p.2 < q.2)
theorem spotL_inj {p q : Int × Int} (h : spotL p = spotL q) : p = q := by
  injection h with h1 h
  injection h with h2 _
  exact Prod.ext h1 h2
theorem code_spot (p : Int × Int) : TS.code 256 (spotL p) = p.1 * 256 + p.2 := by
  have e1 : (256 : Int) ^ 1 = 256 := by decide
  have e0 : (256 : Int) ^ 0 = 1 := by decide
  show p.1 * 256 ^ 1 + (p.2 * 256 ^ 0 + 0) = p.1 * 256 + p.2
  rw [e1, e0, Int.mul_one, Int.add_zero]
section
variable {K : PySem.W.Frag} {C : Addr → Prop} {H : Hp}
theorem rpA_spots : ∀ {xs : List V} {ps : List (Int × Int)}, RpA K C H xs (ps.map spotD) → ∃ ks : List (Addr × List Int), xs = ks.map (fun k => V.ref k.1) ∧ ks.map (·.2) = ps.map spotL ∧ ∀ k ∈ ks, SqT K H k.1 (k.2.map V.int)
  | [], [], _ => ⟨[], rfl, rfl, fun _ h => nomatch h⟩
  | [], _ :: _, h => by cases h
  | _ :: _, [], h => by cases h
  | x :: xs, p :: ps, h => by
    rw [List.map_cons] at h
    cases h with
    | cons a r =>
    obtain ⟨ks, e1, e2, e3⟩ := rpA_spots r
    have a : Rp K C H x (.tuple [.int p.1, .int p.2]) := a
    cases a with
    | @tup ad zs _ h1 h2 =>
    cases h2 with
    | cons i1 h2 =>
    cases h2 with
    | cons i2 h2 =>
    cases h2
    cases i1
    cases i2
    refine ⟨(ad, spotL p) :: ks, by rw [e1]; rfl, by rw [List.map_cons, List.map_cons, e2], fun k hk => ?_⟩
    rcases List.mem_cons.mp hk with rfl | hk
    · exact h1
    · exact e3 k hk
theorem rpA_refs : ∀ {ks : List (Addr × List Int)} {qs : List (Int × Int)}, ks.map (·.2) = qs.map spotL → (∀ k ∈ ks, SqT K H k.1 (k.2.map V.int)) → RpA K C H (ks.map fun k => V.ref k.1) (qs.map spotD)
  | [], [], _, _ => .nil
  | [], _ :: _, e, _ => by cases e
  | _ :: _, [], e, _ => by cases e
  | k :: ks, q :: qs, e, h => by
    rw [List.map_cons, List.map_cons] at e
    injection e with e1 e2
    have hk := h k List.mem_cons_self
    rw [e1] at hk
    exact .cons (.tup hk (.cons (.int _) (.cons (.int _) .nil))) (rpA_refs e2 fun k hk => h k (List.mem_cons_of_mem _ hk))
end
theorem spots_of : ∀ {ms : List (List Int)}, (∀ m ∈ ms, ∃ p : Int × Int, m = spotL p) → ∃ qs : List (Int × Int), ms = qs.map spotL
  | [], _ => ⟨[], rfl⟩
  | m :: ms, h => by
    obtain ⟨p, rfl⟩ := h m List.mem_cons_self
    obtain ⟨qs, rfl⟩ := spots_of fun m hm => h m (List.mem_cons_of_mem _ hm)
    exact ⟨p :: qs, rfl⟩
section
variable {X : Cx}
theorem k_setT (K : PySem.W.Frag) (hk : X.K = K) (hc : X.calm = true) (hu : X.A.units + 64 < cLine) : CallR X (.type "set") (rSetOfT K X.prog X.w) := by subst hk; exact cr_setOfT hc hu
theorem k_sortedT (K : PySem.W.Frag) (hk : X.K = K) (hc : X.calm = true) : CallR X (.builtin "sorted") (rSortedT K X.prog X.w) := by subst hk; exact cr_sortedT hc
end
section
variable {K : PySem.W.Frag} {s rs : List SD} {Q : SD → List SD → Prop} {P : Program} {w : World}
/-- sorted(set(xs)) of spots from 0 to 255 -/
theorem de_sortedSet {te : TE} (h : DE ⟨K, ω⟩ te s rs fun r s1 => ∃ ps : List (Int × Int), dat s1 r = some (.list (ps.map spotD)) ∧ ps.length < 64 ∧ (∀ p ∈ ps, (0 ≤ p.1 ∧ p.1 < 256) ∧ 0 ≤ p.2 ∧ p.2 < 256) ∧
    ∀ qs : List (Int × Int), (∀ p, p ∈ qs ↔ p ∈ ps) → qs.Pairwise spotLt → qs.length < 64 → Q (.ow none (qs.map spotD)) s1) :
    DE ⟨K, ω⟩ (tCB (rSortedT K P w) (tCons (tCB (rSetOfT K P w) (tCons te tNil)) tNil)) s rs Q := fun Z σ ts H R o k => by
  refine h Z σ ts H _ o fun x H1 s1 r o1 ⟨ps, e, hl, hb, q⟩ => ?_
  obtain ⟨a, xs, rfl, h1, h2⟩ := o1.listTop e
  obtain ⟨ks, e1, e2, e3⟩ := rpA_spots h2
  have hkl : ks.length = ps.length := by have := congrArg List.length e2; rwa [List.length_map, List.length_map] at this
  refine ⟨a, ks, rfl, by rw [← e1]; exact h1, e3, by omega, fun sa L hsa hL1 hL2 => ?_⟩
  have ext : ∀ b u, H1 b = some u → upd H1 sa (SetTO P w sa L) b = some u := fun b u hb => by rw [upd_ne (ne_of_none hb hsa)]; exact hb
  have e4 : ∀ k ∈ ks, SqT K (upd H1 sa (SetTO P w sa L)) k.1 (k.2.map V.int) := fun k hk => (e3 k hk).imp (rd_ext ext) id
  have hsp : ∀ m ∈ L, ∃ p ∈ ps, m.2 = spotL p := fun m hm => by
    have : m.2 ∈ ps.map spotL := by rw [← e2]; exact List.mem_map_of_mem (hL1 m hm)
    obtain ⟨p, hp, e⟩ := List.mem_map.mp this
    exact ⟨p, hp, e.symm⟩
  refine ⟨sa, L, 2, 256, rfl, upd_same, fun m hm => e4 m (hL1 m hm), by decide, fun m hm => ?_, fun L' p hp hnd hf hw hpn => ?_⟩
  · obtain ⟨p, hp, e⟩ := hsp m hm
    rw [e]
    refine ⟨rfl, fun i hi => ?_⟩
    have hi : i = p.1 ∨ i = p.2 := by simpa [spotL] using hi
    have := hb p hp
    rcases hi with rfl | rfl <;> omega
  · obtain ⟨qs, hq⟩ := spots_of (ms := L'.map (·.2)) fun m hm => by
      obtain ⟨l, hl, rfl⟩ := List.mem_map.mp hm
      obtain ⟨p, _, e⟩ := hsp l (hp.mem_iff.mp hl)
      exact ⟨p, e⟩
    have hmem : ∀ p, p ∈ qs ↔ p ∈ ps := fun p => by
      constructor
      · intro h
        have : spotL p ∈ L'.map (·.2) := by rw [hq]; exact List.mem_map_of_mem h
        obtain ⟨l, hl, e⟩ := List.mem_map.mp this
        obtain ⟨p', hp', e'⟩ := hsp l (hp.mem_iff.mp hl)
        have := spotL_inj (e.symm.trans e')
        rw [this]; exact hp'
      · intro h
        have : spotL p ∈ ks.map (·.2) := by rw [e2]; exact List.mem_map_of_mem h
        obtain ⟨l, hl, e⟩ := List.mem_map.mp this
        have h3 := hL2 l hl
        rw [e] at h3
        have h4 : spotL p ∈ L'.map (·.2) := (hp.map (·.2)).mem_iff.mpr h3
        rw [hq] at h4
        obtain ⟨p', hp', e'⟩ := List.mem_map.mp h4
        rw [← spotL_inj e']; exact hp'
    have hw2 : (L'.map (·.2)).Pairwise fun a b => TS.code 256 a ≤ TS.code 256 b := List.pairwise_map.mpr hw
    rw [hq] at hw2 hnd
    have hqw : qs.Pairwise spotLt := by
      have w1 := List.pairwise_map.mp hw2
      have w2 : qs.Pairwise fun a b => spotL a ≠ spotL b := List.pairwise_map.mp hnd
      refine (List.Pairwise.and_mem.mp (w1.and w2)).imp fun {a b} ⟨ma, mb, hab, hne⟩ => ?_
      rw [code_spot, code_spot] at hab
      have ba := hb a ((hmem a).mp ma)
      have bb := hb b ((hmem b).mp mb)
      have hne : ¬ (a.1 = b.1 ∧ a.2 = b.2) := fun z => hne (by unfold spotL; rw [z.1, z.2])
      unfold spotLt
      omega
    have hql : qs.length < 64 := by have := congrArg List.length hq; rw [List.length_map, List.length_map] at this; omega
    have o2 := o1.pop.ext ext
    have hr : RpA K (Cl Z (gv σ ts) (gs s1 rs)) (upd H1 sa (SetTO P w sa L)) (L'.map fun k => V.ref k.1) (qs.map spotD) := rpA_refs hq fun m hm => e4 m (hL1 m (hp.mem_iff.mp hm))
    exact k _ _ s1 _ (o2.pushO hpn hr) (q qs hmem hqw hql)
end
/-! max of a tuple of two ints -/
def rMaxP (K : PySem.W.Frag) : List V → Hp → VK → Prop := fun xs H Q => ∃ (a : Addr) (x y : Int), xs = [.ref a] ∧ SqT K H a [.int x, .int y] ∧ Q (.int (if x < y then y else x)) H
theorem maxD_two (x y : Int) : PySem.W.maxD (.int x) [.int y] = .int (if x < y then y else x) := by
  unfold PySem.W.maxD
  simp only [List.foldl, PySem.W.dataLt_int]
  by_cases h : x < y
  · simp [h]
  · simp [h]
section
variable {X : Cx}
theorem cr_maxP (hc : X.calm = true) (hu : X.A.units + 64 < cLine) : CallR X (.builtin "max") (rMaxP X.K) := by
  intro pins s σ H vs us Q I r h
  obtain ⟨a, x, y, rfl, hs, q⟩ := h
  obtain ⟨its, rv, hl, hz⟩ := I.tuple hs
  rw [Vals.ref1 r]
  cases rv with
  | cons r1 rv =>
  cases rv with
  | cons r2 rv =>
  cases rv
  obtain ⟨t1, rfl⟩ := r1
  obtain ⟨t2, rfl⟩ := r2
  obtain ⟨o, ho, hcl, n, hd⟩ := hl
  refine PySem.W.max_tuple_data (x := .int x) (xs := [.int y]) (as := []) (I.ok.hd hc) ⟨o, ho, hcl, n, hd⟩ (.cons (.int _ _) (.cons (.int _ _) .nil)) ?_ ?_ fun i v h' tk bs hv hr hk => ?_
  · exact ⟨by simp [PySem.W.alike], by simp⟩
  · show X.A.units + 1 + _ < _
    have : PyData.depthAll [.int x, .int y] ≤ 8 := by simp [PyData.depthAll, PyData.depth]
    omega
  · rw [maxD_two] at hr
    cases hr
    exact ⟨.int _, H, I.kept hk, ⟨_, rfl⟩, q⟩
theorem k_maxT (K : PySem.W.Frag) (hk : X.K = K) (hc : X.calm = true) (hu : X.A.units + 64 < cLine) : CallR X (.builtin "max") (rMaxP K) := by subst hk; exact cr_maxP hc hu
end
theorem opc_maxP {K : PySem.W.Frag} {s rs : List SD} {Q : SD → List SD → Prop} {r : SD} {x y : Int} (h : dat s r = some (.tuple [.int x, .int y])) (q : Q (.v (.int (if x < y then y else x))) s) : OPC ⟨K, ω⟩ (rMaxP K) [r] s rs Q := fun Z σ ts H xs R o e k => by
  obtain ⟨v, rfl⟩ : ∃ v, xs = [v] := by
    match xs, e with
    | [v], _ => exact ⟨v, rfl⟩
  obtain ⟨a, ys, rfl, h2, h3⟩ := Ok.tupTop (o : Ok K Z σ (v :: ts) H s (r :: rs)) h
  cases h3 with
  | cons i1 h3 =>
  cases h3 with
  | cons i2 h3 =>
  cases h3
  cases i1
  cases i2
  exact ⟨a, x, y, rfl, h2, k _ H s _ ((Ok.pop (o : Ok K Z σ (.ref a :: ts) H s (r :: rs))).pushV (.int _)) q⟩
end W8

/-! W9a: a list extended by another one of one's own. -/
namespace W8
open PySem L2 RZ
section
variable {K : PySem.W.Frag} {s rs : List SD} {Q : SD → List SD → Prop} {te : TE} {tl : TA}
theorem de_extend (h : DE ⟨K, ω⟩ te s rs fun r0 s1 => ∃ i, r0 = .al i ∧ IsLst s1 i ∧ DA ⟨K, ω⟩ tl s1 (r0 :: rs) fun as s2 => ∃ r t ds es, as = [r] ∧ ownL s2 r = some es ∧ s2[i]? = some (SD.ow t ds) ∧ ds.length + es.length ≤ 100000 ∧ Q (.v .none) (s2.set i (.ow t (ds ++ es)))) : DE ⟨K, ω⟩ (tBM K "list" rExtend te tl) s rs Q :=
  de_meth (h.imp fun r0 s1 ⟨i, e0, hi, h⟩ => ⟨i, e0, hi, fun Z σ ts H R o k => h Z σ ts H R o fun xs H' s' as o' e q => k xs H' s' as o' e (by
    obtain ⟨r, t, ds, es, ea, hr, hs, hl, q⟩ := q
    intro Z σ ts H x xs R o e k
    subst ea
    obtain ⟨y, rfl⟩ : ∃ y, xs = [y] := by match xs, e with | [y], _ => exact ⟨y, rfl⟩
    have o1 : Ok K Z σ (y :: x :: ts) H s' (r :: .al i :: rs) := o
    obtain ⟨b, zs, rfl, hB, hz⟩ := o1.lstTop (ownL_is hr)
    have o2 := o1.pop
    obtain ⟨a, ys, h2, rfl, h4, h5⟩ := o2.ali hs
    refine ⟨a, b, ys, zs, rfl, rfl, h4, hB, by rw [h5.length, hz.length]; exact Nat.le_trans hl (by decide), ?_⟩
    exact k _ _ _ _ ((o2.pop.mutS hs h2 (h5.append (hz.clean (cl_pop o2)))).pushV .non) q)⟩)
end
end W8

/-! W9b: dicts made of pairs, looked up. -/
namespace W8
open PySem L2 RZ PyProof.Rows
section
variable {K : PySem.W.Frag} {C : Addr → Prop} {H : Hp} {κ : Type} [DecidableEq κ]
theorem RpP.valSome {vs : List (κ × V)} {ds : List (κ × D)} (h : RpP K C H vs ds) {k : κ} {d : D} (hd : valD ds k = some d) : ∃ v, valV vs k = some v ∧ Rp K C H v d := by
  induction h with
  | nil => cases hd
  | @cons k' v d' vs ds a _ ih =>
    unfold valD at hd
    unfold valV
    unfold valV valD at ih
    rw [List.find?_cons] at hd ⊢
    by_cases e : k' = k
    · rw [decide_eq_true e] at hd ⊢
      cases hd
      exact ⟨v, rfl, a⟩
    · rw [decide_eq_false e] at hd ⊢
      exact ih hd
def mergeP (kvs more : List (κ × V)) : List (κ × V) := more.foldl (fun acc kv => putK acc kv.1 kv.2) kvs
def mergeD (kds more : List (κ × D)) : List (κ × D) := more.foldl (fun acc kv => putD acc kv.1 kv.2) kds
theorem RpP.merge {more : List (κ × V)} {mds : List (κ × D)} (h : RpP K C H more mds) : ∀ {vs : List (κ × V)} {ds : List (κ × D)}, RpP K C H vs ds → RpP K C H (mergeP vs more) (mergeD ds mds) := by
  induction h with
  | nil => intro vs ds g; exact g
  | cons a _ ih => intro vs ds g; exact ih (g.put _ a)
theorem len_putK (kvs : List (κ × V)) (k : κ) (v : V) : (putK kvs k v).length ≤ kvs.length + 1 := by
  unfold putK
  split
  · rw [List.length_map]; omega
  · rw [List.length_append]; exact Nat.le_refl _
theorem len_mergeP : ∀ (more kvs : List (κ × V)), (mergeP kvs more).length ≤ kvs.length + more.length
  | [], kvs => Nat.le_refl _
  | p :: r, kvs => by
    have h1 := len_mergeP r (putK kvs p.1 p.2)
    have h2 := len_putK kvs p.1 p.2
    show (mergeP (putK kvs p.1 p.2) r).length ≤ _
    rw [List.length_cons]; omega
end
/-- a row of pairs whose keys are tuples that stand -/
inductive PT (H : Hp) : List V → List (List Key × V) → Prop
  | nil : PT H [] []
  | cons {b q : Addr} {k : List Key} {v : V} {ys : List V} {kvs : List (List Key × V)} : H b = some (.tup [.ref q, v]) → H q = some (.tup (k.map kV)) → PT H ys kvs → PT H (.ref b :: ys) ((k, v) :: kvs)
theorem PT.length {H : Hp} {ys : List V} {kvs : List (List Key × V)} (h : PT H ys kvs) : ys.length = kvs.length := by
  induction h with
  | nil => rfl
  | cons _ _ _ ih => simp [ih]
theorem PT.mono {H H' : Hp} {ys : List V} {kvs : List (List Key × V)} (h : PT H ys kvs) (t : ∀ a xs, H a = some (.tup xs) → H' a = some (.tup xs)) : PT H' ys kvs := by
  induction h with
  | nil => exact .nil
  | cons a b _ ih => exact .cons (t _ _ a) (t _ _ b) ih
theorem PT.snoc {H : Hp} {ys : List V} {kvs : List (List Key × V)} {b q : Addr} {k : List Key} {v : V} (h : PT H ys kvs) (h1 : H b = some (.tup [.ref q, v])) (h2 : H q = some (.tup (k.map kV))) : PT H (ys ++ [.ref b]) (kvs ++ [(k, v)]) := by
  induction h with
  | nil => exact .cons h1 h2 .nil
  | cons a b _ ih => exact .cons a b ih
section
variable {X : Cx}
theorem KT.merge {H : Hp} : ∀ {more : List (List Key × V)} {rs : List (List Key × Addr × Value)} {kvs : List (List Key × V)} {xs : List (List Key × Addr × Value)}, KT H more rs → KT H kvs xs → KT H (mergeP kvs more) (storedAllH xs rs) := by
  intro more rs kvs xs r
  unfold KT at r
  induction r generalizing kvs xs with
  | nil => intro q; exact q
  | @cons p q ps qs h t ih =>
    intro r0
    obtain ⟨h1, h2, h3⟩ := h
    have e := KT.put r0 p.1 h2 h3
    rw [show storedH xs p.1 q.2.1 q.2.2 = storedH xs q.1 q.2.1 q.2.2 by rw [h1]] at e
    exact ih e
theorem pt_of {pins : List (Addr × Obj)} {σ : L2.St} {H : Hp} {s : Shared} (I : Inv X pins σ H s) : ∀ {ys : List V} {kvs : List (List Key × V)} {its : List Value}, PT H ys kvs → Vals ys its →
    ∃ prs : List (List Key × Addr × Value), KT H kvs prs ∧ prs.length = its.length ∧ ∀ (j : Nat) (q : List Key × Addr × Value), prs[j]? = some q → ∃ b : Addr, its[j]? = some (.ref b) ∧ IsTup s.heap b #[.ref q.2.1, q.2.2] ∧ H q.2.1 = some (.tup (q.1.map kV))
  | _, _, _, .nil, r => by
    cases r
    exact ⟨[], .nil, rfl, fun j q e => by simp at e⟩
  | _, _, _, .cons (b := b) (q := q) (k := k) (v := v) h1 h2 t, r => by
    cases r with
    | cons r0 rt =>
      cases r0
      obtain ⟨prs, kt, hl, hp⟩ := pt_of I t rt
      obtain ⟨is, rv, tp, _⟩ := I.tuple (a := b) (xs := [.ref q, v]) (.inl (.inl h1))
      obtain ⟨u, y, ei, ru, ry⟩ := vals2 rv
      subst ei
      cases ru
      refine ⟨(k, q, y) :: prs, .cons ⟨rfl, h2, ry⟩ kt, by rw [List.length_cons, List.length_cons, hl], fun j z e => ?_⟩
      cases j with
      | zero =>
        cases (Option.some.inj e)
        exact ⟨b, rfl, tp, h2⟩
      | succ j =>
        obtain ⟨b', e1, e2⟩ := hp j z (by simpa using e)
        exact ⟨b', by simpa using e1, e2⟩
def rDictT (K : PySem.W.Frag) : List V → Hp → VK → Prop := fun xs H Q => ∃ (a : Addr) (ys : List V) (kvs : List (List Key × V)), xs = [.ref a] ∧ SqL K H a ys ∧ PT H ys kvs ∧ ∀ p, H p = none → Q (.ref p) (upd H p (.dT (mergeP [] kvs)))
theorem cr_dictT (hcalm : X.calm = true) (hu : X.A.units + 64 < cLine) : CallR X (.type "dict") (rDictT X.K) := by
  intro pins s σ H xs us Q I r q
  obtain ⟨a, ys, kvs, ex, hq, hp, q⟩ := q
  subst ex
  obtain ⟨u, eu, rx⟩ := vals1 r
  subst eu
  cases rx
  obtain ⟨its, rv, pl, hz⟩ := I.list hq
  obtain ⟨prs, kt, hl, hpr⟩ := pt_of I hp rv
  have hyl : ys.length = its.length := rv.length
  have ho := pl
  have key : ∀ x ∈ prs, H x.2.1 = some (.tup (x.1.map kV)) := fun x hx => by
    obtain ⟨j, hj⟩ := List.mem_iff_getElem?.mp hx
    exact (hpr j x hj).choose_spec.2.2
  refine call_dict_pairsH (knd := tupleKind (mixKind X.prog X.w)) (ps := prs) (n := (prs.map fun q => (Value.ref q.2.1, q.2.2)).length) (PairArg.list a its.toArray (fun j => match its[j]? with | some (.ref b) => b | _ => 0) (prs.map fun q => (Value.ref q.2.1, q.2.2))) (I.ok.hd hcalm) (tupleKind_room_in1 (by show X.A.units + 1 + 1 < cLine; omega)) ⟨ho, ⟨by simp [hl], fun j k v hj => ?g1⟩⟩ ⟨by simp, fun i k v hi => ?g2⟩ (fun h' hk x hx => ?g3) (by rw [List.length_map, hl, ← hyl]; exact hz) fun h' tk hd' k => ?g4
  case g1 =>
    rw [List.getElem?_map] at hj
    obtain ⟨z, hz1, hz2⟩ := Option.map_eq_some_iff.mp hj
    obtain ⟨b, e1, e2, _⟩ := hpr j z hz1
    cases hz2
    simp only [List.getElem?_toArray, e1]
    exact ⟨trivial, .inl e2⟩
  case g2 =>
    have hi : (prs.map fun q => (Value.ref q.2.1, q.2.2))[i]? = some (k, v) := hi
    rw [List.getElem?_map] at hi
    obtain ⟨z, hz1, hz2⟩ := Option.map_eq_some_iff.mp hi
    cases hz2
    exact ⟨z.1, z.2.1, hz1, rfl⟩
  case g3 =>
    obtain ⟨o, its', n, h1, h2, h3, h4⟩ := key_of I.hok (key x hx)
    exact ⟨o, its', n, hk _ _ (Nat.ne_of_lt (Heap.lt_size h1)) (fun z => nomatch z) h1, h2, h3, h4⟩
  case g4 =>
    have hm : (s.heap.objs.size == sysModules) = false := beq_eq_false_iff_ne.mpr (Nat.ne_of_gt I.big)
    have hlen : (mergeP [] kvs).length ≤ sizeLine := by
      refine Nat.le_trans (len_mergeP kvs []) ?_
      rw [List.length_nil, Nat.zero_add, ← hp.length]
      exact hz
    have hn := I.hok.fresh (Nat.le_refl s.heap.objs.size)
    have km := (KT.merge kt .nil).keeps (H' := upd H s.heap.objs.size (.dT (mergeP [] kvs))) fun b ys e => by rw [upd_ne (ne_of_none e hn)]; exact e
    obtain ⟨o', es, ep, g1, g2, g3, g4, _, g6⟩ := hd'
    exact ⟨.ref s.heap.objs.size, upd H s.heap.objs.size (.dT (mergeP [] kvs)), I.laid (t' := tk) (fun b o e => k b o (fun z => nomatch z) e) (Nat.le_refl _) (show ObjOk X.prog X.w _ _ _ (.dT (mergeP [] kvs)) from ⟨hlen, hm, storedAllH [] prs, km, o', es, ep, g1, g2, g3, g4, g6⟩), rfl, q _ hn⟩
end
end W8

/-! W9c: dict([((.., ..), x) for .. in ..]), looked up; dicts of texts. -/
namespace W8
open PySem L2 RZ PyProof.Rows
/-- the target leaves the heap as it is -/
def GS (g : TG) : Prop := ∀ v σ H (P R : L2.St → Hp → Prop), (∀ σ2, P σ2 H → R σ2 H) → g v σ H P → g v σ H R
def GSs (g : TGs) : Prop := ∀ v σ H (P R : L2.St → Hp → Prop), (∀ σ2, P σ2 H → R σ2 H) → g v σ H P → g v σ H R
theorem gs_name {i : Nat} : GS (gName i) := fun v σ H P R k q => k _ q
theorem gss_nil : GSs gNil := fun v σ H P R k q => ⟨q.1, k _ q.2⟩
theorem gss_cons {t : TG} {u : TGs} (h : GS t) (h2 : GSs u) : GSs (gCons t u) := fun v σ H P R k ⟨x, r, e, q⟩ =>
  ⟨x, r, e, h x σ H (fun σ' H' => H' = H ∧ u r σ' H' P) _ (fun σ2 ⟨_, z⟩ => h2 r σ2 H P R k z) (h x σ H _ _ (fun σ2 z => ⟨rfl, z⟩) q)⟩
theorem gs_tupN {K : PySem.W.Frag} {n : Nat} {t : TGs} (h : GSs t) : GS (gTup K n t) := fun v σ H P R k ⟨a, xs, e, h1, h2, q⟩ => ⟨a, xs, e, h1, h2, h xs σ H P R k q⟩
/-- the arguments leave the heap as it is -/
def AS (t : TA) : Prop := ∀ σ H (P R : List V → Hp → Prop), (∀ xs, P xs H → R xs H) → t σ H P → t σ H R
def ES (t : TE) : Prop := ∀ σ H (P R : VK), (∀ x, P x H → R x H) → t σ H P → t σ H R
theorem es_var {i : Nat} : ES (tVar i) := fun σ H P R k ⟨v, h, q⟩ => ⟨v, h, k _ q⟩
theorem as_nil : AS tNil := fun σ H P R k q => k _ q
theorem as_cons {te : TE} {ta : TA} (h : ES te) (h2 : AS ta) : AS (tCons te ta) := fun σ H P R k q =>
  h σ H (fun x H1 => H1 = H ∧ ta σ H1 fun xs H2 => P (x :: xs) H2) _ (fun x ⟨_, z⟩ => h2 σ H _ _ (fun xs w => k _ w) z) (h σ H _ _ (fun x z => ⟨rfl, z⟩) q)
/-- the same with what stands for the values -/
inductive PTD (K : PySem.W.Frag) (C : Addr → Prop) (H : Hp) : List V → List (List Key × V) → List (List Key × D) → Prop
  | nil : PTD K C H [] [] []
  | cons {b q : Addr} {k : List Key} {v : V} {d : D} {ys : List V} {kvs : List (List Key × V)} {kds : List (List Key × D)} : H b = some (.tup [.ref q, v]) → H q = some (.tup (k.map kV)) → Rp K C H v d → PTD K C H ys kvs kds → PTD K C H (.ref b :: ys) ((k, v) :: kvs) ((k, d) :: kds)
section
variable {K : PySem.W.Frag} {C C' : Addr → Prop} {H H' : Hp} {ys : List V} {kvs : List (List Key × V)} {kds : List (List Key × D)}
theorem PTD.pt (h : PTD K C H ys kvs kds) : PT H ys kvs := by
  induction h with
  | nil => exact .nil
  | cons a b _ _ ih => exact .cons a b ih
theorem PTD.rp (h : PTD K C H ys kvs kds) : RpP K C H kvs kds := by
  induction h with
  | nil => exact .nil
  | cons _ _ c _ ih => exact .cons c ih
theorem PTD.mono (h : PTD K C H ys kvs kds) (t : ∀ a xs, H a = some (.tup xs) → H' a = some (.tup xs)) (ht : ∀ a xs, Rd H a (.tup xs) → Rd H' a (.tup xs)) (hl : ∀ a xs, C a → Rd H a (.lst xs) → C' a ∧ Rd H' a (.lst xs)) : PTD K C' H' ys kvs kds := by
  induction h with
  | nil => exact .nil
  | cons a b c _ ih => exact .cons (t _ _ a) (t _ _ b) (Rp.mono ht hl _ _ c) ih
theorem PTD.snoc {b q : Addr} {k : List Key} {v : V} {d : D} (h : PTD K C H ys kvs kds) (h1 : H b = some (.tup [.ref q, v])) (h2 : H q = some (.tup (k.map kV))) (h3 : Rp K C H v d) : PTD K C H (ys ++ [.ref b]) (kvs ++ [(k, v)]) (kds ++ [(k, d)]) := by
  induction h with
  | nil => exact .cons h1 h2 h3 .nil
  | cons a b c _ ih => exact .cons a b c ih
end
theorem rpA_kV {K : PySem.W.Frag} {C : Addr → Prop} {H : Hp} : ∀ ks : List Key, RpA K C H (ks.map kV) (ks.map keyD)
  | [] => .nil
  | .inl i :: ks => .cons (.int i) (rpA_kV ks)
  | .inr x :: ks => .cons (.str x) (rpA_kV ks)
def pairD (kd : List Key × D) : D := .tuple [.tuple (kd.1.map keyD), kd.2]
section
variable {K : PySem.W.Frag} {Z : Zn} {σ : L2.St} {ts xs : List V} {H : Hp} {s rs as : List SD} {x : V} {r : SD}
theorem cl_pops : ∀ {as : List SD} {xs : List V}, Ok K Z σ (xs ++ ts) H s (as ++ rs) → xs.length = as.length → ∀ a, Cl Z (gv σ (xs ++ ts)) (gs s (as ++ rs)) a → Cl Z (gv σ ts) (gs s rs) a
  | [], [], _, _ => fun a h => h
  | [], _ :: _, _, e => by cases e
  | _ :: _, [], _, e => by cases e
  | r :: as, x :: xs, o, e => fun a h => cl_pops (as := as) (xs := xs) (Ok.pop o) (by simpa using e) a (cl_pop o a h)
theorem own_top {t : Option Nat} {w w' : OD} {f : Pos2 → Option V} {a : Addr} (h : Own f (gs s (.own t w :: rs)) a) : Own f (gs s (.own t w' :: rs)) a := by
  rcases h with ⟨p, u, es, h1, h2⟩ | z
  · rw [gs_push] at h1
    by_cases e : p = .inr rs.length
    · refine .inl ⟨p, t, w', ?_, h2⟩
      rw [gs_push, e, up_same]
    · refine .inl ⟨p, u, es, ?_, h2⟩
      rw [gs_push, up_ne e]
      rw [up_ne e] at h1
      exact h1
  · rw [gs_push] at z
    obtain ⟨p, G, h1, h2⟩ := own2_up (fun _ e => by cases e) z
    refine .inr ⟨p, G, ?_, h2⟩
    rw [gs_push, up_ne]
    · exact h1
    · rintro rfl
      rw [gs_none] at h1; cases h1
theorem cl_top {t : Option Nat} {w w' : OD} {f : Pos2 → Option V} {a : Addr} (h : Cl Z f (gs s (.own t w :: rs)) a) : Cl Z f (gs s (.own t w' :: rs)) a := ⟨h.1, fun z => h.2 (own_top z)⟩
end
section
variable {K : PySem.W.Frag} {s rs as : List SD} {Q : SD → List SD → Prop} {wi : TI} {g : TG} {vs : List Nat} {ta : TA} {l : Nat}
theorem de_dictLc (α : Type) (hg : GW g vs) (hgs : GS g) (has : AS ta) (h : DI ⟨K, ω⟩ wi s rs fun its as W s1 => ∃ (zs : List α) (u : α → D) (κ : α → List Key) (v : α → D), its = zs.map u ∧ (∀ i ∈ vs, noal as i = true ∧ noal rs i = true) ∧ W (wipeS s1 vs) ∧ its.length ≤ 100000 ∧
    (∀ z ∈ zs, ∀ acc, DG ⟨K, ω⟩ g (.v (u z)) (wipeS s1 vs) (.ow none acc :: (as ++ rs)) fun s2 => s2[l]? = some (.v (v z)) ∧ wipeS s2 vs = wipeS s1 vs ∧ DA ⟨K, ω⟩ ta s2 (.ow none acc :: (as ++ rs)) fun as3 s3 => s3 = s2 ∧ asDs as3 = some ((κ z).map keyD) ∧ (κ z).length ≤ 100000) ∧
    wipeS (wipeS s1 vs) vs = wipeS s1 vs ∧ Q (.own none (.dT (mergeD [] (zs.map fun z => (κ z, v z))))) (wipeS s1 vs)) :
    DE ⟨K, ω⟩ (tCB (rDictT K) (tCons (tLc wi g tYes (tTup (tCons (tTup ta) (tCons (tVar l) tNil))) vs) tNil)) s rs Q := fun Z σ ts H R o k => by
  show tLc wi g tYes (tTup (tCons (tTup ta) (tCons (tVar l) tNil))) vs σ H fun x H1 => rDictT K [x] H1 R
  refine h Z σ ts H _ o fun J H1 s1 as xs its W o1 e hW ⟨zs, u, κ, v, hi, hv, hw, hz, hs, hx, q⟩ => ?_
  subst hi
  intro p hp
  have el : ts.length = rs.length := (o1.pops e).lt
  have nv : ∀ acc, ∀ i ∈ vs, noal (.ow none acc :: (as ++ rs)) i = true := fun acc i hi => by
    obtain ⟨n1, n2⟩ := hv i hi
    unfold noal at n1 n2 ⊢
    rw [List.all_cons, List.all_append, n1, n2]; rfl
  have w0 : Ok K Z (wipe σ vs) (.ref p :: (xs ++ ts)) (upd H1 p (.lst [])) (wipeS s1 vs) (.ow none [] :: (as ++ rs)) :=
    (o1.pushO hp .nil).wiped (wipe_length σ vs) (fun i hi => wipe_get hi) (nv [])
  refine ⟨fun i m H => m = zs.length - i ∧ i ≤ zs.length ∧ ∃ ys kvs, H p = some (.lst ys) ∧ Ok K Z (wipe σ vs) (.ref p :: (xs ++ ts)) H (wipeS s1 vs) (.ow none (((zs.take i).map fun z => (κ z, v z)).map pairD) :: (as ++ rs)) ∧ PTD K (Cl Z (gv (wipe σ vs) (.ref p :: (xs ++ ts))) (gs (wipeS s1 vs) (.ow none [] :: (as ++ rs)))) H ys kvs ((zs.take i).map fun z => (κ z, v z)), ⟨zs.length, by simp, Nat.zero_le _, [], [], upd_same, by simpa using w0, by simpa using PTD.nil⟩, ?_⟩
  rintro i m H ⟨rfl, hi, ys, kvs, hpl, o', pt⟩
  obtain ⟨go, stop⟩ := hW _ H (wipeS s1 vs) [.ref p] [.ow none (((zs.take i).map fun z => (κ z, v z)).map pairD)] o' hw
  by_cases hlt : i < zs.length
  · have hget : (zs.map u)[i]? = some (u zs[i]) := by rw [List.getElem?_map, List.getElem?_eq_getElem hlt]; rfl
    refine .inr ⟨(go i _ hget).1, fun H' => ∃ ys kvs, H' p = some (.lst ys) ∧ Ok K Z (wipe σ vs) (.ref p :: (xs ++ ts)) H' (wipeS s1 vs) (.ow none (((zs.take (i + 1)).map fun z => (κ z, v z)).map pairD) :: (as ++ rs)) ∧ PTD K (Cl Z (gv (wipe σ vs) (.ref p :: (xs ++ ts))) (gs (wipeS s1 vs) (.ow none [] :: (as ++ rs)))) H' ys kvs ((zs.take (i + 1)).map fun z => (κ z, v z)), fun H' z => ⟨zs.length - (i + 1), by omega, rfl, hlt, z⟩, fun x H2 y => ?_⟩
    obtain ⟨gr, rp⟩ := (go i _ hget).2 x H2 y
    have eacc : (zs.take (i + 1)).map (fun z => (κ z, v z)) = (zs.take i).map (fun z => (κ z, v z)) ++ [(κ zs[i], v zs[i])] := by
      rw [List.take_succ, List.getElem?_eq_getElem hlt, List.map_append]; rfl
    rw [eacc]
    generalize hacc : (zs.take i).map (fun z => (κ z, v z)) = kds at o' pt rp ⊢
    have hkl : kds.length = i := by rw [← hacc, List.length_map, List.length_take]; omega
    have g1 : g x (wipe σ vs) H2 fun σ3 H3 => ∃ s2, Ok K Z σ3 (.ref p :: (xs ++ ts)) H3 s2 (.ow none (kds.map pairD) :: (as ++ rs)) ∧ s2[l]? = some (.v (v zs[i])) ∧ wipeS s2 vs = wipeS s1 vs ∧ DA ⟨K, ω⟩ ta s2 (.ow none (kds.map pairD) :: (as ++ rs)) fun as3 s3 => s3 = s2 ∧ asDs as3 = some ((κ zs[i]).map keyD) ∧ (κ zs[i]).length ≤ 100000 :=
      hs zs[i] (List.getElem_mem hlt) (kds.map pairD) Z (wipe σ vs) _ H2 x _ ((o'.ext gr).pushV rp) fun σ3 H3 s2 o3 z => ⟨s2, o3, z⟩
    have g2 := hgs x (wipe σ vs) H2 _ (fun σ3 H3 => H3 = H2 ∧ ∃ s2, Ok K Z σ3 (.ref p :: (xs ++ ts)) H3 s2 (.ow none (kds.map pairD) :: (as ++ rs)) ∧ s2[l]? = some (.v (v zs[i])) ∧ wipeS s2 vs = wipeS s1 vs ∧ DA ⟨K, ω⟩ ta s2 (.ow none (kds.map pairD) :: (as ++ rs)) fun as3 s3 => s3 = s2 ∧ asDs as3 = some ((κ zs[i]).map keyD) ∧ (κ zs[i]).length ≤ 100000) (fun σ2 z => ⟨rfl, z⟩) g1
    refine hg x (wipe σ vs) H2 _ _ (fun σ3 H3 e3 q3 => ?_) g2
    have e3' : wipe σ3 vs = wipe σ vs := by rw [e3]; exact wipe_wipe fun _ h => h
    obtain ⟨rfl, s2, o3, h1, h2, h3⟩ := q3
    refine ⟨e3', ?_⟩
    unfold tYes
    dsimp only
    rw [if_pos rfl]
    show ta σ3 H3 _
    have a1 : ta σ3 H3 fun ks H4 => ∃ as3, Ok K Z σ3 (ks.reverse ++ (.ref p :: (xs ++ ts))) H4 s2 (as3.reverse ++ (.ow none (kds.map pairD) :: (as ++ rs))) ∧ ks.length = as3.length ∧ asDs as3 = some ((κ zs[i]).map keyD) ∧ (κ zs[i]).length ≤ 100000 :=
      h3 Z σ3 _ H3 _ o3 fun ks H4 s3 as3 o4 e4 ⟨z1, z2, z3⟩ => ⟨as3, z1 ▸ o4, e4, z2, z3⟩
    refine has σ3 H3 _ _ (fun ks z => ?_) a1
    obtain ⟨as3, o4, e4, z2, z3⟩ := z
    obtain ⟨hk, o5⟩ := o4.args e4 z2
    obtain rfl := rpA_keys hk
    refine ⟨by rw [hk.length, List.length_map]; exact Nat.le_trans z3 (by decide), fun q hq => ?_⟩
    have ext1 : ∀ b u, H3 b = some u → upd H3 q (.tup ((κ zs[i]).map kV)) b = some u := fun b u hb => by rw [upd_ne (ne_of_none hb hq)]; exact hb
    have o6 := o5.ext ext1
    obtain ⟨x3, x4, x5⟩ := o6.atV (p := .inl l) h1
    refine ⟨x3, gv_slot.mp x4, ?_⟩
    refine ⟨show 2 ≤ sizeLine by decide, fun b hb => ?_⟩
    have o7 := (o6.pushV x5).ext (H' := upd (upd H3 q (.tup ((κ zs[i]).map kV))) b (.tup [.ref q, x3])) fun c u hc => by rw [upd_ne (ne_of_none hc hb)]; exact hc
    generalize hH5 : upd (upd H3 q (.tup ((κ zs[i]).map kV))) b (.tup [.ref q, x3]) = H5 at o7 ⊢
    have hqb : q ≠ b := fun z => by subst z; rw [upd_same] at hb; cases hb
    have hbt : H5 b = some (.tup [.ref q, x3]) := by rw [← hH5, upd_same]
    have hqt : H5 q = some (.tup ((κ zs[i]).map kV)) := by rw [← hH5, upd_ne hqb, upd_same]
    have ext2 : ∀ c u, H c = some u → H5 c = some u := fun c u hc => by
      have hc := gr c u hc
      rw [← hH5, upd_ne (ne_of_none (ext1 _ _ hc) hb)]
      exact ext1 _ _ hc
    have l3 : σ3.length = σ.length := by
      have := congrArg List.length e3'
      rwa [wipe_length, wipe_length] at this
    have o8 : Ok K Z (wipe σ vs) (x3 :: .ref p :: (xs ++ ts)) H5 (wipeS s2 vs) (.v (v zs[i]) :: .ow none (kds.map pairD) :: (as ++ rs)) :=
      o7.wiped (by rw [wipe_length, l3]) (fun j hj => by rw [← e3', wipe_get hj]) (fun j hj => by
        have := nv (kds.map pairD) j hj
        unfold noal at this ⊢
        rw [List.all_cons, this]; rfl)
    rw [h2] at o8
    have hx8 := o8.top
    have o9 := o8.pop
    obtain ⟨y1, f1, f2, o10⟩ := (o9.pushV (x := .ref b) (d := pairD (κ zs[i], v zs[i])) (.tup (.inl (.inl hbt)) (.cons (.tup (.inl (.inl hqt)) (rpA_kV _)) (.cons hx8 .nil)))).appT rfl
    have ey : y1 = ys := by
      have := ext2 _ _ hpl
      rw [f1] at this
      injection this with this
      injection this
    subst ey
    refine ⟨y1, f1, by rw [f2, List.length_map, hkl]; exact Nat.lt_of_le_of_lt (show i ≤ 100000 by rw [List.length_map] at hz; omega) (by decide), y1 ++ [.ref b], kvs ++ [(κ zs[i], x3)], upd_same, ?_, ?_⟩
    · rw [List.map_append]; exact o10
    · have np : ∀ c t, H5 c = some (.tup t) → c ≠ p := fun c t hc z => by subst z; rw [f1] at hc; cases hc
      have hown : Own (gv (wipe σ vs) (.ref p :: (xs ++ ts))) (gs (wipeS s1 vs) (.ow none [] :: (as ++ rs))) p := .inl ⟨.inr (as ++ rs).length, none, _, gT_top, by
        show gT (.ref p :: (xs ++ ts)) (as ++ rs).length = some (.ref p)
        rw [show (as ++ rs).length = (xs ++ ts).length by rw [List.length_append, List.length_append, e, el]]
        exact gT_top⟩
      have rdT : ∀ c t, Rd H5 c (.tup t) → Rd (upd H5 p (.lst (y1 ++ [.ref b]))) c (.tup t) := fun c t r => by
        rcases r with r | ⟨o, r⟩
        · exact .inl (by rw [upd_ne (np c t r)]; exact r)
        · exact .inr ⟨o, by rw [upd_ne fun z => by subst z; rw [f1] at r; cases r]; exact r⟩
      have rdL : ∀ c t, Cl Z (gv (wipe σ vs) (.ref p :: (xs ++ ts))) (gs (wipeS s1 vs) (.ow none [] :: (as ++ rs))) c → Rd H5 c (.lst t) → Cl Z (gv (wipe σ vs) (.ref p :: (xs ++ ts))) (gs (wipeS s1 vs) (.ow none [] :: (as ++ rs))) c ∧ Rd (upd H5 p (.lst (y1 ++ [.ref b]))) c (.lst t) := fun c t hc r => by
        have ne : c ≠ p := fun z => hc.2 (z ▸ hown)
        refine ⟨hc, ?_⟩
        rcases r with r | ⟨o, r⟩
        · exact .inl (by rw [upd_ne ne]; exact r)
        · exact .inr ⟨o, by rw [upd_ne ne]; exact r⟩
      have p1 := pt.mono (H' := H5) (fun a t r => ext2 _ _ r) (fun a t r => rd_ext ext2 r) fun a t c r => ⟨c, rd_ext ext2 r⟩
      have p2 := p1.snoc hbt hqt (hx8.clean fun a c => cl_top c)
      exact p2.mono (fun a t r => by rw [upd_ne (np a t r)]; exact r) rdT rdL
  · have ei : i = zs.length := by omega
    subst ei
    rw [List.take_length] at o' pt
    refine .inl ⟨by rw [List.length_map] at stop; exact stop, p, ys, kvs, rfl, .inl (.inl hpl), pt.pt, fun d hd => ?_⟩
    have pr := pt.rp
    have pr2 : RpP K (Cl Z (gv (wipe σ vs) ts) (gs (wipeS s1 vs) rs)) H kvs (zs.map fun z => (κ z, v z)) := pr.mono (fun _ _ r => r) fun a t c r => ⟨cl_pops (Ok.pop o') e a (cl_pop o' a (cl_top c)), r⟩
    have o2 := (Ok.pop o').pops e
    have o3 := o2.pushW hd (.dT (pr2.merge .nil))
    have o4 := o3.wiped (wipe_length σ vs).symm (fun i hi => (wipe_get hi).symm) (fun i hi => by
      have := (hv i hi).2
      unfold noal at this ⊢
      rw [List.all_cons, this]; rfl)
    rw [hx] at o4
    exact k _ _ _ _ o4 q
end
end W8

/-! W9d: dicts looked up, wherever they stand; x[k] += n. -/
namespace W8
open PySem L2 RZ PyProof.Rows
def ownO (s : List SD) : SD → Option OD
  | .own _ w => some w
  | .al i => match s[i]? with | some (.own _ w) => some w | _ => none
  | .rf a => match lk s a with | some (.pl w) => some w | _ => none
  | _ => none
def isDc : OD → Bool
  | .lst _ => false
  | _ => true
theorem ownO_is {s : List SD} {r : SD} {w : OD} (h : ownO s r = some w) : (∃ t, r = .own t w) ∨ (∃ i t, r = .al i ∧ s[i]? = some (.own t w)) ∨ ∃ a, r = .rf a ∧ lk s a = some (.pl w) := by
  cases r with
  | no => cases h
  | v d => cases h
  | fz d => cases h
  | gh d => cases h
  | rf a =>
    have h : (match lk s a with | some (.pl w) => some w | _ => none) = some w := h
    cases e : lk s a with
    | none => rw [e] at h; cases h
    | some g =>
      rw [e] at h
      cases g with
      | pl u => injection h with h; subst h; exact .inr (.inr ⟨a, rfl, e⟩)
      | _ => cases h
  | own t u => injection h with h; subst h; exact .inl ⟨t, rfl⟩
  | al i =>
    refine .inr (.inl ?_)
    have h : (match s[i]? with | some (.own _ w) => some w | _ => none) = some w := h
    cases e : s[i]? with
    | none => rw [e] at h; cases h
    | some r =>
      rw [e] at h
      cases r with
      | own t u => injection h with h; subst h; exact ⟨i, t, rfl, e⟩
      | fz d => cases h
      | rf d => cases h
      | gh d => cases h
      | no => cases h
      | v d => cases h
      | al j => cases h
section
variable {K : PySem.W.Frag} {Z : Zn} {σ : L2.St} {ts : List V} {H : Hp} {x : V} {s rs : List SD} {r : SD} {w : OD}
theorem Ok.odTop (o : Ok K Z σ (x :: ts) H s (r :: rs)) (h : ownO s r = some w) : ∃ a u, x = .ref a ∧ H a = some u ∧ RpO K (Cl Z (gv σ ts) (gs s rs)) H u w := by
  rcases ownO_is h with ⟨t, rfl⟩ | ⟨i, t, rfl, hi⟩ | ⟨a, rfl, hi⟩
  · obtain ⟨a, u, h1, h2, h3, _⟩ := o.c.wn (.inr rs.length) t w gT_top
    have e : ts.length = rs.length := by have := o.lt; simpa using this
    have h1 : gT (x :: ts) rs.length = some (.ref a) := h1
    rw [← e, gT_top] at h1
    exact ⟨a, u, Option.some.inj h1, h2, h3.clean (cl_pop o)⟩
  · obtain ⟨t', w', a, u, w1, _, w3, w4, w5⟩ := o.aliW
    rw [hi] at w1; cases w1
    exact ⟨a, u, w3, w4, w5⟩
  · have e : ts.length = rs.length := by have := o.lt; simpa using this
    have h1 : gT (x :: ts) rs.length = some (.ref a) := o.c.rf (.inr rs.length) a gT_top
    rw [← e, gT_top] at h1
    obtain ⟨u, h2, h3, _⟩ := o.pop.pool hi
    cases h3 with
    | pl h3 => exact ⟨a, u, Option.some.inj h1, h2, h3⟩
theorem rpO_dT {C : Addr → Prop} {u : HO} {kds : List (List Key × D)} (h : RpO K C H u (.dT kds)) : ∃ kvs, u = .dT kvs ∧ RpP K C H kvs kds := by
  generalize hO : OD.dT kds = od at h
  cases h with
  | lst _ => cases hO
  | ex _ _ => cases hO
  | dK _ => cases hO
  | dT h => cases hO; exact ⟨_, rfl, h⟩
theorem rpO_dK {C : Addr → Prop} {u : HO} {kds : List (Key × D)} (h : RpO K C H u (.dK kds)) : ∃ kvs, u = .dK kvs ∧ RpP K C H kvs kds := by
  generalize hO : OD.dK kds = od at h
  cases h with
  | lst _ => cases hO
  | ex _ _ => cases hO
  | dT _ => cases hO
  | dK h => cases hO; exact ⟨_, rfl, h⟩
end
section
variable {K : PySem.W.Frag} {s rs : List SD} {Q : SD → List SD → Prop} {td ty te : TE} {ta : TA}
/-- d[(.., ..)] -/
theorem dxT_get (h : DE ⟨K, ω⟩ td s rs fun r0 s1 => DA ⟨K, ω⟩ ta s1 (r0 :: rs) fun as s2 => ∃ kds ks d, asDs as = some (ks.map keyD) ∧ ks.length ≤ 100000 ∧ ownO s2 r0 = some (.dT kds) ∧ valD kds ks = some d ∧ Q (.v d) s2) : DE ⟨K, ω⟩ (tDGet td (tTup ta)) s rs Q := fun Z σ ts H R o k => by
  refine h Z σ ts H _ o fun x H1 s1 r0 o1 q1 => ?_
  refine q1 Z σ _ H1 _ o1 fun xs H2 s2 as o2 e ⟨kds, ks, d, ha, hkl, hs, hv, q⟩ => ?_
  obtain ⟨h3, o3⟩ := o2.args e ha
  have ex := rpA_keys h3
  refine ⟨by rw [h3.length, List.length_map]; exact Nat.le_trans hkl (by decide), fun p hp => ?_⟩
  have ext : ∀ b u, H2 b = some u → upd H2 p (.tup xs) b = some u := fun b u hb => by rw [upd_ne (ne_of_none hb hp)]; exact hb
  have o4 := o3.ext ext
  obtain ⟨a, u, rfl, w4, w5⟩ := o4.odTop hs
  obtain ⟨kvs, rfl, w6⟩ := rpO_dT w5
  obtain ⟨v, v1, v2⟩ := w6.valSome hv
  exact ⟨a, v, rfl, v1 ▸ DGet.t w4 (by rw [upd_same, ex]), k _ _ s2 _ (o4.pop.pushV v2) q⟩
/-- (.., ..) in d -/
theorem dxT_in (h : DA ⟨K, ω⟩ ta s rs fun as s1 => ∃ ks, asDs as = some (ks.map keyD) ∧ ks.length ≤ 100000 ∧ DE ⟨K, ω⟩ td s1 rs fun r0 s2 => ∃ kds, ownO s2 r0 = some (.dT kds) ∧ Q (.v (.bool (valD kds ks).isSome)) s2) (hs : ES td) : DE ⟨K, ω⟩ (tDIn (tTup ta) td) s rs Q := fun Z σ ts H R o k => by
  refine h Z σ _ H _ o fun xs H2 s2 as o2 e ⟨ks, ha, hkl, q⟩ => ?_
  obtain ⟨h3, o3⟩ := o2.args e ha
  have ex := rpA_keys h3
  refine ⟨by rw [h3.length, List.length_map]; exact Nat.le_trans hkl (by decide), fun p hp => ?_⟩
  have ext : ∀ b u, H2 b = some u → upd H2 p (.tup xs) b = some u := fun b u hb => by rw [upd_ne (ne_of_none hb hp)]; exact hb
  have o4 := o3.ext ext
  have q2 := q Z σ ts _ (fun x H3 => ∃ s3 r0, Ok K Z σ (x :: ts) H3 s3 (r0 :: rs) ∧ ∃ kds, ownO s3 r0 = some (.dT kds) ∧ Q (.v (.bool (valD kds ks).isSome)) s3) o4 fun x H3 s3 r0 o5 z => ⟨s3, r0, o5, z⟩
  refine hs σ _ _ _ (fun x z => ?_) q2
  obtain ⟨s3, r0, o5, kds, z1, z2⟩ := z
  obtain ⟨a, u, rfl, w4, w5⟩ := o5.odTop z1
  obtain ⟨kvs, rfl, w6⟩ := rpO_dT w5
  refine ⟨a, _, rfl, DGet.t w4 (by rw [upd_same, ex]), ?_⟩
  rw [w6.isSome ks]
  exact k _ _ s3 _ (o5.pop.pushV (.bl _)) z2
theorem dxT_notin (h : DA ⟨K, ω⟩ ta s rs fun as s1 => ∃ ks, asDs as = some (ks.map keyD) ∧ ks.length ≤ 100000 ∧ DE ⟨K, ω⟩ td s1 rs fun r0 s2 => ∃ kds, ownO s2 r0 = some (.dT kds) ∧ Q (.v (.bool (!(valD kds ks).isSome))) s2) (hs : ES td) : DE ⟨K, ω⟩ (tDNotIn (tTup ta) td) s rs Q := fun Z σ ts H R o k => by
  refine h Z σ _ H _ o fun xs H2 s2 as o2 e ⟨ks, ha, hkl, q⟩ => ?_
  obtain ⟨h3, o3⟩ := o2.args e ha
  have ex := rpA_keys h3
  refine ⟨by rw [h3.length, List.length_map]; exact Nat.le_trans hkl (by decide), fun p hp => ?_⟩
  have ext : ∀ b u, H2 b = some u → upd H2 p (.tup xs) b = some u := fun b u hb => by rw [upd_ne (ne_of_none hb hp)]; exact hb
  have o4 := o3.ext ext
  have q2 := q Z σ ts _ (fun x H3 => ∃ s3 r0, Ok K Z σ (x :: ts) H3 s3 (r0 :: rs) ∧ ∃ kds, ownO s3 r0 = some (.dT kds) ∧ Q (.v (.bool (!(valD kds ks).isSome))) s3) o4 fun x H3 s3 r0 o5 z => ⟨s3, r0, o5, z⟩
  refine hs σ _ _ _ (fun x z => ?_) q2
  obtain ⟨s3, r0, o5, kds, z1, z2⟩ := z
  obtain ⟨a, u, rfl, w4, w5⟩ := o5.odTop z1
  obtain ⟨kvs, rfl, w6⟩ := rpO_dT w5
  refine ⟨a, _, rfl, DGet.t w4 (by rw [upd_same, ex]), ?_⟩
  rw [w6.isSome ks]
  exact k _ _ s3 _ (o5.pop.pushV (.bl _)) z2
/-- d.get((.., ..)) -/
theorem dxT_get1 (h : DE ⟨K, ω⟩ td s rs fun r0 s1 => (∃ kds, ownO s1 r0 = some (.dT kds)) ∧ DA ⟨K, ω⟩ ta s1 (r0 :: rs) fun as s2 => ∃ kds ks, asDs as = some (ks.map keyD) ∧ ks.length ≤ 100000 ∧ ownO s2 r0 = some (.dT kds) ∧ Q (.v ((valD kds ks).getD .none)) s2) : DE ⟨K, ω⟩ (tDGet1 td (tTup ta)) s rs Q := fun Z σ ts H R o k => by
  refine h Z σ ts H _ o fun x H1 s1 r0 o1 ⟨⟨kds0, hs0⟩, q1⟩ => ?_
  obtain ⟨a, u, rfl, w4, w5⟩ := o1.odTop hs0
  obtain ⟨kvs0, rfl, _⟩ := rpO_dT w5
  refine ⟨a, rfl, .inr ⟨_, .inl w4⟩, ?_⟩
  refine q1 Z σ _ H1 _ o1 fun xs H2 s2 as o2 e ⟨kds, ks, ha, hkl, hs, q⟩ => ?_
  obtain ⟨h3, o3⟩ := o2.args e ha
  have ex := rpA_keys h3
  refine ⟨by rw [h3.length, List.length_map]; exact Nat.le_trans hkl (by decide), fun p hp => ?_⟩
  have ext : ∀ b u, H2 b = some u → upd H2 p (.tup xs) b = some u := fun b u hb => by rw [upd_ne (ne_of_none hb hp)]; exact hb
  have o4 := o3.ext ext
  obtain ⟨a', u, e', w4, w5⟩ := o4.odTop hs
  cases e'
  obtain ⟨kvs, rfl, w6⟩ := rpO_dT w5
  exact ⟨_, DGet.t w4 (by rw [upd_same, ex]), k _ _ s2 _ (o4.pop.pushV (w6.val ks)) q⟩
/-- the same, the keys numbers and texts -/
theorem dxK_get (h : DE ⟨K, ω⟩ td s rs fun r0 s1 => DE ⟨K, ω⟩ ty s1 (r0 :: rs) fun r s2 => ∃ kds k d, r = .v (keyD k) ∧ ownO s2 r0 = some (.dK kds) ∧ valD kds k = some d ∧ Q (.v d) s2) : DE ⟨K, ω⟩ (tDGet td ty) s rs Q := fun Z σ ts H R o k => by
  refine h Z σ ts H _ o fun x H1 s1 r0 o1 q1 => ?_
  refine q1 Z σ _ H1 _ o1 fun y H2 s2 r o2 ⟨kds, kk, d, er, hs, hv, q⟩ => ?_
  subst er
  have ey := rp_key o2.top
  subst ey
  obtain ⟨a, u, rfl, w4, w5⟩ := o2.pop.odTop hs
  obtain ⟨kvs, rfl, w6⟩ := rpO_dK w5
  obtain ⟨v, v1, v2⟩ := w6.valSome hv
  exact ⟨a, v, rfl, v1 ▸ DGet.k w4, k _ _ s2 _ (o2.pop.pop.pushV v2) q⟩
theorem dxK_in (h : DE ⟨K, ω⟩ ty s rs fun r s1 => DE ⟨K, ω⟩ td s1 (r :: rs) fun r0 s2 => ∃ kds k, r = .v (keyD k) ∧ ownO s2 r0 = some (.dK kds) ∧ Q (.v (.bool (valD kds k).isSome)) s2) : DE ⟨K, ω⟩ (tDIn ty td) s rs Q := fun Z σ ts H R o k => by
  refine h Z σ ts H _ o fun y H1 s1 r o1 q1 => ?_
  refine q1 Z σ _ H1 _ o1 fun x H2 s2 r0 o2 ⟨kds, kk, er, hs, q⟩ => ?_
  subst er
  have ey := rp_key o2.pop.top
  subst ey
  obtain ⟨a, u, rfl, w4, w5⟩ := o2.odTop hs
  obtain ⟨kvs, rfl, w6⟩ := rpO_dK w5
  refine ⟨a, _, rfl, DGet.k w4, ?_⟩
  rw [w6.isSome kk]
  exact k _ _ s2 _ (o2.pop.pop.pushV (.bl _)) q
theorem dxK_notin (h : DE ⟨K, ω⟩ ty s rs fun r s1 => DE ⟨K, ω⟩ td s1 (r :: rs) fun r0 s2 => ∃ kds k, r = .v (keyD k) ∧ ownO s2 r0 = some (.dK kds) ∧ Q (.v (.bool (!(valD kds k).isSome))) s2) : DE ⟨K, ω⟩ (tDNotIn ty td) s rs Q := fun Z σ ts H R o k => by
  refine h Z σ ts H _ o fun y H1 s1 r o1 q1 => ?_
  refine q1 Z σ _ H1 _ o1 fun x H2 s2 r0 o2 ⟨kds, kk, er, hs, q⟩ => ?_
  subst er
  have ey := rp_key o2.pop.top
  subst ey
  obtain ⟨a, u, rfl, w4, w5⟩ := o2.odTop hs
  obtain ⟨kvs, rfl, w6⟩ := rpO_dK w5
  refine ⟨a, _, rfl, DGet.k w4, ?_⟩
  rw [w6.isSome kk]
  exact k _ _ s2 _ (o2.pop.pop.pushV (.bl _)) q
/-- d.get(k, x) -/
theorem dxK_get2 (h : DE ⟨K, ω⟩ td s rs fun r0 s1 => (∃ kds, ownO s1 r0 = some (.dK kds)) ∧ DE ⟨K, ω⟩ ty s1 (r0 :: rs) fun r s2 => DE ⟨K, ω⟩ te s2 (r :: r0 :: rs) fun rx s3 => ∃ kds k dx, r = .v (keyD k) ∧ rx = .v dx ∧ ownO s3 r0 = some (.dK kds) ∧ Q (.v ((valD kds k).getD dx)) s3) : DE ⟨K, ω⟩ (tDGet2 td ty te) s rs Q := fun Z σ ts H R o k => by
  refine h Z σ ts H _ o fun x H1 s1 r0 o1 ⟨⟨kds0, hs0⟩, q1⟩ => ?_
  obtain ⟨a, u, rfl, w4, w5⟩ := o1.odTop hs0
  obtain ⟨kvs0, rfl, _⟩ := rpO_dK w5
  refine ⟨a, rfl, .inl ⟨_, .inl w4⟩, ?_⟩
  refine q1 Z σ _ H1 _ o1 fun y H2 s2 r o2 q2 => ?_
  refine q2 Z σ _ H2 _ o2 fun z H3 s3 rx o3 ⟨kds, kk, dx, er, ex, hs, q⟩ => ?_
  subst er ex
  have ey := rp_key o3.pop.top
  subst ey
  have hz := ((o3.top.clean (cl_pop o3.pop)).clean (cl_pop o3.pop.pop))
  obtain ⟨a', u, e', w4, w5⟩ := o3.pop.pop.odTop hs
  cases e'
  obtain ⟨kvs, rfl, w6⟩ := rpO_dK w5
  refine ⟨_, DGet.k w4, k _ _ s3 _ (o3.pop.pop.pop.pushV ?_) q⟩
  cases hv : valD kds kk with
  | some d =>
    obtain ⟨v, v1, v2⟩ := w6.valSome hv
    rw [v1]; exact v2
  | none =>
    have := w6.isSome kk
    rw [hv] at this
    cases hn : valV kvs kk with
    | none => exact hz
    | some v => rw [hn] at this; cases this
end
/-! dict(xs) of pairs (text, ..) -/
def kpD (kd : Key × D) : D := .tuple [keyD kd.1, kd.2]
def rDictP (K : PySem.W.Frag) : List V → Hp → VK → Prop := fun xs H Q => ∃ (a : Addr) (ps : List Addr) (kvs : List (Key × V)), xs = [.ref a] ∧ SqL K H a (ps.map V.ref) ∧ Paired (fun p kv => SqT K H p [kV kv.1, kv.2]) ps kvs ∧ ∀ p, H p = none → Q (.ref p) (upd H p (.dK (mergeK [] kvs)))
theorem k_dictP {X : Cx} (K : PySem.W.Frag) (hk : X.K = K) (hc : X.calm = true) : CallR X (.type "dict") (rDictP K) := by subst hk; exact call_dictP hc
theorem k_dictT {X : Cx} (K : PySem.W.Frag) (hk : X.K = K) (hc : X.calm = true) (hu : X.A.units + 64 < cLine) : CallR X (.type "dict") (rDictT K) := by subst hk; exact cr_dictT hc hu
section
variable {K : PySem.W.Frag} {s rs : List SD} {Q : SD → List SD → Prop} {r : SD}
theorem pairs_D {C : Addr → Prop} {H : Hp} : ∀ {ys : List V} {kds : List (Key × D)}, RpA K C H ys (kds.map kpD) → ∃ (ps : List Addr) (kvs : List (Key × V)), ys = ps.map V.ref ∧ Paired (fun p kv => SqT K H p [kV kv.1, kv.2]) ps kvs ∧ RpP K C H kvs kds
  | _, [], h => by cases h; exact ⟨[], [], rfl, .nil, .nil⟩
  | _, (k, d) :: kds, h => by
    cases h with
    | cons a b =>
      obtain ⟨ps, kvs, rfl, h1, h2⟩ := pairs_D b
      cases a with
      | tup c q =>
        cases q with
        | cons qa qb =>
          cases qb with
          | cons qb qc =>
            cases qc
            have := rp_key qa
            subst this
            exact ⟨_ :: ps, (k, _) :: kvs, rfl, .cons c h1, .cons qb h2⟩
theorem opc_dictP {kds : List (Key × D)} (h : dat s r = some (.list (kds.map kpD))) (q : Q (.own none (.dK (mergeD [] kds))) s) : OPC ⟨K, ω⟩ (rDictP K) [r] s rs Q := fun Z σ ts H xs R o e k => by
  obtain ⟨y, rfl⟩ : ∃ y, xs = [y] := by match xs, e with | [y], _ => exact ⟨y, rfl⟩
  have o1 : Ok K Z σ (y :: ts) H s (r :: rs) := o
  obtain ⟨a, ys, rfl, h1, h2⟩ := o1.listTop h
  obtain ⟨ps, kvs, rfl, h3, h4⟩ := pairs_D h2
  refine ⟨a, ps, kvs, rfl, h1, h3, fun p hp => ?_⟩
  exact k _ _ _ _ (o1.pop.pushW hp (.dK (h4.merge .nil))) q
end
/-! x[k] += n -/
section
variable {X : Cx}
def rGetN (K : PySem.W.Frag) : V → V → Hp → VK → Prop := fun o i H Q => ∃ (p : Addr) (xs : List V) (k : Int) (z : V), o = .ref p ∧ i = .int k ∧ 0 ≤ k ∧ SqL K H p xs ∧ atI xs k = some z ∧ Q z H
theorem get_listN : PGet X (rGetN X.K) := by
  intro pins s σ H x y v u Q I rx ry h
  obtain ⟨p, xs, i, z, rfl, rfl, h0, hq, he, q⟩ := h
  cases rx
  obtain ⟨t, rfl⟩ := ry
  obtain ⟨its, r, pl, hz⟩ := I.list hq
  obtain ⟨j, h1, h2, h3, h4, h5⟩ := atI_get he
  obtain ⟨w, ew, rw'⟩ := r.get h2
  have hl := r.length
  have hn := line63
  have fin : EP X pins σ Q w s := ⟨z, H, I, rw', q⟩
  have hj : i.toNat = j := by
    rw [seqIndex_of h0 h5] at h1
    exact Option.some.inj h1
  exact wpAny_getItem_list pl.isList h0 (by omega) (by rw [hj]; simpa using ew) fin
theorem k_getN (K : PySem.W.Frag) (hk : X.K = K) : PGet X (rGetN K) := by subst hk; exact get_listN
end
section
variable {K : PySem.W.Frag} {s rs : List SD} {D0 : DEn} {i : Nat} {ti : TE}
theorem ds_augL {c : Int} (hs : ∃ t ds, s[i]? = some (SD.ow t ds)) (h : DE ⟨K, ω⟩ ti s (.al i :: rs) fun ri s2 => ∃ k n t ds, ri = .v (.int k) ∧ 0 ≤ k ∧ s2[i]? = some (SD.ow t ds) ∧ atI ds k = some (.int n) ∧ D0.nx (s2.set i (.ow t (ds.set k.toNat (.int (n + c)))))) :
    DS ⟨K, ω⟩ (tAugS (tVar i) ti (tC (.int c)) (rGetN K) (ipI fun i j => i + j) rSetL) s rs D0 := fun Z σ ts H E o k1 k2 k3 k4 => by
  obtain ⟨t0, ds0, hs⟩ := hs
  obtain ⟨a, ys, h1, h2, h3, _⟩ := o.c.ow (.inl i) t0 ds0 hs
  refine ⟨.ref a, gv_slot.mp h1, ?_⟩
  refine h Z σ _ H _ (o.pushA hs (gv_slot.mp h1)) fun y H2 s2 ri o2 q => ?_
  obtain ⟨k', n, t, ds, rfl, k0, e2, e3, q⟩ := q
  have := o2.top
  cases this
  obtain ⟨b, zs, w2, w3, w4, w5⟩ := o2.pop.ali e2
  cases w3
  obtain ⟨z, z1, z2⟩ := w5.at e3
  cases z2
  have hk : ixN zs.length k' = some k'.toNat := by
    obtain ⟨j, j1, j2⟩ := atI_len w5.length e3
    have hj : j = k'.toNat := by
      unfold ixN at j1
      split at j1
      · split at j1
        · exact (Option.some.inj j1).symm
        · cases j1
      · omega
    rw [j1, hj]
  refine ⟨_, zs, k', _, rfl, rfl, k0, .inl (.inl w4), z1, n, c, rfl, rfl, _, zs, k', k'.toNat, rfl, rfl, w4, hk, ?_⟩
  exact k1 σ _ _ (o2.pop.pop.mutS e2 w2 (w5.set (.int _) _)) q
end
end W8
namespace W8
open PySem L2 RZ PyProof.Rows
section
variable {X : Cx} {o i e f : Expr} {pos apos cpos : Pos} {td ty tx : TE}
theorem k_dix (hu : X.A.units + 64 < cLine) (ho : PE X o td) (hi : PE X i ty) (hs : NoSl i) : PE X (.Subscript o i pos) (tDGet td ty) := pe_dget (Nat.lt_of_le_of_lt (Nat.add_le_add_left (by decide) _) hu) ho hi hs
theorem k_din (hu : X.A.units + 64 < cLine) (hi : PE X i ty) (ho : PE X o td) : PC X .In i o (tDIn ty td) := pc_din (Nat.lt_of_le_of_lt (Nat.add_le_add_left (by decide) _) hu) hi ho
theorem k_dnotin (hu : X.A.units + 64 < cLine) (hi : PE X i ty) (ho : PE X o td) : PC X .NotIn i o (tDNotIn ty td) := pc_dnotin (Nat.lt_of_le_of_lt (Nat.add_le_add_left (by decide) _) hu) hi ho
theorem k_dget2 (hu : X.A.units + 64 < cLine) (ho : PE X o td) (he : PE X e ty) (hf : PE X f tx) (m : M2 X o "get" apos e f cpos) : PE X (.Call (.Attribute o "get" apos) [e, f] [] cpos) (tDGet2 td ty tx) := pe_dget2 (Nat.lt_of_le_of_lt (Nat.add_le_add_left (by decide) _) hu) ho he hf m
end
end W8

/-! W9e: tuple(zip(xs, ys)) of two lists. -/
namespace W8
open PySem L2 RZ PySem.Spec PyProof.Rows
theorem zp_nolen : typeLookup (.type "zip") "__len__" = pure none := by rw [typeLookup_type, builtinLookup_eq_fast]; kernel_rfl
theorem zp_nohint : typeLookup (.type "zip") "__length_hint__" = pure none := by rw [typeLookup_type, builtinLookup_eq_fast]; kernel_rfl
section
variable {prog : Program} {w : World} {A : Around} {E : Value → Shared → Prop} {s : Shared} {z TI TO i1 i2 l1 l2 S : Addr} {xs ys : Array Value} {i : Nat}
/-- a zip over two lists, i pairs given; S stands apart -/
def ZpAt (xs ys : Array Value) (z TI TO i1 i2 l1 l2 S : Addr) (i : Nat) (h : Heap) : Prop :=
  IsPair h TI (.ref i1) (.ref i2) ∧ h.IsListIter i1 l1 i ∧ h.IsListIter i2 l2 i ∧ h.IsList l1 xs ∧ h.IsList l2 ys ∧
    (∃ a b, IsPair h TO a b) ∧ (IsZip h z TI TO .none ∨ ∃ T f oT, IsZipHeld h z TI TO T f ∧ h.get? T = some oT ∧ T ≠ z ∧ T ≠ i1 ∧ T ≠ i2 ∧ T ≠ S)
structure ApartS (z TI TO i1 i2 l1 l2 S : Addr) : Prop where
  d : ZipApart z TI TO i1 i2 l1 l2
  nz : z ≠ S
  nTI : TI ≠ S
  nTO : TO ≠ S
  n1 : i1 ≠ S
  n2 : i2 ≠ S
  m1 : l1 ≠ S
  m2 : l2 ≠ S
theorem ZpAt.but {h h' : Heap} (x : ZpAt xs ys z TI TO i1 i2 l1 l2 S i h) (D : ApartS z TI TO i1 i2 l1 l2 S) (k : ∀ b o, b ≠ S → h.get? b = some o → h'.get? b = some o) : ZpAt xs ys z TI TO i1 i2 l1 l2 S i h' := by
  obtain ⟨x1, x2, x3, x4, x5, ⟨a, b, t⟩, x6⟩ := x
  refine ⟨k _ _ D.nTI x1, x2.at (k _ · D.n1), x3.at (k _ · D.n2), x4.at (k _ · D.m1), x5.at (k _ · D.m2), ⟨a, b, k _ _ D.nTO t⟩, ?_⟩
  rcases x6 with y | ⟨T, f, oT, y, t, r1, r2, r3, r4⟩
  · exact .inl (k _ _ D.nz y)
  · exact .inr ⟨T, f, oT, k _ _ D.nz y, k _ _ r4 t, r1, r2, r3, r4⟩
theorem zp_item {Q : Option Value → Shared → Prop} (D : ApartS z TI TO i1 i2 l1 l2 S) (x : ZpAt xs ys z TI TO i1 i2 l1 l2 S i s.heap) (hi : i < min xs.size ys.size) (hS : S < s.heap.objs.size)
    (h : ∀ u v h', xs[i]? = some u → ys[i]? = some v → IsPair h' s.heap.objs.size u v → ZpAt xs ys z TI TO i1 i2 l1 l2 S (i + 1) h' → h'.objs.size = s.heap.objs.size + 1 → (∀ c o, c ≠ z → c ≠ TO → c ≠ i1 → c ≠ i2 → s.heap.get? c = some o → h'.get? c = some o) → Q (some (.ref s.heap.objs.size)) { s with heap := h' }) :
    wpAny (model prog w) A (pyNext (.ref z)) Q E s := by
  obtain ⟨x1, x2, x3, x4, x5, ⟨a, b, t0⟩, x6⟩ := x
  have e1 := Array.getElem?_eq_getElem (Nat.lt_of_lt_of_le hi (Nat.min_le_left xs.size ys.size))
  have e2 := Array.getElem?_eq_getElem (Nat.lt_of_lt_of_le hi (Nat.min_le_right xs.size ys.size))
  have far : ∀ {c o}, s.heap.get? c = some o → s.heap.objs.size ≠ c := fun e => Nat.ne_of_gt (Heap.lt_size e)
  have f1 : s.heap.objs.size ≠ i1 := far x2.choose_spec.1
  have f2 : s.heap.objs.size ≠ i2 := far x3.choose_spec.1
  have D0 := D.d
  rcases x6 with y | ⟨T, f, oT, y, t, r1, r2, r3, r4⟩
  · refine wpAny_pyNext_zip_item D0 y x1 t0 x2 x3 x4 x5 e1 e2 fun h' a1 a2 a3 a4 a5 a6 k => ?_
    exact h _ _ h' e1 e2 a5 ⟨k _ _ D0.TIz D0.TITO D0.TIi1 D0.TIi2 x1, a3, a4, x4.at (k _ · D0.l1z D0.l1TO D0.l1i1 D0.l1i2), x5.at (k _ · D0.l2z D0.l2TO D0.l2i1 D0.l2i2), ⟨_, _, a2⟩,
      .inr ⟨_, false, _, a1, a5, far y, f1, f2, Nat.ne_of_gt hS⟩⟩ a6 k
  · refine wpAny_pyNext_zip_item_held D0 y t x1 x2 x3 x4 x5 e1 e2 fun h' a1 a3 a4 a5 a6 k => ?_
    exact h _ _ h' e1 e2 a5 ⟨k _ _ D0.TIz D0.TIi1 D0.TIi2 x1, a3, a4, x4.at (k _ · D0.l1z D0.l1i1 D0.l1i2), x5.at (k _ · D0.l2z D0.l2i1 D0.l2i2), ⟨a, b, k _ _ D0.TOz D0.TOi1 D0.TOi2 t0⟩,
      .inr ⟨T, true, oT, a1, k _ _ r1 r2 r3 t, r1, r2, r3, r4⟩⟩ a6 fun c o c1 _ c3 c4 e => k c o c1 c3 c4 e
theorem zp_end {Q : Option Value → Shared → Prop} (hh : A.handled = none) (D : ApartS z TI TO i1 i2 l1 l2 S) (x : ZpAt xs ys z TI TO i1 i2 l1 l2 S (min xs.size ys.size) s.heap)
    (h : ∀ h', (∀ c o, c ≠ z → c ≠ TO → c ≠ i1 → c ≠ i2 → s.heap.get? c = some o → h'.get? c = some o) → Q none { s with heap := h' }) : wpAny (model prog w) A (pyNext (.ref z)) Q E s := by
  obtain ⟨x1, x2, x3, x4, x5, ⟨a, b, t0⟩, x6⟩ := x
  have last : xs[min xs.size ys.size]? = none ∨ ys[min xs.size ys.size]? = none := by
    by_cases c : xs.size ≤ ys.size
    · exact .inl (Array.getElem?_eq_none (by omega))
    · exact .inr (Array.getElem?_eq_none (by omega))
  rcases x6 with y | ⟨T, f, oT, y, t, r1, r2, r3, r4⟩
  · exact wpAny_pyNext_zip_end hh D.d y x1 t0 x2 x3 x4 x5 last h
  · exact wpAny_pyNext_zip_end_held hh D.d y t x1 x2 x3 x4 x5 last fun h' k => h h' fun c o c1 _ c3 c4 e => k c o c1 c3 c4 e
/-- the loop behind: Φ holds of the pairs that came -/
theorem ext_zip {R : Result → Shared → Prop} {Φ : Nat → Array Value → Shared → Prop} (hh : A.handled = none) (D : ApartS z TI TO i1 i2 l1 l2 S) (hn : min xs.size ys.size ≤ sizeLine) (res : Value)
    (step : ∀ (i : Nat) (acc : Array Value) (s : Shared) (h' : Heap) (u v : Value), Φ i acc s → (∀ e ∈ [S, z, TO, i1, i2], e < s.heap.objs.size) → xs[i]? = some u → ys[i]? = some v → IsPair h' s.heap.objs.size u v → (∀ b o, b ≠ S → b ≠ z → b ≠ TO → b ≠ i1 → b ≠ i2 → s.heap.get? b = some o → h'.get? b = some o) → Φ (i + 1) (acc.push (.ref s.heap.objs.size)) { s with heap := h' })
    (last : ∀ (acc : Array Value) (s : Shared) (h' : Heap), Φ (min xs.size ys.size) acc s → (∀ b o, b ≠ S → b ≠ z → b ≠ TO → b ≠ i1 → b ≠ i2 → s.heap.get? b = some o → h'.get? b = some o) → Φ (min xs.size ys.size) acc { s with heap := h' }) :
    ∀ (k i : Nat) (s : Shared) (acc : Array Value) (c : Nat), min xs.size ys.size - i = k → i ≤ min xs.size ys.size → ZpAt xs ys z TI TO i1 i2 l1 l2 S i s.heap → s.heap.get? S = some { cls := .type "list", dict := none, data := .seq acc c, slots := #[] } → acc.size = i → Φ i acc s →
    (∀ s' acc' c', s'.heap.get? S = some { cls := .type "list", dict := none, data := .seq acc' c', slots := #[] } → acc'.size = min xs.size ys.size → Φ (min xs.size ys.size) acc' s' → R (.ok (.ret res)) s') →
    codeAny (model prog w) A (.builtin "list.extend.loop" ⟨[.ref S, .ref z, res], []⟩) R s := by
  have hh1 : A.in1.handled = none := hh
  intro k
  induction k with
  | zero =>
    intro i s acc c hk hi st hS hacc hP hR
    obtain rfl : i = min xs.size ys.size := by omega
    refine codeAny_builtin PySem.F.entry_extend_loop ?_
    rw [Around.under_plainId PySem.F.plain_extend_loop _]
    show wpAny _ A.in1 (pyNext (.ref z) >>= _) _ _ s
    refine wpAny_bind (zp_end hh1 D st fun h' kk => ?_)
    exact wpAny_pure (hR { s with heap := h' } acc c (kk S _ D.nz.symm D.nTO.symm D.n1.symm D.n2.symm hS) hacc (last acc s h' hP fun b o _ b1 b2 b3 b4 e => kk b o b1 b2 b3 b4 e))
  | succ k ih =>
    intro i s acc c hk hi st hS hacc hP hR
    have hlt : i < min xs.size ys.size := by omega
    refine codeAny_builtin PySem.F.entry_extend_loop ?_
    rw [Around.under_plainId PySem.F.plain_extend_loop _]
    show wpAny _ A.in1 (pyNext (.ref z) >>= _) _ _ s
    refine wpAny_bind (zp_item D st hlt (Heap.lt_size hS) fun u v h' eu ev pr st' hsz kk => ?_)
    have hS' := kk S _ D.nz.symm D.nTO.symm D.n1.symm D.n2.symm hS
    have hso : s.heap.objs.size ≠ S := Nat.ne_of_gt (Heap.lt_size hS)
    have low : ∀ e ∈ [S, z, TO, i1, i2], e < s.heap.objs.size := fun e he => by
      simp only [List.mem_cons, List.not_mem_nil, or_false] at he
      rcases he with rfl | rfl | rfl | rfl | rfl
      · exact Heap.lt_size hS
      · rcases st.2.2.2.2.2.2 with y | ⟨_, _, _, y, _⟩ <;> exact Heap.lt_size y
      · exact Heap.lt_size st.2.2.2.2.2.1.choose_spec.choose_spec
      · exact Heap.lt_size st.2.1.choose_spec.1
      · exact Heap.lt_size st.2.2.1.choose_spec.1
    have old : ∀ b o, b ≠ S → b ≠ z → b ≠ TO → b ≠ i1 → b ≠ i2 → s.heap.get? b = some o → (h'.update S (Obj.mapSeq (·.push (.ref s.heap.objs.size)))).get? b = some o := fun b o b0 b1 b2 b3 b4 e =>
      (Heap.get?_update_other _ _ (Ne.symm b0)).trans (kk b o b1 b2 b3 b4 e)
    show wpAny _ A.in1 (updateSeq S (·.push (.ref s.heap.objs.size)) >>= _) _ _ _
    refine wpAny_bind ?_
    exact wpAny_updateSeq hS' rfl (wpAny_pure ⟨plainId_quiet PySem.F.plain_extend_loop _, ih (i + 1) _ (acc.push (.ref s.heap.objs.size)) _ (by omega) hlt (st'.but D fun b o hb e => (Heap.get?_update_other _ _ (Ne.symm hb)).trans e) (Heap.get?_update_self _ hS' rfl) (by rw [Array.size_push, hacc]) (step i acc s _ u v hP low eu ev ((Heap.get?_update_other _ _ (Ne.symm hso)).trans pr) old) hR⟩)
      (by rw [hacc]; omega) (by show (acc.push _).size ≤ sizeLine + 1; rw [Array.size_push, hacc]; omega)
theorem collect_zp {Q : List Value → Shared → Prop} {Φ : Nat → Array Value → Shared → Prop} (hh : A.handled = none) (D : ApartS z TI TO i1 i2 l1 l2 s.heap.objs.size) (hn : min xs.size ys.size ≤ sizeLine)
    (hz : IsZip s.heap z TI TO .none) (st : ∀ h', (∀ b o, s.heap.get? b = some o → h'.get? b = some o) → ZpAt xs ys z TI TO i1 i2 l1 l2 s.heap.objs.size 0 h')
    (h0 : ∀ h', (∀ b o, s.heap.get? b = some o → h'.get? b = some o) → Φ 0 #[] { s with heap := h' })
    (step : ∀ (i : Nat) (acc : Array Value) (s1 : Shared) (h' : Heap) (u v : Value), Φ i acc s1 → (∀ e ∈ [s.heap.objs.size, z, TO, i1, i2], e < s1.heap.objs.size) → xs[i]? = some u → ys[i]? = some v → IsPair h' s1.heap.objs.size u v → (∀ b o, b ≠ s.heap.objs.size → b ≠ z → b ≠ TO → b ≠ i1 → b ≠ i2 → s1.heap.get? b = some o → h'.get? b = some o) → Φ (i + 1) (acc.push (.ref s1.heap.objs.size)) { s1 with heap := h' })
    (last : ∀ (acc : Array Value) (s1 : Shared) (h' : Heap), Φ (min xs.size ys.size) acc s1 → (∀ b o, b ≠ s.heap.objs.size → b ≠ z → b ≠ TO → b ≠ i1 → b ≠ i2 → s1.heap.get? b = some o → h'.get? b = some o) → Φ (min xs.size ys.size) acc { s1 with heap := h' })
    (hQ : ∀ s' acc, acc.size = min xs.size ys.size → Φ (min xs.size ys.size) acc s' → Q acc.toList s') : wpAny (model prog w) A (collect (.ref z)) Q E s := by
  have hSz : s.heap.objs.size ≠ z := D.nz.symm
  unfold collect
  refine wpAny_bind (wpAny_runValue (codeAny_builtin PySem.F.entry_proto_collect ?_))
  rw [Around.under_plainId PySem.F.plain_proto_collect _]
  show wpAny _ A.in1 (newList [] >>= fun xs' => again (.builtin "list.__iadd__" ⟨[xs', .ref z], []⟩)) _ _ s
  refine wpAny_bind (wpAny_newObj_type ?_)
  refine wpAny_pure ⟨plainId_quiet PySem.F.plain_list_iadd _, codeAny_builtin PySem.F.entry_list_iadd ?_⟩
  rw [Around.under_plainId PySem.F.plain_list_iadd _]
  have k1 : ∀ b o, s.heap.get? b = some o → (s.heap.push { cls := .type "list", data := .seq ([] : List Value).toArray }).get? b = some o := fun b o e => Heap.get?_push_of_some _ e
  have hS₁ : (s.heap.push { cls := .type "list", data := .seq ([] : List Value).toArray }).get? s.heap.objs.size = some { cls := .type "list", data := .seq ([] : List Value).toArray } := Heap.get?_push_size _ rfl
  have hz1 := k1 _ _ hz
  have hT : ({ s with heap := s.heap.push { cls := .type "list", data := .seq ([] : List Value).toArray } } : Shared).TypeIs (.ref z) "zip" := ⟨_, hz1, rfl⟩
  have g1 : Builtin.List.listSameRef (.ref s.heap.objs.size) (.ref z) = false := by simp [Builtin.List.listSameRef, hSz]
  show wpAny _ A.in1 (Builtin.List.listExtendWith (.ref s.heap.objs.size) (.ref z) (.ref s.heap.objs.size)) _ _ _
  unfold Builtin.List.listExtendWith
  refine wpAny_bind (wpAny_typeOf hT ?_)
  rw [if_neg (by rw [g1]; decide)]
  refine wpAny_bind (wpAny_pyIter_zip (s := { s with heap := s.heap.push { cls := .type "list", data := .seq ([] : List Value).toArray } }) hz1 ?_)
  refine wpAny_bind (wpAny_holding ?_)
  unfold Builtin.List.listLengthHint
  refine wpAny_bind (wpAny_specialOf hT zp_nolen ?_)
  show wpAny _ A.in1 (specialOf (Value.ref z) (Str.ofString "__length_hint__") >>= _) _ _ _
  refine wpAny_bind (wpAny_specialOf hT zp_nohint ?_)
  refine wpAny_pure ?_
  show wpAny _ A.in1 (rule "list.extend.makes-room" >>= fun _ => Builtin.List.listTouch (.ref s.heap.objs.size) >>= fun _ => again (.builtin "list.extend.loop" ⟨[.ref s.heap.objs.size, .ref z, .ref s.heap.objs.size], []⟩)) _ _ _
  refine wpAny_bind (wpAny_rule ?_)
  refine wpAny_bind ?_
  show wpAny _ A.in1 (updateSeq s.heap.objs.size (·.push .none) >>= fun _ => updateSeq s.heap.objs.size (·.pop)) _ _ _
  refine wpAny_bind (wpAny_updateSeq hS₁ rfl ?_)
  have hS₂ := Heap.get?_update_self (Obj.mapSeq (·.push Value.none)) hS₁ rfl
  refine wpAny_updateSeq hS₂ rfl ?_
  have hS₃ := Heap.get?_update_self (Obj.mapSeq (·.pop)) hS₂ rfl
  have k2 : ∀ b o, s.heap.get? b = some o → (((s.heap.push { cls := .type "list", data := .seq ([] : List Value).toArray }).update s.heap.objs.size (Obj.mapSeq (·.push Value.none))).update s.heap.objs.size (Obj.mapSeq (·.pop))).get? b = some o := fun b o e => by
    have nb : s.heap.objs.size ≠ b := Nat.ne_of_gt (Heap.lt_size e)
    exact (Heap.get?_update_other _ _ nb).trans ((Heap.get?_update_other _ _ nb).trans (k1 b o e))
  refine wpAny_pure ⟨plainId_quiet PySem.F.plain_extend_loop _, ext_zip (A := A) (Φ := Φ) hh D hn _ step last _ 0 _ #[] _ rfl (Nat.zero_le _) (st _ k2) hS₃ rfl (h0 _ k2) fun s' acc' c' hS' hsz hP => ?_⟩
  show wpAny _ A (load s.heap.objs.size >>= _) _ _ s'
  refine wpAny_bind (wpAny_load hS' ?_)
  exact wpAny_pure (hQ s' acc' hsz hP)
theorem code_tuple_zp {Q₁ : Value → Shared → Prop} {Φ : Nat → Array Value → Shared → Prop} (hh : A.handled = none) (D : ApartS z TI TO i1 i2 l1 l2 s.heap.objs.size) (hn : min xs.size ys.size ≤ sizeLine)
    (hz : IsZip s.heap z TI TO .none) (st : ∀ h', (∀ b o, s.heap.get? b = some o → h'.get? b = some o) → ZpAt xs ys z TI TO i1 i2 l1 l2 s.heap.objs.size 0 h')
    (h0 : ∀ h', (∀ b o, s.heap.get? b = some o → h'.get? b = some o) → Φ 0 #[] { s with heap := h' })
    (step : ∀ (i : Nat) (acc : Array Value) (s1 : Shared) (h' : Heap) (u v : Value), Φ i acc s1 → (∀ e ∈ [s.heap.objs.size, z, TO, i1, i2], e < s1.heap.objs.size) → xs[i]? = some u → ys[i]? = some v → IsPair h' s1.heap.objs.size u v → (∀ b o, b ≠ s.heap.objs.size → b ≠ z → b ≠ TO → b ≠ i1 → b ≠ i2 → s1.heap.get? b = some o → h'.get? b = some o) → Φ (i + 1) (acc.push (.ref s1.heap.objs.size)) { s1 with heap := h' })
    (last : ∀ (acc : Array Value) (s1 : Shared) (h' : Heap), Φ (min xs.size ys.size) acc s1 → (∀ b o, b ≠ s.heap.objs.size → b ≠ z → b ≠ TO → b ≠ i1 → b ≠ i2 → s1.heap.get? b = some o → h'.get? b = some o) → Φ (min xs.size ys.size) acc { s1 with heap := h' })
    (h : ∀ s' acc, acc.size = min xs.size ys.size → Φ (min xs.size ys.size) acc s' → Q₁ (.ref s'.heap.objs.size) { s' with heap := s'.heap.push { cls := .type "tuple", data := .seq acc } }) :
    codeAny (model prog w) A (.call (.builtin "tuple.__new__") ⟨[.type "tuple", .ref z], []⟩) (wants Q₁ E) s := by
  refine codeAny_of_tree ?_
  show wpAny _ A.in1 (do checkBuiltinCall "tuple.__new__" ⟨[.type "tuple", .ref z], []⟩; again (.builtin "tuple.__new__" ⟨[.type "tuple", .ref z], []⟩)) _ _ s
  refine wpAny_bind (wpAny_of_eq (PySem.F.newCall_tuple_1 _) (wpAny_pure ⟨plainId_quiet PySem.F.plain_tuple_new _, codeAny_builtin PySem.F.entry_tuple_new ?_⟩))
  rw [Around.under_plainId PySem.F.plain_tuple_new _]
  have c1 := sub_tuple_self
  have c2 := init_tuple_lookup
  have c3 := madeHere_tuple
  have c4 : s.TypeIs (.ref z) "zip" := ⟨_, hz, rfl⟩
  have hh1 : A.in1.handled = none := hh
  wp_walk using wpAny_typeOf c4, collect_zp (A := A.in1) (Φ := Φ) hh1 D hn hz st h0 step last
  intro s' acc hsz hP
  show wpAny _ _ (Builtin.Tuple.tupleExact acc.toList.toArray >>= fun v => ret v) _ _ _
  unfold Builtin.Tuple.tupleExact
  refine wpAny_bind (wpAny_newObj_type ?_ (by show acc.toList.toArray.size ≤ sizeLine; simp only [Array.toArray_toList]; omega))
  refine wpAny_pure ?_
  rw [show acc.toList.toArray = acc by simp]
  exact h s' acc hsz hP
theorem call_tuple_zp {Q : Value → Shared → Prop} {Φ : Nat → Array Value → Shared → Prop} (hh : A.handled = none) (D : ApartS z TI TO i1 i2 l1 l2 s.heap.objs.size) (hn : min xs.size ys.size ≤ sizeLine)
    (hz : IsZip s.heap z TI TO .none) (st : ∀ h', (∀ b o, s.heap.get? b = some o → h'.get? b = some o) → ZpAt xs ys z TI TO i1 i2 l1 l2 s.heap.objs.size 0 h')
    (h0 : ∀ h', (∀ b o, s.heap.get? b = some o → h'.get? b = some o) → Φ 0 #[] { s with heap := h' })
    (step : ∀ (i : Nat) (acc : Array Value) (s1 : Shared) (h' : Heap) (u v : Value), Φ i acc s1 → (∀ e ∈ [s.heap.objs.size, z, TO, i1, i2], e < s1.heap.objs.size) → xs[i]? = some u → ys[i]? = some v → IsPair h' s1.heap.objs.size u v → (∀ b o, b ≠ s.heap.objs.size → b ≠ z → b ≠ TO → b ≠ i1 → b ≠ i2 → s1.heap.get? b = some o → h'.get? b = some o) → Φ (i + 1) (acc.push (.ref s1.heap.objs.size)) { s1 with heap := h' })
    (last : ∀ (acc : Array Value) (s1 : Shared) (h' : Heap), Φ (min xs.size ys.size) acc s1 → (∀ b o, b ≠ s.heap.objs.size → b ≠ z → b ≠ TO → b ≠ i1 → b ≠ i2 → s1.heap.get? b = some o → h'.get? b = some o) → Φ (min xs.size ys.size) acc { s1 with heap := h' })
    (h : ∀ s' acc, acc.size = min xs.size ys.size → Φ (min xs.size ys.size) acc s' → Q (.ref s'.heap.objs.size) { s' with heap := s'.heap.push { cls := .type "tuple", data := .seq acc } }) :
    wpAny (model prog w) A (call (.type "tuple") [.ref z]) Q E s := by
  refine callType_codes (Q₁ := fun obj s₁ => s₁.TypeIs obj "tuple" ∧ Q obj s₁) PySem.F.called_tuple (PySem.F.typeCall_tuple_1 _) PySem.F.entry_object_init
    (code_tuple_zp (A := A.in1) (Φ := Φ) hh D hn hz st h0 step last fun s' acc e1 e2 => ⟨⟨_, Heap.get?_push_size _ rfl, rfl⟩, h s' acc e1 e2⟩) fun obj s₁ h₁ => ?_
  exact ⟨h₁.1, PySem.F.args_object_init_2 obj _, object_init_meets PySem.F.called_tuple.init.lookup PySem.F.called_tuple.made (by decide) prog w A.in1 _ s₁ ⟨h₁.1, rfl, h₁.2⟩⟩
end
end W8

/-! W9f: tuple(zip(xs, ys)) as an expression. -/
namespace W8
open PySem L2 RZ PySem.Spec PyProof.Rows
/-- pairs of two rows, tracked -/
def ZpV (H : Hp) (xs ys vs : List V) (n : Nat) : Prop := vs.length = n ∧ ∀ j, j < n → ∃ T x y, vs[j]? = some (.ref T) ∧ xs[j]? = some x ∧ ys[j]? = some y ∧ H T = some (.tup [x, y])
def tTupZ (K : PySem.W.Frag) (ta : TA) : TE := fun σ H Q => ta σ H fun us H1 => ∃ a b xs ys, us = [.ref a, .ref b] ∧ SqL K H1 a xs ∧ SqL K H1 b ys ∧
  ∀ H2 p vs, (∀ c o, H1 c = some o → H2 c = some o) → ZpV H2 xs ys vs (min xs.length ys.length) → H2 p = none → Q (.ref p) (upd H2 p (.tup vs))
section
variable {X : Cx} {e1 e2 : Expr} {ta : TA} {p p2 pos pos2 : Pos}
theorem pe_tupZ (hc : X.calm = true) (hg : Gl X "tuple") (hm : X.mg "tuple" = none) (hg2 : Gl X "zip") (hm2 : X.mg "zip" = none) (ha : PA X [e1, e2] ta)
    (na : starEach [.Call (.Name "zip" p2) [e1, e2] [] pos2] X.env = (false, eval (.Call (.Name "zip" p2) [e1, e2] [] pos2) X.env) :: starEach [] X.env := by rfl)
    (hs : starEach [e1, e2] X.env = (false, eval e1 X.env) :: starEach [e2] X.env := by rfl) (hpl : (backTo pos2 (starEach [e2] X.env)).any (·.1) = false := by rfl) :
    PE X (.Call (.Name "tuple" p) [.Call (.Name "zip" p2) [e1, e2] [] pos2] [] pos) (tTupZ X.K ta) := by
  refine ⟨fun pins s σ H Q I h => ?_⟩
  refine Call_ (ld_blt I hg hm boot_tuple (PyProof.Rows.callWith_type1 (args_cons (thn (Q := fun v s2 => ∃ (H1 : Hp) (a b B : Addr) (xs ys : List V) (la lb : List Value), v = .ref (B + 4) ∧ Inv X pins σ H1 s2 ∧ IsZip s2.heap (B + 4) (B + 2) (B + 3) .none ∧ IsPair s2.heap (B + 2) (.ref B) (.ref (B + 1)) ∧ IsPair s2.heap (B + 3) .none .none ∧ s2.heap.IsListIter B a 0 ∧ s2.heap.IsListIter (B + 1) b 0 ∧ s2.heap.objs.size = B + 5 ∧ a < B ∧ b < B ∧ s2.heap.IsList a la.toArray ∧ s2.heap.IsList b lb.toArray ∧ Vals xs la ∧ Vals ys lb ∧ xs.length ≤ sizeLine ∧ (∀ e, B ≤ e → FpOk X pins H1 e) ∧
    ∀ H2 p vs, (∀ c o, H1 c = some o → H2 c = some o) → ZpV H2 xs ys vs (min xs.length ys.length) → H2 p = none → Q (.ref p) (upd H2 p (.tup vs))) (Call_ (ld_blt I hg2 hm2 PyProof.Rows.boot_zip (PyProof.Rows.callWith_type1 (thn (ha.run pos2 pins s σ H _ I h) ?_) hs hpl))) fun v s2 z => args_nil ?_) na) na))
  case refine_1 =>
    rintro us s1 ⟨vs, H1, I1, r1, a, b, xs, ys, ex, qa, qb, q⟩
    subst ex
    match us, r1 with
    | [_, _], .cons ra (.cons rb .nil) =>
      cases ra
      cases rb
      obtain ⟨la, va, pa, za⟩ := I1.list qa
      obtain ⟨lb, vb, pb, zb⟩ := I1.list qb
      refine call_zip_2 pa.isList pb.isList fun h1 hz hTI hTO g1 g2 hsz old => ?_
      have I2 : Inv X pins σ H1 { s1 with heap := h1 } := I1.kept (t' := s1.toks) old
      exact ⟨H1, a, b, s1.heap.objs.size, xs, ys, la, lb, rfl, I2, hz, hTI, hTO, g1, g2, hsz, Heap.lt_size pa.choose_spec.choose_spec.1, Heap.lt_size pb.choose_spec.choose_spec.1, pa.isList.at fun o e => old _ _ e, pb.isList.at fun o e => old _ _ e, va, vb, za, fun e he => I1.fpOk he (I1.hok.fresh he), q⟩
  case refine_2 =>
    obtain ⟨H1, a, b, B, xs, ys, la, lb, rfl, I1, hz, hTI, hTO, g1, g2, hsz, ha1, hb1, pa, pb, va, vb, zl, fp, q⟩ := z
    have e1 : la.toArray.size = xs.length := by rw [List.size_toArray]; exact va.length.symm
    have e2 : lb.toArray.size = ys.length := by rw [List.size_toArray]; exact vb.length.symm
    have hmin : min la.toArray.size lb.toArray.size = min xs.length ys.length := by rw [e1, e2]
    have ha1 : @LT.lt Nat _ a B := ha1
    have hb1 : @LT.lt Nat _ b B := hb1
    have D : ApartS (B + 4) (B + 2) (B + 3) B (B + 1) a b s2.heap.objs.size := by
      rw [hsz]
      refine ⟨⟨?_, ?_, ?_, ?_, ?_, ?_, ?_, ?_, ?_, ?_, ?_, ?_, ?_, ?_, ?_, ?_, ?_, ?_⟩, ?_, ?_, ?_, ?_, ?_, ?_, ?_⟩ <;> (show ¬ @Eq Nat _ _; omega)
    have fps : ∀ e ∈ [s2.heap.objs.size, B + 4, B + 3, B, B + 1], FpOk X pins H1 e := fun e he => fp e (by
      simp only [List.mem_cons, List.not_mem_nil, or_false] at he
      rcases he with rfl | rfl | rfl | rfl | rfl <;> (show @LE.le Nat _ _ _; omega))
    refine call_tuple_zp (xs := la.toArray) (ys := lb.toArray) (Φ := fun i acc s => ∃ H' vs, Inv X pins σ H' s ∧ (∀ e ∈ [s2.heap.objs.size, B + 4, B + 3, B, B + 1], FpOk X pins H' e) ∧ Vals vs acc.toList ∧ (∀ c o, H1 c = some o → H' c = some o) ∧ ZpV H' xs ys vs i) (I1.ok.hd hc) D (by rw [hmin]; omega) hz (fun h' k => ⟨k _ _ hTI, g1.at fun o e => k _ _ e, g2.at fun o e => k _ _ e, pa.at fun o e => k _ _ e, pb.at fun o e => k _ _ e, ⟨_, _, k _ _ hTO⟩, .inl (k _ _ hz)⟩)
      (fun h' k => ⟨H1, [], I1.kept (t' := s2.toks) k, fps, .nil, fun _ _ e => e, rfl, fun j hj => absurd hj (Nat.not_lt_zero j)⟩) ?step ?last ?fin
    case step =>
      rintro i acc s1 h' u v ⟨H', vs, I', f', vv, m', z1, z2⟩ low eu ev pr old
      have eu' : la[i]? = some u := by simpa using eu
      have ev' : lb[i]? = some v := by simpa using ev
      obtain ⟨x, hx⟩ : ∃ x, xs[i]? = some x := ⟨_, List.getElem?_eq_getElem (by rw [va.length]; exact (List.getElem?_eq_some_iff.mp eu').1)⟩
      obtain ⟨y, hy⟩ : ∃ y, ys[i]? = some y := ⟨_, List.getElem?_eq_getElem (by rw [vb.length]; exact (List.getElem?_eq_some_iff.mp ev').1)⟩
      obtain ⟨u', hu', rx⟩ := va.get hx
      obtain ⟨v', hv', ry⟩ := vb.get hy
      rw [eu'] at hu'
      rw [ev'] at hv'
      cases hu'
      cases hv'
      have okn : ObjOk X.prog X.w (upd H' s1.heap.objs.size (.tup [x, y])) h' s1.heap.objs.size (.tup [x, y]) := ⟨show 2 ≤ sizeLine by decide, [u, v], .cons rx (.cons ry .nil), ⟨_, pr, rfl, _, rfl⟩⟩
      have I2 : Inv X pins σ (upd H' s1.heap.objs.size (.tup [x, y])) { s1 with heap := h' } := I'.turnedNew (t' := s1.toks) (ch := [s2.heap.objs.size, B + 4, B + 3, B, B + 1]) (fun b o nb e => by
        simp only [List.mem_cons, List.not_mem_nil, or_false, not_or] at nb
        exact old b o nb.1 nb.2.1 nb.2.2.1 nb.2.2.2.1 nb.2.2.2.2 e) f' (Nat.le_refl _) okn
      have hn := I'.hok.fresh (Nat.le_refl s1.heap.objs.size)
      refine ⟨_, vs ++ [.ref s1.heap.objs.size], I2, fun e he => ⟨by rw [upd_ne (Nat.ne_of_lt (low e he))]; exact (f' e he).1, (f' e he).2⟩, ?_, fun c o e => by rw [upd_ne (ne_of_none (m' c o e) hn)]; exact m' c o e, by rw [List.length_append, z1]; rfl, fun j hj => ?_⟩
      · rw [Array.toList_push]
        exact vv.append (.cons rfl .nil)
      · by_cases ej : j = i
        · subst ej
          exact ⟨_, x, y, by rw [List.getElem?_append_right (by omega), z1, Nat.sub_self]; rfl, hx, hy, upd_same⟩
        · obtain ⟨T, x', y', t1, t2, t3, t4⟩ := z2 j (by omega)
          exact ⟨T, x', y', by rw [List.getElem?_append_left (by omega)]; exact t1, t2, t3, by rw [upd_ne (ne_of_none t4 hn)]; exact t4⟩
    case last =>
      rintro acc s1 h' ⟨H', vs, I', f', v', m', zz⟩ old
      exact ⟨H', vs, I'.turnedL (t' := s1.toks) (ch := [s2.heap.objs.size, B + 4, B + 3, B, B + 1]) (fun b o nb e => by
        simp only [List.mem_cons, List.not_mem_nil, or_false, not_or] at nb
        exact old b o nb.1 nb.2.1 nb.2.2.1 nb.2.2.2.1 nb.2.2.2.2 e) f', f', v', m', zz⟩
    case fin =>
      rintro s' acc hsz' ⟨H', vs, I', f', v', m', zz⟩
      rw [hmin] at zz
      have hl : vs.length ≤ sizeLine := by rw [zz.1]; omega
      exact ⟨.ref s'.heap.objs.size, upd H' s'.heap.objs.size (.tup vs), I'.laid (t' := s'.toks) (fun c o e => Heap.get?_push_of_some _ e) (Nat.le_refl _) (show ObjOk X.prog X.w _ _ _ (.tup vs) from ⟨hl, acc.toList, v', by rw [Array.toArray_toList]; exact IsTup.new _ _⟩), rfl, q H' _ vs m' zz (I'.hok.fresh (Nat.le_refl _))⟩
theorem k_tupZ (K : PySem.W.Frag) (hk : X.K = K) (hc : X.calm = true) (hg : Gl X "tuple") (hm : X.mg "tuple" = none) (hg2 : Gl X "zip") (hm2 : X.mg "zip" = none) (ha : PA X [e1, e2] ta)
    (na : starEach [.Call (.Name "zip" p2) [e1, e2] [] pos2] X.env = (false, eval (.Call (.Name "zip" p2) [e1, e2] [] pos2) X.env) :: starEach [] X.env := by rfl)
    (hs : starEach [e1, e2] X.env = (false, eval e1 X.env) :: starEach [e2] X.env := by rfl) (hpl : (backTo pos2 (starEach [e2] X.env)).any (·.1) = false := by rfl) :
    PE X (.Call (.Name "tuple" p) [.Call (.Name "zip" p2) [e1, e2] [] pos2] [] pos) (tTupZ K ta) := by subst hk; exact pe_tupZ hc hg hm hg2 hm2 ha na hs hpl
end
section
variable {K : PySem.W.Frag} {s rs : List SD} {Q : SD → List SD → Prop} {tl : TA}
theorem rpA_at {C : Addr → Prop} {H : Hp} : ∀ {vs : List V} {ds : List D}, vs.length = ds.length → (∀ (j : Nat) v d, vs[j]? = some v → ds[j]? = some d → Rp K C H v d) → RpA K C H vs ds
  | [], [], _, _ => .nil
  | [], _ :: _, h, _ => by cases h
  | _ :: _, [], h, _ => by cases h
  | v :: vs, d :: ds, h, f => .cons (f 0 v d rfl rfl) (rpA_at (by simpa using h) fun j v' d' h1 h2 => f (j + 1) v' d' (by simpa using h1) (by simpa using h2))
theorem de_tupZ (h : DA ⟨K, ω⟩ tl s rs fun as s1 => ∃ r1 r2 ds es, as = [r1, r2] ∧ dat s1 r1 = some (.list ds) ∧ dat s1 r2 = some (.list es) ∧ Q (.v (.tuple (zipD ds es))) s1) : DE ⟨K, ω⟩ (tTupZ K tl) s rs Q := fun Z σ ts H R o k =>
  h Z σ ts H _ o fun xs H1 s1 as o1 e ⟨r1, r2, ds, es, ea, h1, h2, q⟩ => by
    subst ea
    obtain ⟨x, y, rfl⟩ : ∃ x y, xs = [x, y] := by match xs, e with | [x, y], _ => exact ⟨x, y, rfl⟩
    have o2 : Ok K Z σ (y :: x :: ts) H1 s1 (r2 :: r1 :: rs) := o1
    obtain ⟨b, ys, rfl, qb, rb⟩ := o2.listTop h2
    obtain ⟨a, zs, rfl, qa, ra⟩ := o2.pop.listTop h1
    have rb := rb.clean (cl_pop o2.pop)
    refine ⟨a, b, zs, ys, rfl, qa, qb, fun H2 p vs m z hp => ?_⟩
    have m2 : ∀ c u, H1 c = some u → upd H2 p (.tup vs) c = some u := fun c u hc => by rw [upd_ne (ne_of_none (m c u hc) hp)]; exact m c u hc
    refine k _ _ s1 _ ((o2.pop.pop.ext m2).pushV (.tup (.inl (.inl upd_same)) (rpA_at ?_ fun j v d hv hd => ?_))) q
    · rw [z.1, zipD_length, ra.length, rb.length]
    · obtain ⟨d1, d2, g1, g2, rfl⟩ := zipD_get hd
      have hj : j < min zs.length ys.length := by
        rw [← z.1]; exact (List.getElem?_eq_some_iff.mp hv).1
      obtain ⟨T, x, y, t1, t2, t3, t4⟩ := z.2 j hj
      rw [hv] at t1
      cases t1
      obtain ⟨x', u1, u2⟩ := ra.get g1
      obtain ⟨y', u3, u4⟩ := rb.get g2
      rw [t2] at u1
      cases u1
      rw [t3] at u3
      cases u3
      have lift : ∀ {v d}, Rp K (Cl Z (gv σ ts) (gs s1 rs)) H1 v d → Rp K (Cl Z (gv σ ts) (gs s1 rs)) (upd H2 p (.tup vs)) v d := fun r => Rp.mono (fun _ _ => rd_ext m2) (fun _ _ c r => ⟨c, rd_ext m2 r⟩) _ _ r
      refine .tup (.inl (.inl ?_)) (.cons (lift u2) (.cons (lift u4) .nil))
      rw [upd_ne (ne_of_none t4 hp)]
      exact t4
end
end W8
namespace W8
open PySem L2 RZ
/-- the walk stops here -/
structure Stop (p : Prop) : Prop where
  go : p
theorem de_stopT {K : PySem.W.Frag} {tl : TA} {s rs : List SD} {Q : SD → List SD → Prop} (h : Stop (DE ⟨K, ω⟩ (tCB (rDictT K) tl) s rs Q)) : DE ⟨K, ω⟩ (tCB (rDictT K) tl) s rs Q := h.go
end W8

/-! W9g: a def that hands back a tuple of two lists of its own; the caller owns both. -/
namespace W8
open PySem L2 RZ PySem.Spec PyProof.Rows
abbrev DSp2 := List SD → (List D → List D → List SD → Prop) → Prop
def fnS2 (K : PySem.W.Frag) (f : DSp2) : Sp := fun xs H Q _ => ∃ (Z : Zn) (as : List SD) (P : List D → List D → List SD → Prop), Z.H0 = H ∧ (∀ a ∈ Z.Bs, Own1 (gv (xs.map some) []) (gs as []) a) ∧ Ok K Z (xs.map some) [] H as [] ∧ f as P ∧
  ∀ ds es as' t a b H', Ok K Z (xs.map some) [.ref a, .ref b] H' as' [.ow none ds, .ow none es] → Rd H' t (.tup [.ref a, .ref b]) → P ds es as' → Q (.ref t) H'
section
variable {K : PySem.W.Frag}
theorem two_at {α : Type} {u v q : α} {j : Nat} (h : gT [u, v] j = some q) : (j = 1 ∧ q = u) ∨ (j = 0 ∧ q = v) := by
  have hj := gT_lt h
  match j, hj with
  | 0, _ => exact .inr ⟨rfl, (Option.some.inj h).symm⟩
  | 1, _ => exact .inl ⟨rfl, (Option.some.inj h).symm⟩
/-- behind the body: both lists -/
theorem Ok.leave2 {Z : Zn} {xs : List V} {σ' : L2.St} {a1 a2 : Addr} {H H' : Hp} {as as' s' : List SD} {i1 i2 : Nat} {d1 d2 : List D} (h0 : Z.H0 = H) (hB : ∀ a ∈ Z.Bs, Own1 (gv (xs.map some) []) (gs as []) a) (o : Ok K Z (xs.map some) [] H as []) (o' : Ok K Z σ' [] H' s' [])
    (hi : i1 ≠ i2) (s1 : s'[i1]? = some (.ow none d1)) (s2 : s'[i2]? = some (.ow none d2)) (v1 : σ'[i1]? = some (some (.ref a1))) (v2 : σ'[i2]? = some (some (.ref a2))) (hb : BackR as s' as') : Ok K Z (xs.map some) [.ref a1, .ref a2] H' as' [.ow none d1, .ow none d2] := by
  subst h0
  obtain ⟨hl, hg⟩ := hb.get
  have backV : ∀ {i : Nat} {d : D}, as'[i]? = some (SD.v d) → as[i]? = some (SD.v d) := fun {i d} e => by
    rcases hg i _ e with ⟨d', h1, h2⟩ | h1 | ⟨k, ds, es, h1, _⟩
    · cases h1; exact h2
    · cases h1
    · cases h1
  have backO : ∀ {i : Nat} {t : Option Nat} {ds : OD}, as'[i]? = some (SD.own t ds) → ∃ k es, t = some k ∧ as[i]? = some (SD.own (some k) es) ∧ s'[i]? = some (SD.own (some k) ds) := fun {i t ds} e => by
    rcases hg i _ e with ⟨d', h1, h2⟩ | h1 | ⟨k, ds, es, h1, h2, h3⟩
    · cases h1
    · cases h1
    · cases h1; exact ⟨k, es, rfl, h2, h3⟩
  have backA : ∀ {i j : Nat}, as'[i]? ≠ some (SD.al j) := fun {i j} e => by
    rcases hg i _ e with ⟨d', h1, h2⟩ | h1 | ⟨k, ds, es, h1, h2, h3⟩ <;> cases h1
  have lent : ∀ {i k : Nat} {ds es : OD}, as[i]? = some (SD.own (some k) es) → s'[i]? = some (SD.own (some k) ds) → ∃ a ys, xs[i]? = some (V.ref a) ∧ gv σ' [] (.inl i) = some (.ref a) ∧ H' a = some ys ∧ RpO K (Cl Z (gv σ' []) (gs s' [])) H' ys ds ∧ Z.Bs[k]? = some a := fun {i k ds es} h1 h2 => by
    obtain ⟨a, ys, e1, _, _, e2⟩ := o.c.wn (.inl i) _ _ h1
    obtain ⟨b, zs, e3, e4, e5, e6⟩ := o'.c.wn (.inl i) _ _ h2
    have e2 : Z.Bs[k]? = some a := e2
    have e6 : Z.Bs[k]? = some b := e6
    rw [e2] at e6; cases e6
    rw [gv_map] at e1
    exact ⟨a, zs, e1, e3, e4, e5, e2⟩
  have w1 : gv σ' [] (.inl i1) = some (.ref a1) := gv_slot.mpr v1
  have w2 : gv σ' [] (.inl i2) = some (.ref a2) := gv_slot.mpr v2
  -- where a result stood
  have out : ∀ {j : Nat} {t : Option Nat} {w : OD}, gs as' [.ow none d1, .ow none d2] (.inr j) = some (.own t w) → ∃ i a, t = none ∧ s'[i]? = some (.own none w) ∧ gv σ' [] (.inl i) = some (.ref a) ∧ gv (xs.map some) [.ref a1, .ref a2] (.inr j) = some (.ref a) ∧ ((j = 1 ∧ i = i1) ∨ (j = 0 ∧ i = i2)) := fun {j t w} h => by
    rcases two_at (show gT [SD.ow none d1, SD.ow none d2] j = _ from h) with ⟨rfl, e⟩ | ⟨rfl, e⟩
    · cases e; exact ⟨i1, a1, rfl, s1, w1, rfl, .inl ⟨rfl, rfl⟩⟩
    · cases e; exact ⟨i2, a2, rfl, s2, w2, rfl, .inr ⟨rfl, rfl⟩⟩
  have noGh : ∀ p q, gs as' [.ow none d1, .ow none d2] p = some q → (∀ G, q ≠ .gh G) ∧ ∀ a, q ≠ .rf a := fun p q hp => by
    cases p with
    | inl i => rcases hg i _ hp with ⟨d', h1, h2⟩ | h1 | ⟨k, ds, es, h1, h2, h3⟩ <;> (subst h1; exact ⟨fun _ z => (by cases z), fun _ z => (by cases z)⟩)
    | inr j => rcases two_at (show gT [SD.ow none d1, SD.ow none d2] j = _ from hp) with ⟨_, e⟩ | ⟨_, e⟩ <;> (subst e; exact ⟨fun _ z => (by cases z), fun _ z => (by cases z)⟩)
  have own : ∀ a, Own (gv (xs.map some) [.ref a1, .ref a2]) (gs as' [.ow none d1, .ow none d2]) a → Own (gv σ' []) (gs s' []) a := fun a z => by
    rcases z with ⟨p, t, ds, h1, h2⟩ | ⟨p, G, h1, _⟩
    rotate_left
    · exact absurd rfl ((noGh p _ h1).1 G)
    cases p with
    | inl i =>
      obtain ⟨k, es, rfl, h3, h4⟩ := backO h1
      obtain ⟨b, ys, e1, e2, _⟩ := lent h3 h4
      rw [gv_map, e1] at h2; cases h2
      exact .inl ⟨.inl i, some k, ds, h4, e2⟩
    | inr j =>
      obtain ⟨i, b, rfl, e1, e2, e3, _⟩ := out h1
      rw [e3] at h2; cases h2
      exact .inl ⟨.inl i, none, ds, e1, e2⟩
  have cl : ∀ a, Cl Z (gv σ' []) (gs s' []) a → Cl Z (gv (xs.map some) [.ref a1, .ref a2]) (gs as' [.ow none d1, .ow none d2]) a := fun a ⟨h1, h2⟩ => ⟨h1, fun z => h2 (own a z)⟩
  have ownB : ∀ a, a ∈ Z.Bs → ∀ ys, ¬ Rd Z.H0 a (.tup ys) := fun a ha ys r => by
    obtain ⟨p, t, ds, h1, h2⟩ := hB a ha
    obtain ⟨b, ys, e1, e2, e3, _⟩ := o.c.wn p t ds h1
    rw [h2] at e1; cases e1
    exact e3.noT e2 r
  have keepT : ∀ a ys, Rd Z.H0 a (.tup ys) → Rd H' a (.tup ys) := fun a ys h => by
    have nb : a ∉ Z.Bs := fun z => ownB a z _ h
    rcases h with h | ⟨ob, h⟩
    · exact .inl (o'.c.fr a _ nb h)
    · exact .inr ⟨ob, o'.c.fr a _ nb h⟩
  have newR : ∀ {i a w}, s'[i]? = some (SD.own none w) → gv σ' [] (.inl i) = some (.ref a) → Z.H0 a = none := fun {i a w} h1 h2 => by
    obtain ⟨b, zs, q1, _, _, q2⟩ := o'.c.wn (.inl i) none w h1
    rw [h2] at q1; cases q1
    exact q2
  have keepL : ∀ a ys, Cl Z (gv (xs.map some) []) (gs as []) a → Rd Z.H0 a (.lst ys) → Cl Z (gv (xs.map some) [.ref a1, .ref a2]) (gs as' [.ow none d1, .ow none d2]) a ∧ Rd H' a (.lst ys) := fun a ys ⟨c1, c2⟩ h => by
    have hn : Z.H0 a ≠ none := rd_some h
    have hs : Z.S a := c1.resolve_right hn
    have nb : a ∉ Z.Bs := fun z => (o.c.bs a z).1 hs
    refine ⟨⟨.inl hs, fun z => ?_⟩, ?_⟩
    · rcases z with ⟨p, t, ds, h1, h2⟩ | ⟨p, G, h1, _⟩
      rotate_left
      · exact absurd rfl ((noGh p _ h1).1 G)
      cases p with
      | inl i =>
        obtain ⟨k, es, rfl, h3, h4⟩ := backO h1
        obtain ⟨b, zs, e1, _, _, _, e2⟩ := lent h3 h4
        rw [gv_map, e1] at h2; cases h2
        exact nb (List.mem_of_getElem? e2)
      | inr j =>
        obtain ⟨i, b, rfl, e1, e2, e3, _⟩ := out h1
        rw [e3] at h2; cases h2
        exact hn (newR e1 e2)
    · rcases h with h | ⟨ob, h⟩
      · exact .inl (o'.c.fr a _ nb h)
      · exact .inr ⟨ob, o'.c.fr a _ nb h⟩
  refine ⟨by simp [hl, o.ls.symm], rfl, ?_, fun i j => backA⟩
  refine ⟨o'.c.fr, o'.c.dm, o'.c.bs, fun p d hp => ?_, fun p t ds hp => ?_, fun p q t ds u es a h1 h2 h3 h4 => ?_, fun p i hp => ?_, fun p kds hp => (by
    cases p with
    | inl j => rcases hg j _ hp with ⟨d', h1, h2⟩ | h1 | ⟨k, ds, es, h1, h2, h3⟩ <;> cases h1
    | inr j => rcases two_at (show gT [SD.ow none d1, SD.ow none d2] j = _ from hp) with ⟨_, e⟩ | ⟨_, e⟩ <;> cases e),
    fun p a hp => absurd rfl ((noGh p _ hp).2 a), fun p G hp => absurd rfl ((noGh p _ hp).1 G), fun p q G G' hp _ => absurd rfl ((noGh p _ hp).1 G), fun p G q t ds a hp _ _ => absurd rfl ((noGh p _ hp).1 G)⟩
  · cases p with
    | inl i =>
      obtain ⟨y, h1, h2⟩ := o.c.va (.inl i) d (backV hp)
      exact ⟨y, by rw [gv_map] at h1 ⊢; exact h1, Rp.mono keepT keepL _ _ h2⟩
    | inr j =>
      rcases two_at (show gT [SD.ow none d1, SD.ow none d2] j = _ from hp) with ⟨_, e⟩ | ⟨_, e⟩ <;> cases e
  · cases p with
    | inl i =>
      obtain ⟨k, es, rfl, h3, h4⟩ := backO hp
      obtain ⟨a, ys, e1, _, e2, e3, e4⟩ := lent h3 h4
      exact ⟨a, ys, by rw [gv_map]; exact e1, e2, e3.clean cl, e4⟩
    | inr j =>
      obtain ⟨i, b, rfl, e1, e2, e3, _⟩ := out hp
      obtain ⟨a, ys, q1, q2, q3, q4⟩ := o'.c.wn (.inl i) none ds e1
      rw [e2] at q1; cases q1
      exact ⟨b, ys, e3, q2, q3.clean cl, q4⟩
  · have inB : ∀ {i t ds}, gs as' [.ow none d1, .ow none d2] (.inl i) = some (.own t ds) → gv (xs.map some) [.ref a1, .ref a2] (.inl i) = some (.ref a) → Z.H0 a ≠ none ∧ ∃ k es, as[i]? = some (.own (some k) es) ∧ gv (xs.map some) [] (.inl i) = some (.ref a) := fun {i t ds} h1 h2 => by
      obtain ⟨k, es, rfl, h3, h4⟩ := backO h1
      obtain ⟨b, zs, e1, _, _, _, e2⟩ := lent h3 h4
      rw [gv_map] at h2
      rw [e1] at h2; cases h2
      exact ⟨(o.c.bs _ (List.mem_of_getElem? e2)).2, k, es, h3, by rw [gv_map]; exact e1⟩
    cases p with
    | inl i =>
      obtain ⟨n1, k, fs, b1, b2⟩ := inB h1 h3
      cases q with
      | inl j =>
        obtain ⟨n2, k2, fs2, c1, c2⟩ := inB h2 h4
        exact o.c.se (.inl i) (.inl j) _ _ _ _ a b1 c1 b2 c2
      | inr j =>
        obtain ⟨i, b, rfl, e1, e2, e3, _⟩ := out h2
        rw [e3] at h4; cases h4
        exact absurd (newR e1 e2) n1
    | inr i =>
      obtain ⟨m, b, rfl, e1, e2, e3, e4⟩ := out h1
      rw [e3] at h3; cases h3
      cases q with
      | inl j => exact absurd (newR e1 e2) (inB h2 h4).1
      | inr j =>
        obtain ⟨m', b', rfl, f1, f2, f3, f4⟩ := out h2
        rw [f3] at h4; cases h4
        have em : m = m' := Sum.inl.inj (o'.c.se (.inl m) (.inl m') _ _ _ _ _ e1 f1 e2 f2)
        have : i = j := by omega
        rw [this]
  · cases p with
    | inl j => exact absurd hp backA
    | inr j =>
      rcases two_at (show gT [SD.ow none d1, SD.ow none d2] j = _ from hp) with ⟨_, e⟩ | ⟨_, e⟩ <;> cases e
end
section
variable {K : PySem.W.Frag}
/-- a body whose end hands back two lists of its own -/
def DS2 (κ : KX) (t : TS) (s : List SD) (P2 : List D → List D → List SD → Prop) : Prop := ∀ (Z : ZX κ) σ H (E : Ends), Ok κ.fr Z.z σ [] H s [] →
  (∀ (ds es : List D) (i j : Nat) (s' : List SD) (σ' : L2.St) (tt a b : Addr) (H' : Hp), i ≠ j → Ok κ.fr Z.z σ' [] H' s' [] → s'[i]? = some (.ow none ds) → s'[j]? = some (.ow none es) → σ'[i]? = some (some (.ref a)) → σ'[j]? = some (some (.ref b)) → Rd H' tt (.tup [.ref a, .ref b]) → P2 ds es s' → E.rt (.ref tt) H') → t E σ H
theorem ds2_seq {t u : TS} {s : List SD} {P2 : List D → List D → List SD → Prop} (h : DS ⟨K, ω⟩ t s [] { nx := fun s1 => DS2 ⟨K, ω⟩ u s1 P2, rt := fun _ _ => False }) : DS2 ⟨K, ω⟩ (tSeq t u) s P2 := fun Z σ H E o k =>
  h Z σ [] H { E with nx := u E } o (fun σ' H' s' o' q => (show DS2 ⟨K, ω⟩ u s' P2 from q) Z σ' H' E o' k) (fun _ _ _ _ _ _ q => q.elim) (fun _ _ _ _ q => q.elim) (fun _ _ _ _ q => q.elim)
theorem ds2_ret {i j : Nat} {s : List SD} {ds es : List D} {P2 : List D → List D → List SD → Prop} (hij : Nat.beq i j = false) (h1 : s[i]? = some (.ow none ds)) (h2 : s[j]? = some (.ow none es)) (q : P2 ds es s) : DS2 ⟨K, ω⟩ (tRet (tTup (tCons (tVar i) (tCons (tVar j) tNil)))) s P2 := fun Z σ H E o k => by
  obtain ⟨a, u, e1, _⟩ := o.c.wn (.inl i) _ _ h1
  obtain ⟨b, u', e2, _⟩ := o.c.wn (.inl j) _ _ h2
  have e1 := gv_slot.mp e1
  have e2 := gv_slot.mp e2
  refine ⟨_, e1, _, e2, (Nat.le_of_ble_eq_true rfl), fun p hp => ?_⟩
  refine k ds es i j s σ p a b _ (fun e => by subst e; simp at hij) (o.ext fun c w hc => ?_) h1 h2 e1 e2 (.inl (upd_same ..)) q
  by_cases hcp : c = p
  · subst hcp; rw [hp] at hc; cases hc
  · rw [upd_ne hcp]; exact hc
end
section
variable {P : Program} {w : World} {K : PySem.W.Frag} {mg : Str → Option Value} {base : Heap}
def RT2 (P : List D → List D → List SD → Prop) (as : List SD) (ds es : List D) (s' : List SD) : Prop := BackR as s' (backF as s') ∧ P ds es (backF as s')
theorem ok_fn2 {x qual : Str} {st : Stmt} {g : Addr} {fd : FuncData} {N ps : List Str} {k : Nat} {f : DSp2} (F : Fun K x qual st g fd) (S : FnScope N ps (defScope st)) (hN : ps.length ≤ N.length) (hl : ∀ as P, f as P → as.length = ps.length)
    (hb : ∀ (cdv : Value) (A : Around) (outer : List Env) (s : Shared) (H : Hp) (E : XK), Room k (A.deeper (PyProof.Rows.envOfC qual (defScope st) s.heap.objs.size g cdv)) → ∀ as Pq, f as Pq →
      ∃ t, PSs (cxOf CX0 P w K mg base N qual (defScope st) g cdv A outer s H E).nox (defBody st) t ∧ DS2 K t (as ++ List.replicate (N.length - as.length) .no) (RT2 Pq as)) :
    FnOk P w K mg base CX0 (k + 1) g fd ps (fnS2 K f) := by
  refine F.ok S (fun vs H Q E h => ?_) (fun cdv A outer s H vs Q E hr h => ?_)
  · obtain ⟨Z, as, Pq, _, _, o, hf, _⟩ := h
    have := o.ls
    rw [← hl as Pq hf]; simpa using this
  · obtain ⟨Z, as, Pq, h0, hB, o, hf, hk⟩ := h
    obtain ⟨t, h1, h2⟩ := hb cdv A outer s H E hr as Pq hf
    have el : vs.length = as.length := by have := o.ls; simpa using this
    refine ⟨t, h1, h2 Z.x0 _ H _ (ok_start o (by rw [el, hl as Pq hf]; exact hN)) (fun ds es i j s' σ' tt a b H' hij o' e1 e2 e3 e4 e5 q => ?_)⟩
    exact hk ds es _ tt a b H' (Ok.leave2 h0 hB o o' hij e1 e2 e3 e4 q.1) e5 q.2
end
section
variable {K : PySem.W.Frag} {Z : Zn} {σ : L2.St} {ts xs : List V} {H : Hp} {s rs as : List SD}
/-- behind the call, both lists are the caller's -/
theorem Ok.back2 {H' : Hp} {a1 a2 : Addr} {d1 d2 : List D} {as' s2 : List SD} (o : Ok K Z σ (xs.reverse ++ ts) H s (as.reverse ++ rs)) (e : xs.length = as.length) (hn : (lents as).Nodup)
    (o' : Ok K (inner Z σ ts xs H s rs as) (xs.map some) [.ref a1, .ref a2] H' as' [.ow none d1, .ow none d2]) (ha : after s as as' = some s2) : Ok K Z σ (.ref a1 :: .ref a2 :: ts) H' s2 (.ow none d1 :: .ow none d2 :: rs) := by
  obtain ⟨el, hw⟩ := o.argsRef e
  obtain ⟨oe, hB⟩ := o.enter e hn
  obtain ⟨l1, l2, hs2⟩ := after_spec ha hn
  have nB : ∀ a, a ∉ (inner Z σ ts xs H s rs as).Bs → ∀ u, H a = some u → H' a = some u := fun a h u hu => o'.c.fr a u h hu
  have domH : ∀ a, Own (gv σ (xs.reverse ++ ts)) (gs s (as.reverse ++ rs)) a → H a ≠ none := fun a z => by
    rcases z with ⟨p, t, ds, h1, h2⟩ | ⟨p, G, h1, h2⟩
    · obtain ⟨b, ys, e1, e2, _⟩ := o.c.wn p t ds h1
      rw [h2] at e1; cases e1
      rw [e2]; exact fun z => by cases z
    · obtain ⟨⟨b, g⟩, hb, rfl⟩ := List.mem_map.mp h2
      obtain ⟨u, e2, _⟩ := (o.c.gh p G h1).2 b g hb
      show H b ≠ none
      rw [e2]; exact fun z => by cases z
  have poolB : ∀ p G a, gs s (as.reverse ++ rs) p = some (.gh G) → a ∈ G.map (·.1) → a ∉ (inner Z σ ts xs H s rs as).Bs := fun p G a h1 h2 h3 => by
    obtain ⟨q, t, ds, e1, e2⟩ := (hB a h3).2
    exact o.c.sg p G q t ds a h1 e1 e2 h2
  -- places behind, and where they come from
  have low : ∀ {i : Nat} {q : SD}, gT rs i = some q → gs s (as.reverse ++ rs) (.inr i) = some q := fun {i q} h => (gT_low (as := as.reverse) (gT_lt h)).trans h
  have lowV : ∀ {i : Nat}, i < rs.length → gv σ (xs.reverse ++ ts) (.inr i) = gT ts i := fun {i} h => gT_low (as := xs.reverse) (by omega)
  have topR : ∀ {i : Nat} {q : SD}, gs s2 (.ow none d1 :: .ow none d2 :: rs) (.inr i) = some q → (∃ j d a, i = rs.length + j ∧ q = .ow none d ∧ gs as' [.ow none d1, .ow none d2] (.inr j) = some (.ow none d) ∧ gv (xs.map some) [.ref a1, .ref a2] (.inr j) = some (.ref a) ∧ gv σ (.ref a1 :: .ref a2 :: ts) (.inr i) = some (.ref a)) ∨ (i < rs.length ∧ gT rs i = some q) := fun {i q} h => by
    have h : (if i = (SD.ow none d2 :: rs).length then some (SD.ow none d1) else if i = rs.length then some (SD.ow none d2) else gT rs i) = some q := h
    split at h
    · rename_i z
      cases h
      refine .inl ⟨1, d1, a1, z, rfl, rfl, rfl, ?_⟩
      show (if i = (V.ref a2 :: ts).length then some (V.ref a1) else _) = _
      rw [if_pos (by rw [z]; simp [el])]
    · split at h
      · rename_i z
        cases h
        refine .inl ⟨0, d2, a2, z, rfl, rfl, rfl, ?_⟩
        show (if i = (V.ref a2 :: ts).length then some (V.ref a1) else if i = ts.length then some (V.ref a2) else _) = _
        rw [if_neg (by simp; omega), if_pos (by omega)]
      · exact .inr ⟨gT_lt h, h⟩
  have lowV2 : ∀ {i : Nat}, i < rs.length → gv σ (.ref a1 :: .ref a2 :: ts) (.inr i) = gT ts i := fun {i} h => by
    show (if i = (V.ref a2 :: ts).length then some (V.ref a1) else if i = ts.length then some (V.ref a2) else gT ts i) = _
    rw [if_neg (by simp; omega), if_neg (by omega)]
  have slot2 : ∀ {j : Nat} {q : SD}, s2[j]? = some q → (s[j]? = some q ∧ j ∉ lents as) ∨ ∃ (m : Nat) (t : Option Nat) (ds ds' : OD) (k : Nat), q = .own t ds' ∧ as[m]? = some (SD.al j) ∧ s[j]? = some (SD.own t ds) ∧ as'[m]? = some (SD.own (some k) ds') := fun {j q} h => by
    rcases hs2 j with ⟨m, t, ds, ds', k, a, b, c, d⟩ | ⟨a, b⟩
    · rw [h] at d; cases d; exact .inr ⟨m, t, ds, ds', k, rfl, a, b, c⟩
    · rw [h] at b; exact .inl ⟨b.symm, a⟩
  -- what is owned behind was owned, or is new
  have newR : ∀ {a : Addr} {j : Nat} {d : List D}, gs as' [.ow none d1, .ow none d2] (.inr j) = some (.ow none d) → gv (xs.map some) [.ref a1, .ref a2] (.inr j) = some (.ref a) → H a = none := fun {a j d} h1 h2 => by
    obtain ⟨b, ys, e1, _, _, e2⟩ := o'.c.wn (.inr j) none _ h1
    rw [h2] at e1; cases e1
    exact e2
  have ghS : ∀ p G, gs s2 (.ow none d1 :: .ow none d2 :: rs) p = some (.gh G) → gs s (as.reverse ++ rs) p = some (.gh G) := fun p G h => by
    cases p with
    | inl j =>
      rcases slot2 (show s2[j]? = some (SD.gh G) from h) with ⟨h, _⟩ | ⟨m, t', es, es', k, q, _⟩
      · exact h
      · cases q
    | inr i =>
      rcases topR h with ⟨_, _, _, _, q, _⟩ | ⟨hi, h⟩
      · cases q
      · exact low h
  have own2 : ∀ a, Own (gv σ (.ref a1 :: .ref a2 :: ts)) (gs s2 (.ow none d1 :: .ow none d2 :: rs)) a → Own (gv σ (xs.reverse ++ ts)) (gs s (as.reverse ++ rs)) a ∨ (∃ j d, gs as' [.ow none d1, .ow none d2] (.inr j) = some (.ow none d) ∧ gv (xs.map some) [.ref a1, .ref a2] (.inr j) = some (.ref a)) := fun a z => by
    rcases z with ⟨p, t, ds, h1, h2⟩ | ⟨p, G, h1, h2⟩
    rotate_left
    · exact .inl (.inr ⟨p, G, ghS p G h1, h2⟩)
    cases p with
    | inl j =>
      rcases slot2 (show s2[j]? = some (SD.own t ds) from h1) with ⟨h, _⟩ | ⟨m, t', es, es', k, q, _, h, _⟩
      · exact .inl (.inl ⟨.inl j, t, ds, h, h2⟩)
      · exact .inl (.inl ⟨.inl j, t', es, h, h2⟩)
    | inr i =>
      rcases topR h1 with ⟨j, d, b, rfl, q, e1, e2, e3⟩ | ⟨hi, h⟩
      · rw [e3] at h2; cases h2
        exact .inr ⟨j, d, e1, e2⟩
      · rw [lowV2 hi] at h2
        exact .inl (.inl ⟨.inr i, t, ds, low h, by rw [lowV hi]; exact h2⟩)
  have h0 : ∀ a, H a = none → Z.H0 a = none := fun a h => by
    cases q : Z.H0 a with
    | none => rfl
    | some u => exact absurd h (o.c.dm a (by rw [q]; exact fun z => by cases z))
  have keepT : ∀ a ys, Rd H a (.tup ys) → Rd H' a (.tup ys) := fun a ys h => by
    have nb : a ∉ (inner Z σ ts xs H s rs as).Bs := fun z => by
      obtain ⟨p, t, ds, h1, h2⟩ := (hB a z).2
      obtain ⟨b, zs, e1, e2, e3, _⟩ := o.c.wn p t ds h1
      rw [h2] at e1; cases e1
      exact e3.noT e2 h
    rcases h with h | ⟨ob, h⟩
    · exact .inl (nB a nb _ h)
    · exact .inr ⟨ob, nB a nb _ h⟩
  have keepX : ∀ a us, H a = some (.xd us) → H' a = some (.xd us) := fun a us h => by
    have nb : a ∉ (inner Z σ ts xs H s rs as).Bs := fun z => by
      obtain ⟨p, t, ds, h1, h2⟩ := (hB a z).2
      obtain ⟨b, zs, e1, e2, e3, _⟩ := o.c.wn p t ds h1
      rw [h2] at e1; cases e1
      rw [h] at e2
      exact e3.noX (Option.some.inj e2).symm
    exact nB a nb _ h
  have keepW : ∀ a b, H a = some (.own b) → H' a = some (.own b) := fun a b h => by
    have nb : a ∉ (inner Z σ ts xs H s rs as).Bs := fun z => by
      obtain ⟨p, t, ds, h1, h2⟩ := (hB a z).2
      obtain ⟨b, zs, e1, e2, e3, _⟩ := o.c.wn p t ds h1
      rw [h2] at e1; cases e1
      rw [h] at e2
      exact e3.noW (Option.some.inj e2).symm
    exact nB a nb _ h
  have keepL : ∀ a ys, Cl Z (gv σ (xs.reverse ++ ts)) (gs s (as.reverse ++ rs)) a → Rd H a (.lst ys) → Cl Z (gv σ (.ref a1 :: .ref a2 :: ts)) (gs s2 (.ow none d1 :: .ow none d2 :: rs)) a ∧ Rd H' a (.lst ys) := fun a ys ⟨c1, c2⟩ h => by
    have nb : a ∉ (inner Z σ ts xs H s rs as).Bs := fun z => c2 (.inl (hB a z).2)
    refine ⟨⟨c1, fun z => ?_⟩, ?_⟩
    · rcases own2 a z with z | ⟨j, d, q1, q2⟩
      · exact c2 z
      · exact rd_some h (newR q1 q2)
    · rcases h with h | ⟨ob, h⟩
      · exact .inl (nB a nb _ h)
      · exact .inr ⟨ob, nB a nb _ h⟩
  -- what the def held as shared is shared
  have clI : ∀ a, Cl (inner Z σ ts xs H s rs as) (gv (xs.map some) [.ref a1, .ref a2]) (gs as' [.ow none d1, .ow none d2]) a → Cl Z (gv σ (.ref a1 :: .ref a2 :: ts)) (gs s2 (.ow none d1 :: .ow none d2 :: rs)) a := fun a ⟨c1, c2⟩ => by
    have new : ∀ {j d}, gs as' [.ow none d1, .ow none d2] (.inr j) = some (.ow none d) → gv (xs.map some) [.ref a1, .ref a2] (.inr j) = some (.ref a) → False := fun {j d} q1 q2 => c2 (.inl ⟨.inr j, none, .lst d, q1, q2⟩)
    rcases c1 with c1 | c1
    · have c1 : Cl Z (gv σ (xs.reverse ++ ts)) (gs s (as.reverse ++ rs)) a := c1
      refine ⟨c1.1, fun z => ?_⟩
      rcases own2 a z with z | ⟨j, d, q1, q2⟩
      · exact c1.2 z
      · exact new q1 q2
    · have c1 : H a = none := c1
      refine ⟨.inr (h0 a c1), fun z => ?_⟩
      rcases own2 a z with z | ⟨j, d, q1, q2⟩
      · exact domH a z c1
      · exact new q1 q2
  -- a lent slot behind
  have lentS : ∀ {j m k : Nat} {t : Option Nat} {ds ds' : OD}, as[m]? = some (SD.al j) → s[j]? = some (SD.own t ds) → as'[m]? = some (SD.own (some k) ds') → ∃ a ys, gv σ (.ref a1 :: .ref a2 :: ts) (.inl j) = some (.ref a) ∧ H' a = some ys ∧ RpO K (Cl Z (gv σ (.ref a1 :: .ref a2 :: ts)) (gs s2 (.ow none d1 :: .ow none d2 :: rs))) H' ys ds' ∧ (match t with | some k => Z.Bs[k]? = some a | none => Z.H0 a = none) := fun {j m k t ds ds'} h1 h2 h3 => by
    obtain ⟨b, ys, e1, e2, e3, _⟩ := o'.c.wn (.inl m) _ _ (show gs as' [.ow none d1, .ow none d2] (.inl m) = some (SD.own (some k) ds') from h3)
    rw [gv_map] at e1
    obtain ⟨u, es, y, q1, q2, q3⟩ := o.c.al _ j (arg_at h1)
    have hv : gv σ (xs.reverse ++ ts) (.inr (rs.length + m)) = some (.ref b) := by rw [← el]; exact argV_at e1
    rw [hv] at q3; cases q3
    obtain ⟨b', zs, w1, _, _, w4⟩ := o.c.wn (.inl j) t ds h2
    rw [q2] at w1; cases w1
    exact ⟨b, ys, q2, e2, e3.clean clI, w4⟩
  -- an owned place that is not lent is as it was
  have keepO : ∀ {p : Pos2} {t : Option Nat} {ds : OD} {a : Addr}, gs s (as.reverse ++ rs) p = some (.own t ds) → gv σ (xs.reverse ++ ts) p = some (.ref a) → (∀ m j, as[m]? = some (SD.al j) → p ≠ .inl j) → (∀ m, p = .inr (rs.length + m) → as.length ≤ m) → a ∉ (inner Z σ ts xs H s rs as).Bs := fun {p t ds a} h1 h2 n1 n2 hb => by
    obtain ⟨n, hn'⟩ := List.getElem?_of_mem (show a ∈ lentA as xs from hb)
    obtain ⟨i, q1, q2⟩ := lentA_get hn' hw
    have hi : i < as.length := by rw [← e]; exact (List.getElem?_eq_some_iff.mp q1).1
    have hv : gv σ (xs.reverse ++ ts) (.inr (rs.length + i)) = some (.ref a) := by rw [← el]; exact argV_at q1
    rcases q2 with ⟨u, es, q2⟩ | ⟨j, q2⟩
    · have := o.c.se p _ _ _ _ _ a h1 (arg_at q2) h2 hv
      exact absurd (n2 i this) (by omega)
    · obtain ⟨u, es, y, w1, w2, w3⟩ := o.c.al _ j (arg_at q2)
      rw [hv] at w3; cases w3
      exact n1 i j q2 (o.c.se p _ _ _ _ _ a h1 w1 h2 w2)
  refine ⟨by rw [o.ls, l1], by simp [el], ?_, fun i j h => ?_⟩
  · refine ⟨fun a u h1 h2 => ?_, fun a h => o'.c.dm a (o.c.dm a h), o.c.bs, fun p d hp => ?_, fun p t ds hp => ?_, fun p q t ds u es a h1 h2 h3 h4 => ?_, fun p i hp => ?_, fun p kds hp => ?_, fun p a hp => ?_,
      o.c.ghK (fun p G hp => ⟨p, ghS p G hp⟩) (fun p G a hp ha => ?_) (fun a u g => RpG.mono keepT keepL keepX keepW), fun p q G G' h1 h2 => o.c.one p q G G' (ghS p G h1) (ghS q G' h2), fun p G q t ds a h1 h2 h3 => ?_⟩
    rotate_left 6
    · cases p with
      | inl j =>
        rcases slot2 (show s2[j]? = some (SD.rf a) from hp) with ⟨h, _⟩ | ⟨m, t', es, es', k, q, _⟩
        · exact o.c.rf (.inl j) a h
        · cases q
      | inr i =>
        rcases topR hp with ⟨_, _, _, _, q, _⟩ | ⟨hi, h⟩
        · cases q
        · have := o.c.rf (.inr i) a (low h)
          rw [lowV hi] at this
          rw [lowV2 hi]; exact this
    · have hp' := ghS p G hp
      obtain ⟨⟨b, g⟩, hb, rfl⟩ := List.mem_map.mp ha
      obtain ⟨u, e2, _⟩ := (o.c.gh p G hp').2 b g hb
      show H' b = H b
      rw [e2]; exact nB b (poolB p G b hp' ha) u e2
    · have h1' := ghS p G h1
      cases q with
      | inl j =>
        rcases slot2 (show s2[j]? = some (SD.own t ds) from h2) with ⟨h, _⟩ | ⟨m, t', es, es', k, q, _, h, _⟩
        · exact o.c.sg p G (.inl j) _ _ a h1' h h3
        · exact o.c.sg p G (.inl j) _ _ a h1' h h3
      | inr i =>
        rcases topR h2 with ⟨j, d, b, rfl, q, e1, e2, e3⟩ | ⟨hi, h⟩
        · rw [e3] at h3; cases h3
          intro ha
          exact domH _ (.inr ⟨p, G, h1', ha⟩) (newR e1 e2)
        · rw [lowV2 hi] at h3
          exact o.c.sg p G (.inr i) t ds a h1' (low h) (by rw [lowV hi]; exact h3)
    · refine nB a (fun z => ?_) u (o.c.fr a u h1 h2)
      obtain ⟨p, t, ds, e1, e2⟩ := (hB a z).2
      obtain ⟨b, ys, q1, _, _, q4⟩ := o.c.wn p t ds e1
      rw [e2] at q1; cases q1
      cases t with
      | none => have q4 : Z.H0 a = none := q4; rw [q4] at h2; cases h2
      | some k => exact h1 (List.mem_of_getElem? q4)
    · cases p with
      | inl j =>
        rcases slot2 (show s2[j]? = some (SD.v d) from hp) with ⟨h, _⟩ | ⟨m, t', es, es', k, q, _⟩
        · obtain ⟨y, h1, h2⟩ := o.c.va (.inl j) d h
          exact ⟨y, h1, Rp.mono keepT keepL _ _ h2⟩
        · cases q
      | inr i =>
        rcases topR hp with ⟨_, _, _, _, q, _⟩ | ⟨hi, h⟩
        · cases q
        · obtain ⟨y, h1, h2⟩ := o.c.va (.inr i) d (low h)
          rw [lowV hi] at h1
          exact ⟨y, by rw [lowV2 hi]; exact h1, Rp.mono keepT keepL _ _ h2⟩
    · cases p with
      | inl j =>
        rcases slot2 (show s2[j]? = some (SD.own t ds) from hp) with ⟨h, hj⟩ | ⟨m, t', es, es', k, q, a1, a2, a3⟩
        · obtain ⟨a, ys, h1, h2, h3, h4⟩ := o.c.wn (.inl j) t ds h
          have nb := keepO (p := .inl j) h h1 (fun m i hm z => by
            cases z
            have mem : ∀ {as : List SD} {m : Nat}, as[m]? = some (SD.al j) → j ∈ lents as := by
              intro as
              induction as with
              | nil => intro m e; simp at e
              | cons r as ih =>
                intro m e
                cases m with
                | zero => simp at e; subst e; exact List.mem_cons_self
                | succ m =>
                  have := ih (m := m) (by simpa using e)
                  cases r <;> first | exact this | exact List.mem_cons_of_mem _ this
            exact hj (mem hm)) (fun m z => by cases z)
          exact ⟨a, ys, h1, nB a nb _ h2, RpO.mono keepT keepL keepX h3, h4⟩
        · cases q
          exact lentS a1 a2 a3
      | inr i =>
        rcases topR hp with ⟨j, d, b, rfl, q, q1, q2, q3⟩ | ⟨hi, h⟩
        · cases q
          obtain ⟨a, ys, h1, h2, h3, h4⟩ := o'.c.wn (.inr j) none _ q1
          rw [q2] at h1; cases h1
          exact ⟨b, ys, q3, h2, h3.clean clI, h0 b h4⟩
        · obtain ⟨a, ys, h1, h2, h3, h4⟩ := o.c.wn (.inr i) t ds (low h)
          have nb := keepO (p := .inr i) (low h) h1 (fun m j hm z => by cases z) (fun m z => by
            have := Sum.inr.inj z; omega)
          rw [lowV hi] at h1
          exact ⟨a, ys, by rw [lowV2 hi]; exact h1, nB a nb _ h2, RpO.mono keepT keepL keepX h3, h4⟩
    · -- apart
      have src : ∀ {p : Pos2} {t : Option Nat} {ds : OD}, gs s2 (.ow none d1 :: .ow none d2 :: rs) p = some (.own t ds) → gv σ (.ref a1 :: .ref a2 :: ts) p = some (.ref a) → (∃ j d, p = .inr (rs.length + j) ∧ H a = none ∧ gs as' [.ow none d1, .ow none d2] (.inr j) = some (.ow none d) ∧ gv (xs.map some) [.ref a1, .ref a2] (.inr j) = some (.ref a)) ∨ (H a ≠ none ∧ ∃ t ds, gs s (as.reverse ++ rs) p = some (.own t ds) ∧ gv σ (xs.reverse ++ ts) p = some (.ref a)) := fun {p t ds} k1 k2 => by
        cases p with
        | inl j =>
          have : ∃ t ds, gs s (as.reverse ++ rs) (.inl j) = some (.own t ds) := by
            rcases slot2 (show s2[j]? = some (SD.own t ds) from k1) with ⟨h, _⟩ | ⟨m, t', es, es', k, q, _, h, _⟩
            · exact ⟨t, ds, h⟩
            · exact ⟨t', es, h⟩
          obtain ⟨t', ds', q⟩ := this
          exact .inr ⟨domH a (.inl ⟨.inl j, t', ds', q, k2⟩), t', ds', q, k2⟩
        | inr i =>
          rcases topR k1 with ⟨j, d, b, rfl, q, q1, q2, q3⟩ | ⟨hi, h⟩
          · rw [q3] at k2; cases k2
            exact .inl ⟨j, d, rfl, newR q1 q2, q1, q2⟩
          · rw [lowV2 hi] at k2
            exact .inr ⟨domH a (.inl ⟨.inr i, t, ds, low h, by rw [lowV hi]; exact k2⟩), t, ds, low h, by rw [lowV hi]; exact k2⟩
      rcases src h1 h3 with ⟨j, d, e1, e2, e3, e4⟩ | ⟨n1, t1, ds1, b1, b2⟩
      · rcases src h2 h4 with ⟨j', d', f1, f2, f3, f4⟩ | ⟨n2, _⟩
        · have ej : j = j' := Sum.inr.inj (o'.c.se (.inr j) (.inr j') _ _ _ _ a e3 f3 e4 f4)
          rw [e1, f1, ej]
        · exact absurd e2 n2
      · rcases src h2 h4 with ⟨j', d', f1, f2, f3, f4⟩ | ⟨n2, t2, ds2, c1, c2⟩
        · exact absurd f2 n1
        · exact o.c.se p q _ _ _ _ a b1 c1 b2 c2
    · cases p with
      | inl j =>
        rcases slot2 (show s2[j]? = some (SD.al i) from hp) with ⟨h, _⟩ | ⟨m, t', es, es', k, q, _⟩
        · exact absurd h (o.na j i)
        · cases q
      | inr m =>
        rcases topR hp with ⟨_, _, _, _, q, _⟩ | ⟨hi, h⟩
        · cases q
        · obtain ⟨t, ds, y, h1, h2, h3⟩ := o.c.al (.inr m) i (low h)
          rw [lowV hi] at h3
          have : ∃ t ds, s2[i]? = some (SD.own t ds) := by
            rcases hs2 i with ⟨m', t', es, es', k, _, _, _, d⟩ | ⟨_, b⟩
            · exact ⟨t', es', d⟩
            · exact ⟨t, ds, b.trans h1⟩
          obtain ⟨t', ds', q⟩ := this
          exact ⟨t', ds', y, q, h2, by rw [lowV2 hi]; exact h3⟩
    · cases p with
      | inl j =>
        rcases slot2 (show s2[j]? = some (SD.fz kds) from hp) with ⟨h, _⟩ | ⟨m, t', es, es', k, q, _⟩
        · obtain ⟨a, od, vs, h1, h2, h3, h4⟩ := o.c.fz (.inl j) kds h
          exact ⟨a, od, vs, h1, h2, h3, RpP.mono keepT keepL h4⟩
        · cases q
      | inr m =>
        rcases topR hp with ⟨_, _, _, _, q, _⟩ | ⟨hi, h⟩
        · cases q
        · obtain ⟨a, od, vs, h1, h2, h3, h4⟩ := o.c.fz (.inr m) kds (low h)
          rw [lowV hi] at h1
          exact ⟨a, od, vs, by rw [lowV2 hi]; exact h1, h2, h3, RpP.mono keepT keepL h4⟩
  · rcases slot2 h with ⟨h, _⟩ | ⟨m, t', es, es', k, q, _⟩
    · exact o.na i j h
    · cases q
theorem ds_call2 {f : DSp2} {tl : TA} {E : XK} {tt : TGs} {D0 : DEn} (h : DA ⟨K, ω⟩ tl s rs fun as s1 => (lents as).Nodup ∧ f (entry s1 as 0) fun ds es as' => ∃ s2, after s1 as as' = some s2 ∧ DGs ⟨K, ω⟩ tt [.ow none ds, .ow none es] s2 rs D0.nx) : DS ⟨K, ω⟩ (tAsg (tCall (fnS2 K f) [] E tl) (gTup K 2 tt)) s rs D0 := fun Z σ ts H E' o k1 k2 k3 k4 =>
  h Z σ ts H _ o fun xs H1 s1 as o1 e ⟨hn, hf⟩ => by
    obtain ⟨oe, hB⟩ := o1.enter e hn
    rw [List.append_nil]
    refine ⟨inner Z σ ts xs H1 s1 rs as, entry s1 as 0, _, rfl, fun a ha => (hB a ha).1, oe, hf, fun ds es as' t a b H' o' ht ⟨s2, ha, q⟩ => ?_⟩
    exact ⟨t, [.ref a, .ref b], rfl, .inl ht, rfl, q Z σ ts H' [.ref a, .ref b] E'.nx (o1.back2 e hn o' ha) rfl k1⟩
end
/-- a def of the module that hands back two lists of its own, as its callers see it -/
structure Cal2 (P : Program) (w : World) (K : PySem.W.Frag) (mg : Str → Option Value) (base : Heap) (k : Nat) (x : Str) (ps : List Str) (f : DSp2) : Prop where
  ex : ∃ (a : Addr) (fd : FuncData), mg x = some (.ref a) ∧ PySem.W.keepIn K (.ref a) = true ∧ Binds K fd ps [] ∧ FnOk P w K mg base CX0 k a fd ps (fnS2 K f)
section
variable {X : Cx} (K : PySem.W.Frag) {x : Str} {ps : List Str} {f : DSp2} {k : Nat} {e : Expr} {es : List Expr} {t : TA} {p pos : Pos}
theorem k_cal2 (hk : X.K = K) (c : Cal2 X.prog X.w K X.mg X.base k x ps f) (hr : Room k X.A) (hg : Gl X x) (ha : PA X (e :: es) t)
    (hdb : (x == ("__debug__" : Str)) = false := by decide) (he : starEach (e :: es) X.env = (false, eval e X.env) :: starEach es X.env := by rfl) (hpl : (backTo pos (starEach es X.env)).any (·.1) = false := by rfl) : PE X (.Call (.Name x p) (e :: es) [] pos) (tCall (fnS2 K f) [] E0 t) := by
  subst hk
  refine ⟨fun pins s σ H Q I h => ?_⟩
  obtain ⟨a, fd, h1, h2, h3, h4⟩ := c.ex
  exact (pe_call (pos := pos) (p := p) h4 hr hg h1 h2 h3 .nil pass0 ha hdb he hpl).run pins s σ H Q I h
end
section
variable {X : Cx}
/-- min of a list of ints -/
theorem k_minT (K : PySem.W.Frag) (hk : X.K = K) (hc : X.calm = true) (_ : X.A.units + 64 < cLine) : CallR X (.builtin "min") (rMin K) := by subst hk; exact cr_min hc
end
theorem opc_minL {K : PySem.W.Frag} {s rs : List SD} {Q : SD → List SD → Prop} {r : SD} {ns : List Int} (h : dat s r = some (.list (ns.map .int))) (hl : 0 < ns.length) (q : ∀ m, m ∈ ns → (∀ y, y ∈ ns → m ≤ y) → Q (.v (.int m)) s) : OPC ⟨K, ω⟩ (rMin K) [r] s rs Q := fun Z σ ts H xs R o e k => by
  obtain ⟨x, rfl⟩ : ∃ x, xs = [x] := by match xs, e with | [x], _ => exact ⟨x, rfl⟩
  have o1 : Ok K Z σ (x :: ts) H s (r :: rs) := o
  obtain ⟨a, ys, rfl, h2, h3⟩ := o1.listTop h
  rw [h3.ints] at h2
  exact ⟨a, ns, rfl, h2, hl, fun m h4 h5 => k _ H s _ (o1.pop.pushV (.int _)) (q m h4 h5)⟩
end W8

/-! W9h: sorted(set(xs)) of texts. -/
namespace W8
open PySem L2 RZ PySem.Spec PyProof.Rows
section
variable {P : Program} {w : World}
/-- an entry of a set that holds the text x -/
def Ent (P : Program) (w : World) (x : Str) (e : Int × Value) : Prop := (∃ t, e.2 = Value.str x t) ∧ e.1 = (PySem.strKind P w).hash x
inductive Ents (P : Program) (w : World) : List Str → List (Int × Value) → Prop
  | nil : Ents P w [] []
  | cons {x : Str} {xs : List Str} {e : Int × Value} {l : List (Int × Value)} : Ent P w x e → Ents P w xs l → Ents P w (x :: xs) (e :: l)
theorem Ents.perm {l l' : List (Int × Value)} (p : l'.Perm l) : ∀ {xs : List Str}, Ents P w xs l → ∃ xs', xs'.Perm xs ∧ Ents P w xs' l' := by
  induction p with
  | nil => exact fun h => ⟨_, .refl _, h⟩
  | cons e _ ih =>
    intro xs h
    cases h with
    | cons a r =>
      obtain ⟨ys, p, r'⟩ := ih r
      exact ⟨_ :: ys, p.cons _, .cons a r'⟩
  | swap a b l =>
    intro xs h
    cases h with
    | cons x r => cases r with
      | cons y r => exact ⟨_, .swap _ _ _, .cons y (.cons x r)⟩
  | trans _ _ ih1 ih2 =>
    intro xs h
    obtain ⟨ys, p, r⟩ := ih2 h
    obtain ⟨zs, p2, r2⟩ := ih1 r
    exact ⟨zs, p2.trans p, r2⟩
theorem Ents.len : ∀ {xs : List Str} {l : List (Int × Value)}, Ents P w xs l → l.length = xs.length
  | _, _, .nil => rfl
  | _, _, .cons _ r => congrArg (· + 1) r.len
theorem ent_is {x : Str} {e : Int × Value} (h : Ent P w x e) : (PySem.strKind P w).is x e.2 = true := by
  obtain ⟨⟨t, h1⟩, _⟩ := h
  rw [h1]; exact strKind_is _ _ _ _
theorem Ents.elems : ∀ {xs : List Str} {l : List (Int × Value)}, Ents P w xs l → ElemsOf (PySem.strKind P w) l
  | _, _, .nil, _, he => nomatch he
  | _, _, .cons a r, e, he => by
    rcases List.mem_cons.mp he with rfl | he
    · exact ⟨⟨_, ent_is a, a.2⟩, by obtain ⟨⟨t, h⟩, _⟩ := a; rw [h]; rfl⟩
    · exact r.elems e he
theorem Ents.mem : ∀ {xs : List Str} {l : List (Int × Value)}, Ents P w xs l → ∀ x, x ∈ xs ↔ ∃ e ∈ l, (PySem.strKind P w).is x e.2 = true
  | _, _, .nil, x => ⟨(fun h => nomatch h), (fun ⟨_, h, _⟩ => nomatch h)⟩
  | _, _, .cons (x := y) a r, x => by
    have e := KeyKind.is_eq_decide (ent_is a) x
    constructor
    · intro h
      rcases List.mem_cons.mp h with rfl | h
      · exact ⟨_, List.mem_cons_self, ent_is a⟩
      · obtain ⟨e, he, q⟩ := (r.mem x).mp h
        exact ⟨e, List.mem_cons_of_mem _ he, q⟩
    · rintro ⟨u, hu, q⟩
      rcases List.mem_cons.mp hu with rfl | hu
      · rw [e] at q
        rw [of_decide_eq_true q]; exact List.mem_cons_self
      · exact List.mem_cons_of_mem _ ((r.mem x).mpr ⟨u, hu, q⟩)
/-- the set at a holds the texts xs, each once; it can be walked -/
def TxSet (P : Program) (w : World) (h : Heap) (a : Addr) (xs : List Str) : Prop := ∃ o es ep t, h.get? a = some o ∧ o.ExactSet ∧ o.data = .set es ep t ∧ Ents P w xs es.toList ∧ xs.Nodup ∧ xs.length < scanBound ∧ t.fits es.size = true ∧ Ris t.place.toList ∧ (w.params.followText "set-order" = true ∨ t.led = true)
theorem TxSet.at {h h' : Heap} {a : Addr} {xs : List Str} (R : TxSet P w h a xs) (k : ∀ o, h.get? a = some o → h'.get? a = some o) : TxSet P w h' a xs := by
  obtain ⟨o, es, ep, t, ho, r⟩ := R
  exact ⟨o, es, ep, t, k o ho, r⟩
theorem txset_new {h : Heap} {a : Addr} (ho : h.get? a = some { cls := .type "set", dict := none, data := .set #[] 0 (.fresh 0 0 (!w.params.followText "set-order")) }) : TxSet P w h a [] := by
  refine ⟨_, _, _, _, ho, ⟨rfl, rfl, rfl⟩, rfl, .nil, .nil, by decide, rfl, .nil, ?_⟩
  cases hb : w.params.followText "set-order" with
  | true => exact .inl rfl
  | false => exact .inr rfl
variable {A : Around} {E : Value → Shared → Prop} {s : Shared} {a : Addr} {xs : List Str}
theorem Ents.size {es : Array (Int × Value)} (h : Ents P w xs es.toList) : es.size = xs.length := by rw [← h.len, Array.length_toList]
/-- what a store, and laying anew where the table is too full, leaves -/
theorem txset_stored {g : Bool → Sem Unit} (hg : ∀ (b : Bool) (s1 : Shared) (Q : Unit → Shared → Prop), Q () s1 → wpAny (model P w) A (g b) Q E s1) {o : Obj} {es es1 : Array (Int × Value)} {ep : Nat} {t t1 : SetTable} (ho : s.heap.get? a = some o) (hx : o.ExactSet) (hd : o.data = .set es ep t)
    (he : Ents P w xs es1.toList) (nd : xs.Nodup) (hb : xs.length < scanBound) (hf : t1.fits es1.size = true) (hr : Ris t1.place.toList) (hl : w.params.followText "set-order" = true ∨ t1.led = true) {wd : Bool} {R : Option Bool → Shared → Prop}
    (hR : ∀ h' ys, Heap.SameBut a s.heap h' → TxSet P w h' a ys → ys.Perm xs → R (some true) { s with heap := h' }) :
    wpAny (model P w) A (storeSet a es1 t1 >>= fun _ => if (!wd && t1.tooFull) = true then g (relayAll t1 es1 (SetTable.grown es1.size)).2.2 >>= fun _ => storeSet a (relayAll t1 es1 (SetTable.grown es1.size)).1 (relayAll t1 es1 (SetTable.grown es1.size)).2.1 >>= fun _ => pure (some true) else pure (some true)) R E s := by
  have b1 : es1.size < scanBound := by rw [he.size]; exact hb
  have o1 := store_at (es' := es1) (t' := t1) ho hd
  have s1 := Heap.SameBut.update s.heap a (Obj.putSet es1 t1)
  refine wpAny_bind (wpAny_storeSet_of ho hd ?_ (fits_of_scanBound b1))
  by_cases hfull : (!wd && t1.tooFull) = true
  · rw [if_pos hfull]
    have q1 := relayAll_perm t1 es1 (SetTable.grown es1.size)
    have q2 := relayAll_fits t1 es1 (SetTable.grown es1.size)
    have q3 := relayAll_ris t1 es1 (SetTable.grown es1.size)
    have q4 := relayAll_led t1 es1 (SetTable.grown es1.size)
    obtain ⟨⟨es2, t2, gv⟩, hZ⟩ : ∃ Z, relayAll t1 es1 (SetTable.grown es1.size) = Z := ⟨_, rfl⟩
    rw [hZ] at q1 q2 q3 q4 ⊢
    obtain ⟨ys, p, he2⟩ := he.perm q1
    have b2 : es2.size < scanBound := by rw [he2.size, p.length_eq]; exact hb
    refine wpAny_bind (hg _ _ _ (wpAny_bind (wpAny_storeSet_of o1 rfl ?_ (fits_of_scanBound b2))))
    refine wpAny_pure (hR _ ys (s1.trans (Heap.SameBut.update _ a _)) ⟨_, es2, _, t2, store_at (es' := es2) (t' := t2) o1 rfl, hx, rfl, he2, p.nodup_iff.mpr nd, by rw [p.length_eq]; exact hb, q2, q3, ?_⟩ p)
    rcases hl with z | z
    · exact .inl z
    · exact .inr (q4.trans z)
  · rw [if_neg hfull]
    exact wpAny_pure (hR _ xs s1 ⟨_, es1, _, t1, o1, hx, rfl, he, nd, hb, hf, hr, hl⟩ (.refl _))
theorem txset_add {x : Str} {tk : Tok} {Q : Bool → Shared → Prop} (R : TxSet P w s.heap a xs) (room : xs.length + 1 < scanBound)
    (hQ : ∀ b h' ys, Heap.SameBut a s.heap h' → TxSet P w h' a ys → (∀ y, y ∈ ys ↔ y ∈ xs ∨ y = x) → ys.length ≤ xs.length + 1 → Q b { s with heap := h' }) :
    wpAny (model P w) A (setAddHashed a (.str x tk) ((PySem.strKind P w).hash x)) Q E s := by
  obtain ⟨o, es, ep, t, ho, hx, hd, he, nd, hb, hf, hr, hl⟩ := id R
  have hk : (PySem.strKind P w).is x (.str x tk) = true := strKind_is _ _ _ _
  have hs : (Value.str x tk).scannable = true := rfl
  have hbs : es.size < scanBound := by rw [he.size]; exact hb
  unfold setAddHashed setAddHashedIn
  refine wpAny_holding (wpAny_bind (wpAny_setState_of ho hd hf ?_))
  dsimp only
  rw [byScan_of hs hbs he.elems]
  simp only [if_true]
  unfold setAddByScan
  refine wpAny_bind (wpAny_bind (wpAny_rule (wpAny_bind (wpAny_setScan_of hk ho hd hf he.elems ?_))))
  cases hi : List.findIdx? (fun e => (PySem.strKind P w).is x e.2) es.toList with
  | some j =>
    obtain ⟨hj, pj, _⟩ := List.findIdx?_eq_some_iff_getElem.mp hi
    have hm : x ∈ xs := (he.mem x).mpr ⟨_, List.getElem_mem hj, pj⟩
    refine wpAny_pure (wpAny_pure ?_)
    exact hQ _ s.heap xs (Heap.SameBut.refl a s.heap) R (fun y => ⟨.inl, fun z => z.elim id fun e => by rw [e]; exact hm⟩) (Nat.le_succ _)
  | none =>
    have hm : x ∉ xs := fun z => by
      obtain ⟨e, h1, h2⟩ := (he.mem x).mp z
      have := List.findIdx?_eq_none_iff.mp hi e h1
      rw [h2] at this; cases this
    have gw : ∀ (b : Bool) (s1 : Shared) (Q1 : Unit → Shared → Prop), Q1 () s1 → wpAny (model P w) A (match b with | true => rule "set.scan.the-table-gave-way" | false => pure ()) Q1 E s1 := fun b s1 Q1 q => by
      cases b
      · exact wpAny_pure q
      · exact wpAny_rule q
    have q1 := layNew_perm t es ((PySem.strKind P w).hash x) (.str x tk)
    have q2 := layNew_fits t es ((PySem.strKind P w).hash x) (.str x tk)
    have q3 := layNew_ris t es ((PySem.strKind P w).hash x) (.str x tk) hr
    have q4 := layNew_led t es ((PySem.strKind P w).hash x) (.str x tk)
    obtain ⟨⟨es1, t1, wd, gv⟩, hZ⟩ : ∃ Z, layNew t es ((PySem.strKind P w).hash x) (.str x tk) = Z := ⟨_, rfl⟩
    dsimp only
    rw [hZ] at q1 q2 q3 q4 ⊢
    dsimp only at q1 q2 q3 q4 ⊢
    rw [Array.toList_push] at q1
    obtain ⟨ys, p, he1⟩ := (Ents.cons (x := x) ⟨⟨tk, rfl⟩, rfl⟩ he).perm (q1.trans (List.perm_append_singleton _ _))
    have l1 : w.params.followText "set-order" = true ∨ t1.led = true := hl.imp id fun z => q4.trans z
    have n1 : ys.Nodup := p.nodup_iff.mpr (List.nodup_cons.mpr ⟨hm, nd⟩)
    have c1 : ys.length = xs.length + 1 := p.length_eq
    have fin : ∀ h' zs, Heap.SameBut a s.heap h' → TxSet P w h' a zs → zs.Perm ys → Q true { s with heap := h' } := fun h' zs sb r pz => by
      have pz := pz.trans p
      refine hQ true h' zs sb r (fun y => ?_) (Nat.le_of_eq pz.length_eq)
      rw [pz.mem_iff, List.mem_cons]
      exact or_comm
    refine wpAny_bind (gw _ _ _ ?_)
    by_cases hp : t1.plain = true
    · first | rw [if_pos hp] | simp only [hp, if_true]
      refine wpAny_bind ?_
      rw [hashByValue_scannable 8 hs]
      refine wpAny_pure ?_
      try simp only [if_true]
      refine txset_stored gw ho hx hd he1 n1 (by omega) ?_ ?_ ?_ ?_
      · first | exact q2 | (split <;> first | exact q2 | exact SetTable.fits_plain_off q2) | exact SetTable.fits_plain_off q2
      · first | exact q3 | (split <;> exact q3)
      · first | exact l1 | (split <;> exact l1)
      · intro h' zs sb r pz
        first | exact wpAny_pure (fin h' zs sb r pz) | (dsimp only; exact wpAny_pure (fin h' zs sb r pz))
    · first | rw [if_neg hp] | simp only [hp]
      refine wpAny_bind (wpAny_pure ?_)
      try simp only [if_true]
      refine txset_stored gw ho hx hd he1 n1 (by omega) ?_ ?_ ?_ ?_
      · first | exact q2 | (split <;> first | exact q2 | exact SetTable.fits_plain_off q2) | exact SetTable.fits_plain_off q2
      · first | exact q3 | (split <;> exact q3)
      · first | exact l1 | (split <;> exact l1)
      · intro h' zs sb r pz
        first | exact wpAny_pure (fin h' zs sb r pz) | (dsimp only; exact wpAny_pure (fin h' zs sb r pz))
end
theorem take_snoc1 {α : Type} {l : List α} {i : Nat} {x : α} (h : l[i]? = some x) : l.take (i + 1) = l.take i ++ [x] := by rw [List.take_succ, h]; rfl
section
variable {P : Program} {w : World} {A : Around} {E : Value → Shared → Prop} {s : Shared}
/-- all that is walked comes into the set -/
theorem txset_loop {I S : Addr} {fp wr : List Addr} {G : Array GenState → Array GenState → Prop} {n : Nat} {Pv : Nat → Value → Prop} {St : Nat → Shared → Prop} {R : Result → Shared → Prop} (W : WalksS P w A.in1 I fp wr G n Pv St) (hS : S ∉ fp) (zs : List Str) (hn : n = zs.length) (hb : zs.length + 1 < scanBound)
    (hv : ∀ i v, Pv i v → ∃ x t, zs[i]? = some x ∧ v = .str x t) : ∀ (m i : Nat) (s : Shared) (xs : List Str), n - i = m → i ≤ n → St i s → TxSet P w s.heap S xs → xs.length ≤ i → (∀ y, y ∈ xs ↔ y ∈ zs.take i) →
      (∀ s' ys, Moved (S :: wr) G s s' → TxSet P w s'.heap S ys → ys.length ≤ n → (∀ y, y ∈ ys ↔ y ∈ zs) → R (.ok (.ret .none)) s') → codeAny (model P w) A (.builtin "set.update.loop" ⟨[.ref S, .ref I], []⟩) R s
  | 0, i, s, xs, hm, hi, hst, hT, hl, he, hR => by
    have hw : S ∉ wr := fun h => hS (W.sub _ h)
    obtain rfl : i = n := by omega
    refine codeAny_builtin F.entry_set_update_loop ?_
    rw [Around.under_plainId F.plain_set_update_loop _]
    refine wpAny_bind (W.done s _ _ hst fun s' mv => wpAny_pure (hR s' xs (mv.mono fun b h => List.mem_cons_of_mem _ h) (hT.at fun o e => mv.heap S o hw e) hl fun y => ?_))
    rw [he, List.take_of_length_le (by omega)]
  | m + 1, i, s, xs, hm, hi, hst, hT, hl, he, hR => by
    have hw : S ∉ wr := fun h => hS (W.sub _ h)
    have hlt : i < n := by omega
    refine codeAny_builtin F.entry_set_update_loop ?_
    rw [Around.under_plainId F.plain_set_update_loop _]
    refine wpAny_bind (W.item i s _ _ hlt hst fun v s1 hP hst1 mv => ?_)
    obtain ⟨x, t, hx, rfl⟩ := hv i v hP
    have hT1 := hT.at (h' := s1.heap) fun o e => mv.heap S o hw e
    show wpAny _ A.in1 (holding [Value.str x t] (setAdd S (.str x t)) >>= _) _ _ s1
    unfold setAdd
    refine wpAny_bind (wpAny_holding (wpAny_holding (wpAny_bind ((PySem.strKind P w).pyHash (k := x) (strKind_is _ _ _ _) ?_))))
    refine txset_add (s := { s1 with toks := s1.toks + 1 }) hT1 (by omega) fun b h' ys sb r hy hyl => ?_
    have other : ∀ c o, c ≠ S → s1.heap.get? c = some o → h'.get? c = some o := fun c o hc e => by rw [sb.2 c hc]; exact e
    refine wpAny_pure ⟨plainId_quiet F.plain_set_update_loop _, txset_loop W hS zs hn hb hv m (i + 1) _ ys (by omega) hlt (W.frame _ s1 _ _ hst1 (Nat.le_succ _) fun c hc o e => other c o (fun z => hS (by rw [← z]; exact hc)) e) r (by omega) (fun y => ?_) fun s2 us mv2 r2 hul hu => ?_⟩
    · rw [hy, he, take_snoc1 hx, List.mem_append, List.mem_singleton]
    · refine hR s2 us (Moved.trans W.gtrans ((mv.mono fun b h => List.mem_cons_of_mem _ h).then_heap (Nat.le_succ _) fun c o hc e => ?_) mv2) r2 hul hu
      exact other c o (fun z => hc (by rw [z]; exact List.mem_cons_self)) e
end
section
variable {P : Program} {w : World} {A : Around} {E : Value → Shared → Prop} {s : Shared}
/-- an empty set as the model makes it -/
abbrev noSet (w : World) : Obj := { cls := .type "set", dict := none, data := .set #[] 0 (.fresh 0 0 (!w.params.followText "set-order")) }
set_option maxRecDepth 100000 in
set_option maxHeartbeats 4000000 in
theorem call_set_txs {l : Addr} {items : Array Value} (zs : List Str) {Q : Value → Shared → Prop} (hh : A.handled = none) (hl : s.heap.IsList l items) (hsz : items.size = zs.length) (hb : zs.length + 1 < scanBound) (hv : ∀ (i : Nat) (v : Value), items[i]? = some v → ∃ x t, zs[i]? = some x ∧ v = .str x t)
    (h : ∀ h' tk xs, TxSet P w h' s.heap.objs.size xs → xs.length ≤ zs.length → (∀ y, y ∈ xs ↔ y ∈ zs) → (∀ b o, s.heap.get? b = some o → h'.get? b = some o) → Q (.ref s.heap.objs.size) { s with heap := h', toks := tk }) :
    wpAny (model P w) A (call (.type "set") [.ref l]) Q E s := by
  have o0 : (s.heap.push (noSet w)).get? s.heap.objs.size = some (noSet w) := Heap.get?_push_size _ rfl
  have t0 : Shared.TypeIs { s with heap := s.heap.push (noSet w) } (.ref s.heap.objs.size) "set" := ⟨_, o0, rfl⟩
  have z0 : (s.heap.push (noSet w)).objs.size = s.heap.objs.size + 1 := Heap.size_push ..
  obtain ⟨c, tl, m1⟩ := F.called_set.mro
  have m2 := F.called_set.made
  have m3 := F.called_set.sub
  have m4 := F.called_set.notType
  have m5 := F.called_set.canCreate
  have m6 := F.typeCall_set_1 (.ref l)
  have m7 := F.called_set.init.lookup
  have m8 := F.called_set.init.bind (.ref s.heap.objs.size)
  refine wpAny_call (codeAny_of_tree (show wpAny _ _ (callAny (.type "set") _) _ _ _ from wpAny_pure ⟨Code.quiet_builtin _ (by decide +kernel), codeAny_builtin F.entry_type_call ?_⟩))
  rw [Around.under_plain (weight_type_call_type "set" [.ref l] []) rfl]
  repeat (any_goals (first | assumption | wp_step))
  refine codeAny_mono (code_set_led1 (.ref l) (E := E) (Q₁ := fun v s1 => v = .ref s.heap.objs.size ∧ s1 = { s with heap := s.heap.push (noSet w) }) ⟨rfl, rfl⟩) fun r s1 hr => ?_
  rcases r with e | fl
  · exact hr
  rcases fl with _ | r
  all_goals first | exact hr.elim | skip
  obtain ⟨rfl, rfl⟩ := hr
  repeat (any_goals (first | assumption | wp_step))
  refine codeAny_mono (codeAny_call_builtin (R := wants (fun r s2 => r = .none ∧ ∃ h' tk xs, s2 = { s with heap := h', toks := tk } ∧ TxSet P w h' s.heap.objs.size xs ∧ xs.length ≤ zs.length ∧ (∀ y, y ∈ xs ↔ y ∈ zs) ∧ ∀ b o, s.heap.get? b = some o → h'.get? b = some o) E) F.called_set.init.plain F.entry_set_init (check_set_init_1 t0 ?_)) fun r2 s2 hr2 => ?_
  · have k0 : ∀ b, s.heap.objs.size ≠ b → s.heap.objs.size + 1 ≠ b → b ∉ [s.heap.objs.size, s.heap.objs.size + 1] := fun b h1 h2 hm => by
      rcases List.mem_cons.mp hm with e | hm
      · exact h1 e.symm
      · exact h2 (List.mem_singleton.mp hm).symm
    have l1 : (s.heap.push (noSet w)).IsList l items := hl.push _
    obtain ⟨⟨_, d0, _, s0⟩, q1, e1, n, e2⟩ := hl
    dsimp only at e1 e2
    subst e1 e2
    have ll : l < s.heap.objs.size := Heap.lt_size q1
    have q2 := Heap.get?_push_of_some (noSet w) q1
    have n1 := F.sub_list_set
    have n2 := F.sub_list_frozenset
    have n3 : (Value.type "list" == Value.type "dict") = false := by decide
    unfold Builtin.«set.__init__» noKeywords Builtin.Frozenset.updateFrom
    generalize hit : pyIter = it
    wp_walk
    subst hit
    refine wpAny_pyIter_list l1 (wpAny_bind (wpAny_runValue ?_))
    have W := (Walks.list (prog := P) (w := w) (A := A.in1.in1.in1) (by simp [hh]) (s.heap.push (noSet w)).objs.size l (by rw [z0]; exact Nat.ne_of_lt (Nat.lt_succ_of_lt ll)) items).toS
    refine txset_loop W (S := s.heap.objs.size) (by rw [z0]; exact fun hm => (List.mem_cons.mp hm).elim (fun e => Nat.ne_of_lt (Nat.lt_succ_self _) e) (fun hm => Nat.ne_of_gt ll (List.mem_singleton.mp hm))) zs hsz hb hv items.size 0 _ [] (by omega) (Nat.zero_le _) ⟨⟨_, Heap.get?_push_size _ rfl, rfl, rfl⟩, l1.push _⟩ (txset_new (Heap.get?_push_of_some _ o0)) (Nat.le_refl _) (fun y => by rw [List.take_zero]) ?_
    rintro ⟨h', g', d', tk', os'⟩ ys mv r hl' hy
    obtain rfl : g' = s.gens := mv.gens
    obtain rfl : d' = s.drawn := mv.drawn
    obtain rfl : os' = s.os := mv.os
    refine wpAny_pure (wpAny_pure ⟨rfl, h', tk', ys, rfl, r, by omega, hy, fun b o e => ?_⟩)
    have hlt := Heap.lt_size e
    refine mv.heap b o (fun hm => ?_) (Heap.get?_push_of_some _ (Heap.get?_push_of_some _ e))
    rw [z0] at hm
    exact k0 b (Nat.ne_of_gt hlt) (Nat.ne_of_gt (Nat.lt_succ_of_lt hlt)) hm
  · rcases r2 with e | fl2
    · exact hr2
    rcases fl2 with _ | r2
    all_goals first | exact hr2.elim | skip
    obtain ⟨rfl, h', tk, xs, rfl, k1, k2, k3, k4⟩ := hr2
    repeat (any_goals (first | assumption | wp_step))
    exact h _ _ _ k1 k2 k3 k4
end
section
variable {P : Program} {w : World} {A : Around} {E : Value → Shared → Prop} {s : Shared}
theorem Ents.strs : ∀ {xs : List Str} {l : List (Int × Value)}, Ents P w xs l → StrsAre (l.map (·.2)) xs
  | _, _, .nil => .nil
  | _, _, .cons (e := e) a r => by
    obtain ⟨⟨t, h⟩, _⟩ := a
    rw [List.map_cons, h]
    exact .cons _ t r.strs
theorem strs_perm {us vs : List Value} (p : us.Perm vs) : ∀ {xs : List Str}, StrsAre vs xs → ∃ ys, ys.Perm xs ∧ StrsAre us ys := by
  induction p with
  | nil => exact fun h => ⟨_, .refl _, h⟩
  | cons e _ ih =>
    intro xs h
    cases h with
    | cons a t r =>
      obtain ⟨ys, p, r'⟩ := ih r
      exact ⟨_ :: ys, p.cons _, .cons _ _ r'⟩
  | swap a b l =>
    intro xs h
    cases h with
    | cons x t r => cases r with
      | cons y u r => exact ⟨_, .swap _ _ _, .cons _ _ (.cons _ _ r)⟩
  | trans _ _ ih1 ih2 =>
    intro xs h
    obtain ⟨ys, p, r⟩ := ih2 h
    obtain ⟨zs, p2, r2⟩ := ih1 r
    exact ⟨zs, p2.trans p, r2⟩
theorem sorted_txset {a : Addr} {xs : List Str} {Q : Value → Shared → Prop} (R : TxSet P w s.heap a xs) (hh : A.handled = none) (h64 : xs.length < 64)
    (hQ : ∀ s' p (out : Array Value) (c : Nat) ys, (∀ b o, s.heap.get? b = some o → s'.heap.get? b = some o) → s'.gens = s.gens → s'.os = s.os → s.heap.objs.size ≤ p → s'.heap.get? p = some (seqObj "list" out c) → StrsAre out.toList ys → ys.Perm xs → sortedS ys = true → Q (.ref p) s') :
    wpAny (model P w) A (call (.builtin "sorted") [.ref a]) Q E s := by
  obtain ⟨o, es, ep, t, ho, hx, hd, he, nd, hb, hf, hr, hl⟩ := R
  refine Calls.call_function_entry kind_sorted plain_sorted entry_sorted (args_sorted1 _) ?_
  unfold Builtin.«sorted»
  refine wpAny_bind (m := checkCount "sorted" 1 1 _) (wpAny_pure (wpAny_bind (collect_set (A := A.in1) hh ⟨o, ho, hx.1, hd⟩ hf (by rw [he.size]; exact hb) hr hl fun s1 vs k1 z1 g1 o1 p1 => ?_)))
  obtain ⟨ys, py, sy⟩ := strs_perm p1 he.strs
  have vl : vs.length = xs.length := by rw [p1.length_eq, List.length_map, he.len]
  refine wpAny_bind (wpAny_newList ?_ (by rw [vl, sizeLine_eq]; omega))
  have hL : (s1.heap.push (seqObj "list" vs.toArray 0)).get? s1.heap.objs.size = some (seqObj "list" vs.toArray 0) := Heap.get?_push_size _ rfl
  refine wpAny_bind (wpAny_holding (wpAny_call_entry slot_list_sort ⟨_, hL, rfl⟩ entry_list_sort (list_sort_treeK strKind_oneLt hL sy.keysOf (fun v1 v2 rest e => keyKind_strs (by rw [← e]; exact sy)) (by rw [vl]; exact h64) fun st hp hs => ⟨_, rfl, ?_⟩) (args_list_sort _)))
  obtain ⟨zs, q1, q2, q3⟩ := sorted_out_str sy hp hs
  obtain ⟨c, hc⟩ := sortedHeap_at (vs := vs) (out := (arrOf st).map (·.2)) hL
  refine wpAny_pure ⟨_, rfl, hQ _ s1.heap.objs.size _ c zs (fun b u e => ?_) g1 o1 z1 hc q1 (q2.trans py) q3⟩
  have hlt := Heap.lt_size (k1 b u e)
  exact (sortedHeap_old (Nat.ne_of_lt hlt) (by rw [size_push']; exact Nat.lt_succ_of_lt hlt)).trans (Heap.get?_push_of_some _ (k1 b u e))
theorem strs_get : ∀ {vs : List Value} {xs : List Str}, StrsAre vs xs → ∀ {i : Nat} {v : Value}, vs[i]? = some v → ∃ x t, xs[i]? = some x ∧ v = .str x t
  | _, _, .nil, _, _, h => nomatch h
  | _, _, .cons x t r, 0, v, h => ⟨x, t, rfl, (Option.some.inj h).symm⟩
  | _, _, .cons x t r, i + 1, v, h => strs_get r (i := i) h
theorem rpA_strs {K : PySem.W.Frag} {C : Addr → Prop} {H : Hp} : ∀ xs : List Str, RpA K C H (xs.map V.str) (xs.map .str)
  | [] => .nil
  | x :: xs => .cons (.str x) (rpA_strs xs)
def SetXO (P : Program) (w : World) (a : Addr) (xs : List Str) : HO := .ext fun h => TxSet P w h a xs
theorem setXO_new {H : Hp} {h : Heap} {a : Addr} {xs : List Str} (R : TxSet P w h a xs) : ObjOk P w H h a (SetXO P w a xs) := by
  obtain ⟨o, _, _, _, ho, _⟩ := id R
  exact ⟨R, ⟨o, ho⟩, fun h1 h2 p k => TxSet.at p k⟩
end
section
variable {X : Cx}
def rSetX (K : PySem.W.Frag) (P : Program) (w : World) : List V → Hp → VK → Prop := fun vs H Q => ∃ (l : Addr) (xs : List Str), vs = [.ref l] ∧ SqL K H l (xs.map V.str) ∧ xs.length < 64 ∧ ∀ a ys, H a = none → (∀ y, y ∈ ys ↔ y ∈ xs) → ys.length ≤ xs.length → Q (.ref a) (upd H a (SetXO P w a ys))
theorem cr_setX (hc : X.calm = true) : CallR X (.type "set") (rSetX X.K X.prog X.w) := by
  rintro pins s σ H vs us Q I r ⟨l, xs, rfl, hl, h64, q⟩
  obtain ⟨its, rv, pl, hz⟩ := I.list hl
  have si := rv.strs
  rw [Vals.ref1 r]
  have hlen : its.length = xs.length := by rw [← rv.length, List.length_map]
  refine call_set_txs (P := X.prog) (w := X.w) xs (I.ok.hd hc) pl.isList (by simpa using hlen) (by unfold scanBound; omega) (fun i v hv => ?_) fun h' tk ys R hy hm k => ?_
  · exact strs_get si (by simpa using hv)
  · exact ⟨.ref s.heap.objs.size, upd H s.heap.objs.size (SetXO X.prog X.w s.heap.objs.size ys), I.laid (t' := tk) k (Nat.le_refl _) (setXO_new R), rfl, q _ ys (I.hok.fresh (Nat.le_refl _)) hm hy⟩
def rSortedX (P : Program) (w : World) : List V → Hp → VK → Prop := fun vs H Q => ∃ (a : Addr) (xs : List Str), vs = [.ref a] ∧ H a = some (SetXO P w a xs) ∧ xs.length < 64 ∧ ∀ ys p, ys.Perm xs → ys.Nodup → sortedS ys = true → H p = none → Q (.ref p) (upd H p (.lst (ys.map V.str)))
theorem cr_sortedX (hc : X.calm = true) : CallR X (.builtin "sorted") (rSortedX X.prog X.w) := by
  rintro pins s σ H vs us Q I r ⟨a, xs, rfl, ha, h64, q⟩
  have R : TxSet X.prog X.w s.heap a xs := (I.hok a _ ha).1
  rw [Vals.ref1 r]
  refine sorted_txset R (I.ok.hd hc) h64 fun s' p out c ys k g o hp hg hs pm so => ?_
  have nd : ys.Nodup := by
    obtain ⟨_, _, _, _, _, _, _, _, nd, _⟩ := R
    exact pm.nodup_iff.mpr nd
  have hn : H p = none := I.hok.fresh hp
  have hl : (ys.map V.str).length ≤ sizeLine := by rw [List.length_map, pm.length_eq]; exact small64 h64
  have J : Inv X pins σ (upd H p (.lst (ys.map V.str))) { s with heap := s'.heap, gens := s'.gens, drawn := s'.drawn, toks := s'.toks } :=
    I.call (ch := []) (Un.laid k hp hn) (I.hok.laid k hp ⟨hl, out.toList, c, vals_of_strs hs, hg⟩) (by rw [g]; exact I.bare) (fun _ z => nomatch z)
  obtain ⟨h', g', d', t', os'⟩ := s'
  obtain rfl : os' = s.os := o
  exact ⟨.ref p, _, J, rfl, q ys p pm nd so hn⟩
theorem k_setX (K : PySem.W.Frag) (hk : X.K = K) (hc : X.calm = true) : CallR X (.type "set") (rSetX K X.prog X.w) := by subst hk; exact cr_setX hc
end
section
variable {K : PySem.W.Frag} {s rs : List SD} {Q : SD → List SD → Prop} {P : Program} {w : World}
/-- sorted(set(xs)) of texts -/
theorem de_sortedSetX {te : TE} (h : DE ⟨K, ω⟩ te s rs fun r s1 => ∃ xs : List Str, dat s1 r = some (.list (xs.map .str)) ∧ xs.length < 64 ∧ ∀ ys : List Str, (∀ y, y ∈ ys ↔ y ∈ xs) → ys.Nodup → sortedS ys = true → ys.length ≤ xs.length → Q (.ow none (ys.map .str)) s1) :
    DE ⟨K, ω⟩ (tCB (rSortedX P w) (tCons (tCB (rSetX K P w) (tCons te tNil)) tNil)) s rs Q := fun Z σ ts H R o k => by
  refine h Z σ ts H _ o fun x H1 s1 r o1 ⟨xs, e, hl, q⟩ => ?_
  obtain ⟨a, vs, rfl, h1, h2⟩ := o1.listTop e
  have hv : vs = xs.map V.str := h2.strs
  rw [hv] at h1
  refine ⟨a, xs, rfl, h1, hl, fun sa ys hsa hm hyl => ?_⟩
  have ext : ∀ b u, H1 b = some u → upd H1 sa (SetXO P w sa ys) b = some u := fun b u hb => by rw [upd_ne (ne_of_none hb hsa)]; exact hb
  refine ⟨sa, ys, rfl, upd_same, by omega, fun zs p pm nd so hp => ?_⟩
  have o2 := o1.pop.ext ext
  exact k _ _ s1 _ (o2.pushO hp (rpA_strs zs)) (q zs (fun y => by rw [pm.mem_iff]; exact hm y) nd so (by rw [pm.length_eq]; exact hyl))
end
end W8

/-! W9i: a tuple so often. -/
namespace W8
open PySem L2 RZ
theorem k_repT {X : Cx} (K : PySem.W.Frag) (hk : X.K = K) : OpR X (binaryOp .Mult) (rRepT K) := by subst hk; exact op_repT
section
variable {K : PySem.W.Frag} {s rs : List SD} {Q : SD → List SD → Prop} {ds : List D}
theorem op2_repT {n : Int} (h : ds ≠ []) (h2 : 2 ≤ n ∧ n ≤ 1000) (hl : ds.length ≤ 1000) (q : Q (.v (.tuple (List.replicate n.toNat ds).flatten)) s) : OP2 ⟨K, ω⟩ (rRepT K) (.v (.tuple ds)) (.v (.int n)) s rs Q := fun Z σ ts H x y R o k => by
  have hy := o.top
  cases hy
  obtain ⟨a, ys, rfl, a2, a3⟩ := o.pop.tupTop rfl
  have le := a3.length
  refine ⟨a, n, ys, rfl, rfl, a2, fun z => h (List.eq_nil_of_length_eq_zero (by rw [z] at le; simpa using le.symm)), h2.1, h2.2, by omega, fun p hp => ?_⟩
  have ext : ∀ c u, H c = some u → upd H p (.tup (List.replicate n.toNat ys).flatten) c = some u := fun c u ha => by rw [upd_ne (ne_of_none ha hp)]; exact ha
  exact k _ _ s _ ((o.pop.pop.ext ext).pushV (.tup (SqT.of upd_same) (RpA.mono (fun _ _ => rd_ext ext) (fun _ _ q r => ⟨q, rd_ext ext r⟩) _ _ (a3.flatrep _)))) q
end
end W8

/-! W9j: truths among numbers; upper. -/
namespace W8
open PySem L2 RZ
theorem slot_bool_neg : Slot "bool" "__neg__" "int.__neg__" :=
  .of (owner := "int") (n := "__neg__") (by rw [typeLookup_type, builtinLookup_eq_fast]; kernel_rfl) (by decide +kernel) (by decide +kernel) (by decide +kernel)
    (by first | exact .inl (by decide +kernel) | exact .inr (by decide +kernel)) (by rw [isSubtype_type]; kernel_rfl)
theorem neg_bool {prog : Program} {w : World} {A : Around} {E : Value → Shared → Prop} {s : Shared} {b : Bool} {Q : Value → Shared → Prop} (h : Q (.int (-(PyProof.Rows.b2i b)) s.toks) { s with toks := s.toks + 1 }) : wpAny (model prog w) A (unaryOp .USub (.bool b)) Q E s := by
  have g : Gives (Builtin.«int.__neg__» ⟨[.bool b], []⟩) (.int (-(PyProof.Rows.b2i b))) := .of_eq (by cases b <;> rfl)
  exact unaryOp_gives (op := .USub) (typeIs_bool s b) rfl slot_bool_neg F.entry_int_neg (F.args_int_neg_1 _) g h
section
variable {X : Cx}
theorem un_negB : UnR X (unaryOp .USub) (fun x H Q => rU (fun i => .int (-i)) x H Q ∨ ∃ b, x = .bl b ∧ Q (.int (-(PyProof.Rows.b2i b))) H) := by
  intro pins s σ H x v Q I rx h
  rcases h with h | ⟨b, rfl, q⟩
  · exact un_neg pins s σ H x v Q I rx h
  · cases rx
    exact neg_bool ⟨.int (-(PyProof.Rows.b2i b)), H, I.tok _, ⟨_, rfl⟩, q⟩
def rAddBo : R2 := fun x y H Q => ∃ b j, x = .bl b ∧ y = .int j ∧ Q (.int (PyProof.Rows.b2i b + j)) H
theorem op_addBo : OpR X (binaryOp .Add) rAddBo := by
  intro pins s σ H x y v u Q I rx ry h
  obtain ⟨b, j, rfl, rfl, q⟩ := h
  obtain ⟨t, rfl⟩ := ry
  cases rx
  exact IntBool.add_bool_int ⟨.int (PyProof.Rows.b2i b + j), H, I.tok _, ⟨_, rfl⟩, q⟩
def rSubBo : R2 := fun x y H Q => ∃ b j, x = .bl b ∧ y = .int j ∧ Q (.int (PyProof.Rows.b2i b - j)) H
theorem op_subBo : OpR X (binaryOp .Sub) rSubBo := by
  intro pins s σ H x y v u Q I rx ry h
  obtain ⟨b, j, rfl, rfl, q⟩ := h
  obtain ⟨t, rfl⟩ := ry
  cases rx
  exact IntBool.sub_bool_int ⟨.int (PyProof.Rows.b2i b - j), H, I.tok _, ⟨_, rfl⟩, q⟩
def rMulBo : R2 := fun x y H Q => ∃ i b, x = .int i ∧ y = .bl b ∧ Q (.int (i * PyProof.Rows.b2i b)) H
theorem op_mulBo : OpR X (binaryOp .Mult) rMulBo := by
  intro pins s σ H x y v u Q I rx ry h
  obtain ⟨i, b, rfl, rfl, q⟩ := h
  obtain ⟨t, rfl⟩ := rx
  cases ry
  exact IntBool.mul_int_bool ⟨.int (i * PyProof.Rows.b2i b), H, I.tok _, ⟨_, rfl⟩, q⟩
theorem op_subA : OpR X (binaryOp .Sub) (fun x y H Q => rI0 (fun i j => .int (i - j)) x y H Q ∨ rSubBo x y H Q) := op_sub.or op_subBo
def rMulX : R2 := fun x y H Q => rI CMulX (fun i j => .int (i * j)) x y H Q ∨ rMulBo x y H Q
theorem op_mulXB : OpR X (binaryOp .Mult) rMulX := op_mulX.or op_mulBo
def rAddX (K : PySem.W.Frag) : R2 := fun x y H Q => rAddB K x y H Q ∨ rAddBo x y H Q
theorem k_addX (K : PySem.W.Frag) (hk : X.K = K) : OpR X (binaryOp .Add) (rAddX K) := (op_addB K hk).or op_addBo
end
/-- what a number or a truth counts as -/
def cnt : D → Option Int
  | .int i => some i
  | .bool b => some (PyProof.Rows.b2i b)
  | _ => none
section
variable {K : PySem.W.Frag} {s rs : List SD} {Q : SD → List SD → Prop} {d : D}
theorem op1_negB {i : Int} (h : cnt d = some i) (q : Q (.v (.int (-i))) s) : OP1 ⟨K, ω⟩ (fun x H Q => rU (fun i => .int (-i)) x H Q ∨ ∃ b, x = .bl b ∧ Q (.int (-(PyProof.Rows.b2i b))) H) (.v d) s rs Q := by
  cases d with
  | int j => cases h; exact fun Z σ ts H x R o k => .inl (op1_neg (K := K) q Z σ ts H x R o k)
  | bool b =>
    cases h
    exact fun Z σ ts H x R o k => .inr (by
      have h1 := o.top
      cases h1
      exact ⟨b, rfl, k _ H s _ (o.pop.pushV (.int _)) q⟩)
  | _ => cases h
theorem op2_addX {i j : Int} (h : cnt d = some i) (q : Q (.v (.int (i + j))) s) : OP2 ⟨K, ω⟩ (rAddX K) (.v d) (.v (.int j)) s rs Q := by
  cases d with
  | int i' => cases h; exact op2_orL (op2_addBI q)
  | bool b =>
    cases h
    exact op2_orR fun Z σ ts H x y R o k => by
      have h1 := o.top
      have h2 := o.pop.top
      cases h1; cases h2
      exact ⟨b, j, rfl, rfl, k _ H s _ (o.pop.pop.pushV (.int _)) q⟩
  | _ => cases h
theorem op2_addXT {a b : Str} (h : a.length + b.length ≤ sizeLine) (q : Q (.v (.str (a ++ b))) s) : OP2 ⟨K, ω⟩ (rAddX K) (.v (.str a)) (.v (.str b)) s rs Q := op2_orL (op2_addBT h q)
theorem op2_addXB {f1 f2 : SD} (h : OP2 ⟨K, ω⟩ (rAddB K) f1 f2 s rs Q) : OP2 ⟨K, ω⟩ (rAddX K) f1 f2 s rs Q := op2_orL h
theorem op2_subB {i j : Int} (h : cnt d = some i) (q : Q (.v (.int (i - j))) s) : OP2 ⟨K, ω⟩ (fun x y H Q => rI0 (fun i j => .int (i - j)) x y H Q ∨ rSubBo x y H Q) (.v d) (.v (.int j)) s rs Q := by
  cases d with
  | int i' => cases h; exact op2_orL (op2_sub q)
  | bool b =>
    cases h
    exact op2_orR fun Z σ ts H x y R o k => by
      have h1 := o.top
      have h2 := o.pop.top
      cases h1; cases h2
      exact ⟨b, j, rfl, rfl, k _ H s _ (o.pop.pop.pushV (.int _)) q⟩
  | _ => cases h
theorem op2_mulXB {i j : Int} (h : cnt d = some j) (hc : CMulX i j) (q : Q (.v (.int (i * j))) s) : OP2 ⟨K, ω⟩ rMulX (.v (.int i)) (.v d) s rs Q := by
  cases d with
  | int j' => cases h; exact op2_orL (op2_intC (g := fun i j => i * j) hc q)
  | bool b =>
    cases h
    exact op2_orR fun Z σ ts H x y R o k => by
      have h1 := o.top
      have h2 := o.pop.top
      cases h1; cases h2
      exact ⟨i, b, rfl, rfl, k _ H s _ (o.pop.pop.pushV (.int _)) q⟩
  | _ => cases h
end
/-! ### upper -/
def rUpper : V → List V → Hp → VK → Prop := fun x xs H Q => ∃ a, x = .str a ∧ xs = [] ∧ a.length ≤ 5592405 ∧ Q (.str (Txt.upper a)) H
theorem k_upper {X : Cx} {o : Expr} {to : TE} {apos pos : Pos} (ho : PE X o to) (hbase : attributeBase o "upper" X.env (eval o X.env) = eval o X.env := by rfl) (hline : (apos.endLine == pos.line) = true := by rfl) :
    PE X (.Call (.Attribute o "upper" apos) [] [] pos) (tM0 rUpper to) := pe_upper ho hbase hline
section
variable {K : PySem.W.Frag} {s rs : List SD} {Q : SD → List SD → Prop} {to : TE}
theorem de_upper (h : DE ⟨K, ω⟩ to s rs fun r s1 => ∃ a : Str, r = .v (.str a) ∧ a.length ≤ 5592405 ∧ Q (.v (.str (Txt.upper a))) s1) : DE ⟨K, ω⟩ (tM0 rUpper to) s rs Q := fun Z σ ts H R o k =>
  h Z σ ts H _ o fun x H1 s1 r o1 ⟨a, e0, hl, q⟩ => by
    subst e0
    have hx := o1.top
    cases hx
    exact ⟨⟨a, rfl⟩, a, rfl, rfl, hl, k _ H1 s1 _ (o1.pop.pushV (.str _)) q⟩
end
end W8

/-! W9k: repr of any data; one sign six times. -/
namespace W8
open PySem L2 RZ PySem.Spec PyProof.Rows
def z6 : Str := Str.ofString "zzzzzz"
def rMul6 : R2 := fun x y H Q => x = .str (Str.ofString "z") ∧ y = .int 6 ∧ Q (.str z6) H
section
variable {X : Cx}
theorem op_mul6 : OpR X (binaryOp .Mult) rMul6 := by
  intro pins s σ H x y v u Q I rx ry h
  obtain ⟨rfl, rfl, q⟩ := h
  obtain ⟨t, rfl⟩ := rx
  obtain ⟨t2, rfl⟩ := ry
  refine P.mul_str (by decide) (fun _ _ => by decide +kernel) (fun _ _ => by decide +kernel) ?_
  rw [if_neg (by decide), if_neg (by decide +kernel)]
  have e : (⟨(List.replicate (6 : Int).toNat (Str.ofString "z").cps).foldl (· ++ ·) #[]⟩ : Str) = z6 := by decide +kernel
  rw [e]
  exact ⟨by decide +kernel, .str z6, H, I.tok _, ⟨_, rfl⟩, q⟩
theorem op_mulXZ : OpR X (binaryOp .Mult) (fun x y H Q => rMulX x y H Q ∨ rMul6 x y H Q) := op_mulXB.or op_mul6
/-- repr of what is no list and no tuple -/
def rReprS : List V → Hp → VK → Prop := fun xs H Q => ∃ d : D, d.showable = true ∧ d.shown.length ≤ sizeLine ∧ Q (.str d.shown) H ∧
  ((xs = [.non] ∧ d = .none) ∨ (∃ b, xs = [.bl b] ∧ d = .bool b) ∨ (∃ i, xs = [.int i] ∧ d = .int i ∧ i.natAbs.log2 < 1920) ∨ ∃ x, xs = [.str x] ∧ d = .str x)
theorem call_reprS : CallR X (.builtin "repr") rReprS := by
  intro pins s σ H xs us Q I r h
  obtain ⟨d, h1, h2, q, h⟩ := h
  rcases h with ⟨rfl, rfl⟩ | ⟨b, rfl, rfl⟩ | ⟨i, rfl, rfl, hi⟩ | ⟨x, rfl, rfl⟩
  · obtain ⟨u, rfl, ru⟩ := vals1 r
    cases ru
    exact P.repr_of_none ⟨.str _, H, I.tok _, ⟨_, rfl⟩, q⟩
  · obtain ⟨u, rfl, ru⟩ := vals1 r
    cases ru
    exact P.repr_of_bool ⟨.str _, H, I.tok _, ⟨_, rfl⟩, q⟩
  · obtain ⟨u, rfl, t, rfl⟩ := vals1 r
    exact P.repr_of_int hi ⟨.str _, H, I.tok _, ⟨_, rfl⟩, q⟩
  · obtain ⟨u, rfl, t, rfl⟩ := vals1 r
    exact P.repr_of_str ⟨.str _, H, I.tok _, ⟨_, rfl⟩, q⟩ h2
theorem k_reprA (K : PySem.W.Frag) (hk : X.K = K) (hgd : X.A.guards = some []) (hu : X.A.units + 64 < cLine) : CallR X (.builtin "repr") (fun xs H Q => rRepr K xs H Q ∨ rReprS xs H Q) := (k_repr K hk hgd hu).or call_reprS
end
section
variable {K : PySem.W.Frag} {s rs : List SD} {Q : SD → List SD → Prop} {d : D}
theorem op2_mulZ {i j : Int} (h : cnt d = some j) (hc : CMulX i j) (q : Q (.v (.int (i * j))) s) : OP2 ⟨K, ω⟩ (fun x y H Q => rMulX x y H Q ∨ rMul6 x y H Q) (.v (.int i)) (.v d) s rs Q := op2_orL (op2_mulXB h hc q)
theorem op2_mul6 (q : Q (.v (.str z6)) s) : OP2 ⟨K, ω⟩ (fun x y H Q => rMulX x y H Q ∨ rMul6 x y H Q) (.v (.str (Str.ofString "z"))) (.v (.int 6)) s rs Q := op2_orR fun Z σ ts H x y R o k => by
  have h1 := o.top
  have h2 := o.pop.top
  cases h1; cases h2
  exact ⟨rfl, rfl, k _ H s _ (o.pop.pop.pushV (.str _)) q⟩
theorem Rpd.log {B n w : Nat} {i : Int} (h : Rpd B n w (.int i)) : i.natAbs.log2 < 1920 := of_decide_eq_true h.sh
theorem opc_reprA {B n w : Nat} (hk : ∀ kvs, d ≠ .dict kvs) (hr : Rpd B n w d) (hn : n ≤ 60) (hB : 8 ≤ B) (e : (B + 2) * w + B ≤ 16777216) (q : Q (.v (.str d.shown)) s) : OPC ⟨K, ω⟩ (fun xs H Q => rRepr K xs H Q ∨ rReprS xs H Q) [.v d] s rs Q := fun Z σ ts H xs R oo ee k => by
  have ft := hr.fits hB e
  obtain ⟨x, rfl⟩ : ∃ x, xs = [x] := by match xs, ee with | [x], _ => exact ⟨x, rfl⟩
  have o1 : Ok K Z σ (x :: ts) H s (.v d :: rs) := oo
  have kk := k _ H s _ (o1.pop.pushV (.str _)) q
  cases d with
  | list ds => exact .inl (opc_reprD rfl (.inl ⟨_, rfl⟩) hr hn hB e q Z σ ts H [x] R oo ee k)
  | tuple ds => exact .inl (opc_reprD rfl (.inr ⟨_, rfl⟩) hr hn hB e q Z σ ts H [x] R oo ee k)
  | dict kvs => exact absurd rfl (hk kvs)
  | none =>
    have h1 := o1.top
    cases h1
    exact .inr ⟨_, hr.sh, ft, kk, .inl ⟨rfl, rfl⟩⟩
  | bool b =>
    have h1 := o1.top
    cases h1
    exact .inr ⟨_, hr.sh, ft, kk, .inr (.inl ⟨_, rfl, rfl⟩)⟩
  | int i =>
    have h1 := o1.top
    cases h1
    exact .inr ⟨_, hr.sh, ft, kk, .inr (.inr (.inl ⟨_, rfl, rfl, hr.log⟩))⟩
  | str z =>
    have h1 := o1.top
    cases h1
    exact .inr ⟨_, hr.sh, ft, kk, .inr (.inr (.inr ⟨_, rfl, rfl⟩))⟩
end
end W8

/-! W9l: a def that hands back a tuple of keys, tracked; d[f(..)] = v. -/
namespace W8
open PySem L2 RZ PySem.Spec PyProof.Rows
abbrev DSpT := List SD → (List Key → List SD → Prop) → Prop
def fnST (K : PySem.W.Frag) (f : DSpT) : Sp := fun xs H Q _ => ∃ (Z : Zn) (as : List SD) (P : List Key → List SD → Prop), Z.H0 = H ∧ (∀ a ∈ Z.Bs, Own1 (gv (xs.map some) []) (gs as []) a) ∧ Ok K Z (xs.map some) [] H as [] ∧ f as P ∧
  ∀ ks as' t H', Ok K Z (xs.map some) [.ref t] H' as' [.v (.tuple (ks.map keyD))] → H' t = some (.tup (ks.map kV)) → P ks as' → Q (.ref t) H'
/-- a body whose end hands back a tuple of keys -/
def DST (K : PySem.W.Frag) (t : TS) (s : List SD) (PT : List Key → List SD → Prop) : Prop := ∀ Z σ H (E : Ends), Ok K Z σ [] H s [] →
  (∀ (ks : List Key) (s' : List SD) (σ' : L2.St) (tt : Addr) (H' : Hp), Ok K Z σ' [.ref tt] H' s' [.v (.tuple (ks.map keyD))] → H' tt = some (.tup (ks.map kV)) → PT ks s' → E.rt (.ref tt) H') → t E σ H
section
variable {K : PySem.W.Frag} {s : List SD} {PT : List Key → List SD → Prop}
theorem dst_seq {t u : TS} (h : DS K t s [] { nx := fun s1 => DST K u s1 PT, rt := fun _ _ => False }) : DST K (tSeq t u) s PT := fun Z σ H E o k =>
  h Z.x0 σ [] H { E with nx := u E } o (fun σ' H' s' o' q => (show DST K u s' PT from q) Z σ' H' E o' k) (fun _ _ _ _ _ _ q => q.elim) (fun _ _ _ _ q => q.elim) (fun _ _ _ _ q => q.elim)
theorem dst_ret {ta : TA} (h : DA K ta s [] fun as s1 => ∃ ks : List Key, asDs as = some (ks.map keyD) ∧ ks.length ≤ 100000 ∧ PT ks s1) : DST K (tRet (tTup ta)) s PT := fun Z σ H E o k =>
  h Z.x0 σ [] H _ o fun xs H2 s2 as o2 e ⟨ks, ha, hkl, q⟩ => by
    obtain ⟨h3, o3⟩ := o2.args e ha
    have ex := rpA_keys h3
    refine ⟨by rw [h3.length, List.length_map]; exact Nat.le_trans hkl (by decide), fun p hp => ?_⟩
    have ext : ∀ b u, H2 b = some u → upd H2 p (.tup xs) b = some u := fun b u hb => by rw [upd_ne (ne_of_none hb hp)]; exact hb
    refine k ks s2 σ p _ ((o3.ext ext).pushV (.tup (SqT.of upd_same) (RpA.mono (fun _ _ => rd_ext ext) (fun _ _ q r => ⟨q, rd_ext ext r⟩) _ _ h3))) (by rw [upd_same, ex]) q
end
section
variable {P : Program} {w : World} {K : PySem.W.Frag} {mg : Str → Option Value} {base : Heap}
def RTT (P : List Key → List SD → Prop) (as : List SD) (ks : List Key) (s' : List SD) : Prop := BackR as s' (backF as s') ∧ P ks (backF as s')
theorem ok_fnT {x qual : Str} {st : Stmt} {g : Addr} {fd : FuncData} {N ps : List Str} {k : Nat} {f : DSpT} (F : Fun K x qual st g fd) (S : FnScope N ps (defScope st)) (hN : ps.length ≤ N.length) (hl : ∀ as P, f as P → as.length = ps.length)
    (hb : ∀ (cdv : Value) (A : Around) (outer : List Env) (s : Shared) (H : Hp) (E : XK), Room k (A.deeper (PyProof.Rows.envOfC qual (defScope st) s.heap.objs.size g cdv)) → ∀ as Pq, f as Pq →
      ∃ t, PSs (cxOf CX0 P w K mg base N qual (defScope st) g cdv A outer s H E).nox (defBody st) t ∧ DST K t (as ++ List.replicate (N.length - as.length) .no) (RTT Pq as)) :
    FnOk P w K mg base CX0 (k + 1) g fd ps (fnST K f) := by
  refine F.ok S (fun vs H Q E h => ?_) (fun cdv A outer s H vs Q E hr h => ?_)
  · obtain ⟨Z, as, Pq, _, _, o, hf, _⟩ := h
    have := o.ls
    rw [← hl as Pq hf]; simpa using this
  · obtain ⟨Z, as, Pq, h0, hB, o, hf, hk⟩ := h
    obtain ⟨t, h1, h2⟩ := hb cdv A outer s H E hr as Pq hf
    have el : vs.length = as.length := by have := o.ls; simpa using this
    refine ⟨t, h1, h2 Z _ H _ (ok_start o (by rw [el, hl as Pq hf]; exact hN)) (fun ks s' σ' tt H' o' ht q => ?_)⟩
    obtain ⟨o2, e3⟩ := Ok.leave (r' := .v (.tuple (ks.map keyD))) h0 hB o o' rfl q.1
    exact hk ks _ tt H' o2 ht q.2
end
section
variable {K : PySem.W.Frag} {s rs : List SD} {D0 : DEn}
/-- d[f(..)] = v -/
theorem ds_dputC {i : Nat} {f : DSpT} {tl : TA} {tv : TE} {E : XK} (h : DE ⟨K, ω⟩ tv s rs fun r s1 => (∃ t kds, s1[i]? = some (.own t (.dT kds))) ∧ DA ⟨K, ω⟩ tl s1 (.al i :: r :: rs) fun as s2 => (lents as).Nodup ∧ f (entry s2 as 0) fun ks as' => ∃ s3 t kds d, after s2 as as' = some s3 ∧ s3[i]? = some (.own t (.dT kds)) ∧ kds.length < 100000 ∧ asD r = some d ∧ D0.nx (s3.set i (.own t (.dT (putD kds ks d))))) :
    DS ⟨K, ω⟩ (sDPut (tVar i) (tCall (fnST K f) [] E tl) tv) s rs D0 := fun Z σ ts H E' o k1 k2 k3 k4 => h Z σ ts H _ o fun v H1 s1 r o1 ⟨⟨t0, kds0, hs0⟩, q⟩ => by
  obtain ⟨a, u, q1, q2, q3, _⟩ := o1.c.wn (.inl i) t0 _ hs0
  refine ⟨.ref a, gv_slot.mp q1, ?_⟩
  refine q Z σ _ H1 _ (o1.pushA hs0 (gv_slot.mp q1)) fun xs H2 s2 as o2 e ⟨hn, hf⟩ => ?_
  obtain ⟨oe, hB⟩ := o2.enter e hn
  rw [List.append_nil]
  refine ⟨inner Z σ _ xs H2 s2 _ as, entry s2 as 0, _, rfl, fun a ha => (hB a ha).1, oe, hf, fun ks as' p H' o' hp ⟨s3, t, kds, d, ha, hs, hl, hd, q⟩ => ?_⟩
  have o4 := (o2.back e hn o' rfl ha).pop
  obtain ⟨t', w', a', u', w1, w2, w3, w4, w5⟩ := o4.aliW
  rw [hs] at w1; cases w1
  cases w3
  generalize hO : OD.dT kds = od at w5
  cases w5 with
  | lst _ => cases hO
  | ex _ _ => cases hO
  | dK _ => cases hO
  | dT w5 =>
  cases hO
  obtain ⟨hd', o5⟩ := o4.pop.popD hd
  have w6 := RpP.mono (fun _ _ z => z) (fun b _ z r => ⟨cl_pop o4.pop b z, r⟩) w5
  refine ⟨a, _, rfl, DPut.t w4 hp (by rw [w6.len]; exact Nat.lt_of_lt_of_le hl (by decide)), ?_⟩
  exact k1 σ _ _ (o5.mutW hs w2 (.dT (w6.put ks hd'))) q
end
/-- a def of the module that hands back a tuple of keys, as its callers see it -/
structure CalT (P : Program) (w : World) (K : PySem.W.Frag) (mg : Str → Option Value) (base : Heap) (k : Nat) (x : Str) (ps : List Str) (f : DSpT) : Prop where
  ex : ∃ (a : Addr) (fd : FuncData), mg x = some (.ref a) ∧ PySem.W.keepIn K (.ref a) = true ∧ Binds K fd ps [] ∧ FnOk P w K mg base CX0 k a fd ps (fnST K f)
section
variable {X : Cx} (K : PySem.W.Frag) {x : Str} {ps : List Str} {f : DSpT} {k : Nat} {e : Expr} {es : List Expr} {t : TA} {p pos : Pos}
theorem k_calT (hk : X.K = K) (c : CalT X.prog X.w X.K X.mg X.base k x ps f) (hr : Room k X.A) (hg : Gl X x) (ha : PA X (e :: es) t)
    (hdb : (x == ("__debug__" : Str)) = false := by decide) (he : starEach (e :: es) X.env = (false, eval e X.env) :: starEach es X.env := by rfl) (hpl : (backTo pos (starEach es X.env)).any (·.1) = false := by rfl) : PE X (.Call (.Name x p) (e :: es) [] pos) (tCall (fnST K f) [] E0 t) := by
  subst hk
  refine ⟨fun pins s σ H Q I h => ?_⟩
  obtain ⟨a, fd, h1, h2, h3, h4⟩ := c.ex
  exact (pe_call (pos := pos) (p := p) h4 hr hg h1 h2 h3 .nil pass0 ha hdb he hpl).run pins s σ H Q I h
end
end W8

/-! W9m: len(d), sorted(d) of a dict whose keys are tuples. -/
namespace W8
open PySem L2 RZ PySem.Spec PyProof.Rows
/-- a key as data -/
def keyT (k : List Key) : D := .tuple (k.map keyD)
theorem dpA_keys {K : PySem.W.Frag} {H : Hp} : ∀ k : List Key, DpAll K H (k.map kV) (k.map keyD)
  | [] => .nil
  | .inl i :: k => .cons (.int i) (dpA_keys k)
  | .inr x :: k => .cons (.str x) (dpA_keys k)
theorem rpA_keysOf {K : PySem.W.Frag} {C : Addr → Prop} {H : Hp} : ∀ k : List Key, RpA K C H (k.map kV) (k.map keyD)
  | [] => .nil
  | .inl i :: k => .cons (.int i) (rpA_keysOf k)
  | .inr x :: k => .cons (.str x) (rpA_keysOf k)
/-- the keys of a dict, sorted -/
def rSortKT : List V → Hp → VK → Prop := fun us H Q => ∃ (a : Addr) (kvs : List (List Key × V)), us = [.ref a] ∧ H a = some (.dT kvs) ∧ PySem.W.AllAlike (kvs.map fun p => keyT p.1) ∧ PySem.W.Sortable (kvs.map fun p => keyT p.1) ∧ (∀ p ∈ kvs, (keyT p.1).depth ≤ 30) ∧
  ∀ (bs : List (Addr × List Key)) p, bs.map (·.2) = kvs.map (·.1) → (∀ b ∈ bs, H b.1 = some (.tup (b.2.map kV))) → H p = none →
    Q (.ref p) (upd H p (.lst (((bs.map fun b => (V.ref b.1, keyT b.2)).mergeSort fun x y => leD x.2 y.2).map Prod.fst)))
section
variable {X : Cx}
theorem kt_list {H : Hp} : ∀ {kvs : List (List Key × V)} {xs : List (List Key × Addr × Value)}, KT H kvs xs → (xs.map fun x => (x.2.1, x.1)).map (·.2) = kvs.map (·.1) ∧ ∀ b ∈ xs.map (fun x => (x.2.1, x.1)), H b.1 = some (.tup (b.2.map kV))
  | _, _, .nil => ⟨rfl, fun _ h => nomatch h⟩
  | _, _, .cons (b := q) h t => by
    obtain ⟨h1, h2⟩ := kt_list t
    refine ⟨?_, fun b hb => ?_⟩
    · rw [List.map_cons, List.map_cons, List.map_cons, h1, h.1]
    · rcases List.mem_cons.mp hb with rfl | hb
      · show H q.2.1 = some (.tup (q.1.map kV))
        rw [← h.1]; exact h.2.1
      · exact h2 b hb
theorem each_keys {R : Value → V × D → Prop} (f : Addr × List Key → V × D) : ∀ {us : List Value} {bs : List (Addr × List Key)}, us = bs.map (fun b => Value.ref b.1) → (∀ b ∈ bs, R (.ref b.1) (f b)) → PySem.W.EachIs R us (bs.map f)
  | _, [], rfl, _ => .nil
  | _, b :: bs, rfl, h => .cons (h b List.mem_cons_self) (each_keys f rfl fun c hc => h c (List.mem_cons_of_mem _ hc))
theorem each_map {β γ : Type} {R : Value → β → Prop} {S : Value → γ → Prop} {f : β → γ} (h : ∀ v b, R v b → S v (f b)) : ∀ {us : List Value} {bs : List β}, PySem.W.EachIs R us bs → PySem.W.EachIs S us (bs.map f)
  | _, _, .nil => .nil
  | _, _, .cons a b => .cons (h _ _ a) (each_map h b)
theorem cr_sortedKT (hc : X.calm = true) (hu : X.A.units + 64 < cLine) : CallR X (.builtin "sorted") rSortKT := by
  intro pins s σ H vs us Q I r h
  obtain ⟨a, kvs, rfl, ha, hal, hk, hdep, q⟩ := h
  rw [Vals.ref1 r]
  obtain ⟨z, hd, xs, rel, o, es, ep, ho, hx, hdat, hes, his, hn⟩ := dt_of I.hok ha
  have l1 : kvs.length = xs.length := Paired.length rel
  have l2 : es.size = xs.length := size_of_entries hes
  obtain ⟨b1, b2⟩ := kt_list rel
  refine Calls.call_function_entry PyProof.Rows.kind_sorted PyProof.Rows.plain_sorted PyProof.Rows.entry_sorted (PyProof.Rows.args_sorted1 _) ?_
  unfold Builtin.«sorted»
  refine wpAny_bind (m := checkCount "sorted" 1 1 _) (wpAny_pure ?_)
  have raw : s.heap.DictRaw a es ep := ⟨o, ho, hx, hdat⟩
  refine wpAny_bind (PySem.W.kdu_collect (A := X.A.in1) (KdlSrc.rawDict (es := es) (ep := ep) hd) (I.ok.hd hc) raw (by rw [l2, ← l1]; exact z) fun h' tk acc hk' hacc => ?_)
  have eacc : acc.toList = (xs.map fun x => (x.2.1, x.1)).map fun b => Value.ref b.1 := by
    refine List.ext_getElem? fun j => ?_
    rw [List.map_map, List.getElem?_map]
    cases hj : xs[j]? with
    | none =>
      rw [Array.getElem?_toList]
      have : acc.size ≤ j := by rw [hacc.1, l2]; exact List.getElem?_eq_none_iff.mp hj
      simp [this]
    | some x =>
      have hlt := (List.getElem?_eq_some_iff.mp hj).1
      have h1 : j < acc.size := by rw [hacc.1, l2]; exact hlt
      rw [Array.getElem?_toList, Array.getElem?_eq_getElem h1]
      obtain ⟨hi, e⟩ := hacc.2 j acc[j] (Array.getElem?_eq_getElem h1)
      rw [e]
      have e2 := entry_at hes j
      rw [Array.getElem?_eq_getElem hi, hj] at e2
      have e3 : es[j] = entryOfKey (tupleKind (mixKind X.prog X.w)) x := Option.some.inj e2
      rw [e3]; rfl
  have hlen : acc.toList.length = kvs.length := by rw [eacc, List.length_map, List.length_map, ← l1]
  have I1 : Inv X pins σ H { s with heap := h', toks := tk } := I.kept (t' := tk) hk'
  generalize hbs : xs.map (fun x => (x.2.1, x.1)) = bs at b1 b2 eacc
  refine wpAny_bind (wpAny_newList ?_ (by rw [hlen]; exact z))
  have hoL : (h'.push (seqObj "list" acc.toList.toArray 0)).get? h'.objs.size = some (seqObj "list" acc.toList.toArray 0) := Heap.get?_push_size _ rfl
  show wpAny _ _ _ _ _ { s with heap := h'.push (seqObj "list" acc.toList.toArray 0), toks := tk }
  have old : ∀ b ob, h'.get? b = some ob → (PySem.W.sortingHeap (h'.push (seqObj "list" acc.toList.toArray 0)) h'.objs.size acc.toList).get? b = some ob := fun b ob e =>
    PySem.W.sortingHeap_old (Nat.ne_of_lt (Heap.lt_size e)) (Heap.get?_push_of_some _ e)
  have rds : ∀ b ∈ bs, ∃ as, Reads (PySem.W.sortingHeap (h'.push (seqObj "list" acc.toList.toArray 0)) h'.objs.size acc.toList) (.ref b.1) (keyT b.2) as := fun b hb => by
    have dp : Dp X.K H (.ref b.1) (keyT b.2) := .tup (SqT.of (b2 b hb)) (dpA_keys _)
    obtain ⟨as, r⟩ := Dp.reads I1 _ _ (.ref b.1) dp rfl
    exact ⟨as, Reads.keeps old r⟩
  have eds : bs.map (fun b => keyT b.2) = kvs.map fun p => keyT p.1 := by
    have := congrArg (List.map keyT) b1
    rw [List.map_map, List.map_map] at this
    exact this
  have each : PySem.W.EachIs (fun v (d : D) => ∃ as, Reads (PySem.W.sortingHeap (h'.push (seqObj "list" acc.toList.toArray 0)) h'.objs.size acc.toList) v d as) acc.toList (kvs.map fun p => keyT p.1) := by
    have e := each_keys (R := fun v (p : V × D) => ∃ as, Reads (PySem.W.sortingHeap (h'.push (seqObj "list" acc.toList.toArray 0)) h'.objs.size acc.toList) v p.2 as) (fun b => (V.ref b.1, keyT b.2)) eacc rds
    have e' := each_map (f := Prod.snd) (S := fun v (d : D) => ∃ as, Reads (PySem.W.sortingHeap (h'.push (seqObj "list" acc.toList.toArray 0)) h'.objs.size acc.toList) v d as) (fun _ _ h => h) e
    rw [List.map_map] at e'
    rw [← eds]
    exact e'
  have S := PySem.W.SortsAt.data (prog := X.prog) (w := X.w) (A := X.A.in1.in1) (s := { s with heap := PySem.W.sortingHeap (h'.push (seqObj "list" acc.toList.toArray 0)) h'.objs.size acc.toList, toks := tk }) each hal hk (fun d hd => by
    obtain ⟨p, hp, rfl⟩ := List.mem_map.mp hd
    have := hdep p hp
    show X.A.units + 1 + 1 + (keyT p.1).depth < cLine
    omega)
  refine wpAny_bind (wpAny_holding (wpAny_call_entry PyProof.Rows.slot_list_sort ⟨_, hoL, rfl⟩ PyProof.Rows.entry_list_sort
    (PySem.W.list_sort_vals (s := { s with heap := h'.push (seqObj "list" acc.toList.toArray 0), toks := tk }) hoL S (by rw [hlen]; exact z) ⟨_, rfl, ?_⟩) (PyProof.Rows.args_list_sort _)))
  have ek : PySem.W.EachIs (fun v (b : V × D) => (PySem.W.dataKind (PySem.W.sortingHeap (h'.push (seqObj "list" acc.toList.toArray 0)) h'.objs.size acc.toList) (kvs.map fun p => keyT p.1)).keyOf v = some (PySem.W.keyToks b.2)) acc.toList (bs.map fun b => (V.ref b.1, keyT b.2)) :=
    each_keys _ eacc fun b hb => by
      obtain ⟨as, r⟩ := rds b hb
      exact PySem.W.dataKind_some hal (by rw [← eds]; exact List.mem_map.mpr ⟨b, hb, rfl⟩) r
  have ev : PySem.W.EachIs (fun v (b : V × D) => RelV b.1 v) acc.toList (bs.map fun b => (V.ref b.1, keyT b.2)) := each_keys _ eacc fun b hb => rfl
  have e := PySem.W.sortVals_each (κ := PySem.W.dataKind (PySem.W.sortingHeap (h'.push (seqObj "list" acc.toList.toArray 0)) h'.objs.size acc.toList) (kvs.map fun p => keyT p.1)) (rev := false) (fun b : V × D => PySem.W.keyToks b.2) ev ek
  have vz := each_vals (fun _ _ h => h) e
  obtain ⟨e', he'⟩ := PyProof.Rows.sortedHeap_at (vs := acc.toList) (out := (PySem.W.sortVals (PySem.W.dataKind (PySem.W.sortingHeap (h'.push (seqObj "list" acc.toList.toArray 0)) h'.objs.size acc.toList) (kvs.map fun p => keyT p.1)) false acc.toList acc.toList).toArray) hoL
  refine wpAny_pure ⟨_, rfl, .ref h'.objs.size, upd H h'.objs.size (.lst (((bs.map fun b => (V.ref b.1, keyT b.2)).mergeSort fun x y => leD x.2 y.2).map Prod.fst)), I1.laid (t' := tk) (fun b u e => ?_) (Nat.le_refl _)
    ⟨?_, _, e', vz, he'⟩, rfl, q bs _ b1 b2 (I1.hok.fresh (Nat.le_refl _))⟩
  · have hb : b < h'.objs.size := Heap.lt_size e
    rw [PyProof.Rows.sortedHeap_old (Nat.ne_of_lt hb) (by rw [size_push']; exact Nat.lt_succ_of_lt hb)]
    exact Heap.get?_push_of_some _ e
  · rw [List.length_map, (List.mergeSort_perm _ _).length_eq, List.length_map]
    have : bs.length = kvs.length := by rw [← List.length_map (f := (·.2)), b1, List.length_map]
    rw [this]; exact z
end
section
variable {K : PySem.W.Frag} {s rs : List SD} {Q : SD → List SD → Prop} {r : SD} {kds : List (List Key × D)}
theorem rpP_keys {κ : Type} {C : Addr → Prop} {H : Hp} {vs : List (κ × V)} {ds : List (κ × D)} (h : RpP K C H vs ds) : vs.map (·.1) = ds.map (·.1) := by
  induction h with
  | nil => rfl
  | cons _ _ ih => rw [List.map_cons, List.map_cons, ih]
theorem opc_lenDT (h : ownO s r = some (.dT kds)) (q : Q (.v (.int (kds.length : Nat))) s) : OPC ⟨K, ω⟩ rLenT [r] s rs Q := fun Z σ ts H xs R o e k => by
  obtain ⟨x, rfl⟩ : ∃ x, xs = [x] := by match xs, e with | [x], _ => exact ⟨x, rfl⟩
  have o1 : Ok K Z σ (x :: ts) H s (r :: rs) := o
  obtain ⟨a, u, rfl, w4, w5⟩ := o1.odTop h
  obtain ⟨kvs, rfl, w6⟩ := rpO_dT w5
  refine ⟨a, kvs, rfl, w4, ?_⟩
  have el : kvs.length = kds.length := w6.len
  rw [el]
  exact k _ H s _ (o1.pop.pushV (.int _)) q
theorem opc_sortedKT (h : ownO s r = some (.dT kds)) (hal : PySem.W.AllAlike (kds.map fun p => keyT p.1)) (hk : PySem.W.Sortable (kds.map fun p => keyT p.1)) (hd : ∀ p ∈ kds, (keyT p.1).depth ≤ 30) (q : Q (.ow none ((kds.map fun p => keyT p.1).mergeSort leD)) s) : OPC ⟨K, ω⟩ rSortKT [r] s rs Q := fun Z σ ts H xs R o e k => by
  obtain ⟨x, rfl⟩ : ∃ x, xs = [x] := by match xs, e with | [x], _ => exact ⟨x, rfl⟩
  have o1 : Ok K Z σ (x :: ts) H s (r :: rs) := o
  obtain ⟨a, u, rfl, w4, w5⟩ := o1.odTop h
  obtain ⟨kvs, rfl, w6⟩ := rpO_dT w5
  have ek := rpP_keys w6
  have em : (kvs.map fun p => keyT p.1) = kds.map fun p => keyT p.1 := by
    have := congrArg (List.map keyT) ek
    rw [List.map_map, List.map_map] at this
    exact this
  refine ⟨a, kvs, rfl, w4, em ▸ hal, em ▸ hk, fun p hp => ?_, fun bs p hb1 hb2 hp => ?_⟩
  · have : keyT p.1 ∈ kds.map fun p => keyT p.1 := by rw [← em]; exact List.mem_map.mpr ⟨p, hp, rfl⟩
    obtain ⟨p', hp', e'⟩ := List.mem_map.mp this
    rw [← e']; exact hd p' hp'
  · have hm : ∀ x ∈ (bs.map fun b => (V.ref b.1, keyT b.2)).mergeSort (fun x y => leD x.2 y.2), Rp K (Cl Z (gv σ ts) (gs s rs)) H x.1 x.2 := fun x hx => by
      obtain ⟨b, hb, rfl⟩ := List.mem_map.mp ((List.mergeSort_perm _ _).mem_iff.mp hx)
      exact .tup (SqT.of (hb2 b hb)) (rpA_keysOf _)
    have e2 : ((bs.map fun b => (V.ref b.1, keyT b.2)).mergeSort (fun x y => leD x.2 y.2)).map Prod.snd = (kds.map fun p => keyT p.1).mergeSort leD := by
      rw [PySem.W.sort_maps (s := leD) Prod.snd (fun _ _ _ _ => rfl), List.map_map, ← em]
      have := congrArg (List.map keyT) hb1
      rw [List.map_map, List.map_map] at this
      exact congrArg (fun l => List.mergeSort l leD) this
    have rp := RpA.ofPairs hm
    rw [e2] at rp
    exact k _ _ _ _ (o1.pop.pushO hp rp) q
end
end W8

/-! W9n: in, not in a tuple of data. -/
namespace W8
open PySem L2 RZ PySem.Spec PyProof.Rows
section
variable {X : Cx}
def rInT (K : PySem.W.Frag) : R2 := fun x y H Q => ∃ d ds, Dp K H x d ∧ Dp K H y (.tuple ds) ∧ SeqAt.shaped d = true ∧ SeqAt.shaped (.list ds) = true ∧ Q (.bl (ds.any fun z => PyData.eqv z d)) H
def rNotInT (K : PySem.W.Frag) : R2 := fun x y H Q => ∃ d ds, Dp K H x d ∧ Dp K H y (.tuple ds) ∧ SeqAt.shaped d = true ∧ SeqAt.shaped (.list ds) = true ∧ Q (.bl (!ds.any fun z => PyData.eqv z d)) H
theorem op_inT (hu : X.A.units + 65 < cLine) : OpR X (compareOp .In) (rInT X.K) := by
  intro pins s σ H x y v u Q I rx ry h
  obtain ⟨d, ds, hd, he, sd, se, q⟩ := h
  obtain ⟨as, r1⟩ := Dp.reads I d x v hd rx
  obtain ⟨bs, r2⟩ := Dp.reads I (.tuple ds) y u he ry
  exact SeqAt.in_tuple_reads r2 r1 (SeqAt.canLay_of_shaped se) (SeqAt.canLay_of_shaped sd) (room_in_shaped sd hu) ⟨.bl _, H, I, rfl, q⟩
theorem op_notInT (hu : X.A.units + 65 < cLine) : OpR X (compareOp .NotIn) (rNotInT X.K) := by
  intro pins s σ H x y v u Q I rx ry h
  obtain ⟨d, ds, hd, he, sd, se, q⟩ := h
  obtain ⟨as, r1⟩ := Dp.reads I d x v hd rx
  obtain ⟨bs, r2⟩ := Dp.reads I (.tuple ds) y u he ry
  exact SeqAt.notIn_tuple_reads r2 r1 (SeqAt.canLay_of_shaped se) (SeqAt.canLay_of_shaped sd) (room_in_shaped sd hu) ⟨.bl _, H, I, rfl, q⟩
def rInB2 (K : PySem.W.Frag) : R2 := fun x y H Q => rInA K x y H Q ∨ rInT K x y H Q
def rNotInB2 (K : PySem.W.Frag) : R2 := fun x y H Q => rNotInA K x y H Q ∨ rNotInT K x y H Q
theorem op_inB2 (K : PySem.W.Frag) (hk : X.K = K) (hu : X.A.units + 65 < cLine) : OpR X (compareOp .In) (rInB2 K) := by subst hk; exact (op_in_any X.K rfl hu).or (op_inT hu)
theorem op_notInB2 (K : PySem.W.Frag) (hk : X.K = K) (hu : X.A.units + 65 < cLine) : OpR X (compareOp .NotIn) (rNotInB2 K) := by subst hk; exact (op_notIn_any X.K rfl hu).or (op_notInT hu)
end
section
variable {K : PySem.W.Frag} {s rs : List SD} {Q : SD → List SD → Prop} {d : D} {ds : List D} {r1 r2 : SD}
theorem op2_inT (h1 : dat s r1 = some d) (h2 : dat s r2 = some (.tuple ds)) (s1 : SeqAt.shaped d = true) (s2 : SeqAt.shaped (.list ds) = true) (q : Q (.v (.bool (ds.any fun z => PyData.eqv z d))) s) : OP2 ⟨K, ω⟩ (rInB2 K) r1 r2 s rs Q := fun Z σ ts H x y R o k =>
  .inr ⟨d, ds, o.pop.dpTop h1, o.dpTop h2, s1, s2, k _ H s _ (o.pop.pop.pushV (.bl _)) q⟩
theorem op2_notInT (h1 : dat s r1 = some d) (h2 : dat s r2 = some (.tuple ds)) (s1 : SeqAt.shaped d = true) (s2 : SeqAt.shaped (.list ds) = true) (q : Q (.v (.bool (!ds.any fun z => PyData.eqv z d))) s) : OP2 ⟨K, ω⟩ (rNotInB2 K) r1 r2 s rs Q := fun Z σ ts H x y R o k =>
  .inr ⟨d, ds, o.pop.dpTop h1, o.dpTop h2, s1, s2, k _ H s _ (o.pop.pop.pushV (.bl _)) q⟩
end
end W8

/-! W9o: d[k], k any data that is a tuple of keys. -/
namespace W8
open PySem L2 RZ PySem.Spec PyProof.Rows
section
variable {X : Cx} {td ty : TE} {o i : Expr} {pos : Pos}
def tDGetS (K : PySem.W.Frag) (td ty : TE) : TE := fun σ H Q => td σ H fun x H1 => ty σ H1 fun y H2 => ∃ (a b : Addr) (v : V) (kvs : List (List Key × V)) (k : List Key), x = .ref a ∧ y = .ref b ∧ H2 a = some (.dT kvs) ∧ SqT K H2 b (k.map kV) ∧ valV kvs k = some v ∧ Q v H2
theorem pe_dgetS (hu : X.A.units + 1 < cLine) (ho : PE X o td) (hi : PE X i ty) (hs : NoSl i) : PE X (.Subscript o i pos) (tDGetS X.K td ty) := by
  refine ⟨fun pins s σ H Q I h => ?_⟩
  refine subD_of PySem.F.slot_dict_getitem.lookup hs (thn (ho.run pins s σ H _ I h) fun u s1 ⟨x, H1, I1, rx, q1⟩ => thn (hi.run pins s1 σ H1 _ I1 q1) fun iv s2 ⟨y, H2, I2, ry, a, b, v, kvs, k, ex, ey, hd, hb, hv, q2⟩ => ?_)
  subst ex ey
  obtain rfl : u = Value.ref a := rx
  obtain rfl : iv = Value.ref b := ry
  obtain ⟨_, _, xs, rel, dd⟩ := dt_of I2.hok hd
  refine ⟨dd.typeIs, ?_⟩
  obtain ⟨its, r, ⟨ob, h1, h2, n, h3⟩, _⟩ := I2.tuple hb
  have hk : (tupleKind (mixKind X.prog X.w)).is s2.heap k b := ⟨ob, its.toArray, n, h1, h2, h3, by simpa using items_are r⟩
  obtain ⟨w', hw, rw'⟩ := RelO.some_of (v := v) (o := (atKey xs k).map (·.2)) (by rw [← hv]; exact rel.val k)
  obtain ⟨p, hp, hp2⟩ := Option.map_eq_some_iff.mp hw
  refine wpAny_getItem_heap (tupleKind_room_in1 hu) hk dd hp ?_
  rw [hp2]
  exact ⟨v, H2, I2.tok _, rw', q2⟩
theorem k_dixS (K : PySem.W.Frag) (hk : X.K = K) (hu : X.A.units + 64 < cLine) (ho : PE X o td) (hi : PE X i ty) (hs : NoSl i) : PE X (.Subscript o i pos) (tDGetS K td ty) := by
  subst hk
  exact pe_dgetS (Nat.lt_of_le_of_lt (Nat.add_le_add_left (by decide) _) hu) ho hi hs
end
section
variable {K : PySem.W.Frag} {s rs : List SD} {Q : SD → List SD → Prop} {td ty : TE}
/-- d[k] -/
theorem dxS_get (h : DE ⟨K, ω⟩ td s rs fun r0 s1 => DE ⟨K, ω⟩ ty s1 (r0 :: rs) fun r s2 => ∃ kds ks d, dat s2 r = some (.tuple (ks.map keyD)) ∧ ownO s2 r0 = some (.dT kds) ∧ valD kds ks = some d ∧ Q (.v d) s2) : DE ⟨K, ω⟩ (tDGetS K td ty) s rs Q := fun Z σ ts H R o k => by
  refine h Z σ ts H _ o fun x H1 s1 r0 o1 q1 => ?_
  refine q1 Z σ _ H1 _ o1 fun y H2 s2 r o2 ⟨kds, ks, d, hr, hs, hv, q⟩ => ?_
  obtain ⟨b, xs, rfl, h2, h3⟩ := o2.tupTop hr
  have ex := rpA_keys h3
  subst ex
  obtain ⟨a, u, rfl, w4, w5⟩ := o2.pop.odTop hs
  obtain ⟨kvs, rfl, w6⟩ := rpO_dT w5
  obtain ⟨v, v1, v2⟩ := w6.valSome hv
  exact ⟨a, b, v, kvs, ks, rfl, rfl, w4, h2, v1, k _ _ s2 _ (o2.pop.pop.pushV v2) q⟩
end
end W8

/-! W9p: xs[lo:hi:step] of lists. -/
namespace W8
open PySem L2 PyProof PyProof.Rows
/-- the items that a slice with a step takes -/
def pickL {α : Type} (xs : List α) (lo hi st : Option Int) : List α := (sliceRange (sliceBounds lo hi st xs.length).1 (sliceBounds lo hi st xs.length).2.1 (sliceBounds lo hi st xs.length).2.2).filterMap (xs[·]?)
theorem pickL_sub {α : Type} {xs : List α} {lo hi st : Option Int} : ∀ x ∈ pickL xs lo hi st, x ∈ xs := fun x hx => by
  obtain ⟨j, _, e⟩ := List.mem_filterMap.mp hx
  exact List.mem_of_getElem? e
theorem pickL_slice (its : List Value) (lo hi st : Option Int) : slicePick its.toArray lo hi st = (pickL its lo hi st).toArray := by
  unfold slicePick pickL
  rw [List.size_toArray]
  congr 2
  funext x
  simp
theorem pickL_len {α : Type} (xs : List α) (lo hi st : Option Int) : (pickL xs lo hi st).length ≤ xs.length := by
  have h := slicePick_size_le (xs.map fun _ => Value.none).toArray lo hi st
  rw [pickL_slice, List.size_toArray, List.size_toArray, List.length_map] at h
  refine Nat.le_trans (Nat.le_of_eq ?_) h
  unfold pickL
  rw [List.length_map]
  generalize sliceRange _ _ _ = js
  induction js with
  | nil => rfl
  | cons j js ih =>
    rw [List.filterMap_cons, List.filterMap_cons, List.getElem?_map]
    cases xs[j]? with
    | none => exact ih
    | some x => simp only [Option.map_some, List.length_cons, ih]
theorem vals_pick {vs : List V} {its : List Value} (r : Vals vs its) (lo hi st : Option Int) : Vals (pickL vs lo hi st) (pickL its lo hi st) := by
  unfold pickL
  rw [r.length]
  generalize sliceRange _ _ _ = js
  induction js with
  | nil => exact .nil
  | cons j js ih =>
    rw [List.filterMap_cons, List.filterMap_cons]
    by_cases hj : j < vs.length
    · obtain ⟨x, hx⟩ : ∃ x, vs[j]? = some x := ⟨_, List.getElem?_eq_getElem hj⟩
      obtain ⟨u, hu, rr⟩ := r.get hx
      rw [hx, hu]
      exact .cons rr ih
    · rw [List.getElem?_eq_none (by omega), List.getElem?_eq_none (by rw [← r.length]; omega)]
      exact ih
theorem RpA.pick {K : PySem.W.Frag} {C : Addr → Prop} {H : Hp} {vs : List V} {ds : List D} (r : RpA K C H vs ds) (lo hi st : Option Int) : RpA K C H (pickL vs lo hi st) (pickL ds lo hi st) := by
  unfold pickL
  rw [r.length]
  generalize sliceRange _ _ _ = js
  induction js with
  | nil => exact .nil
  | cons j js ih =>
    rw [List.filterMap_cons, List.filterMap_cons]
    by_cases hj : j < ds.length
    · obtain ⟨d, hd⟩ : ∃ d, ds[j]? = some d := ⟨_, List.getElem?_eq_getElem hj⟩
      obtain ⟨x, hx, rr⟩ := r.get hd
      rw [hx, hd]
      exact .cons rr ih
    · rw [List.getElem?_eq_none (by rw [r.length]; omega), List.getElem?_eq_none (by omega)]
      exact ih
def tSlS (K : PySem.W.Frag) (te : TE) (tl th ts : TO) : TE := fun σ H Q => te σ H fun x H1 => tl σ H1 fun lo H2 => th σ H2 fun hi H3 => ts σ H3 fun st H4 => ∃ a xs, x = .ref a ∧ SqL K H4 a xs ∧ st ≠ some 0 ∧ ∀ p, H4 p = none → Q (.ref p) (upd H4 p (.lst (pickL xs lo hi st)))
section
variable {X : Cx} {te : TE} {tl th ts : TO} {lo hi : Option Expr} {p2 pos : Pos}
theorem pe_slS {e c : Expr} (he : PE X e te) (hl : PO X lo tl) (hu : PO X hi th) (hst : PO X (some c) ts) (hop : ∀ v a, subscripted (.Slice lo hi (some c) p2) false v (.ref a) = operate [v, .ref a] (getItem v (.ref a)) := by intro _ _; with_unfolding_all rfl) : PE X (.Subscript e (.Slice lo hi (some c) p2) pos) (tSlS X.K te tl th ts) := by
  refine ⟨fun pins s σ H Q I h => ?_⟩
  refine Subscript_ (thn (he.run pins s σ H _ I h) fun v s1 ⟨x, H1, I1, r1, q1⟩ => ?_)
  refine wpAny_Slice (thn (hl.run pins s1 σ H1 _ I1 q1) fun vl s2 ⟨l, H2, I2, pl, q2⟩ => thn (hu.run pins s2 σ H2 _ I2 q2) fun vu s3 ⟨u, H3, I3, pu, q3⟩ => thn (hst.run pins s3 σ H3 _ I3 q3) fun vs s4 ⟨o, H4, I4, ps, q4⟩ => ?_)
  obtain ⟨a, xs, rfl, hx, h0, q⟩ := q4
  cases r1
  have I5 : Inv X pins σ H4 { s4 with heap := s4.heap.push { cls := .type "slice", data := .fields #[vl, vu, vs] } } := I4.kept (t' := s4.toks) fun b ob q => Heap.get?_push_of_some _ q
  obtain ⟨its, r, ht, hz⟩ := I5.list hx
  have hlen := r.length
  show wpAny (model X.prog X.w) X.A (subscriptTail e (.Slice lo hi (some c) p2) (.ref a) (.ref s4.heap.objs.size)) (EP X pins σ Q) X.xe { s4 with heap := s4.heap.push { cls := .type "slice", data := .fields #[vl, vu, vs] } }
  refine tail_any (ops := [.ref a, .ref s4.heap.objs.size]) ht.isList.typeIs (PySem.slot_list_getitem.lookup) ?_ (hop _ _)
  refine wpAny_getItem_list_slice ht.isList (Heap.IsSliceOf.new _ vl vu vs) pl pu ps h0 ?_ (by rw [List.size_toArray]; omega)
  rw [pickL_slice]
  refine ⟨.ref _, _, I5.laid (t' := s4.toks) (o := .lst (pickL xs l u o)) (fun b ob q => Heap.get?_push_of_some _ q) (Nat.le_refl _) ?_, rfl, q _ (I5.hok.fresh (Nat.le_refl _))⟩
  exact ⟨Nat.le_trans (pickL_len xs l u o) hz, _, 0, vals_pick r l u o, Heap.get?_push_size _ rfl⟩
theorem k_slS (K : PySem.W.Frag) (hk : X.K = K) {e c : Expr} (he : PE X e te) (hl : PO X lo tl) (hu : PO X hi th) (hst : PO X (some c) ts) (hop : ∀ v a, subscripted (.Slice lo hi (some c) p2) false v (.ref a) = operate [v, .ref a] (getItem v (.ref a)) := by intro _ _; with_unfolding_all rfl) : PE X (.Subscript e (.Slice lo hi (some c) p2) pos) (tSlS K te tl th ts) := by subst hk; exact pe_slS he hl hu hst hop
end
section
variable {K : PySem.W.Frag} {s rs : List SD} {Q : SD → List SD → Prop} {te : TE}
theorem de_slSt {tl th ts : TO} (h : DE ⟨K, ω⟩ te s rs fun r s1 => DO ⟨K, ω⟩ tl s1 (r :: rs) fun lo s2 => DO ⟨K, ω⟩ th s2 (r :: rs) fun hi s3 => DO ⟨K, ω⟩ ts s3 (r :: rs) fun st s4 => ∃ ds, dat s4 r = some (.list ds) ∧ st ≠ some 0 ∧ Q (.ow none (pickL ds lo hi st)) s4) :
    DE ⟨K, ω⟩ (tSlS K te tl th ts) s rs Q := fun Z σ ts' H R o k =>
  h Z σ ts' H _ o fun x H1 s1 r o1 h1 => h1 Z σ (x :: ts') H1 _ o1 fun lo H2 s2 o2 h2 => h2 Z σ (x :: ts') H2 _ o2 fun hi H3 s3 o3 h3 => h3 Z σ (x :: ts') H3 _ o3 fun st H4 s4 o4 ⟨ds, e, h0, q⟩ => by
    obtain ⟨a, ys, rfl, h2, h3⟩ := o4.listTop e
    refine ⟨a, ys, rfl, h2, h0, fun p hp => ?_⟩
    have ext : ∀ a u, H4 a = some u → upd H4 p (.lst (pickL ys lo hi st)) a = some u := fun a u ha => by rw [upd_ne (ne_of_none ha hp)]; exact ha
    exact k _ _ s4 _ (o4.pop.pushO hp (h3.pick lo hi st)) q
end
end W8

/-! W9q: enumerate of a tuple. -/
namespace W8
open PySem L2 RZ PySem.Spec PyProof.Rows
theorem enum_new1 {v : Value} {o : Obj} {H : Heap → Prop} (B : Begins v o H) :
    Meets (Builtin.«enumerate.__new__» ⟨[.type "enumerate", v], []⟩) fun _ R s =>
      H s.heap ∧ R (.ok (.ret (.ref (s.heap.push o).objs.size)))
        { s with heap := (s.heap.push o).push { cls := .type "enumerate",
                                                data := .fields #[.none, .bool false, .ref s.heap.objs.size, rawInt 0, .none, .none] } } := by
  refine .of_wp fun prog w A R s h => ?_
  obtain ⟨hp, g, d, tk, os⟩ := s
  obtain ⟨h1, h⟩ := h
  have hs := sub_enumerate
  have it {A' : Around} {E Q : Value → Shared → Prop} (q : Q (.ref hp.objs.size) ⟨hp.push o, g, d, tk, os⟩) : wpAny (model prog w) A' (pyIter v) Q E ⟨hp, g, d, tk, os⟩ := B.iter prog w _ _ ⟨hp, g, d, tk, os⟩ _ h1 q
  wp_walk using it
  refine wpAny_stack_any fun st => wpAny_pure ?_
  split
  case h_1 c _ _ _ _ _ => cases (c == Value.type "enumerate") <;> (wp_walk using it; exact ⟨_, rfl, h⟩)
  case h_2 => wp_walk using it; exact ⟨_, rfl, h⟩
section
variable {prog : Program} {w : World} {A : Around} {E : Value → Shared → Prop} {s : Shared}
theorem enum_begin1 {v : Value} {o : Obj} {H : Heap → Prop} {Q : Value → Shared → Prop} (B : Begins v o H) (h1 : H s.heap)
    (h : ∀ h', IsEnum h' (s.heap.objs.size + 1) s.heap.objs.size 0 .none → h'.get? s.heap.objs.size = some o → (∀ b u, s.heap.get? b = some u → h'.get? b = some u) → Q (.ref (s.heap.objs.size + 1)) { s with heap := h' }) :
    wpAny (model prog w) A (call (.type "enumerate") [v]) Q E s := by
  refine callType_new PySem.F.called_enumerate (by decide) (PySem.F.typeCall_enumerate_1 _) (PySem.F.newCall_enumerate_1 _) (fun ob => PySem.F.args_object_init_2 ob _) PySem.F.entry_enumerate_new (enum_new1 B) ⟨h1, ?_⟩
  have sz : (s.heap.push o).objs.size = s.heap.objs.size + 1 := Heap.size_push ..
  show _ ∧ _
  rw [sz]
  have e1 := Heap.get?_push_size (s.heap.push o) (o := { cls := .type "enumerate", data := .fields #[.none, .bool false, .ref s.heap.objs.size, rawInt 0, .none, .none] }) rfl
  rw [sz] at e1
  have e2 : ∀ b u, s.heap.get? b = some u → ((s.heap.push o).push { cls := .type "enumerate", data := .fields #[.none, .bool false, .ref s.heap.objs.size, rawInt 0, .none, .none] }).get? b = some u := fun b u y => Heap.get?_push_of_some _ (Heap.get?_push_of_some _ y)
  exact ⟨⟨_, e1, rfl⟩, h _ e1 (Heap.get?_push_of_some _ (Heap.get?_push_size _ B.free)) e2⟩
end
/-- the tuple at a, each item in a new pair -/
def IteT (K : PySem.W.Frag) (a : Addr) : It where
  go := fun i H => ∃ (xs : List V) (x : V), SqT K H a xs ∧ xs[i]? = some x
  yld := fun i H v H' => ∃ T x, v = .ref T ∧ H T = none ∧ H' = upd H T (.tup [.int (i : Nat), x]) ∧ ∀ xs, SqT K H a xs → xs[i]? = some x
  stop := fun i H => ∃ xs : List V, SqT K H a xs ∧ xs.length = i
theorem turn_enT {P : Program} {w : World} {K : PySem.W.Frag} {elts : List Expr} {kk : Nat} {tpos : Pos} (a e it : Addr) (na : a ≠ it) (ne : e ≠ a) :
    Turn P w K (.Tuple elts kk tpos) (IteT K a) [e, it] e fun i h => (∃ old, IsEnum h e it ((i : Nat) : Int) old) ∧ h.IsTupleIter it a i ∧ e ≠ it := by
  constructor
  case mem => exact List.mem_cons_self
  case obj =>
    rintro i h ⟨⟨old, he⟩, ⟨o, ho, hc, hd⟩, _⟩ b hb
    rcases List.mem_cons.mp hb with rfl | hb
    · exact ⟨_, he, fun _ q => nomatch q⟩
    · obtain rfl := List.mem_singleton.mp hb
      exact ⟨o, ho, fun _ q => by rw [hd] at q; cases q⟩
  case keep =>
    rintro i h h' ⟨⟨old, he⟩, hi, hn⟩ k
    exact ⟨⟨old, k e (by simp) _ he⟩, hi.at fun o q => k it (by simp) o q, hn⟩
  case item =>
    intro X hP hw hK hc i pins s σ H E I hf st hg
    subst hP hw hK
    obtain ⟨⟨old, he⟩, hit, hn⟩ := st
    obtain ⟨xs, x, hq, hx⟩ := hg
    obtain ⟨its, rv, p, hz⟩ := I.tuple hq
    obtain ⟨u, hu, ru⟩ := rv.get hx
    have el : e < s.heap.objs.size := Heap.lt_size he
    have il : it < s.heap.objs.size := by obtain ⟨_, q, _⟩ := hit; exact Heap.lt_size q
    have hh : X.A.in1.handled = none := I.ok.hd hc
    have D1 := Draws.tuple (prog := X.prog) (w := X.w) hh it a na its.toArray
    have ga : its.toArray[i]? = some u := by simpa using hu
    have lt := (Array.getElem?_eq_some_iff.mp ga).1
    have nf : e ∉ [it, a] := by simp only [List.mem_cons, List.not_mem_nil, or_false, not_or]; exact ⟨hn, ne⟩
    refine wpAny_pyNext_enum_itemC D1 he ⟨hit, p⟩ lt hn nf ?_
    intro v h1 tk ev ho st1 hT hsz hk
    obtain rfl : u = v := Option.some.inj (ga.symm.trans ev)
    refine ⟨_, rfl, wpAny_letOwnedTupleGo_enum (s := { s with heap := h1, toks := tk + 1 }) ho ?_⟩
    intro h2 he2 sb
    have made : h2.get? s.heap.objs.size = some { cls := .type "tuple", data := .seq #[.int i tk, u] } := (sb.2 _ (Nat.ne_of_gt el)).trans hT
    have okn : ObjOk X.prog X.w (upd H s.heap.objs.size (.tup [.int (i : Nat), x])) h2 s.heap.objs.size (.tup [.int (i : Nat), x]) := by
      refine ⟨?_, [.int i tk, u], .cons ⟨_, rfl⟩ (.cons ru .nil), ⟨_, made, rfl, _, rfl⟩⟩
      show 2 ≤ sizeLine
      decide
    have kept : ∀ b o, b ∉ [e, it] → s.heap.get? b = some o → h2.get? b = some o := by
      intro b o nb q
      simp only [List.mem_cons, List.not_mem_nil, or_false, not_or] at nb
      exact (sb.2 b nb.1).trans (hk b o nb.1 nb.2 q)
    have I2 : Inv X pins σ (upd H s.heap.objs.size (.tup [.int (i : Nat), x])) { s with heap := h2, toks := tk + 1 } := I.turnedNew (t' := tk + 1) (ch := [e, it]) (fun b o nb q => kept b o nb q) hf (Nat.le_refl _) okn
    refine ⟨.ref s.heap.objs.size, _, I2, rfl, ⟨_, x, rfl, I.hok.fresh (Nat.le_refl _), rfl, fun ys hy => by rw [I.tuple_inj hy hq]; exact hx⟩, ⟨⟨u, ?_⟩, st1.1.at fun o q => (sb.2 it (Ne.symm hn)).trans q, hn⟩, ?_⟩
    · rw [show ((i + 1 : Nat) : Int) = (i : Int) + 1 by omega]; exact he2
    · intro b hb
      have low : b < s.heap.objs.size := by
        rcases List.mem_cons.mp hb with rfl | hb
        · exact el
        · rw [List.mem_singleton.mp hb]; exact il
      rw [upd_ne (Nat.ne_of_lt low)]
      exact (hf b hb).1
  case done =>
    intro X hP hw hK hc i pins s σ H E I hf st hg
    subst hP hw hK
    obtain ⟨⟨old, he⟩, hit, hn⟩ := st
    obtain ⟨xs, hq, hx⟩ := hg
    obtain ⟨its, rv, p, hz⟩ := I.tuple hq
    have hh : X.A.in1.handled = none := I.ok.hd hc
    have D1 := Draws.tuple (prog := X.prog) (w := X.w) hh it a na its.toArray
    have c1 : its.toArray.size = i := by rw [List.size_toArray, ← hx]; exact rv.length.symm
    refine wpAny_pyNext_enum_endD D1 he (by rw [c1]; exact ⟨hit, p⟩) ?_
    intro h1 old1
    refine ⟨rfl, I.turnedL (t' := s.toks) (ch := [e, it]) (fun b o nb q => ?_) hf⟩
    simp only [List.mem_cons, List.not_mem_nil, or_false, not_or] at nb
    exact old1 b o nb.2 q
  case self =>
    intro A i s Q E st h
    obtain ⟨⟨_, he⟩, _⟩ := st
    exact wpAny_pyIter_enum he h
def iEnumT (K : PySem.W.Frag) (ta : TA) : TI := fun σ H R => ta σ H fun vs H1 => ∃ a xs, vs = [.ref a] ∧ SqT K H1 a xs ∧ R (IteT K a) H1
theorem pi_enT {X : Cx} {e : Expr} {ta : TA} {p pos tpos : Pos} {elts : List Expr} {kk : Nat} (hg : Gl X "enumerate") (hm : X.mg "enumerate" = none) (ha : PA X [e] ta) (hs : starEach [e] X.env = [(false, eval e X.env)] := by rfl) :
    PI X (.Tuple elts kk tpos) (.Call (.Name "enumerate" p) [e] [] pos) (iEnumT X.K ta) := by
  constructor
  intro pins s σ H R I h
  refine Call_ (ld_blt I hg hm boot_enumerate (PyProof.Rows.callWith_type1 (thn (ha.run pos pins s σ H _ I h) ?_) hs rfl))
  rintro us s1 ⟨vs, H1, I1, r1, a, xs, ex, hq, q⟩
  subst ex
  match us, r1 with
  | [_], .cons ra .nil =>
    cases ra
    obtain ⟨its, rv, p', hz⟩ := I1.tuple hq
    have al : a < s1.heap.objs.size := by
      obtain ⟨o, e0, _⟩ := (show s1.heap.IsTuple a its.toArray from p')
      exact Heap.lt_size e0
    refine enum_begin1 (begins_tuple a its.toArray) p' ?_
    intro h1 he g1 old
    refine wpAny_pyIter_enum he ?_
    have I2 : Inv X pins σ H1 { s1 with heap := h1 } := I1.kept (t' := s1.toks) old
    refine ⟨s1.heap.objs.size + 1, [s1.heap.objs.size + 1, s1.heap.objs.size], _, _, H1, rfl, I2, turn_enT a (s1.heap.objs.size + 1) s1.heap.objs.size (Nat.ne_of_lt al) (Nat.ne_of_gt (Nat.lt_succ_of_lt al)), ⟨⟨.none, he⟩, ⟨_, g1, rfl, rfl⟩, Nat.succ_ne_self _⟩, ?_, q⟩
    intro b hb
    have high : s1.heap.objs.size ≤ b := by
      rcases List.mem_cons.mp hb with rfl | hb
      · exact Nat.le_add_right _ _
      · rw [List.mem_singleton.mp hb]; exact Nat.le_refl _
    exact I1.fpOk high (I1.hok.fresh high)
theorem k_enT (K : PySem.W.Frag) {X : Cx} {e : Expr} {ta : TA} {p pos tpos : Pos} {elts : List Expr} {kk : Nat} (hk : X.K = K) (hg : Gl X "enumerate") (hm : X.mg "enumerate" = none) (ha : PA X [e] ta) (hs : starEach [e] X.env = [(false, eval e X.env)] := by rfl) :
    PI X (.Tuple elts kk tpos) (.Call (.Name "enumerate" p) [e] [] pos) (iEnumT K ta) := by subst hk; exact pi_enT hg hm ha hs
section
variable {K : PySem.W.Frag} {s rs : List SD} {tl : TA} {ds : List D} {QI : List D → List SD → (List SD → Prop) → List SD → Prop}
theorem src_enT {C : Addr → Prop} {H : Hp} {a : Addr} {ys : List V} (h : SqT K H a ys) (h2 : RpA K C H ys ds) : SrcOk K (IteT K a) (enumD ds) H C := by
  refine ⟨fun i d hd => ?_, ⟨ys, h, by rw [enumD_length, h2.length]⟩⟩
  obtain ⟨e, he, rfl⟩ := enumD_get hd
  obtain ⟨x, hx, hr⟩ := h2.get he
  refine ⟨⟨ys, x, h, hx⟩, ?_⟩
  rintro _ _ ⟨T, z, rfl, hn, rfl, hz⟩
  have := hz ys h
  rw [hx] at this; cases this
  exact ⟨upd_grow hn, rp_pair hn (.int _) hr⟩
theorem di_enT (h : DA ⟨K, ω⟩ tl s rs fun as s1 => ∃ ds, as = [.v (.tuple ds)] ∧ QI (enumD ds) [.v (.tuple ds)] (fun _ => True) s1) : DI ⟨K, ω⟩ (iEnumT K tl) s rs QI := fun Z σ ts H R o k =>
  h Z σ ts H _ o fun xs H1 s1 as o1 e ⟨ds, ea, q⟩ => by
    subst ea
    obtain ⟨x, rfl⟩ : ∃ x, xs = [x] := by match xs, e with | [x], _ => exact ⟨x, rfl⟩
    have o1 : Ok K Z σ (x :: ts) H1 s1 (.v (.tuple ds) :: rs) := o1
    obtain ⟨a, ys, rfl, h2, h3⟩ := o1.tupTop rfl
    refine ⟨a, ys, rfl, h2, k _ H1 s1 [.v (.tuple ds)] [.ref a] _ _ o1 rfl (fun σ' H2 s2 tx ax o2 w => ?_) q⟩
    obtain ⟨zs, h4, h5⟩ := Ok.placeT (rs := rs) (ts := ts) o2 o.lt
    exact src_enT h4 h5
end
/-- a text so often, r in all (of constants) -/
structure MulOk (z : Str) (n : Int) (r : Str) : Prop where
  c1 : (decide (n < -(2 ^ 63 : Int)) || decide (n ≥ 2 ^ 63)) = false
  c2 : ¬ ((z.length : Int) > (2 ^ 63 - 1) / n)
  c3 : Builtin.Str.tooLong (z.length * n.toNat) = false
  c4 : ¬ n < 1
  c5 : ¬ (n == 1 || z.length == 0) = true
  e : (⟨(List.replicate n.toNat z.cps).foldl (· ++ ·) #[]⟩ : Str) = r
  c6 : r.length ≤ sizeLine
def rMulK : R2 := fun x y H Q => ∃ z n r, x = .str z ∧ y = .int n ∧ MulOk z n r ∧ Q (.str r) H
theorem op_mulK {X : Cx} : OpR X (binaryOp .Mult) rMulK := by
  intro pins s σ H x y v u Q I rx ry h
  obtain ⟨z, n, r, rfl, rfl, m, q⟩ := h
  obtain ⟨t, rfl⟩ := rx
  obtain ⟨t2, rfl⟩ := ry
  refine P.mul_str m.c1 (fun _ _ => m.c2) (fun _ _ => m.c3) ?_
  rw [if_neg m.c4, if_neg m.c5, m.e]
  exact ⟨m.c6, .str r, H, I.tok _, ⟨_, rfl⟩, q⟩
theorem op2_mulK {K : PySem.W.Frag} {s rs : List SD} {Q : SD → List SD → Prop} {z r : Str} {n : Int} (m : MulOk z n r) (q : Q (.v (.str r)) s) : OP2 ⟨K, ω⟩ rMulK (.v (.str z)) (.v (.int n)) s rs Q := fun Z σ ts H x y R o k => by
  have h1 := o.top
  have h2 := o.pop.top
  cases h1; cases h2
  exact ⟨z, n, r, rfl, rfl, m, k _ H s _ (o.pop.pop.pushV (.str r)) q⟩
theorem da_freeze {K : PySem.W.Frag} {s rs : List SD} {ds : List D} {tl : TA} {QA : List SD → List SD → Prop} (i : Nat) (h : s[i]? = some (SD.ow none ds)) (hn : noal rs i = true) (q : DA ⟨K, ω⟩ tl (s.set i (.v (.list ds))) rs QA) : DA ⟨K, ω⟩ tl s rs QA := fun Z σ ts H R o k => q Z σ ts H R (o.freezeS h hn) k
end W8

/-! W9r: sorted of a tuple of data. -/
namespace W8
open PySem L2 RZ PySem.Spec PyProof.Rows PySem.Calls
section
variable {prog : Program} {w : World} {A : Around} {E : Value → Shared → Prop} {s : Shared}
theorem collect_tup {l : Addr} {vs : List Value} {Q : List Value → Shared → Prop} (hl : s.heap.IsTuple l vs.toArray) (hsz : vs.length ≤ sizeLine)
    (h : Q vs { s with heap := (s.heap.push (seqObj "list" #[] 0)).update s.heap.objs.size (Obj.mapSeq (· ++ vs.toArray)) }) : wpAny (model prog w) A (collect (.ref l)) Q E s := by
  obtain ⟨ob, g1, g2, n, g3⟩ := id hl
  unfold collect
  refine wpAny_bind (wpAny_runValue (codeAny_builtin entry_proto_collect' ?_))
  show wpAny _ _ (do
    again (.builtin "list.__iadd__" ⟨[← newList [], .ref l], []⟩)) _ _ s
  refine wpAny_bind (wpAny_newList (wpAny_pure ⟨Code.quiet_builtin _ (by decide +kernel),
    codeAny_builtin entry_list_iadd' ?_⟩))
  show wpAny _ _ (Builtin.List.listExtendWith (.ref s.heap.objs.size) (.ref l)
    (.ref s.heap.objs.size)) _ _ { s with heap := s.heap.push (seqObj "list" #[] 0) }
  unfold Builtin.List.listExtendWith
  have g1' : (s.heap.push (seqObj "list" #[] 0)).get? l = some ob := Heap.get?_push_of_some _ g1
  refine wpAny_bind (wpAny_typeOf (T := "tuple") ⟨ob, g1', g2⟩ ?_)
  rw [if_pos (by rw [show (Value.type "tuple" == Value.type "tuple") = true by rfl]; simp)]
  refine wpAny_bind (listItems_at g1' g3 ?_)
  refine wpAny_bind (listItems_at (xs := #[]) (n := 0) (Heap.get?_push_size _ rfl) rfl ?_)
  rw [if_neg (by simp)]
  refine wpAny_bind (listUpdate_at (xs := #[]) (n := 0) (Heap.get?_push_size _ rfl) rfl ?_ (Nat.zero_le _) ?_)
  rotate_left
  · show (#[] ++ vs.toArray).size ≤ sizeLine + 1
    simp only [Array.size_append, List.size_toArray, List.length_nil]; omega
  refine wpAny_pure ?_
  show wpAny (model prog w) A (do
      let ob ← load s.heap.objs.size
      match ob.data with
      | .seq ys _ => pure ys.toList
      | _ => unsupported "internal:collect") Q E { s with heap := Heap.update (s.heap.push (seqObj "list" #[] 0)) s.heap.objs.size (Obj.mapSeq (· ++ vs.toArray)) }
  refine wpAny_bind (wpAny_load (get?_update_seq (Heap.get?_push_size _ rfl) _) ?_)
  show wpAny _ _ (pure ((#[] : Array Value) ++ vs.toArray).toList) Q E _
  rw [show ((#[] : Array Value) ++ vs.toArray).toList = vs by simp]; exact wpAny_pure h
theorem sorted_tup {κ : PyProof.Rows.KeyKind} {l : Addr} {vs : List Value} {Q : Value → Shared → Prop} (hl : s.heap.IsTuple l vs.toArray)
    (S : PySem.W.SortsAt prog w A.in1.in1 { s with heap := PySem.W.sortingHeap (PySem.W.copyHeap s.heap vs) (s.heap.objs.size + 1) vs } κ vs) (hL : vs.length ≤ sizeLine)
    (h : Q (.ref (s.heap.objs.size + 1)) { s with heap := sortedAll s.heap vs (PySem.W.sortVals κ false vs vs).toArray }) : wpAny (model prog w) A (call (.builtin "sorted") [.ref l]) Q E s := by
  refine call_function_entry kind_sorted plain_sorted entry_sorted (args_sorted1 _) ?_
  unfold Builtin.«sorted»
  refine wpAny_bind (m := checkCount "sorted" 1 1 _) (wpAny_pure ?_)
  refine wpAny_bind (collect_tup hl hL ?_)
  refine wpAny_bind (wpAny_newList ?_ hL)
  have z1 : ((s.heap.push (seqObj "list" #[] 0)).update s.heap.objs.size (Obj.mapSeq (· ++ vs.toArray))).objs.size = s.heap.objs.size + 1 := by rw [Heap.size_update, size_push']
  show wpAny _ _ _ _ _ { s with heap := PySem.W.copyHeap s.heap vs }
  rw [z1]
  refine wpAny_bind (wpAny_holding (wpAny_call_entry_kw slot_list_sort ⟨_, PySem.W.copyHeap_at s.heap vs, rfl⟩ entry_list_sort ?body (args_list_sort _)))
  case body =>
    refine wpAny_mono (PySem.W.list_sort_vals (s := { s with heap := PySem.W.copyHeap s.heap vs }) (P := fun f s' => f = .done (.ret .none) ∧ Q (.ref (s.heap.objs.size + 1)) s') (PySem.W.copyHeap_at s.heap vs) S hL ⟨rfl, h⟩) (fun f s' hf => ?_) fun _ _ e => e
    obtain ⟨rfl, hq⟩ := hf
    exact ⟨_, rfl, wpAny_pure ⟨_, rfl, hq⟩⟩
end
section
variable {X : Cx}
def rSortedU (K : PySem.W.Frag) : List V → Hp → VK → Prop := fun xs H Q => ∃ (a : Addr) (ys : List V) (ds : List D), xs = [.ref a] ∧ SqT K H a ys ∧ DpAll K H ys ds ∧ PySem.W.AllAlike ds ∧ PySem.W.Sortable ds ∧ (∀ d ∈ ds, d.depth ≤ 30) ∧
  ∀ p, H p = none → Q (.ref p) (upd H p (.lst (((ys.zip ds).mergeSort fun x y => leD x.2 y.2).map Prod.fst)))
theorem cr_sortedU (hu : X.A.units + 64 < cLine) : CallR X (.builtin "sorted") (rSortedU X.K) := by
  intro pins s σ H vs us Q I r h
  obtain ⟨a, ys, ds, rfl, hs, hd, hal, hk, hdep, q⟩ := h
  obtain ⟨its, rv, hl, hz⟩ := I.tuple hs
  rw [Vals.ref1 r]
  obtain ⟨as, hr⟩ := Dp.readsAll I ds ys its hd rv
  have hlen : ds.length = ys.length := dpAll_length hd
  have each := each_of_reads (h' := PySem.W.sortingHeap (PySem.W.copyHeap s.heap its) (s.heap.objs.size + 1) its) (fun b o e => PySem.W.sorting_copy_old e) hr
  have S := PySem.W.SortsAt.data (prog := X.prog) (w := X.w) (A := X.A.in1.in1) (s := { s with heap := PySem.W.sortingHeap (PySem.W.copyHeap s.heap its) (s.heap.objs.size + 1) its }) each hal hk (fun d hd => by
    have := hdep d hd
    show X.A.units + 1 + 1 + d.depth < cLine
    omega)
  refine sorted_tup hl S (by rw [← rv.length]; exact hz) ?_
  have ek : PySem.W.EachIs (fun v (b : V × D) => (PySem.W.dataKind (PySem.W.sortingHeap (PySem.W.copyHeap s.heap its) (s.heap.objs.size + 1) its) ds).keyOf v = some (PySem.W.keyToks b.2)) its (ys.zip ds) :=
    each_zip2 (fun u d y ⟨⟨as, r⟩, hm⟩ => PySem.W.dataKind_some hal hm r) (PySem.W.each_mem each) hlen
  have e := PySem.W.sortVals_each (κ := PySem.W.dataKind (PySem.W.sortingHeap (PySem.W.copyHeap s.heap its) (s.heap.objs.size + 1) its) ds) (rev := false) (fun b : V × D => PySem.W.keyToks b.2) (each_zip (R := fun v b => RelV b.1 v) rv hlen fun _ _ _ h => h) ek
  have vz := each_vals (fun _ _ h => h) e
  obtain ⟨ep, he⟩ := PyProof.Rows.sortedAll_at s.heap its (PySem.W.sortVals (PySem.W.dataKind (PySem.W.sortingHeap (PySem.W.copyHeap s.heap its) (s.heap.objs.size + 1) its) ds) false its its).toArray
  refine ⟨.ref _, upd H (s.heap.objs.size + 1) (.lst (((ys.zip ds).mergeSort fun x y => leD x.2 y.2).map Prod.fst)), I.laid (t' := s.toks) (fun _ _ => PyProof.Rows.sortedAll_old) (Nat.le_succ _) ⟨?_, _, ep, vz, he⟩, rfl, q _ (I.hok.fresh (Nat.le_succ _))⟩
  rw [List.length_map, (List.mergeSort_perm _ _).length_eq, List.length_zip]
  omega
theorem k_sortedDU (K : PySem.W.Frag) (hk : X.K = K) (hu : X.A.units + 64 < cLine) : CallR X (.builtin "sorted") (fun xs H Q => rSortedD K xs H Q ∨ rSortedU K xs H Q) := by subst hk; exact (cr_sortedD hu).or (cr_sortedU hu)
end
section
variable {K : PySem.W.Frag} {s rs : List SD} {Q : SD → List SD → Prop} {ds : List D}
theorem opc_sortedU (hal : PySem.W.AllAlike ds) (hk : PySem.W.Sortable ds) (hd : ∀ d ∈ ds, d.depth ≤ 30) (q : Q (.ow none (ds.mergeSort leD)) s) : OPC ⟨K, ω⟩ (rSortedU K) [.v (.tuple ds)] s rs Q := fun Z σ ts H xs R o e k => by
  obtain ⟨x, rfl⟩ : ∃ x, xs = [x] := by match xs, e with | [x], _ => exact ⟨x, rfl⟩
  have o1 : Ok K Z σ (x :: ts) H s (.v (.tuple ds) :: rs) := o
  obtain ⟨a, vs, rfl, h2, h3⟩ := o1.tupTop rfl
  have hl := h3.length
  refine ⟨a, vs, ds, rfl, h2, RpA.dp _ _ h3, hal, hk, hd, fun p hp => ?_⟩
  have hm : ∀ x ∈ (vs.zip ds).mergeSort (fun x y => leD x.2 y.2), Rp K (Cl Z (gv σ ts) (gs s rs)) H x.1 x.2 := fun x hx => RpA.zipAll h3 x ((List.mergeSort_perm _ _).mem_iff.mp hx)
  have e2 : ((vs.zip ds).mergeSort (fun x y => leD x.2 y.2)).map Prod.snd = ds.mergeSort leD := by
    rw [PySem.W.sort_maps (s := leD) Prod.snd (fun _ _ _ _ => rfl), List.map_snd_zip (by omega)]
  have rp := RpA.ofPairs hm
  rw [e2] at rp
  exact k _ _ _ _ (o1.pop.pushO hp rp) q
end
end W8

/-! W9s: a new dict is walked in a comprehension that reads it. -/
namespace W8
open PySem L2 RZ PySem.Spec PyProof.Rows
def nofz (s : List SD) : Bool := s.all fun r => match r with | .fz _ => false | _ => true
theorem nofz_at {s : List SD} (h : nofz s = true) {i : Nat} {kds : List (List Key × D)} : s[i]? ≠ some (.fz kds) := fun e => by
  have := List.all_eq_true.mp h _ (List.mem_of_getElem? e)
  cases this
theorem nofz_gT {s : List SD} (h : nofz s = true) {i : Nat} {kds : List (List Key × D)} : gT s i ≠ some (.fz kds) := fun e => by
  have := List.all_eq_true.mp h _ (gT_mem e)
  cases this
/-- the dict at a locked, from the run's start -/
def Zn.lk (Z : Zn) (a : Addr) (u : HO) : Zn := ⟨upd Z.H0 a u, Z.Bs, Z.S⟩
section
variable {K : PySem.W.Frag} {Z : Zn} {σ : L2.St} {ts : List V} {H : Hp} {s rs : List SD} {i : Nat} {kds : List (List Key × D)}
theorem Ok.lockD (o : Ok K Z σ ts H s rs) (hs : s[i]? = some (.own none (.dT kds))) (hn : W8.noal rs i = true) : ∃ a vs, σ[i]? = some (some (.ref a)) ∧ H a = some (.dT vs) ∧ Z.H0 a = none ∧ a ∉ Z.Bs ∧ ∀ od, Ok K (Z.lk a (.frz od (.dT vs))) σ ts (upd H a (.frz od (.dT vs))) (s.set i (.fz kds)) rs := by
  have hi : i < s.length := (List.getElem?_eq_some_iff.mp hs).1
  obtain ⟨a, u, h1, h2, h3, h4⟩ := o.c.wn (.inl i) none _ hs
  have h4 : Z.H0 a = none := h4
  obtain ⟨vs, rfl, h5⟩ := rpO_dT h3
  have hB : a ∉ Z.Bs := fun z => (o.c.bs a z).2 h4
  refine ⟨a, vs, gv_slot.mp h1, h2, h4, hB, fun od => ?_⟩
  have g0 : ∀ {q r}, q ≠ .inl i → gs (s.set i (.fz kds)) rs q = some r → gs s rs q = some r := fun {q r} hq e => by
    rw [gs_set hi, up_ne hq] at e; exact e
  have g1 : ∀ {r}, gs (s.set i (.fz kds)) rs (.inl i) = some r → r = .fz kds := fun {r} e => by
    rw [gs_set hi, up_same] at e; exact (Option.some.inj e).symm
  have H1 : ∀ {b o}, b ≠ a → H b = some o → upd H a (.frz od (.dT vs)) b = some o := fun {b o} hb e => by rw [upd_ne hb]; exact e
  have Z1 : ∀ {b}, b ≠ a → (Z.lk a (.frz od (.dT vs))).H0 b = Z.H0 b := fun {b} hb => upd_ne hb
  have own : ∀ b, Own (gv σ ts) (gs (s.set i (.fz kds)) rs) b → Own (gv σ ts) (gs s rs) b := fun b z => by
    rcases z with ⟨q, t, ds, e1, e2⟩ | ⟨q, G, e1, e2⟩
    · by_cases hq : q = .inl i
      · subst hq; cases g1 e1
      · exact .inl ⟨q, t, ds, g0 hq e1, e2⟩
    · by_cases hq : q = .inl i
      · subst hq; cases g1 e1
      · exact .inr ⟨q, G, g0 hq e1, e2⟩
  have rdT : ∀ b xs, Rd H b (.tup xs) → Rd (upd H a (.frz od (.dT vs))) b (.tup xs) := fun b xs r => by
    have hb : b ≠ a := fun z => by
      subst z
      rcases r with r | ⟨_, r⟩ <;> (rw [h2] at r; cases r)
    rcases r with r | ⟨ob, r⟩
    · exact .inl (H1 hb r)
    · exact .inr ⟨ob, H1 hb r⟩
  have rdX : ∀ b us, H b = some (.xd us) → upd H a (.frz od (.dT vs)) b = some (.xd us) := fun b us r => by
    have hb : b ≠ a := fun z => by
      subst z
      rw [h2] at r; cases r
    exact H1 hb r
  have rdW : ∀ b d, H b = some (.own d) → upd H a (.frz od (.dT vs)) b = some (.own d) := fun b d r => by
    have hb : b ≠ a := fun z => by
      subst z
      rw [h2] at r; cases r
    exact H1 hb r
  have rdL : ∀ b xs, Cl Z (gv σ ts) (gs s rs) b → Rd H b (.lst xs) → Cl (Z.lk a (.frz od (.dT vs))) (gv σ ts) (gs (s.set i (.fz kds)) rs) b ∧ Rd (upd H a (.frz od (.dT vs))) b (.lst xs) := fun b xs c r => by
    have hb : b ≠ a := fun z => by
      subst z
      rcases r with r | ⟨_, r⟩ <;> (rw [h2] at r; cases r)
    refine ⟨⟨?_, fun z => c.2 (own b z)⟩, ?_⟩
    · rcases c.1 with c | c
      · exact .inl c
      · exact .inr ((Z1 hb).trans c)
    rcases r with r | ⟨ob, r⟩
    · exact .inl (H1 hb r)
    · exact .inr ⟨ob, H1 hb r⟩
  refine ⟨by rw [List.length_set]; exact o.ls, o.lt, ⟨fun b ob n e => ?_, fun b n => ?_, fun b hb => ⟨(o.c.bs b hb).1, ?_⟩, fun q d hq => ?_, fun q t ds hq => ?_, fun p q t ds u es b e1 e2 e3 e4 => ?_, fun q j hq => ?_, fun q kk hq => ?_, fun q b hq => ?_, fun q G hq => ?_, fun p q G G' e1 e2 => ?_, fun p G q t ds b e1 e2 e3 => ?_⟩, fun j m e => ?_⟩
  rotate_left 8
  · have n1 : q ≠ .inl i := fun z => by subst z; cases g1 hq
    exact o.c.rf q b (g0 n1 hq)
  · have n1 : q ≠ .inl i := fun z => by subst z; cases g1 hq
    obtain ⟨m1, m2⟩ := o.c.gh q G (g0 n1 hq)
    refine ⟨m1, fun b g hb => ?_⟩
    obtain ⟨u, e1, e2, e3⟩ := m2 b g hb
    have hne : b ≠ a := fun z => by
      subst z
      exact o.c.sg q G (.inl i) _ _ b (g0 n1 hq) hs h1 (List.mem_map_of_mem hb)
    exact ⟨u, H1 hne e1, RpG.mono rdT rdL rdX rdW e2, e3.imp (fun z => (Z1 hne).trans z) id⟩
  · have n1 : p ≠ .inl i := fun z => by subst z; cases g1 e1
    have n2 : q ≠ .inl i := fun z => by subst z; cases g1 e2
    exact o.c.one p q G G' (g0 n1 e1) (g0 n2 e2)
  · have n1 : p ≠ .inl i := fun z => by subst z; cases g1 e1
    have n2 : q ≠ .inl i := fun z => by subst z; cases g1 e2
    exact o.c.sg p G q t ds b (g0 n1 e1) (g0 n2 e2) e3
  rotate_left
  · by_cases hb : b = a
    · subst hb
      rw [show (Z.lk b (.frz od (.dT vs))).H0 b = some (.frz od (.dT vs)) from upd_same] at e
      rw [upd_same]; exact e
    · rw [Z1 hb] at e; exact H1 hb (o.c.fr b ob n e)
  · by_cases hb : b = a
    · subst hb; rw [upd_same]; exact fun z => by cases z
    · rw [Z1 hb] at n; rw [upd_ne hb]; exact o.c.dm b n
  · have hb' : b ≠ a := fun z => hB (z ▸ hb)
    rw [Z1 hb']; exact (o.c.bs b hb).2
  · by_cases e : q = .inl i
    · subst e; cases g1 hq
    · obtain ⟨x, e1, e2⟩ := o.c.va q d (g0 e hq)
      exact ⟨x, e1, Rp.mono rdT rdL _ _ e2⟩
  · by_cases e : q = .inl i
    · subst e; cases g1 hq
    · obtain ⟨b, xs, e1, e2, e3, e4⟩ := o.c.wn q t ds (g0 e hq)
      have hb : b ≠ a := fun z => by
        subst z
        exact e (o.c.se q (.inl i) _ _ _ _ b (g0 e hq) hs e1 h1)
      refine ⟨b, xs, e1, H1 hb e2, RpO.mono rdT rdL rdX e3, ?_⟩
      cases t with
      | some k => exact e4
      | none => exact (Z1 hb).trans e4
  · have n1 : p ≠ .inl i := fun z => by subst z; cases g1 e1
    have n2 : q ≠ .inl i := fun z => by subst z; cases g1 e2
    exact o.c.se p q _ _ _ _ b (g0 n1 e1) (g0 n2 e2) e3 e4
  · have n1 : q ≠ .inl i := fun z => by subst z; cases g1 hq
    obtain ⟨t, ds, x, e1, e2, e3⟩ := o.c.al q j (g0 n1 hq)
    have hj : j ≠ i := fun z => by subst z; exact o.noal hn q (g0 n1 hq)
    exact ⟨t, ds, x, by rw [gs_set hi, up_ne (fun z => hj (Sum.inl.inj z))]; exact e1, e2, e3⟩
  · by_cases e : q = .inl i
    · subst e
      cases g1 hq
      exact ⟨a, od, vs, h1, upd_same, hB, RpP.mono rdT rdL h5⟩
    · obtain ⟨b, od', vs', e1, e2, e3, e4⟩ := o.c.fz q kk (g0 e hq)
      have hb : b ≠ a := fun z => by subst z; rw [h4] at e2; cases e2
      exact ⟨b, od', vs', e1, (Z1 hb).trans e2, e3, RpP.mono rdT rdL e4⟩
  · by_cases e' : j = i
    · subst e'; rw [List.getElem?_set_self hi] at e; cases e
    · rw [List.getElem?_set_ne (Ne.symm e')] at e; exact o.na j m e
theorem Ok.unlockD {a : Addr} {od : Obj} {vs : List (List Key × V)} (o : Ok K (Z.lk a (.frz od (.dT vs))) σ ts H s rs) (h4 : Z.H0 a = none) (hB : a ∉ Z.Bs) (hs : s[i]? = some (.fz kds)) (hz : nofz (s.set i .no) = true) (hr : nofz rs = true) :
    H a = some (.frz od (.dT vs)) ∧ Ok K Z σ ts (upd H a (.dT vs)) (s.set i .no) rs := by
  have hi : i < s.length := (List.getElem?_eq_some_iff.mp hs).1
  have hF : H a = some (.frz od (.dT vs)) := o.c.fr a _ hB upd_same
  refine ⟨hF, ?_⟩
  have g0 : ∀ {q r}, q ≠ .inl i → gs (s.set i .no) rs q = some r → gs s rs q = some r := fun {q r} hq e => by
    rw [gs_set hi, up_ne hq] at e; exact e
  have g1 : ∀ {r}, gs (s.set i .no) rs (.inl i) = some r → r = .no := fun {r} e => by
    rw [gs_set hi, up_same] at e; exact (Option.some.inj e).symm
  have H1 : ∀ {b o}, b ≠ a → H b = some o → upd H a (.dT vs) b = some o := fun {b o} hb e => by rw [upd_ne hb]; exact e
  have Z1 : ∀ {b}, b ≠ a → (Z.lk a (.frz od (.dT vs))).H0 b = Z.H0 b := fun {b} hb => upd_ne hb
  have own : ∀ b, Own (gv σ ts) (gs (s.set i .no) rs) b → Own (gv σ ts) (gs s rs) b := fun b z => by
    rcases z with ⟨q, t, ds, e1, e2⟩ | ⟨q, G, e1, e2⟩
    · by_cases hq : q = .inl i
      · subst hq; cases g1 e1
      · exact .inl ⟨q, t, ds, g0 hq e1, e2⟩
    · by_cases hq : q = .inl i
      · subst hq; cases g1 e1
      · exact .inr ⟨q, G, g0 hq e1, e2⟩
  have rdT : ∀ b xs, Rd H b (.tup xs) → Rd (upd H a (.dT vs)) b (.tup xs) := fun b xs r => by
    have hb : b ≠ a := fun z => by
      subst z
      rcases r with r | ⟨_, r⟩ <;> (rw [hF] at r; cases r)
    rcases r with r | ⟨ob, r⟩
    · exact .inl (H1 hb r)
    · exact .inr ⟨ob, H1 hb r⟩
  have rdX : ∀ b us, H b = some (.xd us) → upd H a (.dT vs) b = some (.xd us) := fun b us r => by
    have hb : b ≠ a := fun z => by
      subst z
      rw [hF] at r; cases r
    exact H1 hb r
  have rdW : ∀ b d, H b = some (.own d) → upd H a (.dT vs) b = some (.own d) := fun b d r => by
    have hb : b ≠ a := fun z => by
      subst z
      rw [hF] at r; cases r
    exact H1 hb r
  have rdL : ∀ b xs, Cl (Z.lk a (.frz od (.dT vs))) (gv σ ts) (gs s rs) b → Rd H b (.lst xs) → Cl Z (gv σ ts) (gs (s.set i .no) rs) b ∧ Rd (upd H a (.dT vs)) b (.lst xs) := fun b xs c r => by
    have hb : b ≠ a := fun z => by
      subst z
      rcases r with r | ⟨_, r⟩ <;> (rw [hF] at r; cases r)
    refine ⟨⟨?_, fun z => c.2 (own b z)⟩, ?_⟩
    · rcases c.1 with c | c
      · exact .inl c
      · exact .inr ((Z1 hb).symm.trans c)
    rcases r with r | ⟨ob, r⟩
    · exact .inl (H1 hb r)
    · exact .inr ⟨ob, H1 hb r⟩
  refine ⟨by rw [List.length_set]; exact o.ls, o.lt, ⟨fun b ob n e => ?_, fun b n => ?_, fun b hb => ⟨(o.c.bs b hb).1, ?_⟩, fun q d hq => ?_, fun q t ds hq => ?_, fun p q t ds u es b e1 e2 e3 e4 => ?_, fun q j hq => ?_, fun q kk hq => ?_, fun q b hq => ?_, fun q G hq => ?_, fun p q G G' e1 e2 => ?_, fun p G q t ds b e1 e2 e3 => ?_⟩, fun j m e => ?_⟩
  rotate_left 8
  · have n1 : q ≠ .inl i := fun z => by subst z; cases g1 hq
    exact o.c.rf q b (g0 n1 hq)
  · have n1 : q ≠ .inl i := fun z => by subst z; cases g1 hq
    obtain ⟨m1, m2⟩ := o.c.gh q G (g0 n1 hq)
    refine ⟨m1, fun b g hb => ?_⟩
    obtain ⟨u, e1, e2, e3⟩ := m2 b g hb
    have hne : b ≠ a := fun z => by
      subst z
      rw [hF] at e1; cases e1; cases e2 with
        | pl e2 => cases e2
    exact ⟨u, H1 hne e1, RpG.mono rdT rdL rdX rdW e2, e3.imp (fun z => (Z1 hne).symm.trans z) id⟩
  · have n1 : p ≠ .inl i := fun z => by subst z; cases g1 e1
    have n2 : q ≠ .inl i := fun z => by subst z; cases g1 e2
    exact o.c.one p q G G' (g0 n1 e1) (g0 n2 e2)
  · have n1 : p ≠ .inl i := fun z => by subst z; cases g1 e1
    have n2 : q ≠ .inl i := fun z => by subst z; cases g1 e2
    exact o.c.sg p G q t ds b (g0 n1 e1) (g0 n2 e2) e3
  rotate_left
  · have hb : b ≠ a := fun z => by subst z; rw [h4] at e; cases e
    exact H1 hb (o.c.fr b ob n ((Z1 hb).trans e))
  · by_cases hb : b = a
    · subst hb; rw [upd_same]; exact fun z => by cases z
    · rw [upd_ne hb]; exact o.c.dm b (by rw [Z1 hb]; exact n)
  · have hb' : b ≠ a := fun z => hB (z ▸ hb)
    rw [← Z1 hb']; exact (o.c.bs b hb).2
  · by_cases e : q = .inl i
    · subst e; cases g1 hq
    · obtain ⟨x, e1, e2⟩ := o.c.va q d (g0 e hq)
      exact ⟨x, e1, Rp.mono rdT rdL _ _ e2⟩
  · by_cases e : q = .inl i
    · subst e; cases g1 hq
    · obtain ⟨b, xs, e1, e2, e3, e4⟩ := o.c.wn q t ds (g0 e hq)
      have hb : b ≠ a := fun z => by
        subst z
        rw [hF] at e2
        cases e2
        cases e3
      refine ⟨b, xs, e1, H1 hb e2, RpO.mono rdT rdL rdX e3, ?_⟩
      cases t with
      | some k => exact e4
      | none => exact (Z1 hb).symm.trans e4
  · have n1 : p ≠ .inl i := fun z => by subst z; cases g1 e1
    have n2 : q ≠ .inl i := fun z => by subst z; cases g1 e2
    exact o.c.se p q _ _ _ _ b (g0 n1 e1) (g0 n2 e2) e3 e4
  · have n1 : q ≠ .inl i := fun z => by subst z; cases g1 hq
    obtain ⟨t, ds, x, e1, e2, e3⟩ := o.c.al q j (g0 n1 hq)
    have hj : j ≠ i := fun z => by
      subst z
      have e1 : s[j]? = some (SD.own t ds) := e1
      rw [hs] at e1; cases e1
    exact ⟨t, ds, x, by rw [gs_set hi, up_ne (fun z => hj (Sum.inl.inj z))]; exact e1, e2, e3⟩
  · cases q with
    | inl j => exact absurd hq (nofz_at hz)
    | inr j => exact absurd hq (nofz_gT hr)
  · by_cases e' : j = i
    · subst e'; rw [List.getElem?_set_self hi] at e; cases e
    · rw [List.getElem?_set_ne (Ne.symm e')] at e; exact o.na j m e
end
section
variable {K : PySem.W.Frag} {s rs : List SD} {Q : SD → List SD → Prop} {te : TE}
/-- a new dict is locked while the expression runs; it's lost behind -/
theorem de_lockN {i : Nat} (hs : ∃ kds, s[i]? = some (.own none (.dT kds)) ∧ noal rs i = true ∧ nofz rs = true ∧ DE K te (s.set i (.fz kds)) rs fun r s' => s'[i]? = some (.fz kds) ∧ nofz (r :: s'.set i .no) = true ∧ Q r (s'.set i .no)) : DE ⟨K, ω⟩ (tLockE te) s rs Q := fun Z σ ts H R o k => by
  obtain ⟨kds, hs, hn, hz, h⟩ := hs
  obtain ⟨a, vs, h1, h2, h4, hB, ol⟩ := o.lockD hs hn
  refine ⟨a, .dT vs, h2, trivial, fun od => ?_⟩
  refine h (Zn.x0 _) σ ts _ _ (ol od) fun x H' s' r o' ⟨q1, q2, q3⟩ => ?_
  have q2' : nofz (s'.set i .no) = true ∧ nofz (r :: rs) = true := by
    unfold nofz at q2 hz ⊢
    rw [List.all_cons, Bool.and_eq_true] at q2
    exact ⟨q2.2, by rw [List.all_cons, q2.1, hz]; rfl⟩
  obtain ⟨e, ou⟩ := o'.unlockD h4 hB q1 q2'.1 q2'.2
  exact ⟨e, k _ _ _ _ ou q3⟩
end
section
variable {K : PySem.W.Frag} {s rs : List SD} {QI : List D → List SD → (List SD → Prop) → List SD → Prop}
theorem rpa_keys {C : Addr → Prop} {H : Hp} : ∀ ks : List Key, RpA K C H (ks.map kV) (ks.map keyD)
  | [] => .nil
  | .inl n :: ks => .cons (.int n) (rpa_keys ks)
  | .inr z :: ks => .cons (.str z) (rpa_keys ks)
theorem RpP.get {C : Addr → Prop} {H : Hp} {vs : List (List Key × V)} {kds : List (List Key × D)} (h : RpP K C H vs kds) {j : Nat} {k : List Key} {v : V} (e : vs[j]? = some (k, v)) : ∃ d, kds[j]? = some (k, d) := by
  induction h generalizing j with
  | nil => cases e
  | @cons k' v' d' vs ds a _ ih =>
    cases j with
    | zero => cases e; exact ⟨d', rfl⟩
    | succ j => exact ih (j := j) e
/-- for k in d, d locked -/
theorem di_keysT {i : Nat} (hs : ∃ kds, s[i]? = some (.fz kds) ∧ QI (kds.map fun p => .tuple (p.1.map keyD)) [] (fun _ => True) s) : DI ⟨K, ω⟩ (iKeys (tVar i)) s rs QI := fun Z σ ts H R o k => by
  obtain ⟨kds, hs, q⟩ := hs
  obtain ⟨a, od, vs, h1, h2, h3, h4⟩ := o.c.fz (.inl i) kds hs
  refine ⟨.ref a, gv_slot.mp h1, a, od, rfl, .inr ⟨vs, o.c.fr a _ h3 h2, ?_⟩⟩
  refine k _ H s [] [] _ _ o rfl (fun σ' H2 s2 tx ax o2 _ => ?_) q
  have hF := o2.c.fr a _ h3 h2
  refine ⟨fun j d hd => ?_, hF, by rw [List.length_map, h4.len]; exact Nat.le_refl _⟩
  rw [List.getElem?_map] at hd
  obtain ⟨⟨kk, dd⟩, e1, e2⟩ := Option.map_eq_some_iff.mp hd
  have hj : j < kds.length := (List.getElem?_eq_some_iff.mp e1).1
  refine ⟨⟨hF, by rw [h4.len]; exact hj⟩, fun x H' ⟨eH, kk2, v, b, e3, ex, e4⟩ => ?_⟩
  subst eH ex
  obtain ⟨d2, e5⟩ := h4.get e3
  rw [e1] at e5; cases e5
  refine ⟨fun _ _ z => z, ?_⟩
  have := e2; subst this
  exact .tup (.inl (.inl e4)) (rpa_keys _)
end
section
variable {X : Cx} {td ty : TE} {o i : Expr} {pos : Pos}
def tDGetF (K : PySem.W.Frag) (td ty : TE) : TE := fun σ H Q => td σ H fun x H1 => ty σ H1 fun y H2 => ∃ (a b : Addr) (v : V) (kvs : List (List Key × V)) (k : List Key), x = .ref a ∧ y = .ref b ∧ Rd H2 a (.dT kvs) ∧ SqT K H2 b (k.map kV) ∧ valV kvs k = some v ∧ Q v H2
theorem pe_dgetF (hu : X.A.units + 1 < cLine) (ho : PE X o td) (hi : PE X i ty) (hs : NoSl i) : PE X (.Subscript o i pos) (tDGetF X.K td ty) := by
  refine ⟨fun pins s σ H Q I h => ?_⟩
  refine subD_of PySem.F.slot_dict_getitem.lookup hs (thn (ho.run pins s σ H _ I h) fun u s1 ⟨x, H1, I1, rx, q1⟩ => thn (hi.run pins s1 σ H1 _ I1 q1) fun iv s2 ⟨y, H2, I2, ry, a, b, v, kvs, k, ex, ey, hd, hb, hv, q2⟩ => ?_)
  subst ex ey
  obtain rfl : u = Value.ref a := rx
  obtain rfl : iv = Value.ref b := ry
  obtain ⟨_, _, xs, rel, dd⟩ := dt_rd I2.hok hd
  refine ⟨dd.typeIs, ?_⟩
  obtain ⟨its, r, ⟨ob, h1, h2, n, h3⟩, _⟩ := I2.tuple hb
  have hk : (tupleKind (mixKind X.prog X.w)).is s2.heap k b := ⟨ob, its.toArray, n, h1, h2, h3, by simpa using items_are r⟩
  obtain ⟨w', hw, rw'⟩ := RelO.some_of (v := v) (o := (atKey xs k).map (·.2)) (by rw [← hv]; exact rel.val k)
  obtain ⟨p, hp, hp2⟩ := Option.map_eq_some_iff.mp hw
  refine wpAny_getItem_heap (tupleKind_room_in1 hu) hk dd hp ?_
  rw [hp2]
  exact ⟨v, H2, I2.tok _, rw', q2⟩
theorem k_dixF (K : PySem.W.Frag) (hk : X.K = K) (hu : X.A.units + 64 < cLine) (ho : PE X o td) (hi : PE X i ty) (hs : NoSl i) : PE X (.Subscript o i pos) (tDGetF K td ty) := by
  subst hk
  exact pe_dgetF (Nat.lt_of_le_of_lt (Nat.add_le_add_left (by decide) _) hu) ho hi hs
end
section
variable {K : PySem.W.Frag} {s rs : List SD} {Q : SD → List SD → Prop} {ty : TE}
/-- d[k], d locked -/
theorem dxF_get {i : Nat} (hs : ∃ kds, s[i]? = some (.fz kds)) (h : DE ⟨K, ω⟩ ty s (.no :: rs) fun r s2 => ∃ kds ks d, dat s2 r = some (.tuple (ks.map keyD)) ∧ s2[i]? = some (.fz kds) ∧ valD kds ks = some d ∧ Q (.v d) s2) : DE ⟨K, ω⟩ (tDGetF K (tVar i) ty) s rs Q := fun Z σ ts H R o k => by
  obtain ⟨kds0, hs⟩ := hs
  obtain ⟨a, od, vs, h1, _⟩ := o.c.fz (.inl i) kds0 hs
  refine ⟨.ref a, gv_slot.mp h1, ?_⟩
  refine h Z σ _ H _ (o.pushN (x := .ref a)) fun y H2 s2 r o2 ⟨kds, ks, d, hr, hs2, hv, q⟩ => ?_
  obtain ⟨b, xs, rfl, h2, h3⟩ := o2.tupTop hr
  have ex := rpA_keys h3
  subst ex
  obtain ⟨a', od', vs', w1, w2, w3, w4⟩ := o2.pop.pop.c.fz (.inl i) kds hs2
  have w1 : gv σ ts (.inl i) = some (.ref a') := w1
  have h1 : gv σ ts (.inl i) = some (.ref a) := h1
  rw [h1] at w1; cases w1
  obtain ⟨v, v1, v2⟩ := w4.valSome hv
  exact ⟨a, b, v, vs', ks, rfl, rfl, .inr ⟨od', o2.c.fr a _ w3 w2⟩, h2, v1, k _ _ s2 _ (o2.pop.pop.pushV v2) q⟩
end
end W8

/-! W9t: d.update(e) of dicts whose keys are a day and one gauge. -/
namespace W8
open PySem L2 RZ PySem.Spec PyProof.Rows
/-! the hashes of (day, one gauge) are unlike -/
/-- 2 ^ 64 -/
def hM : Nat := 18446744073709551616
def hRot (x : Nat) : Nat := (x * 2147483648) % 18446744073709551616 + x / 8589934592
def hTor (y : Nat) : Nat := (y * 8589934592) % 18446744073709551616 + y / 2147483648
theorem hTor_rot {x : Nat} (h : x < 18446744073709551616) : hTor (hRot x) = x := by
  have hr : x % 8589934592 < 8589934592 := Nat.mod_lt _ (by decide)
  have hx : x = 8589934592 * (x / 8589934592) + x % 8589934592 := (Nat.div_add_mod x 8589934592).symm
  have hq : x / 8589934592 < 2147483648 := by omega
  unfold hTor hRot
  generalize x % 8589934592 = r at hr hx
  generalize x / 8589934592 = q at hx hq
  have e1 : (x * 2147483648) % 18446744073709551616 = r * 2147483648 := by
    rw [show x * 2147483648 = 18446744073709551616 * q + r * 2147483648 from by omega, Nat.mul_add_mod]
    exact Nat.mod_eq_of_lt (by omega)
  have e2 : ((r * 2147483648 + q) * 8589934592) % 18446744073709551616 = q * 8589934592 := by
    rw [show (r * 2147483648 + q) * 8589934592 = 18446744073709551616 * r + q * 8589934592 from by omega, Nat.mul_add_mod]
    exact Nat.mod_eq_of_lt (by omega)
  rw [e1, e2]
  omega
theorem hRot_lt {x : Nat} (h : x < 18446744073709551616) : hRot x < 18446744073709551616 := by
  unfold hRot
  omega
def hStep (a : Nat) : Nat := (hRot a * 11400714785074694791) % 18446744073709551616
theorem hMul_inv {y : Nat} (h : y < 18446744073709551616) : ((y * 11400714785074694791) % 18446744073709551616 * 614540362697595703) % 18446744073709551616 = y := by
  rw [Nat.mul_mod, Nat.mod_mod, ← Nat.mul_mod, Nat.mul_assoc, Nat.mul_mod, show (11400714785074694791 * 614540362697595703) % 18446744073709551616 = 1 from by decide +kernel, Nat.mul_one, Nat.mod_mod]
  exact Nat.mod_eq_of_lt h
def hUn (z : Nat) : Nat := hTor ((z * 614540362697595703) % 18446744073709551616)
theorem hUn_step {a : Nat} (h : a < 18446744073709551616) : hUn (hStep a) = a := by
  unfold hUn hStep
  rw [hMul_inv (hRot_lt h), hTor_rot h]
theorem hStep_lt (a : Nat) : hStep a < 18446744073709551616 := Nat.mod_lt _ (by decide)
/-- where a day's lane ends -/
def hDay (d : Nat) : Nat := hStep ((2870177450012600261 + d * 14029467366897019727) % 18446744073709551616)
/-- behind the second lane, the length put on -/
def hEnd (b : Nat) : Nat := (hStep b + 2870177450013471924) % 18446744073709551616
def hSign (z : Nat) : Int := if z == 18446744073709551615 then 1546275796 else if z < 9223372036854775808 then (z : Int) else (z : Int) - 18446744073709551616
def hBack (z : Nat) : Nat := hUn ((z + 15576566623696079692) % 18446744073709551616)
theorem hBack_end {b : Nat} (h : b < 18446744073709551616) : hBack (hEnd b) = b := by
  unfold hBack hEnd
  have h1 := hStep_lt b
  rw [show ((hStep b + 2870177450013471924) % 18446744073709551616 + 15576566623696079692) % 18446744073709551616 = hStep b from by omega]
  exact hUn_step h
theorem tHash_two (x h : Int) : PySem.Builtin.Tuple.tupleHashOf [x, h] = hSign (hEnd ((hStep ((2870177450012600261 + (x % ((18446744073709551616 : Nat) : Int)).toNat * 14029467366897019727) % 18446744073709551616) + (h % ((18446744073709551616 : Nat) : Int)).toNat * 14029467366897019727) % 18446744073709551616)) := by
  unfold PySem.Builtin.Tuple.tupleHashOf
  dsimp only
  rw [List.foldl_cons, List.foldl_cons, List.foldl_nil]
  have hm2 : (2 : Nat) ^ 64 = 18446744073709551616 := by decide
  have hm3 : (2 : Nat) ^ 31 = 2147483648 := by decide
  have hm4 : (2 : Nat) ^ 33 = 8589934592 := by decide
  have hm5 : (2 : Nat) ^ 63 = 9223372036854775808 := by decide
  have hx : ([x, h].length ^^^ (2870177450012600261 ^^^ 3527539)) = 2870177450013471924 := by
    show (2 ^^^ (2870177450012600261 ^^^ 3527539) : Nat) = _
    decide
  try rw [hx]
  try rw [hm2]
  try rw [hm3]
  try rw [hm4]
  try rw [hm5]
  unfold hSign hEnd hStep hRot
  rfl
theorem tHash_eq (d : Nat) (hd : d < 180) (h : Int) : PySem.Builtin.Tuple.tupleHashOf [(d : Int), h] = hSign (hEnd ((hDay d + (h % ((18446744073709551616 : Nat) : Int)).toNat * 14029467366897019727) % 18446744073709551616)) := by
  have e : ((d : Int) % ((18446744073709551616 : Nat) : Int)).toNat = d := by omega
  have := tHash_two (d : Int) h
  generalize ((d : Int) % ((18446744073709551616 : Nat) : Int)).toNat = d' at this e
  subst e
  exact this
theorem days_apart : ∀ i, i < 180 → ∀ j, j < 180 → hDay i = hDay j → i = j := by decide +kernel
theorem days_odd : ∀ i, i < 180 → ∀ j, j < 180 → (hDay i + 15881292906973731817) % 18446744073709551616 ≠ (hDay j + 9148689060682678900) % 18446744073709551616 := by decide +kernel
theorem back_u : hBack 18446744073709551615 = 9148689060682678900 := by decide +kernel
theorem back_v : hBack 1546275796 = 15881292906973731817 := by decide +kernel
theorem tHash_inj {i j : Nat} (hi : i < 180) (hj : j < 180) {h : Int} (e : PySem.Builtin.Tuple.tupleHashOf [(i : Int), h] = PySem.Builtin.Tuple.tupleHashOf [(j : Int), h]) : i = j := by
  rw [tHash_eq i hi, tHash_eq j hj] at e
  generalize (h % ((18446744073709551616 : Nat) : Int)).toNat * 14029467366897019727 = L at e
  have b1 : (hDay i + L) % 18446744073709551616 < 18446744073709551616 := Nat.mod_lt _ (by decide)
  have b2 : (hDay j + L) % 18446744073709551616 < 18446744073709551616 := Nat.mod_lt _ (by decide)
  have k1 := hBack_end b1
  have k2 := hBack_end b2
  have z1 : hEnd ((hDay i + L) % 18446744073709551616) < 18446744073709551616 := Nat.mod_lt _ (by decide)
  have z2 : hEnd ((hDay j + L) % 18446744073709551616) < 18446744073709551616 := Nat.mod_lt _ (by decide)
  generalize hEnd ((hDay i + L) % 18446744073709551616) = x at *
  generalize hEnd ((hDay j + L) % 18446744073709551616) = y at *
  have di : hDay i < 18446744073709551616 := hStep_lt _
  have dj : hDay j < 18446744073709551616 := hStep_lt _
  have hxy : x = y ∨ (x = 18446744073709551615 ∧ y = 1546275796) ∨ (y = 18446744073709551615 ∧ x = 1546275796) := by
    unfold hSign at e
    simp only [beq_iff_eq] at e
    split at e <;> split at e <;> (try split at e) <;> (try split at e) <;> omega
  rcases hxy with rfl | ⟨rfl, rfl⟩ | ⟨rfl, rfl⟩
  · refine days_apart i hi j hj ?_
    rw [k1] at k2
    omega
  · rw [back_u] at k1
    rw [back_v] at k2
    refine absurd ?_ (days_odd i hi j hj)
    omega
  · rw [back_v] at k1
    rw [back_u] at k2
    refine absurd ?_ (days_odd j hj i hi)
    omega

theorem hSign_in (z : Nat) (h : z < 18446744073709551616) : -9223372036854775808 ≤ hSign z ∧ hSign z < 9223372036854775808 ∧ hSign z ≠ -1 := by
  unfold hSign
  simp only [beq_iff_eq]
  split
  · decide
  · split <;> omega
theorem redH {z : Int} (h : -9223372036854775808 ≤ z ∧ z < 9223372036854775808 ∧ z ≠ -1) : reduceHash z = z := by
  unfold reduceHash
  have h1 : (-(2 ^ 63 : Int) ≤ z) := by have := h.1; omega
  have h2 : z < 2 ^ 63 := by have := h.2.1; omega
  rw [decide_eq_true h1, decide_eq_true h2]
  rw [if_pos (by rfl), if_neg (by simpa using h.2.2)]
theorem hashInt_day : ∀ d : Nat, d < 180 → hashInt (d : Int) = (d : Int) := by
  intro d hd
  have e : rawHash (d : Int) = (d : Int) := by
    unfold rawHash
    dsimp only
    rw [Int.natAbs_natCast, Int.emod_eq_of_lt (by omega) (Int.lt_of_lt_of_le (show (d : Int) < 180 by omega) (by decide)), if_neg (show ¬ ((d : Int) < 0) by omega), if_neg (show ¬ ((d : Int) == -1) = true by rw [beq_iff_eq]; omega)]
  unfold hashInt
  rw [e, if_neg (show ¬ ((d : Int) == -1) = true by rw [beq_iff_eq]; omega)]
/-- keys of one gauge, each day once -/
def OneG {β : Type} (more : List (List Key × β)) : Prop := (∃ g : Str, ∀ kv ∈ more, ∃ d : Nat, d < 180 ∧ kv.1 = [.inl (d : Int), .inr g]) ∧ (more.map (·.1)).Nodup
theorem oneG_hash {P : Program} {w : World} {β : Type} : ∀ {more : List (List Key × β)}, OneG more → (more.map fun kv => (tupleKind (mixKind P w)).hash kv.1).Nodup := by
  intro more ⟨⟨g, hg⟩, hn⟩
  unfold List.Nodup at hn ⊢
  rw [List.pairwise_map] at hn ⊢
  have h3 := List.Pairwise.and_mem.mp hn
  refine h3.imp fun {a b} ⟨ha, hb, hne⟩ e => hne ?_
  obtain ⟨d1, k1, e1⟩ := hg a ha
  obtain ⟨d2, k2, e2⟩ := hg b hb
  rw [e1, e2] at e ⊢
  have e : reduceHash (PySem.Builtin.Tuple.tupleHashOf [hashInt (d1 : Int), hashStr w g]) = reduceHash (PySem.Builtin.Tuple.tupleHashOf [hashInt (d2 : Int), hashStr w g]) := e
  rw [hashInt_day d1 k1, hashInt_day d2 k2] at e
  have r : ∀ d : Nat, d < 180 → reduceHash (PySem.Builtin.Tuple.tupleHashOf [(d : Int), hashStr w g]) = PySem.Builtin.Tuple.tupleHashOf [(d : Int), hashStr w g] := fun d hd => by
    rw [tHash_eq d hd]
    exact redH (hSign_in _ (Nat.mod_lt _ (by decide)))
  rw [r d1 k1, r d2 k2] at e
  rw [tHash_inj k1 k2 e]
/-- d.update(e), e another dict of one gauge's days -/
def rUpdT : V → List V → Hp → VK → Prop := fun x vs H Q => ∃ (a b : Addr) (kvs more : List (List Key × V)), x = .ref a ∧ vs = [.ref b] ∧ a ≠ b ∧ H a = some (.dT kvs) ∧ H b = some (.dT more) ∧ kvs.length + more.length ≤ sizeLine ∧ OneG more ∧ Q .non (upd H a (.dT (mergeP kvs more)))
theorem mt_updT {X : Cx} (hu : X.A.units + 64 < cLine) : MtR X "dict.update" rUpdT := by
  intro pins s σ H x vs v us Q I rx rv h
  obtain ⟨a, b, kvs, more, ex, ev, hab, ha, hb, hl, hg, q⟩ := h
  subst ex
  subst ev
  obtain rfl : v = Value.ref a := rx
  obtain ⟨u, hus, ru⟩ := rv.one
  subst hus
  obtain rfl : u = Value.ref b := ru
  obtain ⟨z, hd, xs, rel, dd⟩ := dt_of I.hok ha
  obtain ⟨z2, hd2, ys, rel2, dd2⟩ := dt_of I.hok hb
  have hlx : xs.length = kvs.length := (Paired.length rel).symm
  have hly : ys.length = more.length := (Paired.length rel2).symm
  have eh : (ys.map fun x => (tupleKind (mixKind X.prog X.w)).hash x.1) = more.map fun kv => (tupleKind (mixKind X.prog X.w)).hash kv.1 := by
    clear dd2 hly hb hg hl q z2
    induction rel2 with
    | nil => rfl
    | cons a _ ih => rw [List.map_cons, List.map_cons, ih, ← a.1]
  have hty : ∀ y ∈ ys, s.TypeIs (.ref y.2.1) "tuple" := fun y hy => by
    obtain ⟨i, hi⟩ := List.mem_iff_getElem?.mp hy
    have hk : i < more.length := by rw [← hly]; exact (List.getElem?_eq_some_iff.mp hi).1
    obtain ⟨y', h1, h2, h3, h4⟩ := paired_get rel2 (List.getElem?_eq_getElem hk)
    rw [hi] at h1; cases h1
    exact (key_of I.hok h3).typeIs
  refine call_update_dictH (knd := tupleKind (mixKind X.prog X.w)) (tupleKind_room_in1 (Nat.lt_of_le_of_lt (Nat.add_le_add_left (by decide) _) hu)) hab hd2 dd dd2 (.inr ⟨hty, by rw [eh]; exact oneG_hash hg⟩) (by omega) fun h' dd' _ hs => ?_
  obtain ⟨qo, es, ep, hq, h2, h3, h4, _, h5⟩ := dd'
  have hlm := len_mergeP more kvs
  refine ⟨.non, _, d_write (ob := .dT (mergeP kvs more)) I (by rw [ha]; exact True.intro) hs ⟨qo, hq⟩ ⟨by omega, hd, _, (KT.merge rel2 rel).keeps fun c ys ec => ?_, qo, es, ep, hq, h2, h3, h4, h5⟩, rfl, q⟩
  rw [upd_ne (ne_of ec ha (fun z => nomatch z))]
  exact ec
theorem k_updT {X : Cx} {o e : Expr} {to : TE} {t : TA} {apos cpos : Pos} (K : PySem.W.Frag) (hk : X.K = K) (hu : X.A.units + 64 < cLine) (ho : PE X o to) (ha : PA X [e] t)
    (hbase : attributeBase o "update" X.env (eval o X.env) = eval o X.env := by rfl)
    (hfew : ((backTo cpos (starEach [e] X.env)).all (fun x => !x.1) && (backToKw cpos (keywordEach [] X.env)).all (fun x => x.1.isSome)
      && decide (([e] : List Expr).length + ([] : List Keyword).length + (if ([] : List Keyword).isEmpty then 0 else 1) < 30)) = true := by rfl)
    (hline : (apos.endLine == cpos.line) = true := by rfl) (hs : starEach [e] X.env = (false, eval e X.env) :: starEach [] X.env := by rfl) (hplain : (backTo cpos (starEach [] X.env)).any (·.1) = false := by rfl) :
    PE X (.Call (.Attribute o "update" apos) [e] [] cpos) (tBM K "dict" rUpdT to t) :=
  k_bm K hk PySem.F.plainAttrs_dict PySem.F.slot_dict_update PySem.F.type_dict_update (mt_updT hu) ho ha hbase hfew hline hs hplain
section
variable {K : PySem.W.Frag} {s rs : List SD} {Q : SD → List SD → Prop} {te : TE} {tl : TA}
theorem RpP.oneG {C : Addr → Prop} {H : Hp} {vs : List (List Key × V)} {kds : List (List Key × D)} (h : RpP K C H vs kds) (g : OneG kds) : OneG vs := by
  have e : vs.map (·.1) = kds.map (·.1) := by
    clear g
    induction h with
    | nil => rfl
    | cons _ _ ih => rw [List.map_cons, List.map_cons, ih]
  obtain ⟨⟨n, hg⟩, hn⟩ := g
  refine ⟨⟨n, fun kv hk => ?_⟩, by rw [e]; exact hn⟩
  have h1 : kv.1 ∈ kds.map (·.1) := by rw [← e]; exact List.mem_map_of_mem hk
  obtain ⟨kd, h2, h3⟩ := List.mem_map.mp h1
  obtain ⟨d, h4, h5⟩ := hg kd h2
  exact ⟨d, h4, by rw [← h3]; exact h5⟩
/-- d.update(e), at a slot -/
theorem de_updT {i : Nat} (h : (∃ t kds, s[i]? = some (.own t (.dT kds))) ∧ DA ⟨K, ω⟩ tl s (.al i :: rs) fun as s2 => ∃ r t kds eds, as = [r] ∧ ownO s2 r = some (.dT eds) ∧ r ≠ .al i ∧ s2[i]? = some (.own t (.dT kds)) ∧ kds.length + eds.length ≤ 100000 ∧ OneG eds ∧ Q (.v .none) (s2.set i (.own t (.dT (mergeD kds eds))))) : DE ⟨K, ω⟩ (tBM K "dict" rUpdT (tVar i) tl) s rs Q := fun Z σ ts H R o k => by
  obtain ⟨⟨t0, kds0, hs0⟩, q⟩ := h
  obtain ⟨a, u, q1, q2, q3, _⟩ := o.c.wn (.inl i) t0 _ hs0
  obtain ⟨kvs0, rfl, _⟩ := rpO_dT q3
  refine ⟨.ref a, gv_slot.mp q1, .inr (.inr (.inl ⟨rfl, .inr ⟨kvs0, q2⟩⟩)), ?_⟩
  refine q Z σ _ H _ (o.pushA hs0 (gv_slot.mp q1)) fun xs H2 s2 as o2 e ⟨r, t, kds, eds, ea, hr, hne, hs, hl, hg, q⟩ => ?_
  subst ea
  obtain ⟨y, rfl⟩ : ∃ y, xs = [y] := by match xs, e with | [y], _ => exact ⟨y, rfl⟩
  have o3 : Ok K Z σ (y :: .ref a :: ts) H2 s2 (r :: .al i :: rs) := o2
  obtain ⟨b, ub, rfl, hB, hz⟩ := o3.odTop hr
  obtain ⟨more, rfl, hz2⟩ := rpO_dT hz
  obtain ⟨t', w', a', u', w1, w2, w3, w4, w5⟩ := o3.pop.aliW
  rw [hs] at w1; cases w1
  cases w3
  obtain ⟨kvs, rfl, w6⟩ := rpO_dT w5
  have e3 : ts.length = rs.length := o.lt
  have fi : gv σ (.ref b :: .ref a :: ts) (.inl i) = some (.ref a) := q1
  have hab : a ≠ b := fun z => by
    subst z
    rcases ownO_is hr with ⟨t2, rfl⟩ | ⟨j, t2, rfl, hj⟩ | ⟨c, rfl, hj⟩
    · have g2 : gs s2 (.own t2 (.dT eds) :: .al i :: rs) (.inr (rs.length + 1)) = some (.own t2 (.dT eds)) := by
        show gT (SD.own t2 (.dT eds) :: (SD.al i :: rs)) (SD.al i :: rs).length = _
        exact gT_top
      have f2 : gv σ (.ref a :: .ref a :: ts) (.inr (rs.length + 1)) = some (.ref a) := by
        rw [← e3]
        show gT (V.ref a :: (V.ref a :: ts)) (V.ref a :: ts).length = _
        exact gT_top
      have := o3.c.se (.inl i) (.inr (rs.length + 1)) _ _ _ _ a hs g2 fi f2
      cases this
    · have g2 : gs s2 (.al j :: .al i :: rs) (.inr (rs.length + 1)) = some (.al j) := by
        show gT (SD.al j :: (SD.al i :: rs)) (SD.al i :: rs).length = _
        exact gT_top
      have f2 : gv σ (.ref a :: .ref a :: ts) (.inr (rs.length + 1)) = some (.ref a) := by
        rw [← e3]
        show gT (V.ref a :: (V.ref a :: ts)) (V.ref a :: ts).length = _
        exact gT_top
      obtain ⟨t3, d3, y, k1, k2, k3⟩ := o3.c.al _ j g2
      rw [f2] at k3; cases k3
      have := o3.c.se (.inl i) (.inl j) _ _ _ _ a hs k1 fi k2
      have : i = j := Sum.inl.inj this
      exact hne (by rw [this])
    · have f2 : gv σ (.ref a :: .ref a :: ts) (.inr (rs.length + 1)) = some (.ref a) := by
        rw [← e3]
        show gT (V.ref a :: (V.ref a :: ts)) (V.ref a :: ts).length = _
        exact gT_top
      have g2 : gs s2 (.rf c :: .al i :: rs) (.inr (rs.length + 1)) = some (.rf c) := by
        show gT (SD.rf c :: (SD.al i :: rs)) (SD.al i :: rs).length = _
        exact gT_top
      have z := o3.c.rf _ c g2
      rw [f2] at z; cases z
      obtain ⟨j, G, k1, _, _, k2⟩ := poolAt hj
      exact o3.c.sg (.inl j) G (.inl i) _ _ a k1 hs fi (List.mem_map_of_mem k2)
  have w7 := RpP.mono (fun _ _ z => z) (fun b _ z r => ⟨cl_pop o3.pop b z, r⟩) hz2
  refine ⟨a, b, kvs, more, rfl, rfl, hab, w4, hB, by rw [w6.len, w7.len]; exact Nat.le_trans hl (by decide), RpP.oneG hz2 hg, ?_⟩
  exact k _ _ _ _ ((o3.pop.pop.mutW hs w2 (.dT (RpP.merge w7 w6))).pushV .non) q
theorem rpa_rg {C : Addr → Prop} {H : Hp} (i j : Int) : RpA K C H (rgV i j) (rngD i (j - i).toNat) := by
  have h := rpa_ints (K := K) (H := H) (C := C) ((List.range (j - i).toNat).map fun k => i + ((k : Nat) : Int))
  rw [List.map_map, List.map_map] at h
  exact h
/-- list(range(a, b)) -/
theorem de_listRg {ta tb : TE} (h : DE ⟨K, ω⟩ ta s rs fun r1 s1 => DE ⟨K, ω⟩ tb s1 (r1 :: rs) fun r2 s2 => ∃ i j : Int, r1 = .v (.int i) ∧ r2 = .v (.int j) ∧ RgOk i j ∧ Q (.ow none (rngD i (j - i).toNat)) s2) : DE ⟨K, ω⟩ (tLstRg (tRg2 ta tb)) s rs Q := fun Z σ ts H R o k => by
  refine h Z σ ts H _ o fun x H1 s1 r1 o1 q1 => ?_
  refine q1 Z σ _ H1 _ o1 fun y H2 s2 r2 o2 ⟨i, j, e1, e2, hr, q⟩ => ?_
  subst e1
  subst e2
  have h2 := o2.top
  cases h2
  have h1 := o2.pop.top
  cases h1
  exact ⟨i, j, rfl, rfl, hr, fun p hp => k _ _ _ _ (o2.pop.pop.pushO hp (rpa_rg i j)) q⟩
end
end W8

/-! W9u: dict([((.., ..), EXPR) for .. in ..]), where EXPR reads data that stays alone. -/
namespace W8
open PySem L2 RZ PyProof.Rows
/-- the slots without what is one's own -/
def maskS (s : List SD) : List SD := s.map fun r => match r with | .v d => .v d | _ => .no
section
variable {K : PySem.W.Frag} {Z : Zn} {σ : L2.St} {ts : List V} {H H' : Hp} {s rs s4 : List SD} {x : V} {d : D}
theorem mask_get {i : Nat} {r : SD} (h : (maskS s)[i]? = some r) : r = .no ∨ (∃ d, r = .v d ∧ s[i]? = some (.v d)) := by
  unfold maskS at h
  rw [List.getElem?_map] at h
  cases e : s[i]? with
  | none => rw [e] at h; cases h
  | some q =>
    rw [e] at h
    cases q with
    | v d => cases h; exact .inr ⟨d, rfl, rfl⟩
    | _ => cases h; exact .inl rfl
theorem mask_gs {n : Nat} {p : Pos2} {r : SD} (h : gs (maskS s) (List.replicate n .no) p = some r) : r = .no ∨ (∃ d i, r = .v d ∧ p = .inl i ∧ s[i]? = some (.v d)) := by
  cases p with
  | inl i =>
    rcases mask_get (show (maskS s)[i]? = some r from h) with e | ⟨d, e1, e2⟩
    · exact .inl e
    · exact .inr ⟨d, i, e1, rfl, e2⟩
  | inr i =>
    have : ∀ (n : Nat), gT (List.replicate n SD.no) i = some r → r = .no := fun n => by
      induction n with
      | zero => intro h; cases h
      | succ n ih =>
        intro h
        have h : (if i = (List.replicate n SD.no).length then some SD.no else gT (List.replicate n SD.no) i) = some r := h
        split at h
        · cases h; rfl
        · exact ih h
    exact .inl (this n h)
theorem Ok.mask (o : Ok K Z σ ts H s rs) : Ok K ⟨H, [], Cl Z (gv σ ts) (gs s rs)⟩ σ ts H (maskS s) (List.replicate rs.length .no) := by
  have noGh : ∀ p q, gs (maskS s) (List.replicate rs.length .no) p = some q → (∀ G, q ≠ .gh G) ∧ ∀ a, q ≠ .rf a := fun p q hp => by
    rcases mask_gs hp with e | ⟨d', i, e1, _, _⟩ <;> (subst_vars; exact ⟨fun _ z => (by cases z), fun _ z => (by cases z)⟩)
  refine ⟨by rw [o.ls]; unfold maskS; rw [List.length_map], by rw [List.length_replicate]; exact o.lt, ⟨fun _ _ _ h => h, fun _ h => h, fun _ h => (nomatch h), fun p d hp => ?_, fun p t ds hp => ?_, fun p q t ds u es a hp _ _ _ => ?_, fun p i hp => ?_, fun p kds hp => ?_,
    fun p a hp => absurd rfl ((noGh p _ hp).2 a), fun p G hp => absurd rfl ((noGh p _ hp).1 G), fun p q G G' hp _ => absurd rfl ((noGh p _ hp).1 G), fun p G q t ds a hp _ _ => absurd rfl ((noGh p _ hp).1 G)⟩, fun i j h => ?_⟩
  · rcases mask_gs hp with e | ⟨d', i, e1, e2, e3⟩
    · cases e
    · cases e1
      subst e2
      obtain ⟨x, h1, h2⟩ := o.c.va (.inl i) d e3
      refine ⟨x, h1, Rp.mono (fun _ _ z => z) (fun a _ z r => ⟨⟨.inl z, fun zz => ?_⟩, r⟩) _ _ h2⟩
      rcases zz with ⟨p, t, ds, w1, _⟩ | ⟨p, G, w1, _⟩
      · rcases mask_gs w1 with e | ⟨d', i, e1, _, _⟩
        · cases e
        · cases e1
      · exact absurd rfl ((noGh p _ w1).1 G)
  · rcases mask_gs hp with e | ⟨d', i, e1, _, _⟩
    · cases e
    · cases e1
  · rcases mask_gs hp with e | ⟨d', i, e1, _, _⟩
    · cases e
    · cases e1
  · rcases mask_gs hp with e | ⟨d', i, e1, _, _⟩
    · cases e
    · cases e1
  · rcases mask_gs hp with e | ⟨d', i, e1, _, _⟩
    · cases e
    · cases e1
  · rcases mask_get h with e | ⟨d', e1, _⟩
    · cases e
    · cases e1
theorem Ok.unmask {rs' : List SD} (o : Ok K Z σ ts H s rs) (o' : Ok K ⟨H, [], Cl Z (gv σ ts) (gs s rs)⟩ σ (x :: ts) H' s4 (.v d :: rs')) : (∀ a u, H a = some u → H' a = some u) ∧ Rp K (Cl Z (gv σ ts) (gs s rs)) H' x d := by
  refine ⟨fun a u h => o'.c.fr a u (fun z => nomatch z) h, Rp.mono (fun _ _ z => z) (fun a _ z r => ⟨?_, r⟩) _ _ o'.top⟩
  rcases z.1 with z | z
  · exact z
  · have hn : H a = none := z
    refine ⟨.inr ?_, fun zz => ?_⟩
    · cases e : Z.H0 a with
      | none => rfl
      | some u => exact absurd hn (o.c.dm a (by rw [e]; exact fun z => by cases z))
    · rcases zz with ⟨p, t, ds, h1, h2⟩ | ⟨p, G, h1, h2⟩
      · obtain ⟨b, ys, e1, e2, _⟩ := o.c.wn p t ds h1
        rw [h2] at e1; cases e1
        rw [hn] at e2; cases e2
      · obtain ⟨⟨b, g⟩, hb, rfl⟩ := List.mem_map.mp h2
        obtain ⟨u, e2, _⟩ := (o.c.gh p G h1).2 b g hb
        rw [show H b = none from hn] at e2; cases e2
end
section
variable {K : PySem.W.Frag} {s rs as : List SD} {Q : SD → List SD → Prop} {wi : TI} {g : TG} {vs : List Nat} {ta : TA} {te : TE}
theorem de_dictLx (α : Type) (hg : GW g vs) (hgs : GS g) (has : AS ta) (h : DI ⟨K, ω⟩ wi s rs fun its as W s1 => ∃ (zs : List α) (u : α → D) (κ : α → List Key) (v : α → D), its = zs.map u ∧ (∀ i ∈ vs, noal as i = true ∧ noal rs i = true) ∧ W (wipeS s1 vs) ∧ its.length ≤ 100000 ∧
    (∀ z ∈ zs, ∀ acc, DG ⟨K, ω⟩ g (.v (u z)) (wipeS s1 vs) (.ow none acc :: (as ++ rs)) fun s2 => wipeS s2 vs = wipeS s1 vs ∧ (∀ rs2, DE K te (maskS s2) rs2 fun r _ => r = .v (v z)) ∧ DA ⟨K, ω⟩ ta s2 (.ow none acc :: (as ++ rs)) fun as3 s3 => s3 = s2 ∧ asDs as3 = some ((κ z).map keyD) ∧ (κ z).length ≤ 100000) ∧
    wipeS (wipeS s1 vs) vs = wipeS s1 vs ∧ Q (.own none (.dT (mergeD [] (zs.map fun z => (κ z, v z))))) (wipeS s1 vs)) :
    DE ⟨K, ω⟩ (tCB (rDictT K) (tCons (tLc wi g tYes (tTup (tCons (tTup ta) (tCons te tNil))) vs) tNil)) s rs Q := fun Z σ ts H R o k => by
  show tLc wi g tYes (tTup (tCons (tTup ta) (tCons te tNil))) vs σ H fun x H1 => rDictT K [x] H1 R
  refine h Z σ ts H _ o fun J H1 s1 as xs its W o1 e hW ⟨zs, u, κ, v, hi, hv, hw, hz, hs, hx, q⟩ => ?_
  subst hi
  intro p hp
  have el : ts.length = rs.length := (o1.pops e).lt
  have nv : ∀ acc, ∀ i ∈ vs, noal (.ow none acc :: (as ++ rs)) i = true := fun acc i hi => by
    obtain ⟨n1, n2⟩ := hv i hi
    unfold noal at n1 n2 ⊢
    rw [List.all_cons, List.all_append, n1, n2]; rfl
  have w0 : Ok K Z (wipe σ vs) (.ref p :: (xs ++ ts)) (upd H1 p (.lst [])) (wipeS s1 vs) (.ow none [] :: (as ++ rs)) :=
    (o1.pushO hp .nil).wiped (wipe_length σ vs) (fun i hi => wipe_get hi) (nv [])
  refine ⟨fun i m H => m = zs.length - i ∧ i ≤ zs.length ∧ ∃ ys kvs, H p = some (.lst ys) ∧ Ok K Z (wipe σ vs) (.ref p :: (xs ++ ts)) H (wipeS s1 vs) (.ow none (((zs.take i).map fun z => (κ z, v z)).map pairD) :: (as ++ rs)) ∧ PTD K (Cl Z (gv (wipe σ vs) (.ref p :: (xs ++ ts))) (gs (wipeS s1 vs) (.ow none [] :: (as ++ rs)))) H ys kvs ((zs.take i).map fun z => (κ z, v z)), ⟨zs.length, by simp, Nat.zero_le _, [], [], upd_same, by simpa using w0, by simpa using PTD.nil⟩, ?_⟩
  rintro i m H ⟨rfl, hi, ys, kvs, hpl, o', pt⟩
  obtain ⟨go, stop⟩ := hW _ H (wipeS s1 vs) [.ref p] [.ow none (((zs.take i).map fun z => (κ z, v z)).map pairD)] o' hw
  by_cases hlt : i < zs.length
  · have hget : (zs.map u)[i]? = some (u zs[i]) := by rw [List.getElem?_map, List.getElem?_eq_getElem hlt]; rfl
    refine .inr ⟨(go i _ hget).1, fun H' => ∃ ys kvs, H' p = some (.lst ys) ∧ Ok K Z (wipe σ vs) (.ref p :: (xs ++ ts)) H' (wipeS s1 vs) (.ow none (((zs.take (i + 1)).map fun z => (κ z, v z)).map pairD) :: (as ++ rs)) ∧ PTD K (Cl Z (gv (wipe σ vs) (.ref p :: (xs ++ ts))) (gs (wipeS s1 vs) (.ow none [] :: (as ++ rs)))) H' ys kvs ((zs.take (i + 1)).map fun z => (κ z, v z)), fun H' z => ⟨zs.length - (i + 1), by omega, rfl, hlt, z⟩, fun x H2 y => ?_⟩
    obtain ⟨gr, rp⟩ := (go i _ hget).2 x H2 y
    have eacc : (zs.take (i + 1)).map (fun z => (κ z, v z)) = (zs.take i).map (fun z => (κ z, v z)) ++ [(κ zs[i], v zs[i])] := by
      rw [List.take_succ, List.getElem?_eq_getElem hlt, List.map_append]; rfl
    rw [eacc]
    generalize hacc : (zs.take i).map (fun z => (κ z, v z)) = kds at o' pt rp ⊢
    have hkl : kds.length = i := by rw [← hacc, List.length_map, List.length_take]; omega
    have g1 : g x (wipe σ vs) H2 fun σ3 H3 => ∃ s2, Ok K Z σ3 (.ref p :: (xs ++ ts)) H3 s2 (.ow none (kds.map pairD) :: (as ++ rs)) ∧ wipeS s2 vs = wipeS s1 vs ∧ (∀ rs2, DE K te (maskS s2) rs2 fun r _ => r = .v (v zs[i])) ∧ DA ⟨K, ω⟩ ta s2 (.ow none (kds.map pairD) :: (as ++ rs)) fun as3 s3 => s3 = s2 ∧ asDs as3 = some ((κ zs[i]).map keyD) ∧ (κ zs[i]).length ≤ 100000 :=
      hs zs[i] (List.getElem_mem hlt) (kds.map pairD) Z (wipe σ vs) _ H2 x _ ((o'.ext gr).pushV rp) fun σ3 H3 s2 o3 z => ⟨s2, o3, z⟩
    have g2 := hgs x (wipe σ vs) H2 _ (fun σ3 H3 => H3 = H2 ∧ ∃ s2, Ok K Z σ3 (.ref p :: (xs ++ ts)) H3 s2 (.ow none (kds.map pairD) :: (as ++ rs)) ∧ wipeS s2 vs = wipeS s1 vs ∧ (∀ rs2, DE K te (maskS s2) rs2 fun r _ => r = .v (v zs[i])) ∧ DA ⟨K, ω⟩ ta s2 (.ow none (kds.map pairD) :: (as ++ rs)) fun as3 s3 => s3 = s2 ∧ asDs as3 = some ((κ zs[i]).map keyD) ∧ (κ zs[i]).length ≤ 100000) (fun σ2 z => ⟨rfl, z⟩) g1
    refine hg x (wipe σ vs) H2 _ _ (fun σ3 H3 e3 q3 => ?_) g2
    have e3' : wipe σ3 vs = wipe σ vs := by rw [e3]; exact wipe_wipe fun _ h => h
    obtain ⟨rfl, s2, o3, h2, h1, h3⟩ := q3
    refine ⟨e3', ?_⟩
    unfold tYes
    dsimp only
    rw [if_pos rfl]
    show ta σ3 H3 _
    have a1 : ta σ3 H3 fun ks H4 => ∃ as3, Ok K Z σ3 (ks.reverse ++ (.ref p :: (xs ++ ts))) H4 s2 (as3.reverse ++ (.ow none (kds.map pairD) :: (as ++ rs))) ∧ ks.length = as3.length ∧ asDs as3 = some ((κ zs[i]).map keyD) ∧ (κ zs[i]).length ≤ 100000 :=
      h3 Z σ3 _ H3 _ o3 fun ks H4 s3 as3 o4 e4 ⟨z1, z2, z3⟩ => ⟨as3, z1 ▸ o4, e4, z2, z3⟩
    refine has σ3 H3 _ _ (fun ks z => ?_) a1
    obtain ⟨as3, o4, e4, z2, z3⟩ := z
    obtain ⟨hk, o5⟩ := o4.args e4 z2
    obtain rfl := rpA_keys hk
    refine ⟨by rw [hk.length, List.length_map]; exact Nat.le_trans z3 (by decide), fun q hq => ?_⟩
    have ext1 : ∀ b u, H3 b = some u → upd H3 q (.tup ((κ zs[i]).map kV)) b = some u := fun b u hb => by rw [upd_ne (ne_of_none hb hq)]; exact hb
    have o6 := o5.ext ext1
    show te σ3 (upd H3 q (.tup ((κ zs[i]).map kV))) _
    refine h1 _ (Zn.x0 _) σ3 _ _ _ o6.mask fun x3 H4 s4 r4 ov ev => ?_
    subst ev
    obtain ⟨ext3, x5⟩ := o6.unmask ov
    refine ⟨show 2 ≤ sizeLine by decide, fun b hb => ?_⟩
    have o7 := ((o6.ext ext3).pushV x5).ext (H' := upd H4 b (.tup [.ref q, x3])) fun c u hc => by rw [upd_ne (ne_of_none hc hb)]; exact hc
    have hq4 : H4 q = some (.tup ((κ zs[i]).map kV)) := ext3 _ _ upd_same
    generalize hH5 : upd H4 b (.tup [.ref q, x3]) = H5 at o7 ⊢
    have hqb : q ≠ b := fun z => by subst z; rw [hq4] at hb; cases hb
    have hbt : H5 b = some (.tup [.ref q, x3]) := by rw [← hH5, upd_same]
    have hqt : H5 q = some (.tup ((κ zs[i]).map kV)) := by rw [← hH5, upd_ne hqb, hq4]
    have ext2 : ∀ c u, H c = some u → H5 c = some u := fun c u hc => by
      have hc := ext3 _ _ (ext1 _ _ (gr c u hc))
      rw [← hH5, upd_ne (ne_of_none hc hb)]
      exact hc
    have l3 : σ3.length = σ.length := by
      have := congrArg List.length e3'
      rwa [wipe_length, wipe_length] at this
    have o8 : Ok K Z (wipe σ vs) (x3 :: .ref p :: (xs ++ ts)) H5 (wipeS s2 vs) (.v (v zs[i]) :: .ow none (kds.map pairD) :: (as ++ rs)) :=
      o7.wiped (by rw [wipe_length, l3]) (fun j hj => by rw [← e3', wipe_get hj]) (fun j hj => by
        have := nv (kds.map pairD) j hj
        unfold noal at this ⊢
        rw [List.all_cons, this]; rfl)
    rw [h2] at o8
    have hx8 := o8.top
    have o9 := o8.pop
    obtain ⟨y1, f1, f2, o10⟩ := (o9.pushV (x := .ref b) (d := pairD (κ zs[i], v zs[i])) (.tup (.inl (.inl hbt)) (.cons (.tup (.inl (.inl hqt)) (rpA_kV _)) (.cons hx8 .nil)))).appT rfl
    have ey : y1 = ys := by
      have := ext2 _ _ hpl
      rw [f1] at this
      injection this with this
      injection this
    subst ey
    refine ⟨y1, f1, by rw [f2, List.length_map, hkl]; exact Nat.lt_of_le_of_lt (show i ≤ 100000 by rw [List.length_map] at hz; omega) (by decide), y1 ++ [.ref b], kvs ++ [(κ zs[i], x3)], upd_same, ?_, ?_⟩
    · rw [List.map_append]; exact o10
    · have np : ∀ c t, H5 c = some (.tup t) → c ≠ p := fun c t hc z => by subst z; rw [f1] at hc; cases hc
      have hown : Own (gv (wipe σ vs) (.ref p :: (xs ++ ts))) (gs (wipeS s1 vs) (.ow none [] :: (as ++ rs))) p := .inl ⟨.inr (as ++ rs).length, none, _, gT_top, by
        show gT (.ref p :: (xs ++ ts)) (as ++ rs).length = some (.ref p)
        rw [show (as ++ rs).length = (xs ++ ts).length by rw [List.length_append, List.length_append, e, el]]
        exact gT_top⟩
      have rdT : ∀ c t, Rd H5 c (.tup t) → Rd (upd H5 p (.lst (y1 ++ [.ref b]))) c (.tup t) := fun c t r => by
        rcases r with r | ⟨o, r⟩
        · exact .inl (by rw [upd_ne (np c t r)]; exact r)
        · exact .inr ⟨o, by rw [upd_ne fun z => by subst z; rw [f1] at r; cases r]; exact r⟩
      have rdL : ∀ c t, Cl Z (gv (wipe σ vs) (.ref p :: (xs ++ ts))) (gs (wipeS s1 vs) (.ow none [] :: (as ++ rs))) c → Rd H5 c (.lst t) → Cl Z (gv (wipe σ vs) (.ref p :: (xs ++ ts))) (gs (wipeS s1 vs) (.ow none [] :: (as ++ rs))) c ∧ Rd (upd H5 p (.lst (y1 ++ [.ref b]))) c (.lst t) := fun c t hc r => by
        have ne : c ≠ p := fun z => hc.2 (z ▸ hown)
        refine ⟨hc, ?_⟩
        rcases r with r | ⟨o, r⟩
        · exact .inl (by rw [upd_ne ne]; exact r)
        · exact .inr ⟨o, by rw [upd_ne ne]; exact r⟩
      have p1 := pt.mono (H' := H5) (fun a t r => ext2 _ _ r) (fun a t r => rd_ext ext2 r) fun a t c r => ⟨c, rd_ext ext2 r⟩
      have p2 := p1.snoc hbt hqt (hx8.clean fun a c => cl_top c)
      exact p2.mono (fun a t r => by rw [upd_ne (np a t r)]; exact r) rdT rdL
  · have ei : i = zs.length := by omega
    subst ei
    rw [List.take_length] at o' pt
    refine .inl ⟨by rw [List.length_map] at stop; exact stop, p, ys, kvs, rfl, .inl (.inl hpl), pt.pt, fun d hd => ?_⟩
    have pr := pt.rp
    have pr2 : RpP K (Cl Z (gv (wipe σ vs) ts) (gs (wipeS s1 vs) rs)) H kvs (zs.map fun z => (κ z, v z)) := pr.mono (fun _ _ r => r) fun a t c r => ⟨cl_pops (Ok.pop o') e a (cl_pop o' a (cl_top c)), r⟩
    have o2 := (Ok.pop o').pops e
    have o3 := o2.pushW hd (.dT (pr2.merge .nil))
    have o4 := o3.wiped (wipe_length σ vs).symm (fun i hi => (wipe_get hi).symm) (fun i hi => by
      have := (hv i hi).2
      unfold noal at this ⊢
      rw [List.all_cons, this]; rfl)
    rw [hx] at o4
    exact k _ _ _ _ o4 q
end
section
variable {K : PySem.W.Frag} {s rs : List SD} {Q : SD → List SD → Prop}
/-- a thing of one's own is not None -/
theorem de_isNO {ta : TE} (h : DE ⟨K, ω⟩ ta s rs fun r s1 => (∃ w, ownO s1 r = some w) ∧ Q (.v (.bool false)) s1) : DE ⟨K, ω⟩ (tIsN ta) s rs Q := fun Z σ ts H R o k =>
  h Z σ ts H _ o fun x H1 s1 r o1 ⟨⟨w, e⟩, q⟩ => by
    obtain ⟨a, u, rfl, _, _⟩ := o1.odTop e
    show R (.bl (decide (V.ref a = .non))) H1
    rw [decide_eq_false (by intro z; cases z)]
    exact k _ H1 s1 _ (o1.pop.pushV (.bl _)) q
end
end W8

/-! W9v: sorted(set(xs)) of ints. -/
namespace W8
open PySem L2 RZ PySem.Spec PyProof.Rows
section
variable {P : Program} {w : World} {A : Around} {E : Value → Shared → Prop} {s : Shared}
/-- the empty set that set(..) starts with -/
abbrev noSetI (w : World) : Obj := { cls := .type "set", dict := none, data := .set #[] 0 (.fresh 0 0 (!w.params.followText "set-order")) }
set_option maxRecDepth 100000 in
set_option maxHeartbeats 4000000 in
theorem call_set_intL {l : Addr} {items : Array Value} (zs : List Int) {Q : Value → Shared → Prop} (hh : A.handled = none) (hl : s.heap.IsList l items) (hsz : items.size = zs.length) (hb : zs.length + 1 < scanBound) (hv : ∀ (i : Nat) (v : Value), items[i]? = some v → ∃ x t, zs[i]? = some x ∧ v = .int x t)
    (h : ∀ (h' : Heap) (tk c : Nat), SetR w h' s.heap.objs.size (fun j => decide (j ∈ zs)) c → c ≤ zs.length → (∀ b o, s.heap.get? b = some o → h'.get? b = some o) → Q (.ref s.heap.objs.size) { s with heap := h', toks := tk }) :
    wpAny (model P w) A (call (.type "set") [.ref l]) Q E s := by
  have o0 : (s.heap.push (noSetI w)).get? s.heap.objs.size = some (noSetI w) := Heap.get?_push_size _ rfl
  have t0 : Shared.TypeIs { s with heap := s.heap.push (noSetI w) } (.ref s.heap.objs.size) "set" := ⟨_, o0, rfl⟩
  have z0 : (s.heap.push (noSetI w)).objs.size = s.heap.objs.size + 1 := Heap.size_push ..
  obtain ⟨c, tl, m1⟩ := F.called_set.mro
  have m2 := F.called_set.made
  have m3 := F.called_set.sub
  have m4 := F.called_set.notType
  have m5 := F.called_set.canCreate
  have m6 := F.typeCall_set_1 (.ref l)
  have m7 := F.called_set.init.lookup
  have m8 := F.called_set.init.bind (.ref s.heap.objs.size)
  refine wpAny_call (codeAny_of_tree (show wpAny _ _ (callAny (.type "set") _) _ _ _ from wpAny_pure ⟨Code.quiet_builtin _ (by decide +kernel), codeAny_builtin F.entry_type_call ?_⟩))
  rw [Around.under_plain (weight_type_call_type "set" [.ref l] []) rfl]
  repeat (any_goals (first | assumption | wp_step))
  refine codeAny_mono (code_set_led1 (.ref l) (E := E) (Q₁ := fun v s1 => v = .ref s.heap.objs.size ∧ s1 = { s with heap := s.heap.push (noSetI w) }) ⟨rfl, rfl⟩) fun r s1 hr => ?_
  rcases r with e | fl
  · exact hr
  rcases fl with _ | r
  all_goals first | exact hr.elim | skip
  obtain ⟨rfl, rfl⟩ := hr
  repeat (any_goals (first | assumption | wp_step))
  refine codeAny_mono (codeAny_call_builtin (R := wants (fun r s2 => r = .none ∧ ∃ h' tk c, s2 = { s with heap := h', toks := tk } ∧ SetR w h' s.heap.objs.size (fun j => decide (j ∈ zs)) c ∧ c ≤ zs.length ∧ ∀ b o, s.heap.get? b = some o → h'.get? b = some o) E) F.called_set.init.plain F.entry_set_init (check_set_init_1 t0 ?_)) fun r2 s2 hr2 => ?_
  · have k0 : ∀ b, s.heap.objs.size ≠ b → s.heap.objs.size + 1 ≠ b → b ∉ [s.heap.objs.size, s.heap.objs.size + 1] := fun b h1 h2 hm => by
      rcases List.mem_cons.mp hm with e | hm
      · exact h1 e.symm
      · exact h2 (List.mem_singleton.mp hm).symm
    have l1 : (s.heap.push (noSetI w)).IsList l items := hl.push _
    obtain ⟨⟨_, d0, _, s0⟩, q1, e1, n, e2⟩ := hl
    dsimp only at e1 e2
    subst e1 e2
    have ll : l < s.heap.objs.size := Heap.lt_size q1
    have q2 := Heap.get?_push_of_some (noSetI w) q1
    have n1 := F.sub_list_set
    have n2 := F.sub_list_frozenset
    have n3 : (Value.type "list" == Value.type "dict") = false := by decide
    unfold Builtin.«set.__init__» noKeywords Builtin.Frozenset.updateFrom
    generalize hit : pyIter = it
    wp_walk
    subst hit
    refine wpAny_pyIter_list l1 (wpAny_bind (wpAny_runValue ?_))
    have W := (Walks.list (prog := P) (w := w) (A := A.in1.in1.in1) (by simp [hh]) (s.heap.push (noSetI w)).objs.size l (by rw [z0]; exact Nat.ne_of_lt (Nat.lt_succ_of_lt ll)) items).toS
    refine set_update_ints W s.heap.objs.size (by rw [z0]; exact fun hm => (List.mem_cons.mp hm).elim (fun e => Nat.ne_of_lt (Nat.lt_succ_self _) e) (fun hm => Nat.ne_of_gt ll (List.mem_singleton.mp hm))) zs hsz hb hv (items.size - 0) 0 _ (by omega) (Nat.zero_le _) ⟨⟨_, Heap.get?_push_size _ rfl, rfl, rfl⟩, l1.push _⟩ ⟨0, Nat.le_refl 0, setR_new_at (Heap.get?_push_of_some _ o0)⟩ ?_
    rintro ⟨h', g', d', tk', os'⟩ c' mv hl' r
    obtain rfl : g' = s.gens := mv.gens
    obtain rfl : d' = s.drawn := mv.drawn
    obtain rfl : os' = s.os := mv.os
    refine wpAny_pure (wpAny_pure ⟨rfl, h', tk', c', rfl, r, by omega, fun b o e => ?_⟩)
    have hlt := Heap.lt_size e
    refine mv.heap b o (fun hm => ?_) (Heap.get?_push_of_some _ (Heap.get?_push_of_some _ e))
    rw [z0] at hm
    exact k0 b (Nat.ne_of_gt hlt) (Nat.ne_of_gt (Nat.lt_succ_of_lt hlt)) hm
  · rcases r2 with e | fl2
    · exact hr2
    rcases fl2 with _ | r2
    all_goals first | exact hr2.elim | skip
    obtain ⟨rfl, h', tk, c', rfl, k1, k2, k4⟩ := hr2
    repeat (any_goals (first | assumption | wp_step))
    exact h _ _ _ k1 k2 k4
end
section
variable {X : Cx}
def rSetI (K : PySem.W.Frag) (w : World) : List V → Hp → VK → Prop := fun vs H Q => ∃ (l : Addr) (xs : List Int), vs = [.ref l] ∧ SqL K H l (xs.map V.int) ∧ xs.length < 64 ∧ ∀ a c, H a = none → c ≤ xs.length → Q (.ref a) (upd H a (SetO w a (fun j => decide (j ∈ xs)) c))
theorem cr_setI (hc : X.calm = true) : CallR X (.type "set") (rSetI X.K X.w) := by
  rintro pins s σ H vs us Q I r ⟨l, xs, rfl, hl, h64, q⟩
  obtain ⟨its, rv, pl, hz⟩ := I.list hl
  have si := rv.ints
  rw [Vals.ref1 r]
  have hlen : its.length = xs.length := by rw [← rv.length, List.length_map]
  refine call_set_intL (P := X.prog) (w := X.w) xs (I.ok.hd hc) pl.isList (by simpa using hlen) (by unfold scanBound; omega) (fun i v hv => ?_) fun h' tk c R hc' k => ?_
  · have hv : its[i]? = some v := by simpa using hv
    have hi : i < xs.length := by rw [← hlen]; exact (List.getElem?_eq_some_iff.mp hv).1
    obtain ⟨t, e⟩ := PyProof.Rows.IntsAre.int_at si i v hv
    exact ⟨xs[i], t, List.getElem?_eq_getElem hi, by rw [e, List.getD_eq_getElem?_getD, List.getElem?_eq_getElem hi]; rfl⟩
  · exact ⟨.ref s.heap.objs.size, upd H s.heap.objs.size (SetO X.w s.heap.objs.size (fun j => decide (j ∈ xs)) c), I.laid (t' := tk) k (Nat.le_refl _) (setO_new R), rfl, q _ c (I.hok.fresh (Nat.le_refl _)) hc'⟩
theorem k_setI (K : PySem.W.Frag) (hk : X.K = K) (hc : X.calm = true) : CallR X (.type "set") (rSetI K X.w) := by subst hk; exact cr_setI hc
end
section
variable {K : PySem.W.Frag} {s rs : List SD} {Q : SD → List SD → Prop} {w : World}
theorem rpA_setI {C : Addr → Prop} {H : Hp} : ∀ xs : List Int, RpA K C H (xs.map V.int) (xs.map .int)
  | [] => .nil
  | x :: xs => .cons (.int x) (rpA_setI xs)
theorem rpA_intsV {C : Addr → Prop} {H : Hp} : ∀ {xs : List Int} {vs : List V}, RpA K C H vs (xs.map .int) → vs = xs.map V.int
  | [], _, .nil => rfl
  | x :: xs, _, .cons a r => by
    cases a
    rw [rpA_intsV r]; rfl
/-- sorted(set(xs)) of ints -/
theorem de_sortedSetI {te : TE} (h : DE ⟨K, ω⟩ te s rs fun r s1 => ∃ xs : List Int, dat s1 r = some (.list (xs.map .int)) ∧ xs.length < 64 ∧ ∀ ys : List Int, ys.Pairwise (· < ·) → (∀ y, y ∈ ys ↔ y ∈ xs) → ys.length ≤ xs.length → Q (.ow none (ys.map .int)) s1) :
    DE ⟨K, ω⟩ (tCB (rSortedSet w) (tCons (tCB (rSetI K w) (tCons te tNil)) tNil)) s rs Q := fun Z σ ts H R o k => by
  refine h Z σ ts H _ o fun x H1 s1 r o1 ⟨xs, e, hl, q⟩ => ?_
  obtain ⟨a, vs, rfl, h1, h2⟩ := o1.listTop e
  have hv : vs = xs.map V.int := rpA_intsV h2
  rw [hv] at h1
  refine ⟨a, xs, rfl, h1, hl, fun sa c hsa hc => ?_⟩
  have ext : ∀ b u, H1 b = some u → upd H1 sa (SetO w sa (fun j => decide (j ∈ xs)) c) b = some u := fun b u hb => by rw [upd_ne (ne_of_none hb hsa)]; exact hb
  refine ⟨sa, _, c, rfl, upd_same, by omega, fun zs p pw hm hl2 hp => ?_⟩
  have o2 := o1.pop.ext ext
  exact k _ _ s1 _ (o2.pushO hp (rpA_setI zs)) (q zs pw (fun y => by rw [hm]; exact decide_eq_true_iff) (by omega))
end
end W8

/-! W9w: exceptions over data: defs that raise, their calls, raise, try, what is asked of a caught one. -/
namespace W8
open PySem L2 RZ PySem.Spec PyProof.Rows
abbrev DSpX := List SD → (SD → List SD → Prop) → (Str → List (Str × Key) → List SD → Prop) → Prop
/-- the promise of a def that may raise -/
def fnX (K : PySem.W.Frag) (f : DSpX) : Sp := fun xs H Q E => ∃ (Z : Zn) (as : List SD) (P : SD → List SD → Prop) (PE : Str → List (Str × Key) → List SD → Prop), Z.H0 = H ∧ (∀ a ∈ Z.Bs, Own1 (gv (xs.map some) []) (gs as []) a) ∧ Ok K Z (xs.map some) [] H as [] ∧ f as P PE ∧
  (∀ r as' x H', Ok K Z (xs.map some) [x] H' as' [r] → resOk r = true → P r as' → Q x H') ∧
  (∀ nm fs cls d as' H', Ok K Z (xs.map some) [] H' as' [] → XA K nm fs cls d H' → PE nm fs as' → E cls d H')
section
variable {K : PySem.W.Frag} {Z : Zn} {σ : L2.St} {H : Hp} {s : List SD}
theorem Ok.dropAll : ∀ {ts : List V} {rs : List SD}, Ok K Z σ ts H s rs → Ok K Z σ [] H s []
  | [], [], o => o
  | _ :: _, _ :: _, o => o.pop.dropAll
  | [], _ :: _, o => by have := o.lt; cases this
  | _ :: _, [], o => by have := o.lt; cases this
end
/-- the end by an exception of a body by a contract -/
def RX (PE : Str → List (Str × Key) → List SD → Prop) (as : List SD) (nm : Str) (fs : List (Str × Key)) (s' : List SD) : Prop := BackR as s' (backF as s') ∧ PE nm fs (backF as s')
section
variable {P : Program} {w : World} {K : PySem.W.Frag} {mg : Str → Option Value} {base : Heap}
/-- THE RULE for a def that may raise -/
theorem ok_fnX {x qual : Str} {st : Stmt} {g : Addr} {fd : FuncData} {N ps : List Str} {k : Nat} {f : DSpX} (F : Fun K x qual st g fd) (S : FnScope N ps (defScope st)) (hN : ps.length ≤ N.length) (hl : ∀ as P PE, f as P PE → as.length = ps.length)
    (hb : ∀ (cdv : Value) (A : Around) (outer : List Env) (s : Shared) (H : Hp) (E : XK), Room k (A.deeper (PyProof.Rows.envOfC qual (defScope st) s.heap.objs.size g cdv)) → ∀ as Pq PE, f as Pq PE →
      ∃ t, PSs (cxOf (L2.CX P w) P w K mg base N qual (defScope st) g cdv A outer s H E) (defBody st) t ∧ ∀ ω : Wish, ω.W = (fun cls d _ H' => E cls d H') → ω.P = RX PE as →
        DS ⟨K, ω⟩ t (as ++ List.replicate (N.length - as.length) .no) [] { nx := fun s' => RT Pq as (.v .none) s', rt := fun r s' => RT Pq as r s' }) :
    FnOk P w K mg base (L2.CX P w) (k + 1) g fd ps (fnX K f) := by
  refine F.okX S (fun vs H Q E h => ?_) (fun cdv A outer s H vs Q E hr h => ?_)
  · obtain ⟨Z, as, Pq, PE, _, _, o, hf, _⟩ := h
    have := o.ls
    rw [← hl as Pq PE hf]; simpa using this
  · obtain ⟨Z, as, Pq, PE, h0, hB, o, hf, hk, hx⟩ := h
    obtain ⟨t, h1, h2⟩ := hb cdv A outer s H E hr as Pq PE hf
    have el : vs.length = as.length := by have := o.ls; simpa using this
    have law : XLaw K ⟨fun cls d _ H' => E cls d H', RX PE as⟩ Z := fun σ' ts' H' s' rs' nm fs cls d o' xa p => by
      obtain ⟨o2, e3⟩ := Ok.leave (r' := .v .none) h0 hB o (o'.dropAll.pushV .non) rfl p.1
      exact hx nm fs cls d _ H' o2.pop xa p.2
    refine ⟨t, h1, h2 ⟨fun cls d _ H' => E cls d H', RX PE as⟩ rfl rfl ⟨Z, law⟩ _ [] H _ (ok_start o (by rw [el, hl as Pq PE hf]; exact hN)) (fun σ' H' s' o' q => ?_) (fun y σ' H' s' r o' q => ?_) (fun _ _ _ _ q => q.elim) (fun _ _ _ _ q => q.elim)⟩
    · obtain ⟨r', e1, e2, q⟩ := q
      obtain ⟨o2, e3⟩ := Ok.leave h0 hB o (o'.pushV .non) e1 e2
      exact hk r' _ .non H' o2 e3 q
    · obtain ⟨r', e1, e2, q⟩ := q
      obtain ⟨o2, e3⟩ := Ok.leave h0 hB o o' e1 e2
      exact hk r' _ y H' o2 e3 q
/-- a def that may raise, as callers have it -/
structure CalX (P : Program) (w : World) (K : PySem.W.Frag) (mg : Str → Option Value) (base : Heap) (k : Nat) (x : Str) (ps : List Str) (f : DSpX) : Prop where
  ex : ∃ (a : Addr) (fd : FuncData), mg x = some (.ref a) ∧ PySem.W.keepIn K (.ref a) = true ∧ Binds K fd ps [] ∧ FnOk P w K mg base (L2.CX P w) k a fd ps (fnX K f)
end
section
variable {X : Cx} {x : Str} {ps : List Str} {f : DSpX} {k : Nat} {e : Expr} {es : List Expr} {t : TA} {p pos : Pos} {W : WX}
theorem pe_calX (c : CalX X.prog X.w X.K X.mg X.base k x ps f) (hr : Room k X.A) (hg : Gl X x) (tk : Takes X W) (ha : PA X (e :: es) t)
    (hdb : (x == ("__debug__" : Str)) = false := by decide) (he : starEach (e :: es) X.env = (false, eval e X.env) :: starEach es X.env := by rfl) (hpl : (backTo pos (starEach es X.env)).any (·.1) = false := by rfl) : PE X (.Call (.Name x p) (e :: es) [] pos) (tCallS (fnX X.K f) (WE W) t) := by
  refine ⟨fun pins s σ H Q I h => ?_⟩
  obtain ⟨a, fd, h1, h2, h3, h4⟩ := c.ex
  exact (pe_callS (pos := pos) (p := p) h4 hr hg h1 h2 h3 (fun σ => passAt tk σ) ha hdb he hpl).run pins s σ H Q I h
theorem k_calX (K : PySem.W.Frag) (hk : X.K = K) (c : CalX X.prog X.w K X.mg X.base k x ps f) (hr : Room k X.A) (hg : Gl X x) (tk : Takes X W) (ha : PA X (e :: es) t)
    (hdb : (x == ("__debug__" : Str)) = false := by decide) (he : starEach (e :: es) X.env = (false, eval e X.env) :: starEach es X.env := by rfl) (hpl : (backTo pos (starEach es X.env)).any (·.1) = false := by rfl) : PE X (.Call (.Name x p) (e :: es) [] pos) (tCallS (fnX K f) (WE W) t) := by
  subst hk; exact pe_calX c hr hg tk ha hdb he hpl
end
section
variable {K : PySem.W.Frag} {s rs : List SD}
/-- THE RULE for a call of a def that may raise -/
theorem de_callX {f : DSpX} {tl : TA} {W : WX} {Q : SD → List SD → Prop} (hW : ω.W = W) (h : DA ⟨K, ω⟩ tl s rs fun as s1 => (lents as).Nodup ∧ f (entry s1 as 0) (fun r as' => ∃ s2, after s1 as as' = some s2 ∧ Q r s2) (fun nm fs as' => ∃ s2, after s1 as as' = some s2 ∧ ω.P nm fs s2)) : DE ⟨K, ω⟩ (tCallS (fnX K f) (WE W) tl) s rs Q := fun Z σ ts H R o k =>
  h Z σ ts H _ o fun xs H1 s1 as o1 e ⟨hn, hf⟩ => by
    obtain ⟨oe, hB⟩ := o1.enter e hn
    refine ⟨inner Z σ ts xs H1 s1 rs as, entry s1 as 0, _, _, rfl, fun a ha => (hB a ha).1, oe, hf, fun r as' x H' o' hr ⟨s2, ha, q⟩ => ?_, fun nm fs cls d as' H' o' xa ⟨s2, ha, p⟩ => ?_⟩
    · exact k x H' s2 r (o1.back e hn o' hr ha) q
    · have o3 := (o1.back e hn (o'.pushV .non) rfl ha).pop
      have := Z.law σ ts H' s2 rs nm fs cls d o3 xa p
      rw [← hW]
      exact this
end
end W8

/-! W9x: raise; classes of exceptions. -/
namespace W8
open PySem L2 RZ PySem.Spec
open PyProof.Rows hiding St
/-- the class's name as the text has it -/
def GlX (K : PySem.W.Frag) (mg : Str → Option Value) (t : Str) : Prop := ∃ C, mg t = some (.ref C) ∧ clsOf K t C
/-- a class without fields, made with a text -/
def Rai0 (K : PySem.W.Frag) (mg : Str → Option Value) (nm : Str) : Prop := ∃ C, mg nm = some (.ref C) ∧ clsOf K nm C ∧ PySem.W.excIn K C PySem.HandSPX.veTail "ValueError.__new__" = true ∧ PySem.W.keepIn K (.ref C) = true ∧
  PySem.W.subIn K (.ref C) (.type "BaseException") = some true ∧ PySem.W.typeIn K (.ref C) = some (.type "type")
/-- raise, what it makes told by t -/
def tRaise (W : WX) (t : L2.St → Hp → XK → Prop) : TS := fun _ σ H => t σ H fun cls d H' => W cls d σ H'
def mk0 (K : PySem.W.Frag) (nm : Str) : L2.St → Hp → XK → Prop := fun _ H Q => ∀ C, clsOf K nm C → Q (.ref C) none H
section
variable {X : Cx} {W : WX}
theorem k_raise0 (K : PySem.W.Frag) (hk : X.K = K) {nm m : Str} {j : Nat} {p p2 p3 pos : Pos} (hc : X.calm = true) (tk : Takes X W) (r : Rai0 K X.mg nm) (hg : Gl X nm)
    (hdb : (nm == ("__debug__" : Str)) = false := by decide) : PS X (.Raise (some (.Call (.Name nm p) [.Constant (.str m) j p2] [] p3)) none pos) (tRaise W (mk0 K nm)) := by
  subst hk
  obtain ⟨C, h1, h2, h3, h4, h5, h6⟩ := r
  refine ps_raise hc tk (fun pins s σ H Q I h => ?_)
  exact pmk_own F.excBase_ValueError h3 h1 h4 (raises_own h5 h6) hg hdb pins s σ H Q I (h C h2)
end
section
variable {K : PySem.W.Frag} {s rs : List SD} {D0 : DEn}
theorem ds_raise0 {W : WX} {nm : Str} (hW : ω.W = W) (c : ∃ C, clsOf K nm C) (q : ω.P nm [] s) : DS ⟨K, ω⟩ (tRaise W (mk0 K nm)) s rs D0 := fun Z σ ts H E o k1 k2 k3 k4 => fun C hC => by
  have := Z.law σ ts H s rs nm [] (.ref C) none o ⟨C, hC, rfl, .inl ⟨rfl, rfl⟩⟩ q
  rw [← hW]
  exact this
end
/-! ### a class with fields, its __init__ by a contract -/
/-- what __init__ keeps: the base's __init__, then each field set -/
def spI (K : PySem.W.Frag) (C : Addr) (names : List Str) : Sp := fun vs H Q _ => ∃ (a : Addr) (ws : List V), vs = .ref a :: ws ∧ ws.length = names.length ∧ OexC K C ∧ (∀ f ∈ names, PySem.W.findIn K (.ref C) f = some none) ∧ H a = some (exo a C none) ∧
  ∀ d, H d = none → d ≠ a → Q .non (upd (upd H a (exo a C (some d))) d (exd d (names.zip ws).reverse))
structure InC (P : Program) (w : World) (K : PySem.W.Frag) (mg : Str → Option Value) (base : Heap) (nm : Str) (names : List Str) : Prop where
  ex : ∃ (C fI : Addr) (fd : FuncData), mg nm = some (.ref C) ∧ clsOf K nm C ∧ OexC K C ∧ (∀ f ∈ names, PySem.W.findIn K (.ref C) f = some none) ∧ PySem.W.findIn K (.ref C) "__init__" = some (some (.ref fI)) ∧ PySem.W.typeIn K (.ref fI) = some (.type "function") ∧
    Binds K fd ("self" :: names) [] ∧ FnOk P w K mg base CX0 1 fI fd ("self" :: names) (spI K C names)
/-- the arguments' reading, made wider -/
def clA (ta : TA) : TA := fun σ H Q => ∃ R, ta σ H R ∧ ∀ vs H1, R vs H1 → Q vs H1
theorem PA.cl {X : Cx} {es : List Expr} {ta : TA} (h : PA X es ta) : PA X es (clA ta) := ⟨fun pos pins s σ H Q I ⟨R, hR, k⟩ =>
  wpAny_mono (h.run pos pins s σ H R I hR) (fun us s1 ⟨vs, H1, I1, r1, q⟩ => ⟨vs, H1, I1, r1, k vs H1 q⟩) fun _ _ z => z⟩
def mkF (K : PySem.W.Frag) (nm : Str) (names : List Str) (ta : TA) : L2.St → Hp → XK → Prop := fun σ H Q => clA ta σ H fun ws H1 => ws.length = names.length ∧ ws.length ≤ 900 ∧ ∀ C d, clsOf K nm C → H1 d = none → Q (.ref C) (some d) (upd H1 d (.xd (names.zip ws).reverse))
theorem del_fields {H1 : Hp} {a C d : Addr} {fs : List (Str × V)} (hn : H1 a = none) (hd : d ≠ a) : upd (del (upd (upd (upd H1 a (exo a C none)) a (exo a C (some d))) d (exd d fs)) a) d (.xd fs) = upd H1 d (.xd fs) := by
  funext b
  by_cases h1 : b = d
  · rw [h1, upd_same, upd_same]
  · rw [upd_ne h1, upd_ne h1]
    by_cases h2 : b = a
    · rw [h2, del_same, hn]
    · rw [del_ne h2, upd_ne h1, upd_ne h2, upd_ne h2]
section
variable {X : Cx} {W : WX} {ta : TA} {e : Expr} {es : List Expr}
theorem k_raiseF (K : PySem.W.Frag) (hk : X.K = K) {nm : Str} {names : List Str} {p p3 pos : Pos} (hc : X.calm = true) (tk : Takes X W) (r : InC X.prog X.w K X.mg X.base nm names) (hr : Room 2 X.A) (hg : Gl X nm) (ha : PA X (e :: es) ta)
    (hdb : (nm == ("__debug__" : Str)) = false := by decide) (he : starEach (e :: es) X.env = (false, eval e X.env) :: starEach es X.env := by rfl) (hpl : (backTo p3 (starEach es X.env)).any (·.1) = false := by rfl) :
    PS X (.Raise (some (.Call (.Name nm p) (e :: es) [] p3)) none pos) (tRaise W (mkF K nm names ta)) := by
  subst hk
  obtain ⟨C, fI, fd, h1, h2, h3, h4, h5, h6, h7, h8⟩ := r.ex
  refine ps_raise hc tk (fun pins s σ H Q I h => ?_)
  refine pmk_oex (dvs := []) h3 h5 h6 h8 hr h7 .nil pass0 hg h1 (PA.cl ha) hdb he hpl pins s σ H Q I ?_
  obtain ⟨R, hR, k⟩ := h
  refine ⟨R, hR, fun ws H1 hw => ?_⟩
  obtain ⟨q1, q2, q3⟩ := k ws H1 hw
  refine ⟨by omega, fun a ha => ⟨a, ws, by rw [List.append_nil], q1, h3, h4, upd_same, fun d hd1 hd2 => ⟨rfl, d, (names.zip ws).reverse, ?_, upd_same, ?_, ?_⟩⟩⟩
  · rw [upd_ne (Ne.symm hd2), upd_same]
  · rw [upd_ne hd2] at hd1; exact hd1
  · have hd3 : H1 d = none := by rw [upd_ne hd2] at hd1; exact hd1
    rw [del_fields ha hd2]
    exact q3 C d h2 hd3
end
section
variable {K : PySem.W.Frag} {s rs : List SD} {D0 : DEn}
theorem ds_raiseF {W : WX} {nm : Str} {names : List Str} {ta : TA} (hW : ω.W = W) (c : ∃ C, clsOf K nm C) (h : DA ⟨K, ω⟩ ta s rs fun as s1 => ∃ ks : List Key, asDs as = some (ks.map keyD) ∧ ks.length = names.length ∧ names.length ≤ 900 ∧ ω.P nm (names.zip ks).reverse s1) : DS ⟨K, ω⟩ (tRaise W (mkF K nm names ta)) s rs D0 := fun Z σ ts H E o k1 k2 k3 k4 => by
  refine ⟨fun ws H1 => ws.length = names.length ∧ ws.length ≤ 900 ∧ ∀ C d, clsOf K nm C → H1 d = none → W (.ref C) (some d) σ (upd H1 d (.xd (names.zip ws).reverse)), ?_, fun ws H1 z => z⟩
  refine h Z σ ts H _ o fun xs H1 s1 as o1 e ⟨ks, ha, hl, hn, q⟩ => ?_
  obtain ⟨h3, o3⟩ := o1.args e ha
  have ex := rpA_keys h3
  subst ex
  refine ⟨by rw [List.length_map]; exact hl, by rw [List.length_map]; omega, fun C d hC hd => ?_⟩
  have ext : ∀ b u, H1 b = some u → upd H1 d (.xd (names.zip (ks.map kV)).reverse) b = some u := fun b u hb => by rw [upd_ne (ne_of_none hb hd)]; exact hb
  have := Z.law σ ts _ s1 rs nm (names.zip ks).reverse (.ref C) (some d) (o3.ext ext) ⟨C, hC, rfl, .inr ⟨d, rfl, by
    rw [upd_same, List.map_reverse, List.zip_map_right]; rfl⟩⟩ q
  rw [← hW]
  exact this
end
/-! ### the text of such an __init__ -/
structure RainI (K : PySem.W.Frag) (mg : Str → Option Value) (x : Str) : Prop where
  ex : ∃ C, mg x = some (.ref C) ∧ PySem.W.readsIn K C (.type "type") = true ∧ PySem.W.specialIn K (.ref C) "__getattribute__" = some (some (.builtin "type.__getattribute__")) ∧ PySem.W.findCls K (.ref C) (.type "type") "__init__" = some (.val (.builtin "ValueError.__init__"))
section
variable {X : Cx} {e : Expr} {es : List Expr} {ta : TA} {p1 p2 pos : Pos} {x : Str}
theorem pe_rinit {pl : Sem Bool} (K : PySem.W.Frag) (hk : X.K = K) (r : RainI K X.mg x) (hg : Gl X x) (ha : PA X (e :: es) ta) (hdb : (x == ("__debug__" : Str)) = false := by decide)
    (hc : eval (.Call (.Attribute (.Name x p1) "__init__" p2) (e :: es) [] pos) X.env = (do
      let ov ← eval (.Name x p1) X.env
      standAt p2.atName
      let (f, first) ← holding [ov] (getMethod ov "__init__" pl)
      callWith pos f first (backTo pos (starEach (e :: es) X.env)) (backToKw pos (keywordEach [] X.env))) := by rfl)
    (he : starEach (e :: es) X.env = (false, eval e X.env) :: starEach es X.env := by rfl) (hpl : (backTo pos (starEach es X.env)).any (·.1) = false := by rfl) :
    PE X (.Call (.Attribute (.Name x p1) "__init__" p2) (e :: es) [] pos) (tVeI K ta) := by
  subst hk
  obtain ⟨CR, h1, h2, h3, h4⟩ := r.ex
  refine ⟨fun pins s σ H Q I h => ?_⟩
  refine PySem.W.methodCall_KW (ld_glob I hg h1 ?_ hdb) hc
  refine PySem.W.method_cls I.kIn h3 (PySem.W.cls_value I.kIn h2 h4 rfl ?_)
  show wpAny _ _ (callWith pos (Value.builtin "ValueError.__init__") [] (backTo pos (starEach (e :: es) X.env)) []) _ _ _
  refine PyProof.Rows.callWith_method1 (thn (ha.run pos pins _ σ H _ (I.tok _) h) fun us s1 ⟨vs, H1, I1, r1, a, C, ws, ev, hl, T, ea, q⟩ => ?_) he hpl
  subst ev
  cases r1 with
  | @cons _ u0 _ ur ra rw' =>
    obtain rfl : u0 = Value.ref a := ra
    have hlen : ur.length ≤ sizeLine := by
      rw [← Paired.length rw', sizeLine_eq]
      omega
    exact oinit_ok T I1 ea hlen fun s' J => ⟨.non, H1, J, rfl, q⟩
end
section
variable {K : PySem.W.Frag} {C : Addr} {vs : List V} {H : Hp} {Q : VK} {E : XK} {m : Str} {N : List Str}
theorem upd2 {a d : Addr} {x y : HO} (hd : d ≠ a) : upd (upd H d x) a y = upd (upd H a y) d x := by
  funext b
  by_cases h1 : b = d
  · rw [h1, upd_same, upd_ne hd, upd_same]
  · rw [upd_ne h1]
    by_cases h2 : b = a
    · rw [h2, upd_same, upd_same]
    · rw [upd_ne h2, upd_ne h2, upd_ne h1]
theorem upd3 {a d : Addr} {x y z : HO} (hd : d ≠ a) : upd (upd (upd H d x) a y) d z = upd (upd H a y) d z := by
  funext b
  by_cases h1 : b = d
  · rw [h1, upd_same, upd_same]
  · rw [upd_ne h1, upd_ne h1]
    by_cases h2 : b = a
    · rw [h2, upd_same, upd_same]
    · rw [upd_ne h2, upd_ne h2, upd_ne h1]
theorem init_1 {f1 : Str} (h : spI K C [f1] vs H Q E) : (tSeq (tDrop (tVeI K (tCons (tVar 0) (tCons (tC (.str m)) tNil)))) (tOst K f1 (tVar 0) (tVar 1))) { nx := fun _ H' => Q .non H', rt := Q } (L2.start N vs) H := by
  obtain ⟨a, ws, rfl, hl, T, hf, ha, q⟩ := h
  match ws, hl with
  | [w1], _ =>
  refine ⟨.ref a, rfl, a, C, [.str m], rfl, Nat.le_of_ble_eq_true rfl, T, ha, ?_⟩
  refine ⟨w1, rfl, .ref a, rfl, a, C, rfl, T, hf _ List.mem_cons_self, .inl ⟨ha, fun d n ne => ?_⟩⟩
  show Q .non _
  rw [upd2 ne]
  exact q d n ne
theorem init_2 {f1 f2 : Str} (h : spI K C [f1, f2] vs H Q E) : (tSeq (tDrop (tVeI K (tCons (tVar 0) (tCons (tC (.str m)) tNil)))) (tSeq (tOst K f1 (tVar 0) (tVar 1)) (tOst K f2 (tVar 0) (tVar 2)))) { nx := fun _ H' => Q .non H', rt := Q } (L2.start N vs) H := by
  obtain ⟨a, ws, rfl, hl, T, hf, ha, q⟩ := h
  match ws, hl with
  | [w1, w2], _ =>
  refine ⟨.ref a, rfl, a, C, [.str m], rfl, Nat.le_of_ble_eq_true rfl, T, ha, ?_⟩
  refine ⟨w1, rfl, .ref a, rfl, a, C, rfl, T, hf _ List.mem_cons_self, .inl ⟨ha, fun d n ne => ?_⟩⟩
  refine ⟨w2, rfl, .ref a, rfl, a, C, rfl, T, hf _ (List.mem_cons_of_mem _ List.mem_cons_self), .inr ⟨d, [(f1, w1)], upd_same, by rw [upd_ne ne, upd_same], Nat.le_of_ble_eq_true rfl, ?_⟩⟩
  show Q .non _
  rw [upd3 ne]
  exact q d n ne
theorem spI_len {names : List Str} (h : spI K C names vs H Q E) : vs.length = (("self" : Str) :: names).length := by
  obtain ⟨a, ws, rfl, hl, _⟩ := h
  rw [List.length_cons, List.length_cons, hl]
end
end W8

/-! W9y: try .. except X as n: m = n. -/
namespace L2
open PySem PySem.Spec W8
open PyProof.Rows hiding St
section
variable {X : Cx} {pins : List (Addr × Obj)} {σ : L2.St} {H : Hp} {s : Shared}
/-- an object that was not tracked, and is newer than the def's run, is tracked from here on -/
theorem Inv.track {a : Addr} {o : HO} (I : Inv X pins σ H s) (n0 : X.s_0.heap.get? a = none) (hn : H a = none) (nL : a ≠ X.env.locals) (nC : ∀ y c, X.env.cells.lookup y = some c → c ≠ a) (nP : ∀ p ∈ X.pn ++ pins, p.1 ≠ a) (new : ObjOk X.prog X.w (upd H a o) s.heap a o) : Inv X pins σ (upd H a o) s := by
  refine ⟨I.ok, I.os, I.bare, ⟨I.base.keep, I.base.slot, fun b u e n hx => ?_, I.base.there, fun b xs e => ?_, fun b u xs e => ?_, fun b ps e => ?_⟩, I.loc, I.cell, ?_, fun y c e => ?_, fun p hp => ?_, fun b u e => ?_, I.len⟩
  · rw [upd_ne (fun z => by rw [z, n0] at e; cases e)]; exact I.base.free b u e n hx
  · have q := I.base.tups b xs e
    rw [upd_ne (ne_of_none q hn)]; exact q
  · have q := I.base.frzs b u xs e
    rw [upd_ne (ne_of_none q hn)]; exact q
  · obtain ⟨m, q⟩ := I.base.tbls b ps e
    exact ⟨m, by rw [upd_ne (ne_of_none q hn)]; exact q⟩
  · rw [upd_ne (Ne.symm nL)]; exact I.free
  · rw [upd_ne (nC y c e)]; exact I.freeC y c e
  · obtain ⟨q1, q2, q3⟩ := I.pin p hp
    exact ⟨q1, by rw [upd_ne (nP p hp)]; exact q2, q3⟩
  · by_cases hb : b = a
    · subst hb
      rw [upd_same] at e; cases e
      exact new
    · rw [upd_ne hb] at e
      exact (I.hok b u e).stay (fun c v _ q => q) (fun c q => by rw [upd_ne (ne_of_none q hn)]; exact q) fun c xs q => by rw [upd_ne (ne_of_none q hn)]; exact q
end
theorem exH_ok {P : Program} {w : World} {H : Hp} {h : Heap} {a C : Addr} {d : Option Addr} {oe : Obj} {vs : Array Value} (e : h.get? a = some oe) (z : Zc (.ref C) d oe) (hd : oe.data = .fields vs) : ObjOk P w H h a (exH C d a) :=
  ⟨⟨oe, e, z, vs, hd⟩, ⟨oe, e⟩, fun _ _ ⟨o, q, r⟩ k => ⟨o, k o q, r⟩⟩
/-- the tracked address is the object's own -/
theorem exH_at {P : Program} {w : World} {H : Hp} {h : Heap} {a a' C : Addr} {d : Option Addr} (x : ObjOk P w H h a (exH C d a')) : a = a' ∧ ∃ (oe : Obj) (vs : Array Value), h.get? a = some oe ∧ Zc (.ref C) d oe ∧ oe.data = .fields vs := by
  obtain ⟨⟨oe, e, z, vs, hd⟩, ⟨o2, e2⟩, st⟩ := x
  have key : a = a' := by
    by_cases h1 : a = a'
    · exact h1
    · exfalso
      obtain ⟨G, g1, g2⟩ := restrict h fun b => decide (b ≠ a')
      have q := st h G ⟨oe, e, z, vs, hd⟩ (fun o r => by rw [g1 a (decide_eq_true h1)]; exact r)
      obtain ⟨o3, q3, _⟩ := q
      rw [g2 a' (decide_eq_false fun z => z rfl)] at q3
      cases q3
  subst key
  exact ⟨rfl, oe, vs, e, z, hd⟩
/-- what the clause 'except t as n: m = n' wishes of an exception of the body: n in slot i, m in slot j -/
def wTr (K : PySem.W.Frag) (t : Str) (i j : Nat) (Wout : WX) (D : Ends) : WX := fun cls d σ H => ∃ (b : Bool) (C T : Addr), cls = .ref C ∧ clsOf K t T ∧ PySem.W.exmOne K cls (.ref T) = some b ∧
  (b = true → ∀ a, H a = none → D.nx (((σ.set i (some (.ref a))).set j (some (.ref a))).set i none) (upd H a (exH C d a))) ∧ (b = false → Wout cls d σ H)
def tTry (K : PySem.W.Frag) (t : Str) (i j : Nat) (Wout : WX) (tb : WX → TS) : TS := fun D σ H => tb (wTr K t i j Wout D) D σ H
section
variable {X : Cx} {x n m : Str} {i j : Nat} {body : List Stmt} {np mp np2 pos pos' p3 : Pos} {tb : WX → TS} {Wout : WX}
theorem ps_tryX (g : GlX X.K X.mg x) (hs : X.stack = X.env :: X.outer) (hf : X.env.frame = some X.env.locals) (hN : X.N.Nodup) (hi : X.N[i]? = some n) (hj : X.N[j]? = some m) (hln : X.env.kindOf n = some .local) (hex : X.ex = []) (hgx : Gl X x) (hdb : (x == ("__debug__" : Str)) = false) (tk : Takes X Wout)
    (hb : ∀ (W : WX) (pn : List (Addr × Obj)) (xe : Value → Shared → Prop), Takes (X.tr pn xe) W → PassesOwn (model X.prog X.w) X.A X.env xe → PSs (X.tr pn xe) body (tb W))
    (hsu : ∀ (a : Addr) (pn : List (Addr × Obj)), PSs (X.suite a pn) [.Assign [.Name m mp] (.Name n np2) p3] (fun D σ H => ∃ v, σ[i]? = some (some v) ∧ D.nx (σ.set j (some v)) H)) :
    PS X (.Try body [.ExceptHandler (some (.Name x np)) (some n) [.Assign [.Name m mp] (.Name n np2) p3] pos'] [] [] pos) (tTry X.K x i j Wout tb) := by
  obtain ⟨T, hmT, hclT⟩ := g
  refine ⟨fun pins s σ H D I h => ?_⟩
  have ok := I.ok
  have hfr : X.A.frames = some (X.env :: X.outer) := by rw [ok.frames, hs]
  have hloc : Loc X.env.scope n := .inl hln
  have ilt : ∀ {σ' : L2.St} {H' : Hp} {s1 : Shared}, Inv X pins σ' H' s1 → i < σ'.length := fun {σ' H' s1} J => by
    rw [J.len]; exact (List.getElem?_eq_some_iff.mp hi).1
  refine wpAny_Try_except ?_
  refine wpAny_mono ((hb (wTr X.K x i j Wout D) (X.pn ++ pins) (fun e s₁ => wpAny (model X.prog X.w) X.A (noteFrame e X.env) (fun _ s₂ => wpAny (model X.prog X.w) X.A (setFlight e none) (fun _ s₃ =>
    wpAny (model X.prog X.w) X.A (handleBy e X.env [.ExceptHandler (some (.Name x np)) (some n) [.Assign [.Name m mp] (.Name n np2) p3] pos']) (SP X pins D) X.xe s₃) X.xe s₂) X.xe s₁) (fun u s' xx => ?_) PassesOwn.looking).run [] s σ H D (I.toTry _) h) (fun f s1 hsp => ?_) (fun e s1 he => he)
  · -- the catch
    obtain ⟨a, B, sI, pins', σ', H', cls, d, rfl, J', nb, up, sky, na, os, ag, b, C, T', hcC, hclT', hb1, hyes, hno⟩ := xx
    obtain rfl : T = T' := by
      have e := hclT.symm.trans hclT'
      cases e; rfl
    have J : Inv X pins σ' H' sI := J'.ofTry ok
    have sky' : Sky B (X.env :: X.outer) a (Zc cls d) X.env.locals s'.heap := by rw [← hs]; exact sky
    show wpAny (model X.prog X.w) X.A (noteFrame (.ref a) X.env) _ _ _
    refine Sky.land Zc.steady hfr hf sky' fun h3 fl3 up3 => ?_
    have J3 : Inv X pins σ' H' { s' with heap := h3 } := J.landed nb fl3.1 (up.trans up3) os ag
    obtain ⟨oe3, vs3, he3, hz3, hd3⟩ := fl3.there
    have notFr : ∀ {h : Heap} {o : Obj} {vs : Array Value}, h.FunFrames B (X.env :: X.outer) → h.get? a = some o → o.data = .fields vs → a ∉ frs (X.env :: X.outer) := fun {h o vs} ff e dd hm => by
      obtain ⟨_, o', e', hnf⟩ := ff.mem hm
      rw [e] at e'; cases e'
      exact hnf _ dd
    have nfr := notFr fl3.2.2.1 he3 hd3
    have nL : a ≠ X.env.locals := fun z => nfr (List.mem_filterMap.mpr ⟨X.env, List.mem_cons_self, by rw [hf, z]⟩)
    have nF : a ∉ X.fs := fun hm => by
      obtain ⟨e, he, q⟩ := List.mem_filterMap.mp hm
      exact nfr (List.mem_filterMap.mpr ⟨e, List.mem_cons_of_mem _ he, q⟩)
    have nI : sI.heap.get? a = none := by
      cases q : sI.heap.get? a with
      | none => rfl
      | some o =>
        have z := nb a o q (by rw [hs]; exact nfr)
        rw [fl3.2.1] at z; cases z
    have n0 : X.s_0.heap.get? a = none := by
      cases q : X.s_0.heap.get? a with
      | none => rfl
      | some o =>
        obtain ⟨o', z⟩ := J.base.there a o q (by rw [hex]; exact fun z => nomatch z)
        rw [nI] at z; cases z
    have nC : ∀ y c, X.env.cells.lookup y = some c → c ≠ a := fun y c e z => by
      obtain ⟨v, o, q, _⟩ := J.cell y c e
      rw [z, nI] at q; cases q
    have nP : ∀ p ∈ X.pn ++ pins, p.1 ≠ a := fun p hp z => by
      have q := (J.pin p hp).1
      rw [z, nI] at q; cases q
    have S3 := J3.suite he3 hd3 na nL nF
    refine wpAny_handleBy_cons (codeAny_handlers_test ?_) (by intro q; cases q)
    have LT : PySem.W.Looks (model X.prog X.w) h3 (typeOf (.ref a)) cls := fun A Q E s k q => wpAny_typeOf_ref (k _ _ he3) (by rw [hz3.1]; exact q)
    have LM := PySem.W.exm_one (M := model X.prog X.w) (J3.kIn) LT hb1
    have test : ∀ {Q : Value → Shared → Prop} {E : Value → Shared → Prop}, Q (.ref T) { s' with heap := h3 } → wpAny (model X.prog X.w) (X.A.mark (some (.ref a))) (eval (.Name x np) X.env) Q E { s' with heap := h3 } := fun {Q E} q =>
      ld_glob (X := X.suite a ((a, oe3) :: (X.pn ++ pins))) S3 hgx hmT q hdb
    refine test (LM.here ?_)
    cases b with
    | true =>
      refine codeAny_handlers_suite_as ?_
      refine HandSPX.lands_againZ fl3 fun h4 fl4 up4 => ?_
      have J4 : Inv X pins σ' H' { s' with heap := h4 } := J.landed nb fl4.1 ((up.trans up3).trans up4) os ag
      obtain ⟨oe4, vs4, he4, hz4, hd4⟩ := fl4.there
      have S4 := J4.suite he4 hd4 na nL nF
      refine store_ok (X := X.suite a ((a, oe4) :: (X.pn ++ pins))) (v := .ref a) S4 hN hi hloc rfl (fun s5 S5 => ?_) (.inr hln)
      refine wpAny_mono ((hsu a ((a, oe4) :: (X.pn ++ pins))).run [] s5 _ H' { nx := fun σ6 H6 => σ6 = (σ'.set i (some (.ref a))).set j (some (.ref a)) ∧ H6 = H', rt := fun _ _ => False } S5 ⟨.ref a, by rw [List.getElem?_set_self (ilt J4)], rfl, rfl⟩) (fun f s6 hsp => ?_) (fun _ _ z => False.elim z)
      have end_ : ∀ {σ6 : L2.St} {H6 : Hp} {Q : Shared → Prop}, Inv (X.suite a ((a, oe4) :: (X.pn ++ pins))) [] σ6 H6 s6 → (∀ s7, Inv (X.suite a ((a, oe4) :: (X.pn ++ pins))) [] (σ6.set i none) H6 s7 → Q s7) →
          wpAny (model X.prog X.w) X.A (do bindName X.env n .none; unbindBehindTheSuite X.env n pos') (fun _ s7 => Q s7) X.xe s6 := fun {σ6 H6 Q} S6 hq => gone_ok (X := X.suite a ((a, oe4) :: (X.pn ++ pins))) S6 hN hi hln hq
      cases f with
      | next =>
        obtain ⟨σ6, H6, S6, rfl, rfl⟩ := hsp
        refine end_ S6 fun s7 S7 => ?_
        have hget := (S7.pin (a, oe4) (List.mem_append_left _ List.mem_cons_self)).1
        have J7 : Inv X pins _ _ s7 := S7.unsuite ok
        subst hcC
        exact ⟨_, _, J7.track n0 na nL nC nP (exH_ok hget hz4 hd4), hyes rfl a na⟩
      | brk =>
        obtain ⟨σ6, H6, S6, q6⟩ := hsp
        exact q6.elim
      | cont =>
        obtain ⟨σ6, H6, S6, q6⟩ := hsp
        exact q6.elim
      | ret u =>
        obtain ⟨v6, σ6, H6, S6, r6, q6⟩ := hsp
        exact q6.elim
    | false =>
      show wpAny _ X.A (handleBy (.ref a) X.env []) _ _ _
      refine wpAny_handleBy_nil ?_
      obtain ⟨k1, k2, k3, oe, vs, T, oT, ts', he, hz, hd, h1, hr⟩ := id fl3
      unfold PySem.passOn
      refine wpAny_bind (wpAny_field he hd h1 ?_)
      rw [if_neg (show ¬ ((Value.ref T == Value.none) = true) from by simp)]
      have fin : wpAny (model X.prog X.w) X.A (setFlight (.ref a) X.env.frame) (fun _ s4 => wpAny (model X.prog X.w) X.A (throw (.ref a) : Sem Flow) (SP X pins D) X.xe s4) X.xe { s' with heap := h3 } := by
        rw [hf]
        refine HandSPX.setFlight_upZ fl3 fun h4 hh4 up4 => wpAny_throw (tk _ _ ?_)
        exact ⟨a, B, sI, pins, σ', H', cls, d, rfl, J, nb, (up.trans up3).trans up4, .inr (.inr (by rw [hs]; exact hh4)), na, os, ag, hno rfl⟩
      first
        | exact wpAny_bind (wpAny_pure (wpAny_bind fin))
        | exact wpAny_bind fin
  · cases f with
    | next =>
      obtain ⟨σ', H', J', q⟩ := hsp
      exact wpAny_execs_nil ⟨σ', H', J'.ofTry ok, q⟩
    | brk =>
      obtain ⟨σ', H', J', q⟩ := hsp
      exact ⟨σ', H', J'.ofTry ok, q⟩
    | cont =>
      obtain ⟨σ', H', J', q⟩ := hsp
      exact ⟨σ', H', J'.ofTry ok, q⟩
    | ret u =>
      obtain ⟨v, σ', H', J', r, q⟩ := hsp
      exact ⟨v, σ', H', J'.ofTry ok, r, q⟩
end
end L2

/-! W9z: try over data; isinstance, fields, is None of a caught exception. -/
namespace W8
open PySem L2 RZ PySem.Spec
open PyProof.Rows hiding St
/-- an except clause of the class t takes an exception of the class nm, or not -/
def ExM (K : PySem.W.Frag) (nm t : Str) (b : Bool) : Prop := ∃ C T, clsOf K nm C ∧ clsOf K t T ∧ PySem.W.exmOne K (.ref C) (.ref T) = some b
/-- isinstance of an exception of the class nm and the class t -/
def IsX (K : PySem.W.Frag) (nm t : Str) (b : Bool) : Prop := ∃ C T, clsOf K nm C ∧ clsOf K t T ∧ ExcC K C ∧ PySem.W.kitOne K (.ref C) (.ref T) = some b
/-- the field f of an exception of the class nm is its own -/
def FldX (K : PySem.W.Frag) (nm f : Str) : Prop := ∃ C, clsOf K nm C ∧ XfC K C ∧ PySem.W.findIn K (.ref C) f = some none
theorem clsOf_eq {K : PySem.W.Frag} {nm : Str} {C D : Addr} (h : clsOf K nm C) (h' : clsOf K nm D) : C = D := by
  have e := h.symm.trans h'
  cases e; rfl
section
variable {K : PySem.W.Frag} {s rs : List SD} {D0 : DEn}
/-- try: .. except t as n (slot i): m (slot j) = n -/
theorem ds_tryX {t : Str} {i j : Nat} {Wout : WX} {tb : WX → TS} (hij : i ≠ j) (hi : i < s.length) (hj : j < s.length)
    (h : ∀ W' : WX, DS ⟨K, ⟨W', fun nm fs s' => s'.length = s.length ∧ ExM K nm t true ∧ D0.nx ((s'.set j (.own none (.ex nm fs))).set i .no)⟩⟩ (tb W') s [] D0) : DS ⟨K, ω⟩ (tTry K t i j Wout tb) s [] D0 := fun Z σ ts H E o k1 k2 k3 k4 => by
  obtain rfl : ts = [] := by have := o.lt; simpa using this
  have law : XLaw K ⟨wTr K t i j Wout E, fun nm fs s' => s'.length = s.length ∧ ExM K nm t true ∧ D0.nx ((s'.set j (.own none (.ex nm fs))).set i .no)⟩ Z.z := fun σ' ts' H' s' rs' nm fs cls d o' ⟨C, hC, hcls, hF⟩ ⟨hl, ⟨C2, T, hC2, hT, hm⟩, q⟩ => by
    obtain rfl := clsOf_eq hC2 hC
    refine ⟨true, C2, T, hcls, hT, by rw [hcls]; exact hm, fun _ a ha => ?_, fun z => by cases z⟩
    have o1 := o'.dropAll
    have o2 := o1.pushW ha (RpO.ex (a := a) hC hF)
    have o3 := o2.store (i := j) (by rw [hl]; exact hj) (fun _ z => by cases z) rfl
    have o4 := o3.wiped (σ' := (σ'.set j (some (.ref a))).set i none) (vs := [i]) (by simp) (fun k hk => by
      have : k ≠ i := by simpa using hk
      rw [List.getElem?_set_ne (Ne.symm this)]) (fun _ _ => rfl)
    have e : ((σ'.set i (some (V.ref a))).set j (some (.ref a))).set i none = (σ'.set j (some (.ref a))).set i none := by
      rw [List.set_comm _ _ hij, List.set_set]
    rw [e]
    exact k1 _ _ _ o4 q
  exact h (wTr K t i j Wout E) ⟨Z.z, law⟩ σ [] H E o k1 k2 k3 k4
end
/-! ### isinstance -/
def rIsX (K : PySem.W.Frag) : List V → Hp → VK → Prop := fun xs H Q => ∃ (a a' C : Addr) (c : V) (cv : Value) (d : Option Addr) (fs : List (Str × Key)) (b : Bool), xs = [.ref a, c] ∧ (∀ u, RelV c u → u = cv) ∧ H a = some (exH C d a') ∧ exF H d fs ∧ ExcC K C ∧ PySem.W.kitOne K (.ref C) cv = some b ∧ Q (.bl b) H
theorem call_isX {X : Cx} : CallR X (.builtin "isinstance") (rIsX X.K) := by
  intro pins s σ H xs us Q I r h
  obtain ⟨a, a', C, c, cv, d, fs, b, rfl, hcv, ha, hF, hE, e, q⟩ := h
  cases r with
  | cons rx rr =>
    cases rr with
    | cons rt rr =>
      cases rr
      cases rx
      have ec := hcv _ rt
      subst ec
      obtain ⟨rfl, oe, vs, hget, ⟨z1, z2⟩, hv⟩ := exH_at (I.hok a _ ha)
      have J : ∃ od, PySem.W.InstAt s.heap a oe C od := by
        obtain ⟨oc, od, oda, osl⟩ := oe
        dsimp only at z1 z2 hv
        subst z1 z2 hv
        rcases hF with ⟨rfl, _⟩ | ⟨dd, rfl, hd⟩
        · exact ⟨none, hget, rfl, rfl, trivial⟩
        · obtain ⟨mA, ⟨o2, _, _, e2, _⟩, _⟩ := (show ∃ mA, s.heap.Ns1 dd mA ∧ _ from I.hok dd _ hd)
          exact ⟨some o2, hget, rfl, rfl, e2⟩
      obtain ⟨od, J⟩ := J
      have hcl : (PySem.W.clsIn X.K C).isSome = true := by
        obtain ⟨cd, hc, _⟩ := PySem.W.any_some hE.hd
        rw [hc]; rfl
      exact PySem.W.kia_one (PySem.W.kitx_exc (od := od) hcl hE.hg hE.hk hE.hs hE.ha hE.hn hE.ht hE.hm) I.kIn J e (fun z => nomatch z) fun tk => ⟨.bl b, H, I.kept (t' := tk) fun _ _ z => z, rfl, q⟩
theorem k_isX {X : Cx} (K : PySem.W.Frag) (hk : X.K = K) : CallR X (.builtin "isinstance") (rIsX K) := by subst hk; exact call_isX
/-- the class t, as a value -/
def tGl (K : PySem.W.Frag) (t : Str) : TE := fun _ H Q => ∀ C, clsOf K t C → Q (.ref C) H
theorem pe_glX {X : Cx} {K : PySem.W.Frag} {t : Str} {pos : Pos} (hg : Gl X t) (g : GlX K X.mg t) (hd : (t == ("__debug__" : Str)) = false := by decide) : PE X (.Name t pos) (tGl K t) := by
  obtain ⟨C, h1, h2⟩ := g
  exact ⟨fun pins s σ H Q I h => (pe_glob (v := .ref C) hg h1 rfl hd).run pins s σ H Q I (h C h2)⟩
section
variable {K : PySem.W.Frag} {s rs : List SD} {Q : SD → List SD → Prop} {te : TE}
theorem de_isX {t : Str} (h : DE ⟨K, ω⟩ te s rs fun r s1 => ∃ nm fs b, ownO s1 r = some (.ex nm fs) ∧ IsX K nm t b ∧ Q (.v (.bool b)) s1) : DE ⟨K, ω⟩ (tCB (rIsX K) (tCons te (tCons (tGl K t) tNil))) s rs Q := fun Z σ ts H R o k =>
  h Z σ ts H _ o fun x H1 s1 r o1 ⟨nm, fs, b, e, ⟨C, T, hC, hT, hE, hk⟩, q⟩ => by
    obtain ⟨a, u, rfl, hu, hR⟩ := o1.odTop e
    intro T' hT'
    obtain rfl := clsOf_eq hT' hT
    cases hR with
    | ex hC2 hF =>
      obtain rfl := clsOf_eq hC2 hC
      exact ⟨a, _, _, .ref T', .ref T', _, fs, b, rfl, (fun u r => r), hu, hF, hE, hk, k _ H1 s1 _ (o1.pop.pushV (.bl _)) q⟩
end
/-- isinstance of an exception of the class nm and a built-in class -/
def IsXT (K : PySem.W.Frag) (nm : Str) (T : String) (b : Bool) : Prop := ∃ C, clsOf K nm C ∧ ExcC K C ∧ PySem.W.kitOne K (.ref C) (.type T) = some b
section
variable {K : PySem.W.Frag} {s rs : List SD} {Q : SD → List SD → Prop} {te : TE}
theorem de_isXT {t : String} (h : DE ⟨K, ω⟩ te s rs fun r s1 => ∃ nm fs b, ownO s1 r = some (.ex nm fs) ∧ IsXT K nm t b ∧ Q (.v (.bool b)) s1) : DE ⟨K, ω⟩ (tCB (rIsX K) (tCons te (tCons (tC (.ty t)) tNil))) s rs Q := fun Z σ ts H R o k =>
  h Z σ ts H _ o fun x H1 s1 r o1 ⟨nm, fs, b, e, ⟨C, hC, hE, hk⟩, q⟩ => by
    obtain ⟨a, u, rfl, hu, hR⟩ := o1.odTop e
    cases hR with
    | ex hC2 hF =>
      obtain rfl := clsOf_eq hC2 hC
      exact ⟨a, _, _, .ty t, .type t, _, fs, b, rfl, (fun u r => r), hu, hF, hE, hk, k _ H1 s1 _ (o1.pop.pushV (.bl _)) q⟩
end
/-! ### fields -/
def tXfH (K : PySem.W.Frag) (f : Str) (te : TE) : TE := fun σ H Q => te σ H fun x H1 => ∃ (a a' C dd : Addr) (us : List (Str × V)) (v : V), x = .ref a ∧ H1 a = some (exH C (some dd) a') ∧ XfC K C ∧ PySem.W.findIn K (.ref C) f = some none ∧ H1 dd = some (.xd us) ∧ us.lookup f = some v ∧ Q v H1
theorem pe_xfH {X : Cx} {e : Expr} {te : TE} {pos : Pos} {n : Str} (K : PySem.W.Frag) (hk : X.K = K) (he : PE X e te) (hb : attributeBase e n X.env (eval e X.env) = eval e X.env := by rfl) : PE X (.Attribute e n pos) (tXfH K n te) := by
  subst hk
  refine ⟨fun pins s σ H Q I h => ?_⟩
  refine attr_of hb (thn (he.run pins s σ H _ I h) fun u s1 hh => ?_)
  obtain ⟨x, H1, I1, rx, a, a', C, dd, us, v, ex, ha, T, hno, ea, l, q⟩ := hh
  subst ex
  obtain rfl : u = Value.ref a := rx
  obtain ⟨rfl, oe, vs, hget, hz, hd⟩ := exH_at (I1.hok a _ ha)
  have hx : ObjOk X.prog X.w H1 s1.heap dd (.xd us) := I1.hok dd _ ea
  obtain ⟨mA, hns, hr⟩ := hx
  obtain ⟨od, ho, hl⟩ := lookIn_ns hns
  obtain ⟨u, hu, ru⟩ := RelO.some_of (v := v) (o := mA n) (by rw [← l]; exact hr n)
  have J : PySem.W.InstAt s1.heap a oe C (some od) := ⟨hget, hz.1, by unfold PySem.W.notCls; rw [hd] <;> rfl, by rw [hz.2]; exact ho⟩
  exact HandSPX.exc_get I1.kIn J T.ga T.gg T.exC (PySem.W.findObj_own T.hdC hno rfl (by rw [hl, hu])) (handed_of ru) ⟨v, H1, I1.tok _, ru, q⟩
theorem lookup_kV {f : Str} {k : Key} : ∀ {fs : List (Str × Key)}, fs.lookup f = some k → (fs.map fun p => (p.1, kV p.2)).lookup f = some (kV k)
  | [], h => by cases h
  | (g, y) :: fs, h => by
    rw [List.map_cons, lookup_put]
    rw [List.lookup_cons] at h
    by_cases e : f = g
    · subst e
      rw [if_pos rfl]
      simp at h
      rw [h]
    · rw [if_neg e]
      have e2 : (f == g) = false := by simpa using e
      rw [e2] at h
      exact lookup_kV h
section
variable {K : PySem.W.Frag} {s rs : List SD} {Q : SD → List SD → Prop} {te : TE}
theorem de_xf {f : Str} (h : DE ⟨K, ω⟩ te s rs fun r s1 => ∃ nm fs k, ownO s1 r = some (.ex nm fs) ∧ FldX K nm f ∧ fs.lookup f = some k ∧ Q (.v (keyD k)) s1) : DE ⟨K, ω⟩ (tXfH K f te) s rs Q := fun Z σ ts H R o k =>
  h Z σ ts H _ o fun x H1 s1 r o1 ⟨nm, fs, y, e, ⟨C, hC, hX, hno⟩, hl, q⟩ => by
    obtain ⟨a, u, rfl, hu, hR⟩ := o1.odTop e
    cases hR with
    | ex hC2 hF =>
      obtain rfl := clsOf_eq hC2 hC
      rcases hF with ⟨rfl, rfl⟩ | ⟨dd, rfl, hd⟩
      · cases hl
      · refine ⟨a, _, _, dd, _, kV y, rfl, hu, hX, hno, hd, lookup_kV hl, k _ H1 s1 _ (o1.pop.pushV ?_) q⟩
        cases y with
        | inl i => exact .int i
        | inr z => exact .str z
/-- is not None, of a thing of one's own -/
theorem de_notNO {ta : TE} (h : DE ⟨K, ω⟩ ta s rs fun r s1 => (∃ w, ownO s1 r = some w) ∧ Q (.v (.bool true)) s1) : DE ⟨K, ω⟩ (tNotN ta) s rs Q := fun Z σ ts H R o k =>
  h Z σ ts H _ o fun x H1 s1 r o1 ⟨⟨w, e⟩, q⟩ => by
    obtain ⟨a, u, rfl, _, _⟩ := o1.odTop e
    show R (.bl (!decide (V.ref a = .non))) H1
    rw [decide_eq_false (fun z => by cases z)]
    exact k _ H1 s1 _ (o1.pop.pushV (.bl true)) q
end
end W8

/-! W9A: a def that may raise, called where it doesn't; count and index of truths. -/
namespace W8
open PySem L2 RZ PySem.Spec
/-- a def within a class -/
def clsBody : Stmt → Nat → Stmt
  | .ClassDef _ _ _ body _ _ _ _ _ _ _, j => body.getD j (.Pass ⟨0, 0, 0, 0⟩)
  | _, _ => .Pass ⟨0, 0, 0, 0⟩
open PyProof.Rows hiding St
section
variable {X : Cx} {x : Str} {ps : List Str} {f : DSpX} {k : Nat} {e : Expr} {es : List Expr} {t : TA} {p pos : Pos}
theorem k_calX0 (K : PySem.W.Frag) (hk : X.K = K) (c : CalX X.prog X.w K X.mg X.base k x ps f) (hr : Room k X.A) (hg : Gl X x) (ha : PA X (e :: es) t)
    (hdb : (x == ("__debug__" : Str)) = false := by decide) (he : starEach (e :: es) X.env = (false, eval e X.env) :: starEach es X.env := by rfl) (hpl : (backTo pos (starEach es X.env)).any (·.1) = false := by rfl) : PE X (.Call (.Name x p) (e :: es) [] pos) (tCall (fnX K f) [] E0 t) := by
  subst hk
  refine ⟨fun pins s σ H Q I h => ?_⟩
  obtain ⟨a, fd, h1, h2, h3, h4⟩ := c.ex
  exact (pe_call (pos := pos) (p := p) h4 hr hg h1 h2 h3 .nil passL ha hdb he hpl).run pins s σ H Q I h
end
section
variable {K : PySem.W.Frag} {s rs : List SD}
theorem de_callX0 {f : DSpX} {tl : TA} {E : XK} {Q : SD → List SD → Prop} (h : DA ⟨K, ω⟩ tl s rs fun as s1 => (lents as).Nodup ∧ f (entry s1 as 0) (fun r as' => ∃ s2, after s1 as as' = some s2 ∧ Q r s2) (fun _ _ _ => False)) : DE ⟨K, ω⟩ (tCall (fnX K f) [] E tl) s rs Q := fun Z σ ts H R o k =>
  h Z σ ts H _ o fun xs H1 s1 as o1 e ⟨hn, hf⟩ => by
    obtain ⟨oe, hB⟩ := o1.enter e hn
    rw [List.append_nil]
    refine ⟨inner Z σ ts xs H1 s1 rs as, entry s1 as 0, _, _, rfl, fun a ha => (hB a ha).1, oe, hf, fun r as' x H' o' hr ⟨s2, ha, q⟩ => ?_, fun _ _ _ _ _ _ _ _ z => z.elim⟩
    exact k x H' s2 r (o1.back e hn o' hr ha) q
end
/-- xs.count(b) -/
def rCountB (K : PySem.W.Frag) : V → List V → Hp → VK → Prop := fun x xs H Q => ∃ (a : Addr) (bs : List Bool) (b : Bool), x = .ref a ∧ xs = [.bl b] ∧ SqL K H a (bs.map V.bl) ∧ Q (.int ((bs.count b : Nat) : Int)) H
theorem vals_bl : ∀ {bs : List Bool} {us : List Value}, Vals (bs.map V.bl) us → us = bs.map Value.bool
  | [], _, .nil => rfl
  | b :: bs, _, .cons r t => by
    cases r
    rw [vals_bl t]; rfl
theorem all_bl (bs : List Bool) : (bs.map V.bl).all flatV = true := by
  rw [List.all_map]
  exact List.all_eq_true.mpr fun _ _ => rfl
theorem mt_countB {X : Cx} : MtR X "list.count" (rCountB X.K) := by
  intro pins s σ H x xs v us Q I rx rxs h
  obtain ⟨a, bs, b, rfl, rfl, hs, q⟩ := h
  cases rx
  cases rxs with
  | cons ry rt =>
    rename_i uy ut
    cases rt
    obtain ⟨its, rv, ⟨⟨cls, dd, data, sl⟩, n, ho, hc, hdn, hd⟩, hlen⟩ := I.list hs
    simp only at hc hd
    subst hc hd
    have hi := vals_bl rv
    cases ry
    refine call_meets PySem.F.slot_list_count ⟨_, ho, rfl⟩ PySem.F.entry_list_count (PySem.F.args_list_count_2 _ _)
      (SeqAt.list_countAt a its.toArray n dd sl (.bool b) (eqU (.bl b))) ⟨ho, fun u' hu' => mem_eqAt (x := .bl b) rfl rfl rv (all_bl bs) u' (by simpa using hu'), ?_⟩
    have e : its.toArray.toList.countP (eqU (.bl b)) = bs.count b := by
      rw [show its.toArray.toList = its from rfl, hi, List.countP_map]
      rfl
    rw [e]
    exact ⟨.int _, H, I.tok _, ⟨_, rfl⟩, q⟩
theorem k_countB {X : Cx} (K : PySem.W.Frag) (hk : X.K = K) : MtR X "list.count" (rCountB K) := by subst hk; exact mt_countB
theorem k_index {X : Cx} (K : PySem.W.Frag) (hk : X.K = K) : MtR X "list.index" (rIndex K) := by subst hk; exact mt_index
section
variable {K : PySem.W.Frag} {s rs : List SD} {Q : SD → List SD → Prop} {te : TE} {tl : TA}
theorem de_countB (h : DE ⟨K, ω⟩ te s rs fun r0 s1 => ∃ i, r0 = .al i ∧ IsLst s1 i ∧ DA ⟨K, ω⟩ tl s1 (r0 :: rs) fun as s2 => ∃ (bs : List Bool) (b : Bool) (t : Option Nat), as = [.v (.bool b)] ∧ s2[i]? = some (SD.ow t (bs.map .bool)) ∧ Q (.v (.int ((bs.count b : Nat) : Int))) s2) : DE ⟨K, ω⟩ (tBM K "list" (rCountB K) te tl) s rs Q :=
  de_meth (h.imp fun r0 s1 ⟨i, e0, hi, h⟩ => ⟨i, e0, hi, fun Z σ ts H R o k => h Z σ ts H R o fun xs H' s' as o' e q => k xs H' s' as o' e (by
    obtain ⟨bs, b, t, ea, hs, q⟩ := q
    intro Z σ ts H x xs R o e k
    subst ea
    obtain ⟨y, rfl⟩ : ∃ y, xs = [y] := by match xs, e with | [y], _ => exact ⟨y, rfl⟩
    have o1 : Ok K Z σ (y :: x :: ts) H s' (.v (.bool b) :: .al i :: rs) := o
    have hy := o1.top
    cases hy
    obtain ⟨a, ys, h2, rfl, h4, h5⟩ := o1.pop.ali hs
    rw [h5.bools] at h4
    exact ⟨a, bs, b, rfl, rfl, .inl (.inl h4), k _ _ _ _ (o1.pop.pop.pushV (.int _)) q⟩)⟩)
theorem de_indexB (h : DE ⟨K, ω⟩ te s rs fun r0 s1 => ∃ i, r0 = .al i ∧ IsLst s1 i ∧ DA ⟨K, ω⟩ tl s1 (r0 :: rs) fun as s2 => ∃ (bs : List Bool) (b : Bool) (j : Nat) (t : Option Nat), as = [.v (.bool b)] ∧ s2[i]? = some (SD.ow t (bs.map .bool)) ∧ bs[j]? = some b ∧ (∀ m, m < j → bs[m]? ≠ some b) ∧ Q (.v (.int (j : Int))) s2) : DE ⟨K, ω⟩ (tBM K "list" (rIndex K) te tl) s rs Q :=
  de_meth (h.imp fun r0 s1 ⟨i, e0, hi, h⟩ => ⟨i, e0, hi, fun Z σ ts H R o k => h Z σ ts H R o fun xs H' s' as o' e q => k xs H' s' as o' e (by
    obtain ⟨bs, b, j, t, ea, hs, hj, hno, q⟩ := q
    intro Z σ ts H x xs R o e k
    subst ea
    obtain ⟨y, rfl⟩ : ∃ y, xs = [y] := by match xs, e with | [y], _ => exact ⟨y, rfl⟩
    have o1 : Ok K Z σ (y :: x :: ts) H s' (.v (.bool b) :: .al i :: rs) := o
    have hy := o1.top
    cases hy
    obtain ⟨a, ys, h2, rfl, h4, h5⟩ := o1.pop.ali hs
    rw [h5.bools] at h4
    refine ⟨a, bs.map V.bl, .bl b, j, .bl b, rfl, rfl, .inl (.inl h4), rfl, all_bl bs, by rw [List.getElem?_map, hj]; rfl, by show (b == b) = true; simp, fun m z hm hz => ?_, k _ _ _ _ (o1.pop.pop.pushV (.int _)) q⟩
    rw [List.getElem?_map] at hz
    obtain ⟨c, hc, rfl⟩ := Option.map_eq_some_iff.mp hz
    show (c == b) = false
    have : c ≠ b := fun z => hno m hm (by rw [hc, z])
    simpa using this)⟩)
end
end W8

/-! W9B: zip of two tuples. -/
namespace W8
open PySem L2 RZ PySem.Spec PyProof.Rows
theorem di_zipTT {K : PySem.W.Frag} {s rs : List SD} {tl : TA} {QI : List D → List SD → (List SD → Prop) → List SD → Prop} (h : DA ⟨K, ω⟩ tl s rs fun as s1 => ∃ ds es, as = [.v (.tuple ds), .v (.tuple es)] ∧ QI (zipD ds es) [.v (.tuple es), .v (.tuple ds)] (fun _ => True) s1) : DI ⟨K, ω⟩ (iZipM K tl) s rs QI := fun Z σ ts H R o k =>
  h Z σ ts H _ o fun xs H1 s1 as o1 e ⟨ds, es, ea, q⟩ => by
    subst ea
    obtain ⟨x, y, rfl⟩ : ∃ x y, xs = [x, y] := by match xs, e with | [x, y], _ => exact ⟨x, y, rfl⟩
    have o1 : Ok K Z σ (y :: x :: ts) H1 s1 (.v (.tuple es) :: .v (.tuple ds) :: rs) := o1
    obtain ⟨b, bs, rfl, b2, _⟩ := o1.tupTop rfl
    obtain ⟨a, as, rfl, a2, _⟩ := o1.pop.tupTop rfl
    refine ⟨true, true, a, b, as, bs, rfl, ⟨a2, b2⟩, k _ H1 s1 [.v (.tuple es), .v (.tuple ds)] [.ref b, .ref a] _ _ o1 rfl (fun σ' H2 s2 tx ax o2 w => ?_) q⟩
    have o3 : Ok K Z σ' ((tx ++ [.ref b]) ++ (.ref a :: ts)) H2 s2 ((ax ++ [.v (.tuple es)]) ++ (.v (.tuple ds) :: rs)) := by simpa using o2
    obtain ⟨bs', p1, p2⟩ := Ok.placeT (rs := .v (.tuple ds) :: rs) (ts := .ref a :: ts) o2 (by simp [o.lt])
    obtain ⟨as', p3, p4⟩ := Ok.placeT (rs := rs) (ts := ts) o3 o.lt
    have p4 : RpA K (Cl Z (gv σ' (tx ++ ([.ref b, .ref a] ++ ts))) (gs s2 (ax ++ ([.v (.tuple es), .v (.tuple ds)] ++ rs)))) H2 as' ds := by simpa using p4
    exact src_zm (ka := true) (kb := true) p3 p4 p1 p2
/-! ### dicts with text keys, new -/
section
variable {K : PySem.W.Frag} {s rs : List SD} {Q : SD → List SD → Prop} {D0 : DEn}
theorem de_dnewK (q : Q (.own none (.dK [])) s) : DE ⟨K, ω⟩ tDNewK s rs Q := fun Z σ ts H R o k p hp => k _ _ s _ (o.pushW hp (.dK .nil)) q
/-- d[k] = v -/
theorem ds_dputK {i : Nat} {ty tv : TE} (h : DE ⟨K, ω⟩ tv s rs fun r s1 => (∃ t kds, s1[i]? = some (.own t (.dK kds))) ∧ DE ⟨K, ω⟩ ty s1 (.al i :: r :: rs) fun ry s2 => ∃ t kds k d, ry = .v (keyD k) ∧ s2[i]? = some (.own t (.dK kds)) ∧ kds.length < 100000 ∧ asD r = some d ∧ D0.nx (s2.set i (.own t (.dK (putD kds k d))))) :
    DS ⟨K, ω⟩ (sDPut (tVar i) ty tv) s rs D0 := fun Z σ ts H E o k1 k2 k3 k4 => h Z σ ts H _ o fun v H1 s1 r o1 ⟨⟨t0, kds0, hs0⟩, q⟩ => by
  obtain ⟨a, u, q1, q2, q3, _⟩ := o1.c.wn (.inl i) t0 _ hs0
  refine ⟨.ref a, gv_slot.mp q1, ?_⟩
  refine q Z σ _ H1 _ (o1.pushA hs0 (gv_slot.mp q1)) fun y H2 s2 ry o2 ⟨t, kds, kk, d, ey, hs, hl, hd, q⟩ => ?_
  subst ey
  have ey := rp_key o2.top
  subst ey
  obtain ⟨t', w', a', u', w1, w2, w3, w4, w5⟩ := o2.pop.aliW
  rw [hs] at w1; cases w1
  cases w3
  obtain ⟨kvs, rfl, w6⟩ := rpO_dK w5
  obtain ⟨hd', o5⟩ := o2.pop.pop.popD hd
  have w6 := RpP.mono (fun _ _ z => z) (fun b _ z r => ⟨cl_pop o2.pop.pop b z, r⟩) w6
  refine ⟨a, _, rfl, DPut.k w4 (by rw [w6.len]; exact Nat.lt_of_lt_of_le hl (by decide)), ?_⟩
  exact k1 σ _ _ (o5.mutW hs w2 (.dK (w6.put kk hd'))) q
end
/-! ### min and max of a tuple of data -/
def rMinD (K : PySem.W.Frag) : List V → Hp → VK → Prop := fun xs H Q => ∃ (a : Addr) (ys : List V) (d : D) (ds : List D), xs = [.ref a] ∧ SqT K H a ys ∧ DpAll K H ys (d :: ds) ∧ PySem.W.AlikeAll (d :: ds) ∧ PyData.depthAll (d :: ds) ≤ 60 ∧
  ∀ (i : Nat) (y : V), ys[i]? = some y → (d :: ds)[i]? = some (PySem.W.minD d ds) → Q y H
def rMaxD (K : PySem.W.Frag) : List V → Hp → VK → Prop := fun xs H Q => ∃ (a : Addr) (ys : List V) (d : D) (ds : List D), xs = [.ref a] ∧ SqT K H a ys ∧ DpAll K H ys (d :: ds) ∧ PySem.W.AlikeAll (d :: ds) ∧ PyData.depthAll (d :: ds) ≤ 60 ∧
  ∀ (i : Nat) (y : V), ys[i]? = some y → (d :: ds)[i]? = some (PySem.W.maxD d ds) → Q y H
section
variable {X : Cx}
theorem pick_at {h : Heap} {ys : List V} {its : List Value} {ds : List D} {as : List Addr} {v : Value} {i : Nat} {m : D} {h' : Heap} {bs : List Addr} (hr : ReadsAll h its ds as) (rv : Vals ys its) (hv : its[i]? = some v) (hr' : Reads h' v m bs) (hk : ∀ b o, h.get? b = some o → h'.get? b = some o) : ∃ y, ys[i]? = some y ∧ RelV y v ∧ ds[i]? = some m := by
  have hi := (List.getElem?_eq_some_iff.mp hv).1
  have hy : i < ys.length := by rw [rv.length]; exact hi
  obtain ⟨u, hu, ru⟩ := rv.get (List.getElem?_eq_getElem hy)
  rw [hv] at hu; cases hu
  obtain ⟨bs', r', _⟩ := PySem.W.readsAll_at hr i v hv
  have hd := (reads_det (fun b o e _ => hk b o e) r' hr').1
  have hl : i < ds.length := by have := PySem.W.readsAll_len hr; omega
  refine ⟨_, List.getElem?_eq_getElem hy, ru, ?_⟩
  rw [hd, List.getD_eq_getElem?_getD, List.getElem?_eq_getElem hl]; rfl
theorem cr_minD (hc : X.calm = true) (hu : X.A.units + 64 < cLine) : CallR X (.builtin "min") (rMinD X.K) := by
  intro pins s σ H vs us Q I r h
  obtain ⟨a, ys, d, ds, rfl, hs, hd, hal, hdep, q⟩ := h
  obtain ⟨its, rv, hl, hz⟩ := I.tuple hs
  rw [Vals.ref1 r]
  obtain ⟨as, hr⟩ := Dp.readsAll I (d :: ds) ys its hd rv
  refine PySem.W.min_tuple_data (I.ok.hd hc) hl (by simpa using hr) hal (by omega) fun i v h' tk bs hv hr' hk => ?_
  obtain ⟨y, hy, ry, hm⟩ := pick_at hr rv (by simpa using hv) hr' hk
  exact ⟨y, H, I.kept hk, ry, q i y hy hm⟩
theorem cr_maxD (hc : X.calm = true) (hu : X.A.units + 64 < cLine) : CallR X (.builtin "max") (rMaxD X.K) := by
  intro pins s σ H vs us Q I r h
  obtain ⟨a, ys, d, ds, rfl, hs, hd, hal, hdep, q⟩ := h
  obtain ⟨its, rv, hl, hz⟩ := I.tuple hs
  rw [Vals.ref1 r]
  obtain ⟨as, hr⟩ := Dp.readsAll I (d :: ds) ys its hd rv
  refine PySem.W.max_tuple_data (I.ok.hd hc) hl (by simpa using hr) hal (by omega) fun i v h' tk bs hv hr' hk => ?_
  obtain ⟨y, hy, ry, hm⟩ := pick_at hr rv (by simpa using hv) hr' hk
  exact ⟨y, H, I.kept hk, ry, q i y hy hm⟩
theorem k_minD (K : PySem.W.Frag) (hk : X.K = K) (hc : X.calm = true) (hu : X.A.units + 64 < cLine) : CallR X (.builtin "min") (rMinD K) := by subst hk; exact cr_minD hc hu
theorem k_maxD (K : PySem.W.Frag) (hk : X.K = K) (hc : X.calm = true) (hu : X.A.units + 64 < cLine) : CallR X (.builtin "max") (rMaxD K) := by subst hk; exact cr_maxD hc hu
end
section
variable {K : PySem.W.Frag} {s rs : List SD} {Q : SD → List SD → Prop} {d : D} {ds : List D}
theorem opc_minD (hal : PySem.W.AlikeAll (d :: ds)) (hd : PyData.depthAll (d :: ds) ≤ 60) (q : Q (.v (PySem.W.minD d ds)) s) : OPC ⟨K, ω⟩ (rMinD K) [.v (.tuple (d :: ds))] s rs Q := fun Z σ ts H xs R o e k => by
  obtain ⟨x, rfl⟩ : ∃ x, xs = [x] := (by match xs, e with | [x], _ => exact ⟨x, rfl⟩)
  have o1 : Ok K Z σ (x :: ts) H s (.v (.tuple (d :: ds)) :: rs) := o
  obtain ⟨a, vs, rfl, h2, h3⟩ := o1.tupTop rfl
  refine ⟨a, vs, d, ds, rfl, h2, RpA.dp _ _ h3, hal, hd, fun i y hy hm => ?_⟩
  obtain ⟨z, hz, hr⟩ := h3.get hm
  rw [hy] at hz; cases hz
  exact k _ H s _ (o1.pop.pushV hr) q
theorem opc_maxD (hal : PySem.W.AlikeAll (d :: ds)) (hd : PyData.depthAll (d :: ds) ≤ 60) (q : Q (.v (PySem.W.maxD d ds)) s) : OPC ⟨K, ω⟩ (rMaxD K) [.v (.tuple (d :: ds))] s rs Q := fun Z σ ts H xs R o e k => by
  obtain ⟨x, rfl⟩ : ∃ x, xs = [x] := (by match xs, e with | [x], _ => exact ⟨x, rfl⟩)
  have o1 : Ok K Z σ (x :: ts) H s (.v (.tuple (d :: ds)) :: rs) := o
  obtain ⟨a, vs, rfl, h2, h3⟩ := o1.tupTop rfl
  refine ⟨a, vs, d, ds, rfl, h2, RpA.dp _ _ h3, hal, hd, fun i y hy hm => ?_⟩
  obtain ⟨z, hz, hr⟩ := h3.get hm
  rw [hy] at hz; cases hz
  exact k _ H s _ (o1.pop.pushV hr) q
end
/-! ### max of a list of ints -/
theorem k_maxL {X : Cx} (K : PySem.W.Frag) (hk : X.K = K) (hc : X.calm = true) (_ : X.A.units + 64 < cLine) : CallR X (.builtin "max") (rMax K) := by subst hk; exact cr_max hc
theorem opc_maxL {K : PySem.W.Frag} {s rs : List SD} {Q : SD → List SD → Prop} {r : SD} {ns : List Int} (h : dat s r = some (.list (ns.map .int))) (hl : 0 < ns.length) (q : ∀ m, m ∈ ns → (∀ y, y ∈ ns → y ≤ m) → Q (.v (.int m)) s) : OPC ⟨K, ω⟩ (rMax K) [r] s rs Q := fun Z σ ts H xs R o e k => by
  obtain ⟨x, rfl⟩ : ∃ x, xs = [x] := by match xs, e with | [x], _ => exact ⟨x, rfl⟩
  have o1 : Ok K Z σ (x :: ts) H s (r :: rs) := o
  obtain ⟨a, ys, rfl, h2, h3⟩ := o1.listTop h
  rw [h3.ints] at h2
  exact ⟨a, ns, rfl, h2, hl, fun m h4 h5 => k _ H s _ (o1.pop.pushV (.int _)) (q m h4 h5)⟩
end W8

/-! W9J: list(zip(xs, ys)) of two lists. -/
namespace W8
open PySem L2 RZ PySem.Spec PyProof.Rows
section
variable {prog : Program} {w : World} {A : Around} {E : Value → Shared → Prop} {s : Shared} {z TI TO i1 i2 l1 l2 S : Addr} {xs ys : Array Value} {i : Nat}
theorem init_zp {R : Result → Shared → Prop} {Φ : Nat → Array Value → Shared → Prop} (hh : A.handled = none) (D : ApartS z TI TO i1 i2 l1 l2 S) (hn : min xs.size ys.size ≤ sizeLine)
    (hS : s.heap.get? S = some { cls := .type "list", data := .seq #[] }) (hz : IsZip s.heap z TI TO .none)
    (st : ∀ h', (∀ b o, b ≠ S → s.heap.get? b = some o → h'.get? b = some o) → ZpAt xs ys z TI TO i1 i2 l1 l2 S 0 h')
    (h0 : ∀ h', (∀ b o, b ≠ S → s.heap.get? b = some o → h'.get? b = some o) → Φ 0 #[] { s with heap := h' })
    (step : ∀ (i : Nat) (acc : Array Value) (s : Shared) (h' : Heap) (u v : Value), Φ i acc s → (∀ e ∈ [S, z, TO, i1, i2], e < s.heap.objs.size) → xs[i]? = some u → ys[i]? = some v → IsPair h' s.heap.objs.size u v → (∀ b o, b ≠ S → b ≠ z → b ≠ TO → b ≠ i1 → b ≠ i2 → s.heap.get? b = some o → h'.get? b = some o) → Φ (i + 1) (acc.push (.ref s.heap.objs.size)) { s with heap := h' })
    (last : ∀ (acc : Array Value) (s : Shared) (h' : Heap), Φ (min xs.size ys.size) acc s → (∀ b o, b ≠ S → b ≠ z → b ≠ TO → b ≠ i1 → b ≠ i2 → s.heap.get? b = some o → h'.get? b = some o) → Φ (min xs.size ys.size) acc { s with heap := h' })
    (hR : ∀ s' acc' c', s'.heap.get? S = some { cls := .type "list", dict := none, data := .seq acc' c', slots := #[] } → acc'.size = min xs.size ys.size → Φ (min xs.size ys.size) acc' s' → R (.ok (.ret .none)) s') :
    wpAny (model prog w) A.in1 (Builtin.«list.__init__» ⟨[.ref S, .ref z], []⟩)
      (fun fin s' => match fin with | .done f => R (.ok f) s' | .again c' => c'.quiet = true ∧ codeAny (model prog w) A c' R s') (fun e s' => R (.error e) s') s := by
  have hSz : S ≠ z := D.nz.symm
  show wpAny _ A.in1 (do let old ← Builtin.List.listItems (.ref S); Builtin.List.listUpdate (.ref S) (fun _ => #[]); letGo old.toList.reverse; Builtin.List.listExtendWith (.ref S) (.ref z) .none) _ _ s
  refine wpAny_bind ?_
  unfold Builtin.List.listItems
  refine wpAny_bind (wpAny_seqItems hS rfl (wpAny_pure ?_))
  show wpAny _ A.in1 (updateSeq S (fun _ => #[]) >>= fun _ => letGo (#[] : Array Value).toList.reverse >>= fun _ => Builtin.List.listExtendWith (.ref S) (.ref z) .none) _ _ s
  refine wpAny_bind (wpAny_updateSeq hS rfl ?_)
  have hS₂ := Heap.get?_update_self (Obj.mapSeq (fun _ => (#[] : Array Value))) hS rfl
  have oth : ∀ b o, b ≠ S → s.heap.get? b = some o → (s.heap.update S (Obj.mapSeq (fun _ => (#[] : Array Value)))).get? b = some o :=
    fun b o hb e => (Heap.get?_update_other _ _ (Ne.symm hb)).trans e
  refine wpAny_bind (wpAny_letGo ?_)
  have hz1 := oth _ _ hSz.symm hz
  have hT : ({ s with heap := s.heap.update S (Obj.mapSeq (fun _ => (#[] : Array Value))) } : Shared).TypeIs (.ref z) "zip" := ⟨_, hz1, rfl⟩
  have g1 : Builtin.List.listSameRef (.ref S) (.ref z) = false := by simp [Builtin.List.listSameRef, hSz]
  unfold Builtin.List.listExtendWith
  refine wpAny_bind (wpAny_typeOf hT ?_)
  rw [if_neg (by rw [g1]; decide)]
  refine wpAny_bind (wpAny_pyIter_zip (s := { s with heap := s.heap.update S (Obj.mapSeq (fun _ => (#[] : Array Value))) }) hz1 ?_)
  refine wpAny_bind (wpAny_holding ?_)
  unfold Builtin.List.listLengthHint
  refine wpAny_bind (wpAny_specialOf hT zp_nolen ?_)
  show wpAny _ A.in1 (specialOf (Value.ref z) (Str.ofString "__length_hint__") >>= _) _ _ _
  refine wpAny_bind (wpAny_specialOf hT zp_nohint ?_)
  refine wpAny_pure ?_
  show wpAny _ A.in1 (rule "list.extend.makes-room" >>= fun _ => Builtin.List.listTouch (.ref S) >>= fun _ => again (.builtin "list.extend.loop" ⟨[.ref S, .ref z, .none], []⟩)) _ _ _
  refine wpAny_bind (wpAny_rule ?_)
  refine wpAny_bind ?_
  show wpAny _ A.in1 (updateSeq S (·.push .none) >>= fun _ => updateSeq S (·.pop)) _ _ _
  refine wpAny_bind (wpAny_updateSeq hS₂ rfl ?_)
  have hS₃ := Heap.get?_update_self (Obj.mapSeq (·.push Value.none)) hS₂ rfl
  refine wpAny_updateSeq hS₃ rfl ?_
  have hS₄ := Heap.get?_update_self (Obj.mapSeq (·.pop)) hS₃ rfl
  have k2 : ∀ b o, b ≠ S → s.heap.get? b = some o → (((s.heap.update S (Obj.mapSeq (fun _ => (#[] : Array Value)))).update S (Obj.mapSeq (·.push Value.none))).update S (Obj.mapSeq (·.pop))).get? b = some o := fun b o nb e =>
    (Heap.get?_update_other _ _ (Ne.symm nb)).trans ((Heap.get?_update_other _ _ (Ne.symm nb)).trans (oth b o nb e))
  refine wpAny_pure ⟨plainId_quiet PySem.F.plain_extend_loop _, ext_zip (A := A) (Φ := Φ) hh D hn _ step last _ 0 _ #[] _ rfl (Nat.zero_le _) (st _ k2) hS₄ rfl (h0 _ k2) hR⟩
theorem call_list_zp {Q : Value → Shared → Prop} {Φ : Nat → Array Value → Shared → Prop} (hh : A.handled = none) (D : ApartS z TI TO i1 i2 l1 l2 s.heap.objs.size) (hn : min xs.size ys.size ≤ sizeLine)
    (hz : IsZip s.heap z TI TO .none) (st : ∀ h', (∀ b o, s.heap.get? b = some o → h'.get? b = some o) → ZpAt xs ys z TI TO i1 i2 l1 l2 s.heap.objs.size 0 h')
    (h0 : ∀ h', (∀ b o, s.heap.get? b = some o → h'.get? b = some o) → Φ 0 #[] { s with heap := h' })
    (step : ∀ (i : Nat) (acc : Array Value) (s1 : Shared) (h' : Heap) (u v : Value), Φ i acc s1 → (∀ e ∈ [s.heap.objs.size, z, TO, i1, i2], e < s1.heap.objs.size) → xs[i]? = some u → ys[i]? = some v → IsPair h' s1.heap.objs.size u v → (∀ b o, b ≠ s.heap.objs.size → b ≠ z → b ≠ TO → b ≠ i1 → b ≠ i2 → s1.heap.get? b = some o → h'.get? b = some o) → Φ (i + 1) (acc.push (.ref s1.heap.objs.size)) { s1 with heap := h' })
    (last : ∀ (acc : Array Value) (s1 : Shared) (h' : Heap), Φ (min xs.size ys.size) acc s1 → (∀ b o, b ≠ s.heap.objs.size → b ≠ z → b ≠ TO → b ≠ i1 → b ≠ i2 → s1.heap.get? b = some o → h'.get? b = some o) → Φ (min xs.size ys.size) acc { s1 with heap := h' })
    (h : ∀ s' acc c', s'.heap.get? s.heap.objs.size = some { cls := .type "list", dict := none, data := .seq acc c', slots := #[] } → acc.size = min xs.size ys.size → Φ (min xs.size ys.size) acc s' → Q (.ref s.heap.objs.size) s') :
    wpAny (model prog w) A (call (.type "list") [.ref z]) Q E s := by
  refine callType_codes (Q₁ := fun obj s₁ => obj = .ref s.heap.objs.size ∧ s₁ = { s with heap := s.heap.push { cls := .type "list", data := .seq #[] } }) PySem.F.called_list (PySem.F.typeCall_list_1 _) PySem.F.entry_list_init
    (code_list_new _ ⟨rfl, rfl⟩) fun obj s₁ h₁ => ?_
  obtain ⟨rfl, rfl⟩ := h₁
  have hS : (s.heap.push { cls := .type "list", data := .seq #[] }).get? s.heap.objs.size = some { cls := .type "list", data := .seq #[] } := Heap.get?_push_size _ rfl
  have k1 : ∀ {b o}, s.heap.get? b = some o → b ≠ s.heap.objs.size := fun e => Nat.ne_of_lt (Heap.lt_size e)
  have kk : ∀ h' : Heap, (∀ b o, b ≠ s.heap.objs.size → (s.heap.push { cls := .type "list", data := .seq #[] }).get? b = some o → h'.get? b = some o) → ∀ b o, s.heap.get? b = some o → h'.get? b = some o := fun h' k b o e => k b o (k1 e) (Heap.get?_push_of_some _ e)
  refine ⟨⟨_, hS, rfl⟩, PySem.F.args_list_init_2 _ _, init_zp (A := A.in1) (Φ := Φ) hh D hn hS (Heap.get?_push_of_some _ hz) (fun h' k => st h' (kk h' k)) (fun h' k => h0 h' (kk h' k)) step last fun s' acc' c' hS' e hP => ?_⟩
  exact ⟨rfl, h s' acc' c' hS' e hP⟩
end
def tLstZ (K : PySem.W.Frag) (ta : TA) : TE := fun σ H Q => ta σ H fun us H1 => ∃ a b xs ys, us = [.ref a, .ref b] ∧ SqL K H1 a xs ∧ SqL K H1 b ys ∧
  ∀ H2 p vs, (∀ c o, H1 c = some o → H2 c = some o) → ZpV H2 xs ys vs (min xs.length ys.length) → H2 p = none → Q (.ref p) (upd H2 p (.lst vs))
section
variable {X : Cx} {e1 e2 : Expr} {ta : TA} {p p2 pos pos2 : Pos}
theorem pe_lstZ (hc : X.calm = true) (hg : Gl X "list") (hm : X.mg "list" = none) (hg2 : Gl X "zip") (hm2 : X.mg "zip" = none) (ha : PA X [e1, e2] ta)
    (na : starEach [.Call (.Name "zip" p2) [e1, e2] [] pos2] X.env = (false, eval (.Call (.Name "zip" p2) [e1, e2] [] pos2) X.env) :: starEach [] X.env := by rfl)
    (hs : starEach [e1, e2] X.env = (false, eval e1 X.env) :: starEach [e2] X.env := by rfl) (hpl : (backTo pos2 (starEach [e2] X.env)).any (·.1) = false := by rfl) :
    PE X (.Call (.Name "list" p) [.Call (.Name "zip" p2) [e1, e2] [] pos2] [] pos) (tLstZ X.K ta) := by
  refine ⟨fun pins s σ H Q I h => ?_⟩
  refine Call_ (ld_blt I hg hm boot_list (PyProof.Rows.callWith_type1 (args_cons (thn (Q := fun v s2 => ∃ (H1 : Hp) (a b B : Addr) (xs ys : List V) (la lb : List Value), v = .ref (B + 4) ∧ Inv X pins σ H1 s2 ∧ IsZip s2.heap (B + 4) (B + 2) (B + 3) .none ∧ IsPair s2.heap (B + 2) (.ref B) (.ref (B + 1)) ∧ IsPair s2.heap (B + 3) .none .none ∧ s2.heap.IsListIter B a 0 ∧ s2.heap.IsListIter (B + 1) b 0 ∧ s2.heap.objs.size = B + 5 ∧ a < B ∧ b < B ∧ s2.heap.IsList a la.toArray ∧ s2.heap.IsList b lb.toArray ∧ Vals xs la ∧ Vals ys lb ∧ xs.length ≤ sizeLine ∧ (∀ e, B ≤ e → FpOk X pins H1 e) ∧
    ∀ H2 p vs, (∀ c o, H1 c = some o → H2 c = some o) → ZpV H2 xs ys vs (min xs.length ys.length) → H2 p = none → Q (.ref p) (upd H2 p (.lst vs))) (Call_ (ld_blt I hg2 hm2 PyProof.Rows.boot_zip (PyProof.Rows.callWith_type1 (thn (ha.run pos2 pins s σ H _ I h) ?_) hs hpl))) fun v s2 z => args_nil ?_) na) na))
  case refine_1 =>
    rintro us s1 ⟨vs, H1, I1, r1, a, b, xs, ys, ex, qa, qb, q⟩
    subst ex
    match us, r1 with
    | [_, _], .cons ra (.cons rb .nil) =>
      cases ra
      cases rb
      obtain ⟨la, va, pa, za⟩ := I1.list qa
      obtain ⟨lb, vb, pb, zb⟩ := I1.list qb
      refine call_zip_2 pa.isList pb.isList fun h1 hz hTI hTO g1 g2 hsz old => ?_
      have I2 : Inv X pins σ H1 { s1 with heap := h1 } := I1.kept (t' := s1.toks) old
      exact ⟨H1, a, b, s1.heap.objs.size, xs, ys, la, lb, rfl, I2, hz, hTI, hTO, g1, g2, hsz, Heap.lt_size pa.choose_spec.choose_spec.1, Heap.lt_size pb.choose_spec.choose_spec.1, pa.isList.at fun o e => old _ _ e, pb.isList.at fun o e => old _ _ e, va, vb, za, fun e he => I1.fpOk he (I1.hok.fresh he), q⟩
  case refine_2 =>
    obtain ⟨H1, a, b, B, xs, ys, la, lb, rfl, I1, hz, hTI, hTO, g1, g2, hsz, ha1, hb1, pa, pb, va, vb, zl, fp, q⟩ := z
    have e1 : la.toArray.size = xs.length := by rw [List.size_toArray]; exact va.length.symm
    have e2 : lb.toArray.size = ys.length := by rw [List.size_toArray]; exact vb.length.symm
    have hmin : min la.toArray.size lb.toArray.size = min xs.length ys.length := by rw [e1, e2]
    have ha1 : @LT.lt Nat _ a B := ha1
    have hb1 : @LT.lt Nat _ b B := hb1
    have D : ApartS (B + 4) (B + 2) (B + 3) B (B + 1) a b s2.heap.objs.size := by
      rw [hsz]
      refine ⟨⟨?_, ?_, ?_, ?_, ?_, ?_, ?_, ?_, ?_, ?_, ?_, ?_, ?_, ?_, ?_, ?_, ?_, ?_⟩, ?_, ?_, ?_, ?_, ?_, ?_, ?_⟩ <;> (show ¬ @Eq Nat _ _; omega)
    have fps : ∀ e ∈ [s2.heap.objs.size, B + 4, B + 3, B, B + 1], FpOk X pins H1 e := fun e he => fp e (by
      simp only [List.mem_cons, List.not_mem_nil, or_false] at he
      rcases he with rfl | rfl | rfl | rfl | rfl <;> (show @LE.le Nat _ _ _; omega))
    refine call_list_zp (xs := la.toArray) (ys := lb.toArray) (Φ := fun i acc s => ∃ H' vs, Inv X pins σ H' s ∧ (∀ e ∈ [s2.heap.objs.size, B + 4, B + 3, B, B + 1], FpOk X pins H' e) ∧ Vals vs acc.toList ∧ (∀ c o, H1 c = some o → H' c = some o) ∧ ZpV H' xs ys vs i) (I1.ok.hd hc) D (by rw [hmin]; omega) hz (fun h' k => ⟨k _ _ hTI, g1.at fun o e => k _ _ e, g2.at fun o e => k _ _ e, pa.at fun o e => k _ _ e, pb.at fun o e => k _ _ e, ⟨_, _, k _ _ hTO⟩, .inl (k _ _ hz)⟩)
      (fun h' k => ⟨H1, [], I1.kept (t' := s2.toks) k, fps, .nil, fun _ _ e => e, rfl, fun j hj => absurd hj (Nat.not_lt_zero j)⟩) ?step ?last ?fin
    case step =>
      rintro i acc s1 h' u v ⟨H', vs, I', f', vv, m', z1, z2⟩ low eu ev pr old
      have eu' : la[i]? = some u := by simpa using eu
      have ev' : lb[i]? = some v := by simpa using ev
      obtain ⟨x, hx⟩ : ∃ x, xs[i]? = some x := ⟨_, List.getElem?_eq_getElem (by rw [va.length]; exact (List.getElem?_eq_some_iff.mp eu').1)⟩
      obtain ⟨y, hy⟩ : ∃ y, ys[i]? = some y := ⟨_, List.getElem?_eq_getElem (by rw [vb.length]; exact (List.getElem?_eq_some_iff.mp ev').1)⟩
      obtain ⟨u', hu', rx⟩ := va.get hx
      obtain ⟨v', hv', ry⟩ := vb.get hy
      rw [eu'] at hu'
      rw [ev'] at hv'
      cases hu'
      cases hv'
      have okn : ObjOk X.prog X.w (upd H' s1.heap.objs.size (.tup [x, y])) h' s1.heap.objs.size (.tup [x, y]) := ⟨show 2 ≤ sizeLine by decide, [u, v], .cons rx (.cons ry .nil), ⟨_, pr, rfl, _, rfl⟩⟩
      have I2 : Inv X pins σ (upd H' s1.heap.objs.size (.tup [x, y])) { s1 with heap := h' } := I'.turnedNew (t' := s1.toks) (ch := [s2.heap.objs.size, B + 4, B + 3, B, B + 1]) (fun b o nb e => by
        simp only [List.mem_cons, List.not_mem_nil, or_false, not_or] at nb
        exact old b o nb.1 nb.2.1 nb.2.2.1 nb.2.2.2.1 nb.2.2.2.2 e) f' (Nat.le_refl _) okn
      have hn := I'.hok.fresh (Nat.le_refl s1.heap.objs.size)
      refine ⟨_, vs ++ [.ref s1.heap.objs.size], I2, fun e he => ⟨by rw [upd_ne (Nat.ne_of_lt (low e he))]; exact (f' e he).1, (f' e he).2⟩, ?_, fun c o e => by rw [upd_ne (ne_of_none (m' c o e) hn)]; exact m' c o e, by rw [List.length_append, z1]; rfl, fun j hj => ?_⟩
      · rw [Array.toList_push]
        exact vv.append (.cons rfl .nil)
      · by_cases ej : j = i
        · subst ej
          exact ⟨_, x, y, by rw [List.getElem?_append_right (by omega), z1, Nat.sub_self]; rfl, hx, hy, upd_same⟩
        · obtain ⟨T, x', y', t1, t2, t3, t4⟩ := z2 j (by omega)
          exact ⟨T, x', y', by rw [List.getElem?_append_left (by omega)]; exact t1, t2, t3, by rw [upd_ne (ne_of_none t4 hn)]; exact t4⟩
    case last =>
      rintro acc s1 h' ⟨H', vs, I', f', v', m', zz⟩ old
      exact ⟨H', vs, I'.turnedL (t' := s1.toks) (ch := [s2.heap.objs.size, B + 4, B + 3, B, B + 1]) (fun b o nb e => by
        simp only [List.mem_cons, List.not_mem_nil, or_false, not_or] at nb
        exact old b o nb.1 nb.2.1 nb.2.2.1 nb.2.2.2.1 nb.2.2.2.2 e) f', f', v', m', zz⟩
    case fin =>
      rintro s' acc c' hS' hsz' ⟨H', vs, I', f', v', m', zz⟩
      rw [hmin] at zz
      have hl : vs.length ≤ sizeLine := by rw [zz.1]; omega
      have fS := f' s2.heap.objs.size List.mem_cons_self
      exact ⟨.ref s2.heap.objs.size, upd H' s2.heap.objs.size (.lst vs), I'.take (t' := s'.toks) (h' := s'.heap) (fun _ _ _ e => e) fS (show ObjOk X.prog X.w _ _ _ (.lst vs) from ⟨hl, acc.toList, c', v', by rw [Array.toArray_toList]; exact hS'⟩), rfl, q H' _ vs m' zz fS.1⟩
theorem k_lstZ (K : PySem.W.Frag) (hk : X.K = K) (hc : X.calm = true) (hg : Gl X "list") (hm : X.mg "list" = none) (hg2 : Gl X "zip") (hm2 : X.mg "zip" = none) (ha : PA X [e1, e2] ta)
    (na : starEach [.Call (.Name "zip" p2) [e1, e2] [] pos2] X.env = (false, eval (.Call (.Name "zip" p2) [e1, e2] [] pos2) X.env) :: starEach [] X.env := by rfl)
    (hs : starEach [e1, e2] X.env = (false, eval e1 X.env) :: starEach [e2] X.env := by rfl) (hpl : (backTo pos2 (starEach [e2] X.env)).any (·.1) = false := by rfl) :
    PE X (.Call (.Name "list" p) [.Call (.Name "zip" p2) [e1, e2] [] pos2] [] pos) (tLstZ K ta) := by subst hk; exact pe_lstZ hc hg hm hg2 hm2 ha na hs hpl
end
section
variable {K : PySem.W.Frag} {s rs : List SD} {Q : SD → List SD → Prop} {tl : TA}
theorem de_lstZ (h : DA ⟨K, ω⟩ tl s rs fun as s1 => ∃ r1 r2 ds es, as = [r1, r2] ∧ dat s1 r1 = some (.list ds) ∧ dat s1 r2 = some (.list es) ∧ Q (.ow none (zipD ds es)) s1) : DE ⟨K, ω⟩ (tLstZ K tl) s rs Q := fun Z σ ts H R o k =>
  h Z σ ts H _ o fun xs H1 s1 as o1 e ⟨r1, r2, ds, es, ea, h1, h2, q⟩ => by
    subst ea
    obtain ⟨x, y, rfl⟩ : ∃ x y, xs = [x, y] := by match xs, e with | [x, y], _ => exact ⟨x, y, rfl⟩
    have o2 : Ok K Z σ (y :: x :: ts) H1 s1 (r2 :: r1 :: rs) := o1
    obtain ⟨b, ys, rfl, qb, rb⟩ := o2.listTop h2
    obtain ⟨a, zs, rfl, qa, ra⟩ := o2.pop.listTop h1
    have rb := rb.clean (cl_pop o2.pop)
    refine ⟨a, b, zs, ys, rfl, qa, qb, fun H2 p vs m z hp => ?_⟩
    have o3 := o2.pop.pop.ext m
    refine k _ _ s1 _ (o3.pushO hp (rpA_at ?_ fun j v d hv hd => ?_)) q
    · rw [z.1, zipD_length, ra.length, rb.length]
    · obtain ⟨d1, d2, g1, g2, rfl⟩ := zipD_get hd
      have hj : j < min zs.length ys.length := by
        rw [← z.1]; exact (List.getElem?_eq_some_iff.mp hv).1
      obtain ⟨T, x, y, t1, t2, t3, t4⟩ := z.2 j hj
      rw [hv] at t1
      cases t1
      obtain ⟨x', u1, u2⟩ := ra.get g1
      obtain ⟨y', u3, u4⟩ := rb.get g2
      rw [t2] at u1
      cases u1
      rw [t3] at u3
      cases u3
      have lift : ∀ {v d}, Rp K (Cl Z (gv σ ts) (gs s1 rs)) H1 v d → Rp K (Cl Z (gv σ ts) (gs s1 rs)) H2 v d := fun r => Rp.mono (fun _ _ => rd_ext m) (fun _ _ c r => ⟨c, rd_ext m r⟩) _ _ r
      exact .tup (.inl (.inl t4)) (.cons (lift u2) (.cons (lift u4) .nil))
end
end W8

/-! W9K: len(set(xs)), xs a list of tuples of ints. -/
namespace W8
open PySem L2 RZ PySem.Spec PyProof.Rows
section
variable {X : Cx}
def rLenSetT (P : Program) (w : World) : List V → Hp → VK → Prop := fun vs H Q => ∃ (a : Addr) (L : List (Addr × List Int)), vs = [V.ref a] ∧ H a = some (SetTO P w a L) ∧ ((L.map (·.2)).Nodup → Q (.int L.length) H)
theorem cr_lenSetT : CallR X (.builtin "len") (rLenSetT X.prog X.w) := by
  intro pins s σ H vs us Q I r h
  obtain ⟨a, L, rfl, ha, q⟩ := h
  rw [Vals.ref1 r]
  have R : SetT0 X.prog X.w s.heap a L := (I.hok a _ ha).1
  obtain ⟨es, ep, t, ⟨o, ho, hex, hd⟩, hrows, tab, nd, plain, led, room, few⟩ := R.ex
  have hn : es.size = L.length := by
    have h := congrArg List.length hrows
    unfold rowsOf at h
    rw [Array.length_toList, List.length_map] at h
    exact h
  have hf : t.fits es.size = true := by
    have h1 := tab.sz
    rw [List.length_map] at h1
    unfold SetTable.fits SetTable.fill
    rw [tab.dm, Bool.and_eq_true, beq_iff_eq, decide_eq_true_eq]
    show t.place.size = es.size ∧ t.place.size + 0 ≤ t.mask
    omega
  refine call_len_set ho hex hd hf (by rw [hn]; omega) ⟨.int L.length, H, I.tok _, ⟨_, by rw [hn]⟩, q nd⟩
theorem k_lenSetT (P : Program) (w : World) (hp : X.prog = P) (hw : X.w = w) : CallR X (.builtin "len") (rLenSetT P w) := by subst hp hw; exact cr_lenSetT
end
def tupD (l : List Int) : D := .tuple (l.map .int)
theorem rpA_tups {K : PySem.W.Frag} {C : Addr → Prop} {H : Hp} : ∀ {xs : List V} {ls : List (List Int)}, RpA K C H xs (ls.map tupD) → ∃ ks : List (Addr × List Int), xs = ks.map (fun k => V.ref k.1) ∧ ks.map (·.2) = ls ∧ ∀ k ∈ ks, SqT K H k.1 (k.2.map V.int)
  | [], [], _ => ⟨[], rfl, rfl, fun _ h => nomatch h⟩
  | [], _ :: _, h => by cases h
  | _ :: _, [], h => by cases h
  | x :: xs, l :: ls, h => by
    rw [List.map_cons] at h
    cases h with
    | cons a r =>
    obtain ⟨ks, e1, e2, e3⟩ := rpA_tups r
    have a : Rp K C H x (.tuple (l.map .int)) := a
    cases a with
    | @tup ad zs _ h1 h2 =>
    have e := h2.ints
    subst e
    refine ⟨(ad, l) :: ks, by rw [e1]; rfl, by rw [List.map_cons, e2], fun k hk => ?_⟩
    rcases List.mem_cons.mp hk with rfl | hk
    · exact h1
    · exact e3 k hk
theorem len_subS {α : Type} [DecidableEq α] : ∀ (xs ys : List α), xs.Nodup → (∀ x ∈ xs, x ∈ ys) → xs.length ≤ ys.length
  | [], _, _, _ => Nat.zero_le _
  | x :: xs, ys, h, hs => by
    have h := List.nodup_cons.mp h
    have hx := hs x List.mem_cons_self
    have ih := len_subS xs (ys.erase x) h.2 fun z hz => (List.mem_erase_of_ne fun e => by subst e; exact h.1 hz).mpr (hs z (List.mem_cons_of_mem _ hz))
    rw [List.length_erase_of_mem hx] at ih
    have := List.length_pos_of_mem hx
    show xs.length + 1 ≤ _
    omega
theorem nodup_sub {α : Type} [DecidableEq α] : ∀ (ys xs : List α), ys.Nodup → (∀ y ∈ ys, y ∈ xs) → xs.length ≤ ys.length → xs.Nodup
  | [], xs, _, _, h => by
    have : xs = [] := List.length_eq_zero_iff.mp (Nat.le_zero.mp h)
    subst this; exact List.nodup_nil
  | y :: ys, xs, hn, hs, hl => by
    obtain ⟨h1, h2⟩ := List.nodup_cons.mp hn
    have hy := hs y List.mem_cons_self
    have hpos := List.length_pos_of_mem hy
    have hsub : ∀ z ∈ ys, z ∈ xs.erase y := fun z hz => (List.mem_erase_of_ne fun e => by subst e; exact h1 hz).mpr (hs z (List.mem_cons_of_mem _ hz))
    have hle : (xs.erase y).length ≤ ys.length := by
      rw [List.length_erase_of_mem hy]
      have : xs.length ≤ ys.length + 1 := hl
      omega
    have hno : y ∉ xs.erase y := fun z => by
      have := len_subS (y :: ys) (xs.erase y) hn fun x hx => by
        rcases List.mem_cons.mp hx with rfl | hx
        · exact z
        · exact hsub x hx
      have : ys.length + 1 ≤ (xs.erase y).length := this
      omega
    exact (List.perm_cons_erase hy).nodup_iff.mpr (List.nodup_cons.mpr ⟨hno, nodup_sub ys (xs.erase y) h2 hsub hle⟩)
section
variable {K : PySem.W.Frag} {s rs : List SD} {Q : SD → List SD → Prop} {P : Program} {w : World}
theorem de_lenSetT {te : TE} (h : DE ⟨K, ω⟩ te s rs fun r s1 => ∃ xs : List (List Int), dat s1 r = some (.list (xs.map tupD)) ∧ xs.length < 64 ∧
    ∀ m : Nat, m ≤ xs.length → (m = xs.length ↔ xs.Nodup) → Q (.v (.int (m : Int))) s1) :
    DE ⟨K, ω⟩ (tCB (rLenSetT P w) (tCons (tCB (rSetOfT K P w) (tCons te tNil)) tNil)) s rs Q := fun Z σ ts H R o k => by
  refine h Z σ ts H _ o fun x H1 s1 r o1 ⟨ls, e, hl, q⟩ => ?_
  obtain ⟨a, xs, rfl, h1, h2⟩ := o1.listTop e
  obtain ⟨ks, e1, e2, e3⟩ := rpA_tups h2
  have hkl : ks.length = ls.length := by have := congrArg List.length e2; rwa [List.length_map] at this
  refine ⟨a, ks, rfl, by rw [← e1]; exact h1, e3, by omega, fun sa L hsa hL1 hL2 => ?_⟩
  have ext : ∀ b u, H1 b = some u → upd H1 sa (SetTO P w sa L) b = some u := fun b u hb => by rw [upd_ne (ne_of_none hb hsa)]; exact hb
  refine ⟨sa, L, rfl, upd_same, fun hnd => ?_⟩
  have s1' : ∀ y ∈ L.map (·.2), y ∈ ls := fun y hy => by
    obtain ⟨p, hp, rfl⟩ := List.mem_map.mp hy
    rw [← e2]; exact List.mem_map_of_mem (hL1 p hp)
  have s2' : ∀ y ∈ ls, y ∈ L.map (·.2) := fun y hy => by
    rw [← e2] at hy
    obtain ⟨p, hp, rfl⟩ := List.mem_map.mp hy
    exact hL2 p hp
  have l1 := len_subS _ _ hnd s1'
  rw [List.length_map] at l1
  have o2 := o1.pop.ext ext
  exact k _ _ s1 _ (o2.pushV (.int _)) (q L.length l1 ⟨fun hm => nodup_sub (L.map (·.2)) ls hnd s1' (by rw [List.length_map]; omega), fun hn => by
    have := len_subS _ _ hn s2'
    rw [List.length_map] at this
    omega⟩)
end
end W8

/-! W9L: sorted(d.items()) of a dict whose keys are texts or ints. -/
namespace W8
open PySem L2 L2.DX RZ PySem.Spec PyProof.Rows
section
variable {X : Cx}
def rItemsK : V → List V → Hp → VK → Prop := fun x xs H Q => ∃ (a : Addr) (kvs : List (Key × V)), x = .ref a ∧ xs = [] ∧ H a = some (.dK kvs) ∧ ∀ p, H p = none → Q (.ref p) (upd H p (itemsO p a))
theorem mt_itemsK : MtR X "dict.items" rItemsK := by
  intro pins s σ H x xs v us Q I rx rxs h
  obtain ⟨a, kvs, rfl, rfl, ha, q⟩ := h
  cases rx
  cases rxs
  obtain ⟨z, hd, vs, kv, o, es, ep, ho, hx, hdat, _⟩ := dk_of I.hok ha
  refine DT.callItems (es := es) (ep := ep) hd ⟨o, ho, hx, hdat⟩ ?_
  have hf : H s.heap.objs.size = none := I.hok.fresh (Nat.le_refl _)
  exact ⟨.ref s.heap.objs.size, upd H s.heap.objs.size (itemsO s.heap.objs.size a), I.laid (t' := s.toks) (fun b u e => Heap.get?_push_of_some _ e) (Nat.le_refl _) (itemsO_ok (Heap.get?_push_size _ rfl)), rfl, q _ hf⟩
theorem pairs_get {K : Type} [DecidableEq K] {prog : Program} {w : World} {knd : PySem.KeyKind prog w K} : ∀ {es : List DictEntry} {kvs : List (K × Value)}, Pairs knd es kvs → ∀ {j : Nat} {e : DictEntry}, es[j]? = some e → ∃ q, kvs[j]? = some q ∧ knd.is q.1 e.key = true ∧ e.val = q.2
  | _, _, .nil, j, e, h => by cases h
  | _, _, .cons r1 r2 t, 0, e, h => by cases h; exact ⟨_, rfl, r1, r2⟩
  | _, _, .cons r1 r2 t, j + 1, e, h => pairs_get t h
theorem pairs_len {K : Type} [DecidableEq K] {prog : Program} {w : World} {knd : PySem.KeyKind prog w K} : ∀ {es : List DictEntry} {kvs : List (K × Value)}, Pairs knd es kvs → es.length = kvs.length
  | _, _, .nil => rfl
  | _, _, .cons _ _ t => by rw [List.length_cons, List.length_cons, pairs_len t]
theorem dpAll_at {K : PySem.W.Frag} {H : Hp} : ∀ {vs : List V} {ds : List D}, vs.length = ds.length → (∀ (j : Nat) (v : V) (d : D), vs[j]? = some v → ds[j]? = some d → Dp K H v d) → DpAll K H vs ds
  | [], [], _, _ => .nil
  | [], _ :: _, e, _ => by cases e
  | _ :: _, [], e, _ => by cases e
  | v :: vs, d :: ds, e, h => .cons (h 0 v d rfl rfl) (dpAll_at (by simpa using e) fun j v d h1 h2 => h (j + 1) v d h1 h2)
theorem dp_key {K : PySem.W.Frag} {H : Hp} (k : Key) : Dp K H (kV k) (keyD k) := by
  cases k with
  | inl i => exact .int i
  | inr x => exact .str x
theorem rpP_get {K : PySem.W.Frag} {C : Addr → Prop} {H : Hp} {κ : Type} : ∀ {kvs : List (κ × V)} {kds : List (κ × D)}, RpP K C H kvs kds → kds.length = kvs.length ∧ ∀ {j : Nat} {x : κ × V} {y : κ × D}, kvs[j]? = some x → kds[j]? = some y → x.1 = y.1 ∧ Rp K C H x.2 y.2
  | _, _, .nil => ⟨rfl, fun h => by cases h⟩
  | _, _, .cons r t => ⟨by rw [List.length_cons, List.length_cons, (rpP_get t).1], fun {j x y} hx hy => by
    match j with
    | 0 => cases hx; cases hy; exact ⟨rfl, r⟩
    | j + 1 => exact (rpP_get t).2 (j := j) hx hy⟩
theorem rpK_key {K : PySem.W.Frag} {C : Addr → Prop} {H : Hp} (k : Key) : Rp K C H (kV k) (keyD k) := by
  cases k with
  | inl i => exact .int i
  | inr x => exact .str x
def rSortItD (K : PySem.W.Frag) : List V → Hp → VK → Prop := fun vs H Q => ∃ (p a : Addr) (kvs : List (Key × V)) (kds : List (Key × D)), vs = [.ref p] ∧ H p = some (itemsO p a) ∧ H a = some (.dK kvs) ∧ kds.length = kvs.length ∧
  (∀ (j : Nat) (x : Key × V) (y : Key × D), kvs[j]? = some x → kds[j]? = some y → x.1 = y.1 ∧ ∀ H2 : Hp, (∀ b o, H b = some o → H2 b = some o) → Dp K H2 x.2 y.2) ∧
  PySem.W.AllAlike (kds.map kpD) ∧ PySem.W.Sortable (kds.map kpD) ∧ (∀ d ∈ kds.map kpD, d.depth ≤ 30) ∧
  ∀ (H' : Hp) (l : Addr) (as : List Addr), as.length = kvs.length → (∀ b o, H b = some o → H' b = some o) → H' l = none →
    (∀ (j : Nat) (t : Addr) (x : Key × V), as[j]? = some t → kvs[j]? = some x → H' t = some (.tup [kV x.1, x.2])) → Q (.ref l) (upd H' l (.lst ((((as.map V.ref).zip (kds.map kpD)).mergeSort fun x y => leD x.2 y.2).map Prod.fst)))
theorem cr_sortedItD (hc : X.calm = true) (hu : X.A.units + 64 < cLine) : CallR X (.builtin "sorted") (rSortItD X.K) := by
  intro pins s σ H xs us Q I r h
  obtain ⟨p, a, kvs, kds, rfl, hp, ha, hlk, hv, hal, hk, hdep, q⟩ := h
  obtain rfl := Vals.ref1 r
  have view : s.heap.IsItemsView p a := (show ObjOk X.prog X.w H s.heap p (itemsO p a) from I.hok p _ hp).1
  obtain ⟨z, hd, vs, kv, o, es, ep, ho, hx, hdat, _, prs, _⟩ := dk_of I.hok ha
  have l1 : kvs.length = vs.length := Paired.length kv
  have l2 : es.size = vs.length := by have := pairs_len prs; simpa using this
  have hh : X.A.handled = none := I.ok.hd hc
  refine DT.sortedI (es := es) (ep := ep) hh view ⟨o, ho, hx, hdat⟩ (by omega) fun h' tk as hk1 hlt hl hG => ?_
  have lak : as.length = kvs.length := by omega
  have nd : as.Nodup := List.Pairwise.imp (fun h => Nat.ne_of_lt h) hG.rise
  have pr : ∀ (j : Nat) (b : Addr), as[j]? = some b → ∃ (x : Key × V) (u v : Value), kvs[j]? = some x ∧ RelV (kV x.1) u ∧ RelV x.2 v ∧ h'.get? b = some { cls := .type "tuple", data := .seq #[u, v] } := by
    intro j b hj
    obtain ⟨e, he, hg⟩ := hG.pairs j b hj
    obtain ⟨qv, g1, g2, g3⟩ := pairs_get prs (show es.toList[j]? = some e by simpa using he)
    have hjl : j < kvs.length := by rw [← lak]; exact (List.getElem?_eq_some_iff.mp hj).1
    obtain ⟨qv2, f1, f2, f3⟩ := LiI.paired_get kv (List.getElem?_eq_getElem hjl)
    rw [g1] at f1
    cases f1
    exact ⟨kvs[j], e.key, e.val, List.getElem?_eq_getElem hjl, by rw [f2]; exact relV_key g2, by rw [g3]; exact f3, hg⟩
  have I1 : Inv X pins σ H { s with heap := h', toks := tk } := I.kept (t' := tk) hk1
  obtain ⟨H2, I2, g, qt⟩ := takeT (P := fun b ws => ∃ (j : Nat) (x : Key × V), as[j]? = some b ∧ kvs[j]? = some x ∧ ws = [kV x.1, x.2]) I as H I1 nd fun b hb => by
    obtain ⟨j, hj⟩ := List.mem_iff_getElem?.mp hb
    obtain ⟨x, u, v, e1, e2, e3, e4⟩ := pr j b hj
    exact ⟨Nat.le_of_lt (hG.above b hb), I.hok.fresh (Nat.le_of_lt (hG.above b hb)), _, ⟨j, x, hj, e1, rfl⟩, fun H2 => ⟨show 2 ≤ sizeLine by decide, [u, v], .cons e2 (.cons e3 .nil), ⟨_, e4, rfl, _, rfl⟩⟩⟩
  have at2 : ∀ (j : Nat) (t : Addr) (x : Key × V), as[j]? = some t → kvs[j]? = some x → H2 t = some (.tup [kV x.1, x.2]) := fun j t x hj hxj => by
    obtain ⟨ws, ⟨i, y, e1, e2, rfl⟩, e3⟩ := qt t (List.mem_of_getElem? hj)
    have ej : i = j := by
      obtain ⟨h1, h2⟩ := List.getElem?_eq_some_iff.mp e1
      obtain ⟨h3, h4⟩ := List.getElem?_eq_some_iff.mp hj
      rcases Nat.lt_trichotomy i j with c | c | c
      · exact absurd (h2.trans h4.symm) (List.pairwise_iff_getElem.mp nd i j h1 h3 c)
      · exact c
      · exact absurd (h4.trans h2.symm) (List.pairwise_iff_getElem.mp nd j i h3 h1 c)
    subst ej
    rw [hxj] at e2
    cases e2
    exact e3
  have dp : DpAll X.K H2 (as.map V.ref) (kds.map kpD) := dpAll_at (by rw [List.length_map, List.length_map]; omega) fun j v d h1 h2 => by
    rw [List.getElem?_map] at h1 h2
    obtain ⟨t, ht, rfl⟩ := Option.map_eq_some_iff.mp h1
    obtain ⟨y, hy, rfl⟩ := Option.map_eq_some_iff.mp h2
    have hj : j < kvs.length := by rw [← lak]; exact (List.getElem?_eq_some_iff.mp ht).1
    have hx' := List.getElem?_eq_getElem hj
    obtain ⟨e1, e2⟩ := hv j _ y hx' hy
    have k1 : Dp X.K H2 (kV kvs[j].1) (keyD y.1) := by rw [e1]; exact dp_key _
    exact .tup (.inl (.inl (at2 j t _ ht hx'))) (.cons k1 (.cons (e2 H2 g) .nil))
  obtain ⟨bs, hr⟩ := Dp.readsAll I2 (kds.map kpD) (as.map V.ref) (as.map Value.ref) dp (LiI.vals_refs as)
  have hob : (h'.push { cls := .type "list", data := .seq (as.map Value.ref).toArray }).get? h'.objs.size = some (seqObj "list" (as.map Value.ref).toArray 0) := Heap.get?_push_size _ rfl
  have ka : ∀ b o, h'.get? b = some o → (h'.push { cls := .type "list", data := .seq (as.map Value.ref).toArray }).get? b = some o := fun b o e => Heap.get?_push_of_some _ e
  have ne0 : ∀ b o, h'.get? b = some o → b ≠ h'.objs.size := fun b o e => Nat.ne_of_lt (Heap.lt_size e)
  generalize hh2 : h'.push { cls := .type "list", data := .seq (as.map Value.ref).toArray } = h2 at hob ka ⊢
  have each := each_of_reads (h' := PySem.W.sortingHeap h2 h'.objs.size (as.map Value.ref)) (fun b o e => PySem.W.sortingHeap_old (ne0 b o e) (ka b o e)) hr
  have S := PySem.W.SortsAt.data (prog := X.prog) (w := X.w) (A := X.A.in1.in1) (s := { s with heap := PySem.W.sortingHeap h2 h'.objs.size (as.map Value.ref), toks := tk }) each hal hk (fun d hd => by
    have := hdep d hd
    show X.A.units + 1 + 1 + d.depth < cLine
    omega)
  have hll : (as.map Value.ref).length ≤ sizeLine := by rw [List.length_map, lak]; exact z
  refine wpAny_call_entry slot_list_sort ⟨_, hob, rfl⟩ entry_list_sort (PySem.W.list_sort_vals (s := { s with heap := h2, toks := tk }) hob S hll ⟨.none, rfl, ?_⟩) (args_list_sort _)
  have hlen : (kds.map kpD).length = (as.map V.ref).length := by rw [List.length_map, List.length_map]; omega
  have ek : PySem.W.EachIs (fun v (b : V × D) => (PySem.W.dataKind (PySem.W.sortingHeap h2 h'.objs.size (as.map Value.ref)) (kds.map kpD)).keyOf v = some (PySem.W.keyToks b.2)) (as.map Value.ref) ((as.map V.ref).zip (kds.map kpD)) :=
    each_zip2 (fun u d y ⟨⟨as, r⟩, hm⟩ => PySem.W.dataKind_some hal hm r) (PySem.W.each_mem each) hlen
  have e := PySem.W.sortVals_each (κ := PySem.W.dataKind (PySem.W.sortingHeap h2 h'.objs.size (as.map Value.ref)) (kds.map kpD)) (rev := false) (fun b : V × D => PySem.W.keyToks b.2) (each_zip (R := fun v b => RelV b.1 v) (LiI.vals_refs as) hlen fun _ _ _ h => h) ek
  have vz := each_vals (fun _ _ h => h) e
  obtain ⟨eF, heF⟩ := sortedHeap_at (vs := as.map Value.ref) (out := (PySem.W.sortVals (PySem.W.dataKind (PySem.W.sortingHeap h2 h'.objs.size (as.map Value.ref)) (kds.map kpD)) false (as.map Value.ref) (as.map Value.ref)).toArray) hob
  have hn2 : H2 h'.objs.size = none := I2.hok.fresh (Nat.le_refl _)
  refine ⟨.ref _, upd H2 h'.objs.size (.lst ((((as.map V.ref).zip (kds.map kpD)).mergeSort fun x y => leD x.2 y.2).map Prod.fst)), I2.laid (t' := tk) (fun b u e => (sortedHeap_old (ne0 b u e) (Heap.lt_size (ka b u e))).trans (ka b u e)) (Nat.le_refl _) ⟨?_, _, eF, vz, heF⟩, rfl, q _ _ as lak g hn2 at2⟩
  rw [List.length_map, (List.mergeSort_perm _ _).length_eq, List.length_zip]
  simp only [List.length_map] at *
  omega
theorem k_sortedItD (K : PySem.W.Frag) (hk : X.K = K) (hc : X.calm = true) (hu : X.A.units + 64 < cLine) : CallR X (.builtin "sorted") (rSortItD K) := by subst hk; exact cr_sortedItD hc hu
end
section
variable {K : PySem.W.Frag} {s rs : List SD} {Q : SD → List SD → Prop} {te : TE}
theorem de_sortIt (h : DE ⟨K, ω⟩ te s rs fun r0 s1 => ∃ kds, ownO s1 r0 = some (.dK kds) ∧ PySem.W.AllAlike (kds.map kpD) ∧ PySem.W.Sortable (kds.map kpD) ∧ (∀ d ∈ kds.map kpD, d.depth ≤ 30) ∧ Q (.ow none ((kds.map kpD).mergeSort leD)) s1) :
    DE ⟨K, ω⟩ (tCB (rSortItD K) (tCons (tBM0 K "dict" rItemsK te) tNil)) s rs Q := fun Z σ ts H R o k =>
  h Z σ ts H _ o fun x H1 s1 r0 o1 ⟨kds, ho, hal, hk, hdep, q⟩ => by
    obtain ⟨a, u, rfl, ha, hu⟩ := o1.odTop ho
    obtain ⟨kvs, rfl, rp⟩ := rpO_dK hu
    have hlen := (rpP_get rp).1
    refine ⟨.inr (.inr (.inl ⟨rfl, .inl ⟨kvs, ha⟩⟩)), a, kvs, rfl, rfl, ha, fun p hp => ?_⟩
    have up : ∀ b o, H1 b = some o → upd H1 p (itemsO p a) b = some o := fun b o e => by rw [upd_ne (ne_of_none e hp)]; exact e
    have lift : ∀ {H2 : Hp} {v : V} {d : D}, (∀ b o, H1 b = some o → H2 b = some o) → Rp K (Cl Z (gv σ ts) (gs s1 rs)) H1 v d → Rp K (Cl Z (gv σ ts) (gs s1 rs)) H2 v d := fun m r => Rp.mono (fun _ _ => rd_ext m) (fun _ _ c r => ⟨c, rd_ext m r⟩) _ _ r
    have rp2 : ∀ {j : Nat} {x : Key × V} {y : Key × D}, kvs[j]? = some x → kds[j]? = some y → x.1 = y.1 ∧ Rp K (Cl Z (gv σ ts) (gs s1 rs)) H1 x.2 y.2 := fun hx hy => by
      obtain ⟨e1, e2⟩ := (rpP_get rp).2 hx hy
      exact ⟨e1, e2⟩
    refine ⟨p, a, kvs, kds, rfl, upd_same, up _ _ ha, hlen, fun j x y hx hy => ?_, hal, hk, hdep, fun H' l as lak g hl hpr => ?_⟩
    · obtain ⟨e1, e2⟩ := rp2 hx hy
      exact ⟨e1, fun H2 g => Rp.dp _ _ (lift (fun b o e => g b o (up b o e)) e2)⟩
    · have m : ∀ b o, H1 b = some o → H' b = some o := fun b o e => g b o (up b o e)
      have o3 := o1.pop.ext m
      have each : RpA K (Cl Z (gv σ ts) (gs s1 rs)) H' (as.map V.ref) (kds.map kpD) := rpA_at (by rw [List.length_map, List.length_map]; omega) fun j v d hv hd => by
        rw [List.getElem?_map] at hv hd
        obtain ⟨t, ht, rfl⟩ := Option.map_eq_some_iff.mp hv
        obtain ⟨y, hy, rfl⟩ := Option.map_eq_some_iff.mp hd
        have hj : j < kvs.length := by rw [← lak]; exact (List.getElem?_eq_some_iff.mp ht).1
        have hx := List.getElem?_eq_getElem hj
        obtain ⟨e1, e2⟩ := rp2 hx hy
        have k1 : Rp K (Cl Z (gv σ ts) (gs s1 rs)) H' (kV kvs[j].1) (keyD y.1) := by rw [e1]; exact rpK_key _
        exact .tup (.inl (.inl (hpr j t _ ht hx))) (.cons k1 (.cons (lift m e2) .nil))
      have hm : ∀ x ∈ ((as.map V.ref).zip (kds.map kpD)).mergeSort (fun x y => leD x.2 y.2), Rp K (Cl Z (gv σ ts) (gs s1 rs)) H' x.1 x.2 := fun x hx => RpA.zipAll each x ((List.mergeSort_perm _ _).mem_iff.mp hx)
      have e2 : (((as.map V.ref).zip (kds.map kpD)).mergeSort (fun x y => leD x.2 y.2)).map Prod.snd = (kds.map kpD).mergeSort leD := by
        rw [PySem.W.sort_maps (s := leD) Prod.snd (fun _ _ _ _ => rfl), List.map_snd_zip (by rw [List.length_map, List.length_map]; omega)]
      have rq := RpA.ofPairs hm
      rw [e2] at rq
      exact k _ _ s1 _ (o3.pushO hl rq) q
end
end W8

namespace Lk36
open PySem L2 W8 RZ
def top (i : Nat) : Stmt := PySem.Challenge.pw_fewgauges_k36_rules_at_their_bounds.main.body.getD i (.Pass ⟨0, 0, 0, 0⟩)
abbrev s_common : Stmt := top 3
abbrev N_common : List Str := ["one", "other"]
theorem sc_common : FnScope N_common ["one", "other"] (defScope s_common) := ⟨rfl, rfl, rfl, by decide +kernel, rfl, by decide +kernel, by decide +kernel⟩
abbrev s_part_of : Stmt := top 4
abbrev N_part_of : List Str := ["top", "bottom", "by"]
theorem sc_part_of : FnScope N_part_of ["top", "bottom"] (defScope s_part_of) := ⟨rfl, rfl, rfl, by decide +kernel, rfl, by decide +kernel, by decide +kernel⟩
abbrev s_is_whole : Stmt := top 5
abbrev N_is_whole : List Str := ["thing"]
theorem sc_is_whole : FnScope N_is_whole ["thing"] (defScope s_is_whole) := ⟨rfl, rfl, rfl, by decide +kernel, rfl, by decide +kernel, by decide +kernel⟩
abbrev s_is_part : Stmt := top 6
abbrev N_is_part : List Str := ["thing"]
theorem sc_is_part : FnScope N_is_part ["thing"] (defScope s_is_part) := ⟨rfl, rfl, rfl, by decide +kernel, rfl, by decide +kernel, by decide +kernel⟩
abbrev s_plus : Stmt := top 7
abbrev N_plus : List Str := ["a", "b"]
theorem sc_plus : FnScope N_plus ["a", "b"] (defScope s_plus) := ⟨rfl, rfl, rfl, by decide +kernel, rfl, by decide +kernel, by decide +kernel⟩
abbrev s_is_less : Stmt := top 8
abbrev N_is_less : List Str := ["a", "b"]
theorem sc_is_less : FnScope N_is_less ["a", "b"] (defScope s_is_less) := ⟨rfl, rfl, rfl, by decide +kernel, rfl, by decide +kernel, by decide +kernel⟩
abbrev s_sum_of : Stmt := top 9
abbrev N_sum_of : List Str := ["parts", "found", "part"]
theorem sc_sum_of : FnScope N_sum_of ["parts"] (defScope s_sum_of) := ⟨rfl, rfl, rfl, by decide +kernel, rfl, by decide +kernel, by decide +kernel⟩
abbrev s_is_name : Stmt := top 13
abbrev N_is_name : List Str := ["thing", "sign"]
theorem sc_is_name : FnScope N_is_name ["thing"] (defScope s_is_name) := ⟨rfl, rfl, rfl, by decide +kernel, rfl, by decide +kernel, by decide +kernel⟩
abbrev s_is_pair : Stmt := top 16
abbrev N_is_pair : List Str := ["thing"]
theorem sc_is_pair : FnScope N_is_pair ["thing"] (defScope s_is_pair) := ⟨rfl, rfl, rfl, by decide +kernel, rfl, by decide +kernel, by decide +kernel⟩
abbrev s_is_share : Stmt := top 17
abbrev N_is_share : List Str := ["thing"]
theorem sc_is_share : FnScope N_is_share ["thing"] (defScope s_is_share) := ⟨rfl, rfl, rfl, by decide +kernel, rfl, by decide +kernel, by decide +kernel⟩
abbrev s_are_others : Stmt := top 18
abbrev N_are_others : List Str := ["gauge", "names", "one", "other"]
theorem sc_are_others : FnScope N_are_others ["gauge", "names"] (defScope s_are_others) := ⟨rfl, rfl, rfl, by decide +kernel, rfl, by decide +kernel, by decide +kernel⟩
abbrev s_is_rule : Stmt := top 19
abbrev N_is_rule : List Str := ["thing", "gauge", "others", "name", "share", "one"]
theorem sc_is_rule : FnScope N_is_rule ["thing"] (defScope s_is_rule) := ⟨rfl, rfl, rfl, by decide +kernel, rfl, by decide +kernel, by decide +kernel⟩
abbrev s__law_tape : Stmt := top 21
abbrev N__law_tape : List Str := ["_law_script", "_law_k", "_law_cell"]
theorem sc__law_tape : FnScope N__law_tape ["_law_script", "_law_k"] (defScope s__law_tape) := ⟨rfl, rfl, rfl, by decide +kernel, rfl, by decide +kernel, by decide +kernel⟩
abbrev s__law_draw : Stmt := top 22
abbrev N__law_draw : List Str := ["_law_tape_here", "_law_many", "_law_found", "_law_once", "_law_twice", "_law_wide"]
theorem sc__law_draw : FnScope N__law_draw ["_law_tape_here", "_law_many"] (defScope s__law_draw) := ⟨rfl, rfl, rfl, by decide +kernel, rfl, by decide +kernel, by decide +kernel⟩
abbrev s__law_folded : Stmt := top 23
abbrev N__law_folded : List Str := ["_law_script", "_law_many", "_law_cells", "_law_k", "_law_cell"]
theorem sc__law_folded : FnScope N__law_folded ["_law_script", "_law_many"] (defScope s__law_folded) := ⟨rfl, rfl, rfl, by decide +kernel, rfl, by decide +kernel, by decide +kernel⟩
abbrev s__law_part_by : Stmt := top 24
abbrev N__law_part_by : List Str := ["_law_top", "_law_bottom", "_law_one", "_law_rest"]
theorem sc__law_part_by : FnScope N__law_part_by ["_law_top", "_law_bottom"] (defScope s__law_part_by) := ⟨rfl, rfl, rfl, by decide +kernel, rfl, by decide +kernel, by decide +kernel⟩
abbrev s__law_both : Stmt := top 25
abbrev N__law_both : List Str := ["_law_one", "_law_two"]
theorem sc__law_both : FnScope N__law_both ["_law_one", "_law_two"] (defScope s__law_both) := ⟨rfl, rfl, rfl, by decide +kernel, rfl, by decide +kernel, by decide +kernel⟩
abbrev s__law_product : Stmt := top 26
abbrev N__law_product : List Str := ["_law_one", "_law_two"]
theorem sc__law_product : FnScope N__law_product ["_law_one", "_law_two"] (defScope s__law_product) := ⟨rfl, rfl, rfl, by decide +kernel, rfl, by decide +kernel, by decide +kernel⟩
abbrev s__law_total : Stmt := top 27
abbrev N__law_total : List Str := ["_law_parts", "_law_found", "_law_part"]
theorem sc__law_total : FnScope N__law_total ["_law_parts"] (defScope s__law_total) := ⟨rfl, rfl, rfl, by decide +kernel, rfl, by decide +kernel, by decide +kernel⟩
abbrev s__law_some_names : Stmt := top 28
abbrev N__law_some_names : List Str := ["_law_tape_here", "_law_many", "_law_letters", "_law_shift", "_law_k", "_law_stem", "_law_at", "_law_step", "_law_found", "_law_head", "_law_tail", "_law_way", "_law_sign"]
theorem sc__law_some_names : FnScope N__law_some_names ["_law_tape_here", "_law_many"] (defScope s__law_some_names) := ⟨rfl, rfl, rfl, by decide +kernel, rfl, by decide +kernel, by decide +kernel⟩
abbrev s__law_split_to : Stmt := top 29
abbrev N__law_split_to : List Str := ["_law_tape_here", "_law_many", "_law_some", "_law_k", "_law_one"]
theorem sc__law_split_to : FnScope N__law_split_to ["_law_tape_here", "_law_many"] (defScope s__law_split_to) := ⟨rfl, rfl, rfl, by decide +kernel, rfl, by decide +kernel, by decide +kernel⟩
abbrev s__law_beyond : Stmt := top 30
abbrev N__law_beyond : List Str := ["_law_tape_here", "_law_gauge", "_law_names", "_law_shares", "_law_others", "_law_many", "_law_at", "_law_more", "_law_name", "_law_share", "_law_some", "_law_odd", "_law_to", "_law_bent", "_law_rest", "_law_one"]
theorem sc__law_beyond : FnScope N__law_beyond ["_law_tape_here", "_law_gauge", "_law_names", "_law_shares"] (defScope s__law_beyond) := ⟨rfl, rfl, rfl, by decide +kernel, rfl, by decide +kernel, by decide +kernel⟩
abbrev s_law : Stmt := top 31
abbrev N_law : List Str := ["_law_script", "_law_cells", "_law_k", "_law_tape_here", "_law_names", "_law_gauge", "_law_many", "_law_shares", "_law_one", "_law_eight", "_law_thing", "_law_deep", "_law_turn", "_law_place"]
theorem sc_law : FnScope N_law ["_law_script"] (defScope s_law) := ⟨rfl, rfl, rfl, by decide +kernel, rfl, by decide +kernel, by decide +kernel⟩
structure Txt (K : PySem.W.Frag) (mg : Str → Option Value) : Prop where
  b_abs : mg "abs" = none
  b_all : mg "all" = none
  b_bool : mg "bool" = none
  b_dict : mg "dict" = none
  b_enumerate : mg "enumerate" = none
  b_int : mg "int" = none
  b_isinstance : mg "isinstance" = none
  b_len : mg "len" = none
  b_list : mg "list" = none
  b_range : mg "range" = none
  b_sorted : mg "sorted" = none
  b_str : mg "str" = none
  b_sum : mg "sum" = none
  b_tuple : mg "tuple" = none
  b_zip : mg "zip" = none
end Lk36

set_option pp.deepTerms false
set_option pp.deepTerms.threshold 12
namespace Lk36
open PySem L2 W8 RZ
local macro_rules | `(tactic| walk_at "bk") => `(tactic| repeat (first | exact W8.BackR.nil | refine W8.BackR.v ?_ | refine W8.BackR.own ?_ | refine W8.BackR.no ?_))
local macro_rules | `(tactic| walk_at "sh") => `(tactic| (first | assumption | exact rfl))
local macro_rules | `(tactic| walk_at "cmul") => `(tactic| (first | (refine' W8.Bd.mulX ?hm_ ?hn_ ?he_; (case hm_ => assumption); (case hn_ => assumption); (case he_ => (first | decide | omega))) | fail))
local macro_rules | `(tactic| walk_at "cmul") => `(tactic| (first | (refine W8.CMulX.smallL ⟨?_, ?_⟩ <;> (first | decide | omega)) | fail))
local macro_rules | `(tactic| walk_at "cmul") => `(tactic| (first | (refine W8.CMulX.small ⟨?_, ?_⟩ <;> (first | decide | omega)) | fail))
local macro_rules | `(tactic| walk_at "cmul") => `(tactic| (first | assumption | fail))
local macro_rules | `(tactic| walk_at "cdiv") => `(tactic| (first | assumption | fail))
local macro_rules | `(tactic| walk_at "cdiv") => `(tactic| (first | exact .inr ⟨by decide, by decide +kernel⟩ | fail))
local macro_rules | `(tactic| walk_at "cdiv") => `(tactic| (first | (refine W8.CDivX.small ⟨?_, ?_⟩ <;> (first | decide | omega)) | fail))
local macro_rules | `(tactic| walk_at "clean") => `(tactic| ((try dsimp only [W8.wipeS, List.set_cons_zero, List.set_cons_succ, List.set_nil, Int.reduceToNat, List.map]); (try simp only [List.cons_append, List.nil_append])))
local macro_rules | `(tactic| walk_at "len") => `(tactic| (first | assumption | omega | ((try simp only [List.length_map, List.length_append, List.length_cons, List.length_nil, List.length_take, List.length_drop, List.length_reverse]); omega)))
local macro_rules | `(tactic| walk_at "d1") => `(tactic| (first | ((with_reducible refine' iteFR ?h_ ?q_); (case h_ => exact rfl)) | fail))
local macro_rules | `(tactic| walk_at "d1") => `(tactic| (first | ((with_reducible refine' iteTR ?h_ ?q_); (case h_ => exact rfl)) | fail))
local macro_rules | `(tactic| walk_at "d1") => `(tactic| (first | (with_reducible refine iteFa ?_) | fail))
local macro_rules | `(tactic| walk_at "d1") => `(tactic| (first | (with_reducible refine iteTr ?_) | fail))
local macro_rules | `(tactic| walk_at "d1") => `(tactic| (first | (with_reducible refine iteF ?_) | fail))
local macro_rules | `(tactic| walk_at "d1") => `(tactic| (first | (with_reducible refine iteT ?_) | fail))
local macro_rules | `(tactic| walk_at "d1") => `(tactic| (first | ((with_reducible refine' opc_allM ?h_ ?q_); (case h_ => exact rfl)) | fail))
local macro_rules | `(tactic| walk_at "d1") => `(tactic| (first | ((with_reducible refine' opc_anyM ?h_ ?q_); (case h_ => exact rfl)) | fail))
local macro_rules | `(tactic| walk_at "d1") => `(tactic| (first | ((with_reducible refine' op2_addL ?h_ ?a_ ?l_ ?q_); (case h_ => exact rfl); (case a_ => exact rfl); (case l_ => (first | exact Nat.le_of_ble_eq_true rfl | walk_at "len")); walk_at "clean") | fail))
local macro_rules | `(tactic| walk_at "d1") => `(tactic| (first | (with_reducible refine dgs_nil ?_) | fail))
local macro_rules | `(tactic| walk_at "d1") => `(tactic| (first | (with_reducible refine dgs_cons ?_) | fail))
local macro_rules | `(tactic| walk_at "d1") => `(tactic| (first | ((with_reducible refine' dg_lst ?h_ ?n_ ?q_); (case h_ => exact rfl); (case n_ => exact rfl); walk_at "clean") | fail))
local macro_rules | `(tactic| walk_at "d1") => `(tactic| (first | ((with_reducible refine' dg_tup ?h_ ?n_ ?q_); (case h_ => exact rfl); (case n_ => exact rfl); walk_at "clean") | fail))
local macro_rules | `(tactic| walk_at "d1") => `(tactic| (first | ((with_reducible refine' opc_tuple ?h_ ?q_); (case h_ => exact rfl)) | fail))
local macro_rules | `(tactic| walk_at "d1") => `(tactic| (first | ((with_reducible refine' opc_list (Or.inr ?h_) ?q_); (case h_ => exact rfl)) | fail))
local macro_rules | `(tactic| walk_at "d1") => `(tactic| (first | ((with_reducible refine' opc_list (Or.inl ?h_) ?q_); (case h_ => exact rfl)) | fail))
local macro_rules | `(tactic| walk_at "d1") => `(tactic| (first | (with_reducible refine do_some ?_) | fail))
local macro_rules | `(tactic| walk_at "d1") => `(tactic| (first | (with_reducible refine do_none ?_) | fail))
local macro_rules | `(tactic| walk_at "d1") => `(tactic| (first | (with_reducible refine di_enT ?_) | fail))
local macro_rules | `(tactic| walk_at "d1") => `(tactic| (first | (with_reducible refine di_enum ?_) | fail))
local macro_rules | `(tactic| walk_at "d1") => `(tactic| (first | (with_reducible refine di_rng2 ?_) | fail))
local macro_rules | `(tactic| walk_at "d1") => `(tactic| (first | (with_reducible refine di_rng1 ?_) | fail))
local macro_rules | `(tactic| walk_at "d1") => `(tactic| (first | (with_reducible refine de_revL ?_) | fail))
local macro_rules | `(tactic| walk_at "d1") => `(tactic| (first | (with_reducible refine de_slL ?_) | fail))
local macro_rules | `(tactic| walk_at "d1") => `(tactic| (first | ((with_reducible refine' op2_addBL ?h_ ?a_ ?l_ ?q_); (case h_ => exact rfl); (case a_ => exact rfl); (case l_ => walk_at "len"); walk_at "clean") | fail))
local macro_rules | `(tactic| walk_at "d1") => `(tactic| (first | (with_reducible refine op2_addBI ?_) | fail))
local macro_rules | `(tactic| walk_at "d1") => `(tactic| (first | ((with_reducible refine' op2_addU ?h_ ?q_); (case h_ => walk_at "len")) | fail))
local macro_rules | `(tactic| walk_at "d1") => `(tactic| (first | (with_reducible refine de_slSt ?_) | fail))
local macro_rules | `(tactic| walk_at "d1") => `(tactic| (first | (with_reducible refine de_revT ?_) | fail))
local macro_rules | `(tactic| walk_at "d1") => `(tactic| (first | (with_reducible refine de_slB ?_) | fail))
local macro_rules | `(tactic| walk_at "d1") => `(tactic| (first | (with_reducible refine de_slA ?_) | fail))
local macro_rules | `(tactic| walk_at "d1") => `(tactic| (first | ((with_reducible refine' op2_ne ?h_ ?a_ ?u_ ?w_ ?q_); (case h_ => exact rfl); (case a_ => exact rfl); (case u_ => walk_at "sh"); (case w_ => walk_at "sh")) | fail))
local macro_rules | `(tactic| walk_at "d1") => `(tactic| (first | ((with_reducible refine' op2_eq ?h_ ?a_ ?u_ ?w_ ?q_); (case h_ => exact rfl); (case a_ => exact rfl); (case u_ => walk_at "sh"); (case w_ => walk_at "sh")) | fail))
local macro_rules | `(tactic| walk_at "d1") => `(tactic| (first | (with_reducible refine op2_neI ?_) | fail))
local macro_rules | `(tactic| walk_at "d1") => `(tactic| (first | (with_reducible refine op2_eqI ?_) | fail))
local macro_rules | `(tactic| walk_at "d1") => `(tactic| (first | ((with_reducible refine' op2_ixL ?h_ ?a_ ?q_); (case h_ => exact rfl); (case a_ => (first | exact rfl | assumption))) | fail))
local macro_rules | `(tactic| walk_at "d1") => `(tactic| (first | ((with_reducible refine' op2_ixT ?h_ ?a_ ?q_); (case h_ => exact rfl); (case a_ => (first | exact rfl | assumption))) | fail))
local macro_rules | `(tactic| walk_at "d1") => `(tactic| (first | ((with_reducible refine' opc_lenL ?h_ ?q_); (case h_ => exact rfl)) | fail))
local macro_rules | `(tactic| walk_at "d1") => `(tactic| (first | ((with_reducible refine' opc_lenT ?h_ ?q_); (case h_ => exact rfl)) | fail))
local macro_rules | `(tactic| walk_at "d1") => `(tactic| (first | ((with_reducible show Exists _); refine par3B ?_ ?_ ?_ ?_ ?_ ?_ ?_ ?_ ?_ ?_ ?_ ?_ ?_; (focus exact rfl); (focus exact rfl); (focus exact rfl); (focus exact rfl); (focus exact rfl); (focus exact rfl); (focus exact rfl); (focus exact rfl); (focus exact rfl); (focus exact rfl); (focus exact rfl); (focus exact rfl); walk_at "clean") | fail))
local macro_rules | `(tactic| walk_at "d1") => `(tactic| (first | ((with_reducible show Exists _); refine parB ?_ ?_ ?_ ?_ ?_ ?_ ?_ ?_; (focus exact rfl); (focus exact rfl); (focus exact rfl); (focus exact rfl); (focus exact rfl); (focus exact rfl); (focus exact rfl); walk_at "clean") | fail))
local macro_rules | `(tactic| walk_at "d1") => `(tactic| (first | ((with_reducible refine' dg_setL ?h_ ?q_); (case h_ => exact ⟨_, _, rfl⟩)) | fail))
local macro_rules | `(tactic| walk_at "d1") => `(tactic| (first | ((with_reducible refine dg_nameB ?_ ?_ ?_ ?_); (focus exact rfl); (focus exact rfl); (focus exact rfl); walk_at "clean") | fail))
local macro_rules | `(tactic| walk_at "d1") => `(tactic| (first | with_reducible refine opc_min2 ?_ | fail))
local macro_rules | `(tactic| walk_at "d1") => `(tactic| (first | with_reducible refine opc_max2 ?_ | fail))
local macro_rules | `(tactic| walk_at "d1") => `(tactic| (first | with_reducible refine opc_intB ?_ | fail))
local macro_rules | `(tactic| walk_at "d1") => `(tactic| (first | with_reducible refine opc_intI ?_ | fail))
local macro_rules | `(tactic| walk_at "d1") => `(tactic| (first | with_reducible refine opc_abs ?_ | fail))
local macro_rules | `(tactic| walk_at "d1") => `(tactic| (first | with_reducible refine op2_notB ?_ | fail))
local macro_rules | `(tactic| walk_at "d1") => `(tactic| (first | with_reducible refine op2_isB ?_ | fail))
local macro_rules | `(tactic| walk_at "d1") => `(tactic| (first | with_reducible refine op1_neg ?_ | fail))
local macro_rules | `(tactic| walk_at "d1") => `(tactic| (first | ((with_reducible refine op2_pow ?_ ?_); (focus (exact ⟨by decide, by decide, by first | decide | omega⟩)); (try simp only [Int.reduceToNat, Int.reducePow])) | fail))
local macro_rules | `(tactic| walk_at "d1") => `(tactic| (first | ((with_reducible refine op2_fdiv ?_ ?_); (focus walk_at "cdiv")) | fail))
local macro_rules | `(tactic| walk_at "d1") => `(tactic| (first | ((with_reducible refine op2_mulI ?_ ?_); (focus walk_at "cmul")) | fail))
local macro_rules | `(tactic| walk_at "d1") => `(tactic| (first | ((with_reducible refine op2_mod ?_ ?_); (focus (first | decide | assumption | omega))) | fail))
local macro_rules | `(tactic| walk_at "d1") => `(tactic| (first | with_reducible refine op2_ge ?_ | fail))
local macro_rules | `(tactic| walk_at "d1") => `(tactic| (first | with_reducible refine op2_gt ?_ | fail))
local macro_rules | `(tactic| walk_at "d1") => `(tactic| (first | with_reducible refine op2_le ?_ | fail))
local macro_rules | `(tactic| walk_at "d1") => `(tactic| (first | with_reducible refine op2_lt ?_ | fail))
local macro_rules | `(tactic| walk_at "d1") => `(tactic| (first | with_reducible refine op2_sub ?_ | fail))
local macro_rules | `(tactic| walk_at "d1") => `(tactic| (first | with_reducible refine op2_addI ?_ | fail))
local macro_rules | `(tactic| walk_at "d1") => `(tactic| (first | with_reducible refine dt_yes ?_ | fail))
local macro_rules | `(tactic| walk_at "d1") => `(tactic| (first | with_reducible refine de_join ?_ | fail))
local macro_rules | `(tactic| walk_at "d1") => `(tactic| (first | with_reducible refine de_reverse ?_ | fail))
local macro_rules | `(tactic| walk_at "d1") => `(tactic| (first | with_reducible refine de_clear ?_ | fail))
local macro_rules | `(tactic| walk_at "d1") => `(tactic| (first | with_reducible refine de_extend ?_ | fail))
local macro_rules | `(tactic| walk_at "d1") => `(tactic| (first | with_reducible refine de_insert ?_ | fail))
local macro_rules | `(tactic| walk_at "d1") => `(tactic| (first | with_reducible refine de_append ?_ | fail))
local macro_rules | `(tactic| walk_at "d1") => `(tactic| (first | with_reducible refine de_xf ?_ | fail))
local macro_rules | `(tactic| walk_at "d1") => `(tactic| (first | with_reducible refine de_indexB ?_ | fail))
local macro_rules | `(tactic| walk_at "d1") => `(tactic| (first | with_reducible refine de_countB ?_ | fail))
local macro_rules | `(tactic| walk_at "d1") => `(tactic| (first | with_reducible refine de_callX (by first | rfl | assumption) ?_ | fail))
local macro_rules | `(tactic| walk_at "d1") => `(tactic| (first | with_reducible refine de_callX0 ?_ | fail))
local macro_rules | `(tactic| walk_at "d1") => `(tactic| (first | with_reducible refine de_call ?_ | fail))
local macro_rules | `(tactic| walk_at "d1") => `(tactic| (first | with_reducible refine de_chain ?_ | fail))
local macro_rules | `(tactic| walk_at "d1") => `(tactic| (first | with_reducible refine de_notN ?_ | fail))
local macro_rules | `(tactic| walk_at "d1") => `(tactic| (first | with_reducible refine de_isN ?_ | fail))
local macro_rules | `(tactic| walk_at "d1") => `(tactic| (first | with_reducible refine de_notV ?_ | fail))
local macro_rules | `(tactic| walk_at "d1") => `(tactic| (first | with_reducible refine de_orV ?_ | fail))
local macro_rules | `(tactic| walk_at "d1") => `(tactic| (first | with_reducible refine de_andV ?_ | fail))
local macro_rules | `(tactic| walk_at "d1") => `(tactic| (first | with_reducible refine dt_not ?_ | fail))
local macro_rules | `(tactic| walk_at "d1") => `(tactic| (first | with_reducible refine dt_or ?_ | fail))
local macro_rules | `(tactic| walk_at "d1") => `(tactic| (first | with_reducible refine dt_B ?_ | fail))
local macro_rules | `(tactic| walk_at "d1") => `(tactic| (first | with_reducible refine dt_test ?_ | fail))
local macro_rules | `(tactic| walk_at "d1") => `(tactic| (first | with_reducible refine da_nil ?_ | fail))
local macro_rules | `(tactic| walk_at "d1") => `(tactic| (first | with_reducible refine da_cons ?_ | fail))
local macro_rules | `(tactic| walk_at "d1") => `(tactic| (first | with_reducible refine de_lst ?_ | fail))
local macro_rules | `(tactic| walk_at "d1") => `(tactic| (first | with_reducible refine de_tup ?_ | fail))
local macro_rules | `(tactic| walk_at "d1") => `(tactic| (first | with_reducible refine de_cb ?_ | fail))
local macro_rules | `(tactic| walk_at "d1") => `(tactic| (first | with_reducible refine de_isXT ?_ | fail))
local macro_rules | `(tactic| walk_at "d1") => `(tactic| (first | with_reducible refine de_isX ?_ | fail))
local macro_rules | `(tactic| walk_at "d1") => `(tactic| (first | with_reducible refine de_tupZ ?_ | fail))
local macro_rules | `(tactic| walk_at "d1") => `(tactic| (first | with_reducible refine de_lstZ ?_ | fail))
local macro_rules | `(tactic| walk_at "d1") => `(tactic| (first | with_reducible refine de_sortIt ?_ | fail))
local macro_rules | `(tactic| walk_at "d1") => `(tactic| (first | with_reducible refine de_lenSetT ?_ | fail))
local macro_rules | `(tactic| walk_at "d1") => `(tactic| (first | with_reducible refine de_stopT ?_ | fail))
local macro_rules | `(tactic| walk_at "d1") => `(tactic| (first | with_reducible refine de_sortedSetI ?_ | fail))
local macro_rules | `(tactic| walk_at "d1") => `(tactic| (first | with_reducible refine de_sortedSetX ?_ | fail))
local macro_rules | `(tactic| walk_at "d1") => `(tactic| (first | with_reducible refine de_sortedSet ?_ | fail))
local macro_rules | `(tactic| walk_at "d1") => `(tactic| (first | with_reducible refine de_isi2 .list .tuple ?_ | fail))
local macro_rules | `(tactic| walk_at "d1") => `(tactic| (first | with_reducible refine de_isi .tuple ?_ | fail))
local macro_rules | `(tactic| walk_at "d1") => `(tactic| (first | with_reducible refine de_isi .list ?_ | fail))
local macro_rules | `(tactic| walk_at "d1") => `(tactic| (first | with_reducible refine de_isi .str ?_ | fail))
local macro_rules | `(tactic| walk_at "d1") => `(tactic| (first | with_reducible refine de_isi .bool ?_ | fail))
local macro_rules | `(tactic| walk_at "d1") => `(tactic| (first | with_reducible refine de_isi .int ?_ | fail))
local macro_rules | `(tactic| walk_at "d1") => `(tactic| (first | with_reducible refine de_un ?_ | fail))
local macro_rules | `(tactic| walk_at "d1") => `(tactic| (first | with_reducible refine de_op ?_ | fail))
local macro_rules | `(tactic| walk_at "d1") => `(tactic| (first | ((with_reducible refine' de_cstK ?h_ ?q_); (case h_ => assumption)) | fail))
local macro_rules | `(tactic| walk_at "d1") => `(tactic| (first | with_reducible refine de_non ?_ | fail))
local macro_rules | `(tactic| walk_at "d1") => `(tactic| (first | with_reducible refine de_str ?_ | fail))
local macro_rules | `(tactic| walk_at "d1") => `(tactic| (first | with_reducible refine de_bl ?_ | fail))
local macro_rules | `(tactic| walk_at "d1") => `(tactic| (first | with_reducible refine de_int ?_ | fail))
local macro_rules | `(tactic| walk_at "d1") => `(tactic| (first | ((with_reducible refine' de_own ?h_ ?q_); (case h_ => exact rfl)) | fail))
local macro_rules | `(tactic| walk_at "d1") => `(tactic| (first | ((with_reducible refine' de_rf ?h_ ?q_); (case h_ => exact rfl)) | fail))
local macro_rules | `(tactic| walk_at "d1") => `(tactic| (first | ((with_reducible refine' de_var ?h_ ?q_); (case h_ => exact rfl)) | fail))
local macro_rules | `(tactic| walk_at "d1") => `(tactic| (first | with_reducible refine ds_par3 ?_ | fail))
local macro_rules | `(tactic| walk_at "d1") => `(tactic| (first | with_reducible refine ds_par ?_ | fail))
local macro_rules | `(tactic| walk_at "d1") => `(tactic| (first | with_reducible refine ds_cont ?_ | fail))
local macro_rules | `(tactic| walk_at "d1") => `(tactic| (first | with_reducible refine ds_break ?_ | fail))
local macro_rules | `(tactic| walk_at "d1") => `(tactic| (first | with_reducible refine ds_drop ?_ | fail))
local macro_rules | `(tactic| walk_at "d1") => `(tactic| (first | with_reducible refine ds_next ?_ | fail))
local macro_rules | `(tactic| walk_at "d1") => `(tactic| (first | with_reducible refine ds_retN ?_ | fail))
local macro_rules | `(tactic| walk_at "d1") => `(tactic| (first | with_reducible refine ds_ret ?_ | fail))
local macro_rules | `(tactic| walk_at "d1") => `(tactic| (first | with_reducible refine ds_asg ?_ | fail))
local macro_rules | `(tactic| walk_at "d1") => `(tactic| (first | with_reducible refine ds_call2 ?_ | fail))
local macro_rules | `(tactic| walk_at "d1") => `(tactic| (first | ((with_reducible refine ds_tup3 ?_ ?_); (focus exact rfl)) | fail))
local macro_rules | `(tactic| walk_at "d1") => `(tactic| (first | ((with_reducible refine ds_tup2 ?_ ?_); (focus exact rfl)) | fail))
local macro_rules | `(tactic| walk_at "d1") => `(tactic| (first | with_reducible refine ds_seq ?_ | fail))
local macro_rules | `(tactic| walk_at "d2") => `(tactic| (first | (refine ⟨_, _, _, rfl, (show W8.IsXT _ _ _ _ from by assumption), ?_⟩) | fail))
local macro_rules | `(tactic| walk_at "d2") => `(tactic| (first | (refine ⟨_, _, _, rfl, (show W8.IsX _ _ _ _ from by assumption), ?_⟩) | fail))
local macro_rules | `(tactic| walk_at "d2") => `(tactic| (first | (refine ⟨_, _, _, rfl, ⟨by decide, by decide, by decide⟩, ⟨Nat.le_of_ble_eq_true rfl, Nat.le_of_ble_eq_true rfl, Nat.le_of_ble_eq_true rfl⟩, ⟨rfl, rfl, rfl⟩, ⟨rfl, rfl, rfl⟩, ?_⟩; walk_at "clean") | fail))
local macro_rules | `(tactic| walk_at "d2") => `(tactic| (first | (refine ⟨_, _, rfl, by decide, Nat.le_of_ble_eq_true rfl, Nat.le_of_ble_eq_true rfl, rfl, rfl, rfl, rfl, ?_⟩; walk_at "clean") | fail))
local macro_rules | `(tactic| walk_at "d2") => `(tactic| (first | ((with_reducible show Or (Exists _) (Exists _)); refine Or.inr ⟨_, rfl, ?_, ?_⟩; (focus assumption)) | fail))
local macro_rules | `(tactic| walk_at "d2") => `(tactic| (first | ((with_reducible show Or (Exists _) (Exists _)); refine Or.inl ⟨_, rfl, ?_⟩) | fail))
local macro_rules | `(tactic| walk_at "d2") => `(tactic| (first | ((with_reducible show Or (Exists _) (Or (Exists _) (Exists _))); (first | refine Or.inl ⟨_, rfl, ?_⟩ | refine Or.inr (Or.inl ⟨_, rfl, ?_⟩) | (refine Or.inr (Or.inr ⟨_, rfl, ?_, ?_⟩); (focus assumption)))) | fail))
local macro_rules | `(tactic| walk_at "d2") => `(tactic| (first | (refine ⟨_, rfl, ?_⟩) | fail))
local macro_rules | `(tactic| walk_at "d2") => `(tactic| (first | (refine ⟨_, rfl, W8.IsLst.mk rfl, ?_⟩) | fail))
local macro_rules | `(tactic| walk_at "d2") => `(tactic| (first | (refine ⟨_, _, _, _, _, rfl, rfl, rfl, ?hl_, ?h0_, ?h1_, ?q_⟩; (case hl_ => walk_at "len"); (case h0_ => walk_at "len"); (case h1_ => walk_at "len"); walk_at "clean") | fail))
local macro_rules | `(tactic| walk_at "d2") => `(tactic| (first | (refine ⟨_, _, _, _, rfl, rfl, rfl, ?hl_, ?q_⟩; (case hl_ => walk_at "len"); walk_at "clean") | fail))
local macro_rules | `(tactic| walk_at "d2") => `(tactic| (first | (refine ⟨_, _, _, rfl, rfl, ?_⟩; walk_at "clean") | fail))
local macro_rules | `(tactic| walk_at "d2") => `(tactic| (first | (refine ⟨_, _, _, _, _, rfl, rfl, (by first | rfl | assumption), rfl, ?_⟩; walk_at "clean") | fail))
local macro_rules | `(tactic| walk_at "d2") => `(tactic| (first | ((with_reducible refine' And.intro (show W8.BackR _ _ _ from ?bk_) ?q_); (case bk_ => walk_at "bk")) | fail))
local macro_rules | `(tactic| walk_at "d2") => `(tactic| (first | ((with_reducible show And _ _); refine callB rfl ?_) | fail))
local macro_rules | `(tactic| walk_at "d2") => `(tactic| (first | ((with_reducible show Exists _); (refine' dispB ?a_ ?b_ ?c_); (case a_ => exact rfl); (case b_ => exact rfl)) | fail))
local macro_rules | `(tactic| walk_at "dif") => `(tactic| (first | with_reducible refine dt_and ?_ | with_reducible refine de_if ?_))
local macro_rules | `(tactic| walk_at "dsi") => `(tactic| with_reducible refine ds_if ?_)
local macro_rules | `(tactic| walk_at "f") => `(tactic| repeat (first | walk_at "d1" | walk_at "d2"))
local macro_rules | `(tactic| walk_at "e") => `(tactic| repeat (first | walk_at "d1" | walk_at "dsi" | walk_at "d2"))
local macro_rules | `(tactic| walk_at "d") => `(tactic| repeat (first | walk_at "d1" | walk_at "dif" | walk_at "dsi" | walk_at "d2"))
local macro_rules | `(tactic| walk_at "draw") => `(tactic| refine ⟨0, _, _, _, rfl, (by assumption), (by omega), (by first | decide | omega), (by first | decide | omega), ?_⟩)
local macro_rules | `(tactic| walk_at "num") => `(tactic| refine ⟨_, _, rfl, (by assumption), (by omega), ?_⟩)
local macro_rules | `(tactic| walk_at "bq") => `(tactic| (refine BQ.mono (by assumption) (by decide)))
local macro_rules | `(tactic| walk_at "pc") => `(tactic| (walk_at "d"; refine ⟨_, _, rfl, (by walk_at "bq"), (by walk_at "bq"), ?_⟩))
local macro_rules | `(tactic| walk_at "x") => `(tactic| repeat ((fail_if_success (with_reducible show W8.DS _ _ _ _ _)); (first | walk_at "d1" | walk_at "dif" | walk_at "dsi" | walk_at "d2")))

def sp_common : DSp := fun as Q => ∃ a b : Int, as = [.v (.int a), .v (.int b)] ∧ 0 ≤ a ∧ 0 ≤ b ∧ Q (.v (.int (Int.gcd a b : Nat))) as
theorem gcd_step {x y : Int} (hx : 0 ≤ x) (hy : 0 < y) : Int.gcd y (x % y) = Int.gcd x y := by
  obtain ⟨m, rfl⟩ := Int.eq_ofNat_of_zero_le hx
  obtain ⟨n, rfl⟩ := Int.eq_ofNat_of_zero_le (Int.le_of_lt hy)
  show Nat.gcd n (m % n) = Nat.gcd m n
  rw [Nat.gcd_comm m n, Nat.gcd_rec n m, Nat.gcd_comm]
theorem ok_common {P : Program} {w : World} {K : PySem.W.Frag} {mg : Str → Option Value} {base : Heap} {a : Addr} {fd : FuncData} (F : Fun K "common" "common" s_common a fd) (T : Txt K mg) : FnOk P w K mg base CX0 1 a fd ["one", "other"] (fnS K sp_common) := by
  refine ok_fn F sc_common (by decide) (fun as P h => ?_) (fun cdv A outer s H E hr as P h => ?_)
  · obtain ⟨a, b, rfl, _⟩ := h; rfl
  · obtain ⟨a, b, rfl, ha, hb, q⟩ := h
    refine ⟨_, (pss_cons (ps_while PassesOwn.never (pt_cmpR op_gt (pv 1) pe_int (nomark _))
      (pss_one (ps_par (i := 0) (j := 1) (by rfl) sc_common.nd rfl rfl (by decide) rfl rfl (pa_cons (pv 1) (pa_cons (pe_op op_mod (pv 0) (pv 1)) pa_nil)) (by rfl))))
    (pss_one (ps_ret (pv 0)))), ?_⟩
    show DS K _ [.v (.int a), .v (.int b)] [] _
    refine ds_seq (ds_while (fun s => ∃ x y : Int, s = [.v (.int x), .v (.int y)] ∧ 0 ≤ x ∧ 0 ≤ y ∧ Int.gcd x y = Int.gcd a b) (fun s => match s with | [_, .v (.int y)] => y.toNat | _ => 0) ⟨a, b, rfl, ha, hb, rfl⟩ ?_)
    rintro s ⟨x, y, rfl, hx, hy, e⟩
    walk_at "d"
    refine ite_dec (fun h => ?_) (fun h => ?_)
    · walk_at "d"
      have h1 := Int.emod_nonneg x (show y ≠ 0 by omega)
      have h2 := Int.emod_lt_of_pos x h
      exact ⟨⟨y, x % y, rfl, hy, h1, by rw [gcd_step hx h, e]⟩, by show (x % y).toNat < y.toNat; omega⟩
    · walk_at "d"
      have : y = 0 := by omega
      subst this
      rw [Int.gcd_zero_right] at e
      have : x = (Int.gcd a b : Nat) := by rw [← e]; omega
      rw [this]; exact q

def pt (p : Int × Int) : D := .tuple [.int p.1, .int p.2]
def partOf (t b : Int) : Int × Int := if b < 0 then (-t / (Int.gcd t b : Nat), -b / (Int.gcd t b : Nat)) else (t / (Int.gcd t b : Nat), b / (Int.gcd t b : Nat))
def sp_part_of : DSp := fun as Q => ∃ t b : Int, as = [.v (.int t), .v (.int b)] ∧ b ≠ 0 ∧ Bd 8000 b ∧ Q (.v (pt (partOf t b))) as
theorem gcd_abs {t b : Int} : Int.gcd (if t < 0 then -t else t) b = Int.gcd t b := by
  split
  · exact Int.neg_gcd
  · rfl
theorem gcd_posI {t b : Int} (h : b ≠ 0) : (0 : Int) < (Int.gcd t b : Nat) := by
  have : 0 < Int.gcd t b := Int.gcd_pos_of_ne_zero_right t h
  omega
theorem gcd_bd {t b : Int} {n : Nat} (h : b ≠ 0) (hb : Bd n b) : Bd n (Int.gcd t b : Nat) := by
  have h1 : Int.gcd t b ≤ b.natAbs := Nat.le_of_dvd (by omega) (Nat.gcd_dvd_right _ _)
  unfold Bd at *
  simp only [Int.natAbs_natCast]
  omega
theorem gcd_divX {t b i : Int} (h : b ≠ 0) (hb : Bd 8000 b) : CDivX i (Int.gcd t b : Nat) := (gcd_bd h hb).divX (gcd_posI h) (by decide)
theorem ok_part_of {P : Program} {w : World} {K : PySem.W.Frag} {mg : Str → Option Value} {base : Heap} {a : Addr} {fd : FuncData} (F : Fun K "part_of" "part_of" s_part_of a fd) (T : Txt K mg) (c_common : Cal P w K mg base 1 "common" ["one", "other"] sp_common) : FnOk P w K mg base CX0 2 a fd ["top", "bottom"] (fnS K sp_part_of) := by
  refine ok_fn F sc_part_of (by decide) (fun as P h => ?_) (fun cdv A outer s H E hr as P h => ?_)
  · obtain ⟨a, b, rfl, _⟩ := h; rfl
  · obtain ⟨t, b, rfl, hb, bb, q⟩ := h
    refine ⟨_, (pss_cons (ps_if (pt_cmpR op_lt (pv 1) pe_int (nomark _))
      (pss_one (ps_par (i := 0) (j := 1) (by rfl) sc_part_of.nd rfl rfl (by decide) rfl rfl (pa_cons (pe_un un_neg (pv 0)) (pa_cons (pe_un un_neg (pv 1)) pa_nil)) (by rfl)))
      pss_nil)
    (pss_cons (ps_set (i := 2) sc_part_of.nd rfl (Or.inl rfl) (k_cal K rfl c_common (hr.mono (by decide)) (by rfl) (pa_cons (pe_callB call_abs (by rfl) T.b_abs bt_abs (pa_cons (pv 0) pa_nil)) (pa_cons (pv 1) pa_nil))))
    (pss_one (ps_ret (pe_tup (pa_cons (pe_op op_fdivX (pv 0) (pv 2)) (pa_cons (pe_op op_fdivX (pv 1) (pv 2)) pa_nil))))))), ?_⟩
    show DS K _ [.v (.int t), .v (.int b), .no] [] _
    try dsimp only [cxOf]
    walk_at "d"
    refine ite_dec (fun h => ?_) (fun h => ?_)
    · walk_at "d"
      have e : Int.gcd (if -t < 0 then -(-t) else -t) (-b) = Int.gcd t b := by rw [gcd_abs, Int.neg_gcd, Int.gcd_neg]
      refine ⟨_, _, rfl, by split <;> omega, by omega, ?_⟩
      rw [e]
      walk_at "d"
      have d1 := gcd_divX (t := t) (i := -t) hb bb
      have d2 := gcd_divX (t := t) (i := -b) hb bb
      walk_at "d"
      unfold partOf at q
      rw [if_pos h] at q
      exact q
    · walk_at "d"
      refine ⟨_, _, rfl, by split <;> omega, by omega, ?_⟩
      rw [gcd_abs]
      walk_at "d"
      have d1 := gcd_divX (t := t) (i := t) hb bb
      have d2 := gcd_divX (t := t) (i := b) hb bb
      walk_at "d"
      unfold partOf at q
      rw [if_neg h] at q
      exact q

theorem partOf_ex {t b : Int} (hb : b ≠ 0) : ∃ g x y : Int, 0 < g ∧ 0 < y ∧ Int.gcd x y = 1 ∧ partOf t b = (x, y) ∧ ((t = g * x ∧ b = g * y) ∨ (t = g * -x ∧ b = g * -y)) := by
  have hg := gcd_posI (t := t) hb
  obtain ⟨x, hx⟩ := Int.gcd_dvd_left (a := t) (b := b)
  obtain ⟨y, hy⟩ := Int.gcd_dvd_right (a := t) (b := b)
  unfold partOf
  generalize hgd : Int.gcd t b = g at hg hx hy ⊢
  have h1 : Int.gcd x y = 1 := by
    rw [hx, hy, Int.gcd_mul_left, Int.natAbs_natCast] at hgd
    exact Nat.eq_of_mul_eq_mul_left (show 0 < g by omega) (by omega)
  have hdiv : ∀ u v : Int, u = (g : Int) * v → u / (g : Int) = v := fun u v e => by
    rw [e]; exact Int.mul_ediv_cancel_left _ (by omega)
  have ht := hdiv _ _ hx
  have hb2 := hdiv _ _ hy
  have hnt := hdiv (-t) (-x) (by rw [Int.mul_neg, ← hx])
  have hnb := hdiv (-b) (-y) (by rw [Int.mul_neg, ← hy])
  by_cases h : b < 0
  · refine ⟨_, -x, -y, hg, ?_, by rw [Int.neg_gcd, Int.gcd_neg, h1], by rw [if_pos h, hnt, hnb], .inr ⟨by rw [Int.neg_neg]; exact hx, by rw [Int.neg_neg]; exact hy⟩⟩
    rcases Int.lt_trichotomy y 0 with z | z | z
    · omega
    · subst z; rw [Int.mul_zero] at hy; omega
    · have := Int.mul_pos hg z; omega
  · refine ⟨_, x, y, hg, ?_, h1, by rw [if_neg h, ht, hb2], .inl ⟨hx, hy⟩⟩
    rcases Int.lt_trichotomy y 0 with z | z | z
    · have := Int.mul_neg_of_pos_of_neg hg z; omega
    · subst z; rw [Int.mul_zero] at hy; omega
    · exact z
theorem partOf_one {x y : Int} (hy : 0 < y) (h : Int.gcd x y = 1) : partOf x y = (x, y) := by
  unfold partOf
  rw [if_neg (by omega), h]
  simp
theorem partOf_scale {k t b : Int} (hk : 0 < k) (hb : b ≠ 0) : partOf (k * t) (k * b) = partOf t b := by
  have hg := gcd_posI (t := t) hb
  have e : ((Int.gcd (k * t) (k * b) : Nat) : Int) = k * (Int.gcd t b : Nat) := by
    rw [Int.gcd_mul_left]
    obtain ⟨m, rfl⟩ := Int.eq_ofNat_of_zero_le (Int.le_of_lt hk)
    rw [Int.natAbs_natCast, Int.natCast_mul]
  unfold partOf
  rw [e, ← Int.mul_neg, ← Int.mul_neg, Int.mul_ediv_mul_of_pos _ _ hk, Int.mul_ediv_mul_of_pos _ _ hk, Int.mul_ediv_mul_of_pos _ _ hk, Int.mul_ediv_mul_of_pos _ _ hk]
  by_cases h : b < 0
  · rw [if_pos h, if_pos (Int.mul_neg_of_pos_of_neg hk h)]
  · have : 0 < k * b := Int.mul_pos hk (by omega)
    rw [if_neg h, if_neg (by omega)]
theorem eqv_pt (p : Int × Int) : PyData.eqv (pt p) (pt p) = true := by
  show (decide (p.1 = p.1) && (decide (p.2 = p.2) && true)) = true
  simp
theorem bd_div {n : Nat} {g x : Int} (hg : 0 < g) (h : Bd n (g * x)) : Bd n x := by
  unfold Bd at *
  rw [Int.natAbs_mul] at h
  exact Nat.lt_of_le_of_lt (Nat.le_mul_of_pos_left _ (by omega)) h
theorem eqv2 (x y : Int) : PyData.eqv (.tuple [.int x, .int y]) (.tuple [.int x, .int y]) = true := eqv_pt (x, y)
/-- a part in lowest terms, of so many bits -/
def GP (n : Nat) (p : Int × Int) : Prop := 0 < p.2 ∧ Int.gcd p.1 p.2 = 1 ∧ Bd n p.1 ∧ Bd n p.2
theorem GP.mono {m n : Nat} {p : Int × Int} (h : GP m p) (e : m ≤ n) : GP n p := ⟨h.1, h.2.1, h.2.2.1.mono e, h.2.2.2.mono e⟩
theorem partOf_GP {n : Nat} {t b : Int} (hb : b ≠ 0) (ht : Bd n t) (hbb : Bd n b) : GP n (partOf t b) := by
  obtain ⟨g, x, y, g0, y0, hxy, e, hd⟩ := partOf_ex (t := t) hb
  rw [e]
  rcases hd with ⟨e1, e2⟩ | ⟨e1, e2⟩
  · rw [e1] at ht; rw [e2] at hbb
    exact ⟨y0, hxy, bd_div g0 ht, bd_div g0 hbb⟩
  · rw [e1] at ht; rw [e2] at hbb
    have h1 := (bd_div g0 ht).neg
    have h2 := (bd_div g0 hbb).neg
    rw [Int.neg_neg] at h1 h2
    exact ⟨y0, hxy, h1, h2⟩
theorem partOf_neg {t b : Int} (hb : b ≠ 0) : partOf (-t) (-b) = partOf t b := by
  unfold partOf
  rw [Int.neg_gcd, Int.gcd_neg, Int.neg_neg, Int.neg_neg]
  by_cases h : b < 0
  · rw [if_pos h, if_neg (by omega)]
  · rw [if_neg h, if_pos (by omega)]
def plusP (a b : Int × Int) : Int × Int := partOf (a.1 * b.2 + b.1 * a.2) (a.2 * b.2)
theorem plusP_GP {m n : Nat} {a b : Int × Int} (ha : GP m a) (hb : GP n b) : GP (m + n + 1) (plusP a b) := by
  obtain ⟨a0, _, a1, a2⟩ := ha
  obtain ⟨b0, _, b1, b2⟩ := hb
  have hp := Int.mul_pos a0 b0
  refine partOf_GP (by omega) (((a1.mul b2).add (b1.mul a2)).mono (by omega)) ((a2.mul b2).mono (by omega))
def sumP (ps : List (Int × Int)) : Int × Int := ps.foldl plusP (0, 1)
def rawS (a p : Int × Int) : Int × Int := (a.1 * p.2 + p.1 * a.2, a.2 * p.2)
theorem plus_raw {a p : Int × Int} (hd : 0 < a.2) : plusP (partOf a.1 a.2) p = partOf (rawS a p).1 (rawS a p).2 ∨ p.2 = 0 := by
  by_cases hp : p.2 = 0
  · exact .inr hp
  left
  obtain ⟨g, x, y, g0, y0, _, e, h⟩ := partOf_ex (t := a.1) (b := a.2) (by omega)
  have yp : y * p.2 ≠ 0 := fun z => by rcases Int.mul_eq_zero.mp z with z | z <;> omega
  unfold plusP rawS
  rw [e]
  show partOf (x * p.2 + p.1 * y) (y * p.2) = partOf (a.1 * p.2 + p.1 * a.2) (a.2 * p.2)
  rcases h with ⟨e1, e2⟩ | ⟨e1, e2⟩
  · rw [e1, e2, show g * x * p.2 + p.1 * (g * y) = g * (x * p.2 + p.1 * y) by rw [Int.mul_add]; congr 1 <;> ac_rfl, Int.mul_assoc, partOf_scale g0 yp]
  · rw [e1, e2, show g * -x * p.2 + p.1 * (g * -y) = g * -(x * p.2 + p.1 * y) by rw [Int.neg_add, Int.mul_add, Int.mul_neg, Int.mul_neg, Int.mul_neg, Int.mul_neg, Int.neg_mul, Int.mul_neg]; congr 2 <;> ac_rfl, Int.mul_assoc, Int.neg_mul, partOf_scale g0 (by omega), partOf_neg yp]
theorem foldl_raw : ∀ (ps : List (Int × Int)) (a : Int × Int), 0 < a.2 → (∀ p ∈ ps, 0 < p.2) → ps.foldl plusP (partOf a.1 a.2) = partOf (ps.foldl rawS a).1 (ps.foldl rawS a).2
  | [], _, _, _ => rfl
  | p :: ps, a, h, hp => by
    have h0 := hp p List.mem_cons_self
    rw [List.foldl_cons, List.foldl_cons, (plus_raw h).resolve_right (by omega)]
    exact foldl_raw ps _ (Int.mul_pos h h0) fun q hq => hp q (List.mem_cons_of_mem _ hq)
theorem sumP_raw {ps : List (Int × Int)} (hp : ∀ p ∈ ps, 0 < p.2) : sumP ps = partOf (ps.foldl rawS (0, 1)).1 (ps.foldl rawS (0, 1)).2 := foldl_raw ps (0, 1) (by decide) hp
theorem rawS_comm (a p q : Int × Int) : rawS (rawS a p) q = rawS (rawS a q) p := by
  unfold rawS
  simp only [Prod.mk.injEq, Int.add_mul, Int.mul_add]
  constructor
  · rw [Int.add_assoc, Int.add_assoc]; congr 1
    · ac_rfl
    · rw [Int.add_comm]; congr 1 <;> ac_rfl
  · ac_rfl
theorem foldl_rawS (ps : List (Int × Int)) : ∀ a q, ps.foldl rawS (rawS a q) = rawS (ps.foldl rawS a) q := by
  induction ps with
  | nil => intro a q; rfl
  | cons p ps ih => intro a q; rw [List.foldl_cons, List.foldl_cons, rawS_comm, ih]
theorem raw_reverse (ps : List (Int × Int)) : ∀ a, ps.reverse.foldl rawS a = ps.foldl rawS a := by
  induction ps with
  | nil => intro a; rfl
  | cons p ps ih => intro a; rw [List.reverse_cons, List.foldl_append, ih, List.foldl_cons, List.foldl_cons, List.foldl_nil, foldl_rawS]
theorem sumP_reverse {ps : List (Int × Int)} (hp : ∀ p ∈ ps, 0 < p.2) : sumP ps.reverse = sumP ps := by
  rw [sumP_raw hp, sumP_raw fun p h => hp p (List.mem_reverse.mp h), raw_reverse]
theorem sum_GP {n : Nat} : ∀ (ps : List (Int × Int)) (m : Nat) (a : Int × Int), GP m a → (∀ p ∈ ps, GP n p) → GP (m + (n + 1) * ps.length) (ps.foldl plusP a)
  | [], m, a, ha, _ => ha.mono (by omega)
  | p :: ps, m, a, ha, hp => (sum_GP ps _ _ (plusP_GP ha (hp p List.mem_cons_self)) fun q hq => hp q (List.mem_cons_of_mem _ hq)).mono (by rw [List.length_cons, Nat.mul_add]; omega)
theorem GP01 {n : Nat} : GP (1 + n) (0, 1) := ⟨by decide, by decide, Bd.mono (m := 1) (.of (by decide) (by decide)) (by omega), Bd.mono (m := 1) (.of (by decide) (by decide)) (by omega)⟩

/-- a part as a rational -/
def pq (q : Rat) : D := .tuple [.int q.num, .int (q.den : Int)]
theorem divInt_red {x y : Int} (hy : 0 < y) (h : Int.gcd x y = 1) : (Rat.divInt x y).num = x ∧ ((Rat.divInt x y).den : Int) = y := by
  obtain ⟨n, rfl⟩ := Int.eq_ofNat_of_zero_le (Int.le_of_lt hy)
  have hn : n ≠ 0 := by omega
  have e : Rat.divInt x (n : Int) = ⟨x, n, hn, h⟩ := (Rat.mk_eq_divInt (num := x) (den := n) (nz := hn) (c := h)).symm
  rw [e]
  exact ⟨rfl, rfl⟩
theorem partOf_pq {t b : Int} (hb : b ≠ 0) : pt (partOf t b) = pq (Rat.divInt t b) := by
  obtain ⟨g, x, y, g0, y0, hxy, e, hd⟩ := partOf_ex (t := t) hb
  have ee : Rat.divInt t b = Rat.divInt x y := by
    refine (Rat.divInt_eq_divInt_iff hb (by omega)).mpr ?_
    rcases hd with ⟨e1, e2⟩ | ⟨e1, e2⟩
    · rw [e1, e2]; ac_rfl
    · rw [e1, e2, Int.mul_neg, Int.mul_neg, Int.neg_mul, Int.mul_neg]; congr 1; ac_rfl
  obtain ⟨h1, h2⟩ := divInt_red y0 hxy
  rw [e, ee]
  unfold pt pq
  rw [h1, h2]
theorem den_ne (q : Rat) : (q.den : Int) ≠ 0 := by have := q.den_nz; omega
theorem den_gt (q : Rat) : (0 : Int) < q.den := by have := q.den_nz; omega
theorem pq_add (a b : Rat) : pt (partOf (a.num * b.den + b.num * a.den) (a.den * b.den)) = pq (a + b) := by
  rw [partOf_pq (Int.mul_ne_zero (den_ne a) (den_ne b)), ← Rat.divInt_add_divInt _ _ (den_ne a) (den_ne b), Rat.num_divInt_den, Rat.num_divInt_den]
theorem pq_sub (a b : Rat) : pt (partOf (a.num * b.den - b.num * a.den) (a.den * b.den)) = pq (a - b) := by
  rw [partOf_pq (Int.mul_ne_zero (den_ne a) (den_ne b)), ← Rat.divInt_sub_divInt _ _ (den_ne a) (den_ne b), Rat.num_divInt_den, Rat.num_divInt_den]
theorem pq_mul (a b : Rat) : pt (partOf (a.num * b.num) (a.den * b.den)) = pq (a * b) := by
  rw [partOf_pq (Int.mul_ne_zero (den_ne a) (den_ne b)), ← Rat.divInt_mul_divInt, Rat.num_divInt_den, Rat.num_divInt_den]
theorem pq_int (i : Int) : pq (i : Rat) = .tuple [.int i, .int 1] := rfl
theorem pq_one (i : Int) : pt (partOf i 1) = pq (i : Rat) := by
  rw [partOf_pq (by decide), Rat.divInt_eq_div]
  congr 1
  show (i : Rat) / ((1 : Int) : Rat) = i
  have := Rat.mul_div_cancel (a := (i : Rat)) (b := ((1 : Int) : Rat)) (by decide)
  rwa [show ((1 : Int) : Rat) = 1 from rfl, Rat.mul_one] at this
theorem eqv_pq (a b : Rat) : PyData.eqv (pq a) (pq b) = decide (a = b) := by
  show (decide (a.num = b.num) && (decide ((a.den : Int) = b.den) && true)) = _
  by_cases h : a = b
  · subst h; simp
  · rw [decide_eq_false h]
    by_cases h1 : a.num = b.num
    · have : ¬ (a.den : Int) = b.den := fun z => h (Rat.ext h1 (by omega))
      rw [decide_eq_false this]; simp
    · rw [decide_eq_false h1]; rfl
theorem sh_pq (q : Rat) : SeqAt.shaped (pq q) = true := rfl
/-- so many bits at most -/
def BQ (n : Nat) (q : Rat) : Prop := Bd n q.num ∧ Bd n q.den
theorem BQ.mono {m n : Nat} {q : Rat} (h : BQ m q) (e : m ≤ n) : BQ n q := ⟨h.1.mono e, h.2.mono e⟩
theorem lt_num (a b : Rat) : decide (a.num * b.den < b.num * a.den) = decide (a < b) := decide_eq_decide.mpr (Rat.lt_iff a b).symm
/-- over the bottom M -/
def ZD (M : Nat) (q : Rat) : Prop := q.den ∣ M
theorem mul_den (q : Rat) : q * (q.den : Int) = (q.num : Int) := by
  have h := Rat.num_divInt_den q
  rw [Rat.divInt_eq_div] at h
  have h0 : ((q.den : Int) : Rat) ≠ 0 := fun z => den_ne q (Rat.intCast_inj.mp z)
  conv => lhs; lhs; rw [← h]
  exact Rat.div_mul_cancel h0
theorem zd_iff {M : Nat} {q : Rat} : ZD M q ↔ ∃ k : Int, q * (M : Int) = (k : Int) := by
  constructor
  · rintro ⟨c, rfl⟩
    refine ⟨q.num * c, ?_⟩
    rw [Int.natCast_mul, Rat.intCast_mul, ← Rat.mul_assoc, mul_den, Rat.intCast_mul]
  · rintro ⟨k, hk⟩
    have h : q.num * M = k * q.den := by
      apply Rat.intCast_inj.mp
      rw [Rat.intCast_mul, Rat.intCast_mul, ← hk, ← mul_den]
      grind
    have h2 : q.den ∣ q.num.natAbs * M := by
      have : (q.den : Int) ∣ q.num * M := ⟨k, by rw [h, Int.mul_comm]⟩
      have := Int.natAbs_dvd_natAbs.mpr this
      rw [Int.natAbs_mul] at this
      simpa using this
    exact (Nat.Coprime.symm q.reduced).dvd_of_dvd_mul_left h2
theorem ZD.add {M : Nat} {a b : Rat} (ha : ZD M a) (hb : ZD M b) : ZD M (a + b) := by
  obtain ⟨k, hk⟩ := zd_iff.mp ha
  obtain ⟨l, hl⟩ := zd_iff.mp hb
  exact zd_iff.mpr ⟨k + l, by rw [Rat.add_mul, hk, hl, Rat.intCast_add]⟩
theorem ZD.neg {M : Nat} {a : Rat} (ha : ZD M a) : ZD M (-a) := by unfold ZD; rw [Rat.neg_den]; exact ha
theorem ZD.sub {M : Nat} {a b : Rat} (ha : ZD M a) (hb : ZD M b) : ZD M (a - b) := by
  rw [Rat.sub_eq_add_neg]; exact ha.add hb.neg
theorem ZD.int {M : Nat} (i : Int) : ZD M (i : Rat) := Nat.one_dvd M
theorem ZD.zero {M : Nat} : ZD M 0 := Nat.one_dvd M
theorem ZD.mulI {M : Nat} {a : Rat} (ha : ZD M a) (i : Int) : ZD M (i * a) := by
  obtain ⟨k, hk⟩ := zd_iff.mp ha
  exact zd_iff.mpr ⟨i * k, by rw [Rat.mul_assoc, hk, Rat.intCast_mul]⟩
theorem bd_nat {n m : Nat} (h : m < 2 ^ n) : Bd n (m : Int) := by unfold Bd; simpa using h
/-- over M, from -L to L: so many bits -/
theorem bq_of {M L n : Nat} {q : Rat} (hM : 0 < M) (hz : ZD M q) (h0 : -(L : Int) ≤ q) (h1 : q ≤ (L : Int)) (hn : M < 2 ^ n) (hn2 : L * M < 2 ^ n) : BQ n q := by
  have hd : q.den ≤ M := Nat.le_of_dvd hM hz
  refine ⟨?_, bd_nat (Nat.lt_of_le_of_lt hd hn)⟩
  have e1 := (Rat.le_iff _ _).mp h1
  have e0 := (Rat.le_iff _ _).mp h0
  have e1 : q.num * 1 ≤ L * q.den := e1
  have e0 : -(L : Int) * q.den ≤ q.num * 1 := e0
  rw [Int.neg_mul] at e0
  have : ((L * q.den : Nat) : Int) = L * q.den := Int.natCast_mul _ _
  have h3 : L * q.den ≤ L * M := Nat.mul_le_mul_left L hd
  unfold Bd
  omega
theorem pq_get {fs : List Rat} {k : Nat} {d : D} (h : (fs.map pq)[k]? = some d) : ∃ q, fs[k]? = some q ∧ d = pq q := by
  rw [List.getElem?_map] at h
  cases e : fs[k]? with
  | none => rw [e] at h; cases h
  | some x => rw [e] at h; exact ⟨x, rfl, (Option.some.inj h).symm⟩
theorem take_snoc' {α : Type} {xs : List α} {k : Nat} {x : α} (h : xs[k]? = some x) : xs.take (k + 1) = xs.take k ++ [x] := by
  rw [List.take_succ, h]; rfl
theorem bq_divInt {n : Nat} {t b : Int} (hb : b ≠ 0) (ht : Bd n t) (hbb : Bd n b) : BQ n (Rat.divInt t b) := by
  have g := partOf_GP hb ht hbb
  have e := partOf_pq (t := t) hb
  unfold pt pq at e
  injection e with e
  injection e with e1 e
  injection e with e2 e
  injection e1 with e1
  injection e2 with e2
  refine ⟨?_, ?_⟩
  · rw [← e1]; exact g.2.2.1
  · rw [← e2]; exact g.2.2.2
theorem BQ.add {m n : Nat} {a b : Rat} (ha : BQ m a) (hb : BQ n b) : BQ (m + n + 1) (a + b) := by
  have h := Rat.divInt_add_divInt a.num b.num (den_ne a) (den_ne b)
  rw [Rat.num_divInt_den, Rat.num_divInt_den] at h
  rw [h]
  exact bq_divInt (Int.mul_ne_zero (den_ne a) (den_ne b)) (((ha.1.mul hb.2).add (hb.1.mul ha.2)).mono (by omega)) ((ha.2.mul hb.2).mono (by omega))
theorem BQ.neg {n : Nat} {a : Rat} (ha : BQ n a) : BQ n (-a) := ⟨by rw [Rat.neg_num]; exact ha.1.neg, by rw [Rat.neg_den]; exact ha.2⟩
theorem BQ.sub {m n : Nat} {a b : Rat} (ha : BQ m a) (hb : BQ n b) : BQ (m + n + 1) (a - b) := by
  rw [Rat.sub_eq_add_neg]; exact ha.add hb.neg
theorem BQ.mul {m n : Nat} {a b : Rat} (ha : BQ m a) (hb : BQ n b) : BQ (m + n) (a * b) := by
  have h := Rat.divInt_mul_divInt a.num b.num (d₁ := a.den) (d₂ := b.den)
  rw [Rat.num_divInt_den, Rat.num_divInt_den] at h
  rw [h]
  exact bq_divInt (Int.mul_ne_zero (den_ne a) (den_ne b)) (ha.1.mul hb.1) (ha.2.mul hb.2)
theorem BQ.div {m n : Nat} {a b : Rat} (h0 : b ≠ 0) (ha : BQ m a) (hb : BQ n b) : BQ (m + n) (a / b) := by
  have hn : b.num ≠ 0 := fun z => h0 (Rat.num_eq_zero.mp z)
  have h := Rat.divInt_mul_divInt a.num b.den (d₁ := a.den) (d₂ := b.num)
  rw [Rat.num_divInt_den, ← Rat.inv_divInt, Rat.num_divInt_den, ← Rat.div_def] at h
  rw [h]
  exact bq_divInt (Int.mul_ne_zero (den_ne a) hn) (ha.1.mul hb.2) (ha.2.mul hb.1)
theorem BQ.zero {n : Nat} : BQ (n + 1) 0 := ⟨Bd.mono (m := 1) (.of (by decide) (by decide)) (by omega), Bd.mono (m := 1) (.of (by decide) (by decide)) (by omega)⟩
theorem pt_gp {n : Nat} {p : Int × Int} (h : GP n p) : ∃ q : Rat, pt p = pq q ∧ BQ n q := by
  obtain ⟨x, y⟩ := p
  have hy : y ≠ 0 := by have := h.1; show y ≠ 0; have : 0 < y := this; omega
  refine ⟨Rat.divInt x y, ?_, bq_divInt hy h.2.2.1 h.2.2.2⟩
  rw [← partOf_pq hy, partOf_one h.1 h.2.1]

/-- of a form that == takes, so deep at most -/
def Shp (n : Nat) (d : D) : Prop := PyData.canLay0 d = true ∧ PyData.depth d ≤ n
theorem Shp.ok {n : Nat} {d : D} (h : Shp n d) (e : n ≤ 64) : SeqAt.shaped d = true := Bool.and_eq_true_iff.mpr ⟨h.1, decide_eq_true (Nat.le_trans h.2 e)⟩
theorem shp_all {n : Nat} : ∀ {ds : List D}, (∀ d ∈ ds, Shp n d) → PyData.canLayAll0 ds = true ∧ PyData.depthAll ds ≤ n
  | [], _ => ⟨rfl, Nat.zero_le n⟩
  | d :: ds, h => by
    obtain ⟨h1, h2⟩ := h d List.mem_cons_self
    obtain ⟨h3, h4⟩ := shp_all fun e he => h e (List.mem_cons_of_mem d he)
    exact ⟨Bool.and_eq_true_iff.mpr ⟨h1, h3⟩, Nat.max_le.mpr ⟨h2, h4⟩⟩
theorem Shp.list {n : Nat} {ds : List D} (h : ∀ d ∈ ds, Shp n d) : Shp (n + 1) (.list ds) := ⟨(shp_all h).1, Nat.add_le_add_right (shp_all h).2 1⟩
theorem Shp.tuple {n : Nat} {ds : List D} (h : ∀ d ∈ ds, Shp n d) : Shp (n + 1) (.tuple ds) := ⟨(shp_all h).1, Nat.add_le_add_right (shp_all h).2 1⟩
theorem Shp.int {n : Nat} (i : Int) : Shp n (.int i) := ⟨rfl, Nat.zero_le n⟩
theorem Shp.mono {m n : Nat} {d : D} (h : Shp m d) (e : m ≤ n) : Shp n d := ⟨h.1, Nat.le_trans h.2 e⟩
theorem Shp.lmap {α : Type} {n : Nat} {f : α → D} {xs : List α} (h : ∀ x ∈ xs, Shp n (f x)) : Shp (n + 1) (.list (xs.map f)) := .list fun d hd => by
  obtain ⟨x, hx, rfl⟩ := List.mem_map.mp hd
  exact h x hx
theorem shp_pq (q : Rat) : Shp 1 (pq q) := ⟨rfl, Nat.le_refl 1⟩



/-- a list handed in: shared, or lent -/
def isL (p : SD) (ds : List D) : Prop := p = .v (.list ds) ∨ ∃ k, p = .ow (some k) ds
def TapeD (ds : List D) (n : Int) : Prop := ∃ t0 t1 t2 : Int, ds = [.int t0, .int t1, .int t2] ∧ 0 ≤ t0 ∧ 0 ≤ t1 ∧ t1 < 4611686018427387904 ∧ 0 ≤ t2 ∧ t2 ≤ n
def sp__law_tape : DSp := fun as Q => ∃ (p : SD) (ns : List Int) (k : Int), as = [p, .v (.int k)] ∧ isL p (ns.map .int) ∧ 0 ≤ k ∧ k < 100 ∧ ∀ ds, TapeD ds 0 → Q (.ow none ds) as
theorem atI_ints {ns : List Int} {k : Int} (h0 : 0 ≤ k) (h : k < (ns.length : Int)) : ∃ c, atI (ns.map PyData.int) k = some (.int c) := by
  obtain ⟨j, rfl⟩ := Int.eq_ofNat_of_zero_le h0
  have hj : j < ns.length := by omega
  exact ⟨ns[j], atI_nat (by simp [hj])⟩
theorem ok__law_tape {P : Program} {w : World} {K : PySem.W.Frag} {mg : Str → Option Value} {base : Heap} {a : Addr} {fd : FuncData} (F : Fun K "_law_tape" "_law_tape" s__law_tape a fd) (T : Txt K mg) : FnOk P w K mg base CX0 1 a fd ["_law_script", "_law_k"] (fnS K sp__law_tape) := by
  refine ok_fn F sc__law_tape (by decide) (fun as P h => ?_) (fun cdv A outer s H E hr as P h => ?_)
  · obtain ⟨a, b, c, rfl, _⟩ := h; rfl
  · obtain ⟨p, ns, k, rfl, hp, h0, h1, q⟩ := h
    refine ⟨_, (pss_cons (ps_set (i := 2) sc__law_tape.nd rfl (Or.inl rfl) (pe_ifExp (pt_cmpR op_lt (pv 1) (pe_callB (k_len K rfl) (by rfl) T.b_len bt_len (pa_cons (pv 0) pa_nil)) (nomark _)) (pe_ix (k_ix K rfl) (pv 0) (pv 1) (fun _ _ => rfl)) pe_int))
    (pss_one (ps_ret (pe_lst (pa_cons (pe_op op_mulA (pe_callB call_abs (by rfl) T.b_abs bt_abs (pa_cons (pv 2) pa_nil)) (pe_callTy call_int1 (by rfl) T.b_int bt_int (pa_cons (pe_cmpR op_ge (pe_callB call_abs (by rfl) T.b_abs bt_abs (pa_cons (pv 2) pa_nil)) (pe_op op_pow pe_int pe_int) (nomark _)) pa_nil))) (pa_cons (pe_op op_addS (pe_op op_addS (pe_op op_mod (pv 2) pe_int) (pe_op op_mulA pe_int (pv 1))) pe_int) (pa_cons pe_int pa_nil))))))), ?_⟩
    show DS K _ [p, .v (.int k), .no] [] _
    try dsimp only [cxOf]
    have tail : ∀ c : Int, TapeD [.int ((if c < 0 then -c else c) * (if decide ((10 : Int) ^ (18 : Int).toNat ≤ if c < 0 then -c else c) then 1 else 0)), .int (c % 2305843009213693951 + 39373 * k + 17), .int 0] 0 := fun c => by
      refine ⟨_, _, _, rfl, Int.mul_nonneg (by split <;> omega) (by split <;> omega), ?_, ?_, by omega, by omega⟩
      · have := Int.emod_nonneg c (show (2305843009213693951 : Int) ≠ 0 by decide); omega
      · have := Int.emod_lt_of_pos c (show (0 : Int) < 2305843009213693951 by decide); omega
    rcases hp with rfl | ⟨j, rfl⟩
    all_goals
      walk_at "d"
      refine ite_dec (fun h => ?_) (fun h => ?_)
      · obtain ⟨c, hc⟩ := atI_ints (ns := ns) h0 (by simpa using h)
        walk_at "d"
        exact q _ (tail _)
      · walk_at "d"
        exact q _ (tail _)

def sp__law_draw : DSp := fun as Q => ∃ (j : Nat) (ds : List D) (n many : Int), as = [.ow (some j) ds, .v (.int many)] ∧ TapeD ds n ∧ n < 1099511627776 ∧ 0 < many ∧ many < 1073741824 ∧
  ∀ r ds', 0 ≤ r → r < many → TapeD ds' (n + 1) → Q (.v (.int r)) [.ow (some j) ds', .v (.int many)]
theorem ok__law_draw {P : Program} {w : World} {K : PySem.W.Frag} {mg : Str → Option Value} {base : Heap} {a : Addr} {fd : FuncData} (F : Fun K "_law_draw" "_law_draw" s__law_draw a fd) (T : Txt K mg) : FnOk P w K mg base CX0 1 a fd ["_law_tape_here", "_law_many"] (fnS K sp__law_draw) := by
  refine ok_fn F sc__law_draw (by decide) (fun as P h => ?_) (fun cdv A outer s H E hr as P h => ?_)
  · obtain ⟨j, ds, n, m, rfl, _⟩ := h; rfl
  · obtain ⟨j, ds, n, m, rfl, ⟨t0, t1, t2, rfl, z0, z1, z1', z2, z2'⟩, hn, m0, m1, q⟩ := h
    refine ⟨_, (pss_cons (ps_if (pt_cmpR op_gt (pe_ix (k_ix K rfl) (pv 0) pe_int (fun _ _ => rfl)) pe_int (nomark _))
      (pss_cons (ps_set (i := 2) sc__law_draw.nd rfl (Or.inl rfl) (pe_op op_mod (pe_ix (k_ix K rfl) (pv 0) pe_int (fun _ _ => rfl)) (pv 1)))
    (pss_cons (ps_asg (pe_op op_fdivX (pe_ix (k_ix K rfl) (pv 0) pe_int (fun _ _ => rfl)) (pv 1)) (pg_sub (pv 0) pe_int set_list))
    (pss_one (ps_ret (pv 2)))))
      pss_nil)
    (pss_cons (ps_asg (pe_op op_addS (pe_ix (k_ix K rfl) (pv 0) pe_int (fun _ _ => rfl)) pe_int) (pg_sub (pv 0) pe_int set_list))
    (pss_cons (ps_set (i := 3) sc__law_draw.nd rfl (Or.inl rfl) (pe_op op_mod (pe_op op_pow (pe_op op_addS (pe_ix (k_ix K rfl) (pv 0) pe_int (fun _ _ => rfl)) (pe_op op_mulA pe_int (pe_ix (k_ix K rfl) (pv 0) pe_int (fun _ _ => rfl)))) pe_int) pe_int))
    (pss_cons (ps_set (i := 4) sc__law_draw.nd rfl (Or.inl rfl) (pe_op op_mod (pe_op op_mulA (pe_op op_addS (pv 3) (pe_ix (k_ix K rfl) (pv 0) pe_int (fun _ _ => rfl))) (pe_op op_addS (pe_op op_addS (pe_op op_mod (pv 3) pe_int) pe_int) (pe_ix (k_ix K rfl) (pv 0) pe_int (fun _ _ => rfl)))) pe_int))
    (pss_cons (ps_set (i := 5) sc__law_draw.nd rfl (Or.inl rfl) (pe_op op_mod (pe_op op_addS (pe_op op_addS (pe_op op_fdivX (pe_ix (k_ix K rfl) (pv 0) pe_int (fun _ _ => rfl)) pe_int) (pe_op op_mulA (pv 4) pe_int)) (pe_ix (k_ix K rfl) (pv 0) pe_int (fun _ _ => rfl))) pe_int))
    (pss_one (ps_ret (pe_op op_mod (pe_op op_fdivX (pe_op op_mod (pe_op op_addS (pe_op op_addS (pe_op op_mulA (pv 4) pe_int) (pe_op op_mulA (pv 5) pe_int)) (pv 3)) pe_int) pe_int) (pv 1))))))))), ?_⟩
    show DS K _ [.ow (some j) [.int t0, .int t1, .int t2], .v (.int m), .no, .no, .no, .no] [] _
    try dsimp only [cxOf]
    walk_at "d"
    refine ite_dec (fun h => ?_) (fun h => ?_)
    · walk_at "d"
      exact q _ _ (Int.emod_nonneg _ (by omega)) (Int.emod_lt_of_pos _ m0) ⟨_, _, _, rfl, Int.ediv_nonneg z0 (by omega), z1, z1', z2, by omega⟩
    · walk_at "d"
      exact q _ _ (Int.emod_nonneg _ (by omega)) (Int.emod_lt_of_pos _ m0) ⟨_, _, _, rfl, z0, z1, z1', by omega, by omega⟩

/-- what comes of the script's cells: ints, so many at most -/
def sp__law_folded : DSp := fun as Q => ∃ (p : SD) (ns : List Int) (m : Int), as = [p, .v (.int m)] ∧ isL p (ns.map .int) ∧ 0 < m ∧ m < 64 ∧ (∀ ms : List Int, ms.length ≤ m.toNat → (ns ≠ [] → ms ≠ []) → Q (.ow none (ms.map .int)) as)
theorem cutD_map {α : Type} {f : α → D} {xs : List α} (lo hi : Option Int) : ∃ ys : List α, cutD (xs.map f) lo hi = ys.map f := by
  unfold cutD
  rw [← List.map_drop, ← List.map_take]
  exact ⟨_, rfl⟩
theorem cutD_hi {ds : List D} {m : Int} (h : 0 ≤ m) : cutD ds none (some m) = ds.take m.toNat := by
  obtain ⟨k, rfl⟩ := Int.eq_ofNat_of_zero_le h
  unfold cutD
  rw [HT.sIx_none]
  rw [show HT.sIx ds.length ds.length (some ((k : Nat) : Int)) = min k ds.length from HT.sIx_nat _ _ _]
  simp only [Int.toNat_natCast, List.drop_zero, Nat.sub_zero]
  exact (List.take_eq_take_min).symm
theorem ixN_nat {n : Nat} {i : Int} (h0 : 0 ≤ i) (h : i < (n : Int)) : ixN n i = some i.toNat := by
  unfold ixN
  rw [if_pos h0, if_pos h]
theorem cutD_two {ds : List D} {m k : Nat} {i : Nat} (h : i < (cutD ds (some (m : Int)) (some (k : Int))).length) : m < ds.length ∧ i < k := by
  unfold cutD at h
  rw [HT.sIx_nat, HT.sIx_nat, List.length_take, List.length_drop] at h
  omega
theorem ok__law_folded {P : Program} {w : World} {K : PySem.W.Frag} {mg : Str → Option Value} {base : Heap} {a : Addr} {fd : FuncData} (F : Fun K "_law_folded" "_law_folded" s__law_folded a fd) (T : Txt K mg) : FnOk P w K mg base CX0 1 a fd ["_law_script", "_law_many"] (fnS K sp__law_folded) := by
  refine ok_fn F sc__law_folded (by decide) (fun as P h => ?_) (fun cdv A outer s H E hr as P h => ?_)
  · obtain ⟨a, b, c, rfl, _⟩ := h; rfl
  · obtain ⟨p, ns, m, rfl, hp, h0, h1, q⟩ := h
    refine ⟨_, (pss_cons (ps_set (i := 2) sc__law_folded.nd rfl (Or.inl rfl) (pe_callTy (k_list K rfl) (by rfl) T.b_list bt_list (pa_cons (pe_slice (k_sl K rfl) (pv 0) po_none (po_some (pv 1))) pa_nil)))
    (pss_cons (ps_for PassesOwn.never rfl (k_enum K rfl (by rfl) T.b_enumerate (pa_cons (pe_slice (k_sl K rfl) (pv 0) (po_some (pv 1)) (po_some pe_int)) pa_nil)) (k_gtup K rfl (n := 2) (by rfl) (pgs_cons (pg_name (i := 3) sc__law_folded.nd rfl (Or.inl rfl)) (pgs_cons (pg_name (i := 4) sc__law_folded.nd rfl (Or.inl rfl)) pgs_nil)))
      (pss_one (ps_asg (pe_op op_addS (pe_ix (k_ix K rfl) (pv 2) (pe_op op_mod (pv 3) (pv 1)) (fun _ _ => rfl)) (pe_op op_mulA (pv 4) (pe_op op_addS (pv 3) pe_int))) (pg_sub (pv 2) (pe_op op_mod (pv 3) (pv 1)) set_list))))
    (pss_one (ps_ret (pv 2))))), ?_⟩
    show DS K _ [p, .v (.int m), .no, .no, .no] [] _
    try dsimp only [cxOf]
    rcases hp with rfl | ⟨j, rfl⟩
    all_goals
      walk_at "d"
      rw [cutD_hi (by omega), ← List.map_take]
      refine ds_for (di_enum ?_)
      walk_at "d"
      obtain ⟨mn, rfl⟩ := Int.eq_ofNat_of_zero_le (Int.le_of_lt h0)
      obtain ⟨ys, hys⟩ := cutD_map (f := PyData.int) (xs := ns) (some (mn : Int)) (some ((63 : Nat) : Int))
      refine ⟨_, _, rfl, rfl, fun i s => ∃ (ms : List Int) (x3 x4 : SD), ms.length = (ns.take mn).length ∧ s = [_, .v (.int (mn : Int)), .ow none (ms.map .int), x3, x4], ⟨_, _, _, rfl, rfl⟩, ?_, ?_, ?_⟩
      · rintro k s _ ⟨ms, x3, x4, hl, rfl⟩; rfl
      · rintro k d s hd ⟨ms, x3, x4, hl, rfl⟩
        obtain ⟨e, he, rfl⟩ := enumD_get hd
        have hk := (List.getElem?_eq_some_iff.mp he).1
        obtain ⟨hk1, hk2⟩ := cutD_two (m := mn) (k := 63) hk
        obtain ⟨c, rfl⟩ : ∃ c, e = .int c := by
          have he : (cutD (ns.map PyData.int) (some (mn : Int)) (some ((63 : Nat) : Int)))[k]? = some e := he
          rw [hys, List.getElem?_map] at he
          cases q : ys[k]? with
          | none => rw [q] at he; cases he
          | some c => rw [q] at he; exact ⟨c, (Option.some.inj he).symm⟩
        have hlen : ms.length = mn := by rw [hl, List.length_take]; rw [List.length_map] at hk1; omega
        have e0 := Int.emod_nonneg (k : Int) (show (mn : Int) ≠ 0 by omega)
        have e1 := Int.emod_lt_of_pos (k : Int) h0
        obtain ⟨c2, hc2⟩ := atI_ints (ns := ms) e0 (by omega)
        walk_at "d"
        refine ⟨_, _, _, _, _, rfl, rfl, ixN_nat e0 (by rw [List.length_map]; omega), rfl, ms.set ((k : Int) % (mn : Int)).toNat (c2 + c * ((k : Int) + 2)), .v (.int (k : Int)), .v (.int c), by rw [List.length_set, hl], ?_⟩
        rw [List.map_set]
        rfl
      · rintro s ⟨ms, x3, x4, hl, rfl⟩
        walk_at "d"
        refine q ms (by rw [hl, List.length_take]; omega) fun hn e => ?_
        subst e
        have hp : 0 < ns.length := List.length_pos_iff.mpr hn
        rw [List.length_take] at hl
        simp at hl
        omega



/-- over M, from 0 to L -/
def BL (M L : Nat) (q : Rat) : Prop := ZD M q ∧ 0 ≤ q ∧ q ≤ ((L : Int) : Rat)
theorem BL.bq {M L n : Nat} {q : Rat} (h : BL M L q) (hM : 0 < M) (hn : M < 2 ^ n) (hn2 : L * M < 2 ^ n) : BQ n q :=
  bq_of hM h.1 (by have := h.2.1; have h0 : ((-(L : Int) : Int) : Rat) ≤ 0 := by
                    rw [show (0 : Rat) = ((0 : Int) : Rat) from rfl, Rat.intCast_le_intCast]; omega
                   rw [← Rat.intCast_neg]; exact Rat.le_trans h0 this) h.2.2 hn hn2
theorem castS (c L : Nat) : ((((c + 1) * L : Nat) : Int) : Rat) = ((((c * L : Nat)) : Int) : Rat) + ((L : Int) : Rat) := by
  rw [Nat.add_mul, Nat.one_mul, Int.natCast_add, Rat.intCast_add]
theorem BL.le {M L L' : Nat} {q : Rat} (h : BL M L q) (e : L ≤ L') : BL M L' q := ⟨h.1, h.2.1, Rat.le_trans h.2.2 (Rat.intCast_le_intCast.mpr (by omega))⟩
theorem pos_cast {i : Int} (h : 0 ≤ i) : (0 : Rat) ≤ (i : Rat) := by
  rw [show (0 : Rat) = ((0 : Int) : Rat) from rfl, Rat.intCast_le_intCast]; exact h

theorem mint {ns : List Int} {i : Int} (h0 : 0 ≤ i) (h : i < (ns.length : Int)) : ∃ c, atI (ns.map PyData.int) i = some (.int c) ∧ c ∈ ns := by
  obtain ⟨d, h1, h2⟩ := atI_menu (xs := ns.map PyData.int) h0 (by simpa using h)
  obtain ⟨c, hc, rfl⟩ := List.mem_map.mp h2
  exact ⟨c, h1, hc⟩
theorem TapeD.mn {ds : List D} {m n : Int} (h : TapeD ds m) (e : m ≤ n) : TapeD ds n := by
  obtain ⟨t0, t1, t2, h0, h1, h2, h3, h4, h5⟩ := h
  exact ⟨t0, t1, t2, h0, h1, h2, h3, h4, by omega⟩
theorem mbit {a b : D} {p : Prop} [Decidable p] : atI [a, b] (if decide p = true then 1 else 0) = some (if p then b else a) := by
  by_cases h : p
  · rw [if_pos (decide_eq_true h), if_pos h]; rfl
  · rw [if_neg (by rw [decide_eq_false h]; decide), if_neg h]; rfl
/-- t by b, b a divisor of M -/
theorem bl_divInt {M : Nat} {t b : Int} {L : Nat} (hb : 0 < b) (hM : b ∣ (M : Int)) (h0 : 0 ≤ t) (h1 : t ≤ L) : BL M L (Rat.divInt t b) := by
  have hbp : (0 : Rat) < (b : Rat) := by rw [show (0 : Rat) = ((0 : Int) : Rat) from rfl, Rat.intCast_lt_intCast]; exact hb
  have hbn : (b : Rat) ≠ 0 := fun z => by rw [z] at hbp; exact Rat.lt_irrefl hbp
  have hq : Rat.divInt t b * (b : Rat) = (t : Rat) := by rw [Rat.divInt_eq_div]; exact Rat.div_mul_cancel hbn
  refine ⟨?_, Rat.divInt_nonneg h0 (Int.le_of_lt hb), ?_⟩
  · obtain ⟨c, hc⟩ := hM
    refine zd_iff.mpr ⟨t * c, ?_⟩
    rw [hc, Rat.intCast_mul, ← Rat.mul_assoc, hq, Rat.intCast_mul]
  · refine Rat.le_of_mul_le_mul_right (c := (b : Rat)) ?_ hbp
    rw [hq, ← Rat.intCast_mul, Rat.intCast_le_intCast]
    have : (L : Int) * 1 ≤ L * b := Int.mul_le_mul_of_nonneg_left (by omega) (by omega)
    omega

/-- a name, by its signs -/
def nameOk (l : List Nat) : Prop := 1 ≤ l.length ∧ l.length ≤ 6 ∧ ∀ c ∈ l, 97 ≤ c ∧ c ≤ 122
def abc : Str := "abcdefghijklmnopqrstuvwxyz"
theorem abc_list : abc.cps.toList = (List.range 26).map (97 + ·) := by decide +kernel
theorem abc_at {i : Int} (h0 : 0 ≤ i) (h : i < 26) : atI abc.cps.toList i = some (97 + i.toNat) := by
  obtain ⟨k, rfl⟩ := Int.eq_ofNat_of_zero_le h0
  refine atI_nat ?_
  rw [abc_list, List.getElem?_map, List.getElem?_range (by omega)]
  rfl
theorem abc_len : abc.length ≤ sizeLine := by decide +kernel
def restK (tl : List Nat) (way k : Nat) : List Nat := if way = 0 then tl else if way = 1 then (if k % 2 = 0 then [] else tl) else tl.take (k % (tl.length + 1))
def signK (sh st way k : Nat) : Nat := 97 + (sh + st * (if way = 1 then k / 2 else k)) % 26
def nmK (hd tl : List Nat) (sh st way k : Nat) : List Nat := hd ++ [signK sh st way k] ++ restK tl way k
theorem sign_inj {sh st v u : Nat} (hs : st = 1 ∨ st = 7 ∨ st = 25) (hv : v < 26) (hu : u < 26) (h : (sh + st * v) % 26 = (sh + st * u) % 26) : v = u := by
  rcases hs with rfl | rfl | rfl <;> omega
theorem nm_inj {hd tl : List Nat} {sh st way k j : Nat} (hs : st = 1 ∨ st = 7 ∨ st = 25) (hw : way ≠ 0 → tl ≠ []) (hk : k < 26) (hj : j < 26) (h : nmK hd tl sh st way k = nmK hd tl sh st way j) : k = j := by
  unfold nmK at h
  rw [List.append_assoc, List.append_assoc] at h
  have h := List.append_cancel_left h
  have h : signK sh st way k :: restK tl way k = signK sh st way j :: restK tl way j := h
  injection h with h1 h2
  by_cases e : way = 1
  · subst e
    have s1 : ∀ k, signK sh st 1 k = 97 + (sh + st * (k / 2)) % 26 := fun _ => rfl
    have r1 : ∀ k, restK tl 1 k = if k % 2 = 0 then [] else tl := fun _ => rfl
    rw [s1, s1] at h1
    rw [r1, r1] at h2
    have := sign_inj (sh := sh) (st := st) (v := k / 2) (u := j / 2) hs (by omega) (by omega) (Nat.add_left_cancel h1)
    have ht := hw (by decide)
    by_cases p1 : k % 2 = 0
    · by_cases p2 : j % 2 = 0
      · omega
      · rw [if_pos p1, if_neg p2] at h2; exact absurd h2.symm ht
    · by_cases p2 : j % 2 = 0
      · rw [if_neg p1, if_pos p2] at h2; exact absurd h2 ht
      · omega
  · unfold signK at h1
    rw [if_neg e, if_neg e] at h1
    exact sign_inj (sh := sh) (st := st) (v := k) (u := j) hs (by omega) (by omega) (Nat.add_left_cancel h1)
theorem restK_len {tl : List Nat} {way k : Nat} : (restK tl way k).length ≤ tl.length := by
  unfold restK
  split
  · exact Nat.le_refl _
  split
  · split
    · exact Nat.zero_le _
    · exact Nat.le_refl _
  · rw [List.length_take]; omega
theorem range_pw {n : Nat} (h : n ≤ 26) : (List.range n).Pairwise fun k j => k < 26 ∧ j < 26 ∧ k ≠ j := by
  rw [List.pairwise_iff_getElem]
  intro i j hi hj hij
  rw [List.length_range] at hi hj
  rw [List.getElem_range, List.getElem_range]
  omega
theorem nm_ok {cs : List Nat} {a sh st way k : Nat} (hc : ∀ c ∈ cs, 97 ≤ c ∧ c ≤ 122) (hl : cs.length ≤ 5) : nameOk (nmK (cs.take a) (cs.drop a) sh st way k) := by
  have hr : (restK (cs.drop a) way k).length ≤ (cs.drop a).length := by
    unfold restK
    split
    · exact Nat.le_refl _
    split
    · split
      · exact Nat.zero_le _
      · exact Nat.le_refl _
    · rw [List.length_take]; omega
  have hm : ∀ c ∈ restK (cs.drop a) way k, c ∈ cs := by
    intro c h
    unfold restK at h
    split at h
    · exact List.mem_of_mem_drop h
    split at h
    · split at h
      · cases h
      · exact List.mem_of_mem_drop h
    · exact List.mem_of_mem_drop (List.mem_of_mem_take h)
  refine ⟨?_, ?_, ?_⟩
  · unfold nmK; simp; omega
  · unfold nmK
    rw [List.length_append, List.length_append, List.length_take]
    rw [List.length_drop] at hr
    simp only [List.length_cons, List.length_nil]
    omega
  · intro c h
    unfold nmK at h
    rcases List.mem_append.mp h with h | h
    · rcases List.mem_append.mp h with h | h
      · exact hc c (List.mem_of_mem_take h)
      · rw [List.mem_singleton.mp h]; unfold signK; omega
    · exact hc c (hm c h)
theorem join_singles (cs : List Nat) : Str.join Str.empty (cs.map fun c => tx [c]) = tx cs := by
  have h := tx_join (cs.map fun c => [c])
  rw [List.map_map] at h
  rw [show (cs.map fun c => tx [c]) = cs.map (tx ∘ fun c => [c]) from rfl, h]
  congr 1
  clear h
  induction cs with
  | nil => rfl
  | cons c cs ih => rw [List.map_cons, List.flatten_cons, ih]; rfl
def sp__law_some_names : DSp := fun as Q => ∃ (ds : List D) (n m : Int), as = [.ow (some 0) ds, .v (.int m)] ∧ TapeD ds n ∧ n < 1099511600000 ∧ 0 ≤ m ∧ m ≤ 26 ∧
  ∀ (ls : List (List Nat)) ds', ls.length = m.toNat → ls.Nodup → (∀ l ∈ ls, nameOk l) → TapeD ds' (n + 12) → Q (.ow none (ls.map fun l => .str (tx l))) [.ow (some 0) ds', .v (.int m)]
theorem ok__law_some_names {P : Program} {w : World} {K : PySem.W.Frag} {mg : Str → Option Value} {base : Heap} {a : Addr} {fd : FuncData} (F : Fun K "_law_some_names" "_law_some_names" s__law_some_names a fd) (T : Txt K mg) (c__law_draw : Cal P w K mg base 1 "_law_draw" ["_law_tape_here", "_law_many"] sp__law_draw) : FnOk P w K mg base CX0 2 a fd ["_law_tape_here", "_law_many"] (fnS K sp__law_some_names) := by
  refine ok_fn F sc__law_some_names (by decide) (fun as P h => ?_) (fun cdv A outer s H E hr as P h => ?_)
  · obtain ⟨a, b, c, rfl, _⟩ := h; rfl
  · obtain ⟨ds, n, m, rfl, hT, hn, m0, m1, q⟩ := h
    refine ⟨_, (pss_cons (ps_asg (pe_tup (pa_cons pe_str (pa_cons (k_cal K rfl c__law_draw (hr.mono (by decide)) (by rfl) (pa_cons (pv 0) (pa_cons pe_int pa_nil))) pa_nil))) (k_gtup K rfl (n := 2) (by rfl) (pgs_cons (pg_name (i := 2) sc__law_some_names.nd rfl (Or.inr rfl)) (pgs_cons (pg_name (i := 3) sc__law_some_names.nd rfl (Or.inl rfl)) pgs_nil))))
    (pss_cons (ps_set (i := 5) sc__law_some_names.nd rfl (Or.inl rfl) (k_join K rfl pe_str (pe_lc (own := [("_law_k", 4)]) rfl sc__law_some_names.nd (pi_range1 (by rfl) T.b_range (pa_cons (k_cal K rfl c__law_draw (hr.mono (by decide)) (by rfl) (pa_cons (pv 0) (pa_cons pe_int pa_nil))) pa_nil)) (blkOk_by (N := N__law_some_names) (sc := defScope s__law_some_names) (by decide +kernel)) (fun _ _ _ _ _ => (pg_name (i := 4) sc__law_some_names.nd rfl (Or.inl rfl))) (fun _ _ _ _ _ => pts_nil) (fun _ _ _ _ _ => (pe_ix (k_ix K rfl) (pv 2) (k_cal K rfl c__law_draw (hr.mono (by decide)) (by rfl) (pa_cons (pv 0) (pa_cons pe_int pa_nil))) (fun _ _ => rfl))))))
    (pss_cons (ps_par3 (i := 6) (j := 7) (l := 8) (by rfl) sc__law_some_names.nd rfl rfl rfl (by decide) (by decide) (by decide) rfl rfl rfl (pa_cons (k_cal K rfl c__law_draw (hr.mono (by decide)) (by rfl) (pa_cons (pv 0) (pa_cons (pe_op op_addS (pe_callB (k_len K rfl) (by rfl) T.b_len bt_len (pa_cons (pv 5) pa_nil)) pe_int) pa_nil))) (pa_cons (pe_ix (k_ix K rfl) (pe_lst (pa_cons pe_int (pa_cons pe_int (pa_cons pe_int pa_nil)))) (k_cal K rfl c__law_draw (hr.mono (by decide)) (by rfl) (pa_cons (pv 0) (pa_cons pe_int pa_nil))) (fun _ _ => rfl)) (pa_cons (pe_lst pa_nil) pa_nil))) (by rfl))
    (pss_cons (ps_par (i := 9) (j := 10) (by rfl) sc__law_some_names.nd rfl rfl (by decide) rfl rfl (pa_cons (pe_slice (k_sl K rfl) (pv 5) po_none (po_some (pv 6))) (pa_cons (pe_slice (k_sl K rfl) (pv 5) (po_some (pv 6)) po_none) pa_nil)) (by rfl))
    (pss_cons (ps_for PassesOwn.never rfl (pi_range1 (by rfl) T.b_range (pa_cons (pv 1) pa_nil)) (pg_name (i := 4) sc__law_some_names.nd rfl (Or.inl rfl))
      (pss_cons (ps_set (i := 11) sc__law_some_names.nd rfl (Or.inl rfl) (pe_op op_mulA (pe_op op_mod (pe_op op_addS (pe_op op_addS (pv 3) (pv 6)) (pe_callB (k_len K rfl) (by rfl) T.b_len bt_len (pa_cons (pv 5) pa_nil))) pe_int) (pe_callTy call_int1 (by rfl) T.b_int bt_int (pa_cons (pe_cmpR (k_neD K rfl hr.units) (pv 10) pe_str (nomark _)) pa_nil))))
    (pss_cons (ps_set (i := 12) sc__law_some_names.nd rfl (Or.inl rfl) (pe_ix (k_ix K rfl) (pv 2) (pe_op op_mod (pe_op op_addS (pv 3) (pe_op op_mulA (pv 7) (pe_ix (k_ix K rfl) (pe_lst (pa_cons (pv 4) (pa_cons (pe_op op_fdivX (pv 4) pe_int) (pa_cons (pv 4) pa_nil)))) (pv 11) (fun _ _ => rfl)))) pe_int) (fun _ _ => rfl)))
    (pss_one (ps_expr (k_bm K rfl PySem.F.plainAttrs_list PySem.F.slot_list_append PySem.F.type_list_append mt_append (pv 8) (pa_cons (pe_op op_addS (pe_op op_addS (pv 9) (pv 12)) (pe_ix (k_ix K rfl) (pe_lst (pa_cons (pv 10) (pa_cons (pe_op op_mulB (pv 10) (pe_op op_mod (pv 4) pe_int)) (pa_cons (pe_slice (k_sl K rfl) (pv 10) po_none (po_some (pe_op op_mod (pv 4) (pe_op op_addS (pe_callB (k_len K rfl) (by rfl) T.b_len bt_len (pa_cons (pv 10) pa_nil)) pe_int)))) pa_nil)))) (pv 11) (fun _ _ => rfl))) pa_nil)))))))
    (pss_one (ps_ret (pv 8)))))))), ?_⟩
    show DS K _ [.ow (some 0) ds, .v (.int m), .no, .no, .no, .no, .no, .no, .no, .no, .no, .no, .no] [] _
    try dsimp only [cxOf]
    walk_at "d"
    walk_at "draw"
    intro sh ds1 sh0 sh1 T1
    walk_at "d"
    refine de_lc (gw_name List.mem_cons_self) ?_
    walk_at "d"
    walk_at "draw"
    intro r ds2 r0 r1 T2
    walk_at "d"
    refine ⟨by omega, by omega, fun k' s' acc => ∃ (ds3 : List D) (cs : List Nat), s' = [.ow (some 0) ds3, .v (.int m), .v (.str abc), .v (.int sh), .no, .no, .no, .no, .no, .no, .no, .no, .no] ∧ acc = cs.map (fun c => PyData.str (tx [c])) ∧ cs.length = k' ∧ (∀ c ∈ cs, 97 ≤ c ∧ c ≤ 122) ∧ TapeD ds3 (n + 2 + k'), ?_, ?_, ?_, ?_, ?_, ?_⟩
    · intro i hi
      obtain rfl : i = 4 := by simpa using hi
      exact ⟨rfl, rfl⟩
    · exact ⟨ds2, [], rfl, rfl, rfl, (fun _ h => nomatch h), T2.mn (by omega)⟩
    · intros; trivial
    · rw [rngD_length]; omega
    · rintro k' d s' acc hd hl ⟨ds3, cs, rfl, rfl, hq, hcs, T3⟩
      obtain ⟨hk', rfl⟩ := rngD_get hd
      have hk6 : k' < 6 := by omega
      walk_at "d"
      walk_at "draw"
      intro u ds4 u0 u1 T4
      walk_at "d"
      refine op2_ixS abc_len (abc_at u0 u1) ?_
      walk_at "d"
      refine ⟨_, cs ++ [97 + u.toNat], rfl, by rw [List.map_append]; rfl, by simp [hq], fun c hc => ?_, T4.mn (by omega)⟩
      rcases List.mem_append.mp hc with h | h
      · exact hcs c h
      · rw [List.mem_singleton.mp h]; omega
    · rintro s' acc ⟨ds3, cs, rfl, rfl, hq, hcs, T3⟩
      rw [rngD_length] at hq T3
      have hl5 : cs.length ≤ 5 := by omega
      have hz : (tx cs).length ≤ sizeLine := by rw [tx_len]; exact Nat.le_trans hl5 (by decide)
      walk_at "d"
      refine ⟨cs.map fun c => tx [c], by rw [List.map_map]; rfl, ?_, ?_⟩
      · rw [List.map_map, List.length_map]
        have : (cs.map ((fun s : Str => s.length) ∘ fun c => tx [c])).sum = cs.length := by
          clear hq hcs hl5 hz
          induction cs with
          | nil => rfl
          | cons c cs ih => rw [List.map_cons, List.sum_cons, ih, List.length_cons]; show 1 + cs.length = _; omega
        rw [this]
        show cs.length + cs.length * 0 ≤ _
        omega
      rw [show Txt.join (Str.ofString "") (cs.map fun c => tx [c]) = tx cs from (PySem.StrLaws.glued_eq_join (Str.ofString "") _).trans (by rw [show Str.ofString "" = Str.empty by decide +kernel]; exact join_singles cs)]
      walk_at "d"
      refine opc_lenS hz ?_
      rw [tx_len]
      walk_at "d"
      walk_at "draw"
      intro a ds4 a0 a1 T4
      walk_at "d"
      walk_at "draw"
      intro b ds5 b0 b1 T5
      walk_at "clean"
      obtain ⟨st, hst, hm⟩ := mint (ns := [1, 7, 25]) b0 b1
      have hst3 : st = 1 ∨ st = 7 ∨ st = 25 := by simpa using hm
      clear hm
      obtain ⟨a, rfl⟩ := Int.eq_ofNat_of_zero_le a0
      walk_at "d"
      rw [tx_cutT, tx_cutD]
      obtain ⟨sh, rfl⟩ := Int.eq_ofNat_of_zero_le sh0
      have ha : a ≤ cs.length := by omega
      have hzt : (tx (cs.drop a)).length ≤ sizeLine := by rw [tx_len, List.length_drop]; exact Nat.le_trans (show cs.length - a ≤ 5 by omega) (by decide)
      have hst2 : SeqAt.shaped (.str (tx (cs.drop a))) = true := (tx_ok fun c hc => by have := hcs c (List.mem_of_mem_drop hc); omega).str
      have hne : PyData.eqv (.str (tx (cs.drop a))) (.str "") = decide (cs.drop a = []) := eqv_tx (cs.drop a) []
      have she : SeqAt.shaped (.str "") = true := (tOk_of "").str
      obtain ⟨way, hway, hw3, hwn⟩ : ∃ way : Nat, ((sh : Int) + (a : Int) + (cs.length : Int)) % 3 * (if (!PyData.eqv (.str (tx (cs.drop a))) (.str "")) = true then 1 else 0) = (way : Int) ∧ way < 3 ∧ (way ≠ 0 → cs.drop a ≠ []) := by
        rw [hne]
        by_cases h : cs.drop a = []
        · rw [decide_eq_true h]
          exact ⟨0, by simp, by decide, fun h => absurd rfl h⟩
        · rw [decide_eq_false h, if_pos (show (!false) = true from rfl), Int.mul_one]
          exact ⟨(sh + a + cs.length) % 3, by omega, by omega, fun _ => h⟩
      refine ds_for ?_
      walk_at "d"
      refine ⟨by omega, by omega, fun k s => ∃ x10 x11 x12 : SD, s = [.ow (some 0) ds5, .v (.int m), .v (.str abc), .v (.int (sh : Int)), x10, .v (.str (tx cs)), .v (.int (a : Int)), .v (.int st), .ow none ((List.range k).map fun k => .str (tx (nmK (cs.take a) (cs.drop a) sh st.toNat way k))), .v (.str (tx (cs.take a))), .v (.str (tx (cs.drop a))), x11, x12], ⟨_, _, _, rfl⟩, ?_, ?_, ?_⟩
      · intros; trivial
      · rintro k d s hd ⟨x10, x11, x12, rfl⟩
        obtain ⟨hk, rfl⟩ := rngD_get hd
        have hk26 : k < 26 := by omega
        have hlk : ((List.range k).map fun k => PyData.str (tx (nmK (cs.take a) (cs.drop a) sh st.toNat way k))).length < 100000 := by rw [List.length_map, List.length_range]; omega
        have ck : (0 + (k : Int)) / 2 = ((k / 2 : Nat) : Int) := by omega
        have hv : atI [PyData.int (0 + (k : Int)), PyData.int ((0 + (k : Int)) / 2), PyData.int (0 + (k : Int))] (way : Int) = some (.int (((if way = 1 then k / 2 else k : Nat)) : Int)) := by
          rw [ck, Int.zero_add]
          match way, hw3 with
          | 0, _ => rfl
          | 1, _ => rfl
          | 2, _ => rfl
        have cm : CMulX st (((if way = 1 then k / 2 else k : Nat)) : Int) := .smallL (by omega)
        have cm0 : CMulX (((sh : Int) + (a : Int) + (cs.length : Int)) % 3) (if (!PyData.eqv (.str (tx (cs.drop a))) (.str "")) = true then 1 else 0) := .smallL (by omega)
        have hi0 := Int.emod_nonneg ((sh : Int) + st * (((if way = 1 then k / 2 else k : Nat)) : Int)) (show (26 : Int) ≠ 0 by decide)
        have hi1 := Int.emod_lt_of_pos ((sh : Int) + st * (((if way = 1 then k / 2 else k : Nat)) : Int)) (show (0 : Int) < 26 by decide)
        have hsg : 97 + (((sh : Int) + st * (((if way = 1 then k / 2 else k : Nat)) : Int)) % 26).toNat = signK sh st.toNat way k := by
          unfold signK
          generalize (if way = 1 then k / 2 else k) = v
          rcases hst3 with rfl | rfl | rfl
          · show 97 + (((sh : Int) + 1 * (v : Int)) % 26).toNat = 97 + (sh + 1 * v) % 26; omega
          · show 97 + (((sh : Int) + 7 * (v : Int)) % 26).toNat = 97 + (sh + 7 * v) % 26; omega
          · show 97 + (((sh : Int) + 25 * (v : Int)) % 26).toNat = 97 + (sh + 25 * v) % 26; omega
        walk_at "d"
        refine opc_lenS hz ?_
        rw [tx_len]
        walk_at "d"
        rw [hway]
        refine op2_ixL rfl hv ?_
        walk_at "d"
        refine op2_ixS abc_len (abc_at hi0 hi1) ?_
        rw [hsg, show (⟨#[signK sh st.toNat way k]⟩ : Str) = tx [signK sh st.toNat way k] from rfl]
        walk_at "d"
        refine op2_addT (by rw [tx_len, tx_len, List.length_take]; exact Nat.le_trans (show min a cs.length + 1 ≤ 6 by omega) (by decide)) ?_
        rw [tx_app]
        walk_at "d"
        refine op2_mulT (by omega) ?_
        walk_at "d"
        refine opc_lenS hzt ?_
        rw [tx_len]
        walk_at "d"
        have hv2 : atI [PyData.str (tx (cs.drop a)), PyData.str (if (0 + (k : Int)) % 2 = 0 then Str.empty else tx (cs.drop a)), PyData.str (cutS (tx (cs.drop a)) none (some ((0 + (k : Int)) % (((cs.drop a).length : Int) + 1))))] (way : Int) = some (.str (tx (restK (cs.drop a) way k))) := by
          rw [show (0 + (k : Int)) % (((cs.drop a).length : Int) + 1) = ((k % ((cs.drop a).length + 1) : Nat) : Int) by rw [Int.zero_add]; rfl, tx_cutT]
          match way, hw3 with
          | 0, _ => rfl
          | 1, _ =>
            show some (PyData.str (if (0 + (k : Int)) % 2 = 0 then Str.empty else tx (cs.drop a))) = some (.str (tx (if k % 2 = 0 then [] else cs.drop a)))
            by_cases e : k % 2 = 0
            · rw [if_pos e, if_pos (by omega)]; rfl
            · rw [if_neg e, if_neg (by omega)]
          | 2, _ => rfl
        refine op2_ixL rfl hv2 ?_
        walk_at "d"
        have hrl : (restK (cs.drop a) way k).length ≤ (cs.drop a).length := restK_len
        refine op2_addT (by rw [tx_len, tx_len, List.length_append, List.length_take]; rw [List.length_drop] at hrl; exact Nat.le_trans (show min a cs.length + 1 + _ ≤ 6 by omega) (by decide)) ?_
        rw [tx_app]
        walk_at "d"
        rw [List.range_succ, List.map_append]
        exact ⟨_, _, _, rfl⟩
      · rintro s ⟨x10, x11, x12, rfl⟩
        rw [rngD_length]
        walk_at "d"
        have e := q ((List.range m.toNat).map fun k => nmK (cs.take a) (cs.drop a) sh st.toNat way k) ds5 (by rw [List.length_map, List.length_range]) ?_ ?_ (T5.mn (by omega))
        · rw [List.map_map] at e; exact e
        · refine List.Pairwise.map _ (R := fun k j => k < 26 ∧ j < 26 ∧ k ≠ j) (fun k j h e => ?_) ?_
          · exact h.2.2 (nm_inj (by omega) hwn h.1 h.2.1 e)
          · exact range_pw (by omega)
        · intro l hl
          obtain ⟨k, _, rfl⟩ := List.mem_map.mp hl
          exact nm_ok hcs hl5



def isWhole (d : D) : Bool := isTy .int d && !isTy .bool d
def sp_is_whole : DSp := fun as Q => ∃ d : D, as = [.v d] ∧ Q (.v (.bool (isWhole d))) as
theorem ok_is_whole {P : Program} {w : World} {K : PySem.W.Frag} {mg : Str → Option Value} {base : Heap} {a : Addr} {fd : FuncData} (F : Fun K "is_whole" "is_whole" s_is_whole a fd) (T : Txt K mg) : FnOk P w K mg base CX0 1 a fd ["thing"] (fnS K sp_is_whole) := by
  refine ok_fn F sc_is_whole (by decide) (fun as P h => ?_) (fun cdv A outer s H E hr as P h => ?_)
  · obtain ⟨a, rfl, _⟩ := h; rfl
  · obtain ⟨d, rfl, q⟩ := h
    refine ⟨_, (pss_one (ps_ret (pe_and (pe_callB (k_isi K rfl) (by rfl) T.b_isinstance bt_isinstance (pa_cons (pv 0) (pa_cons (pe_bltn (v := .ty "int") (by rfl) T.b_int bt_int rfl) pa_nil))) (pe_one (pe_not (pe_callB (k_isi K rfl) (by rfl) T.b_isinstance bt_isinstance (pa_cons (pv 0) (pa_cons (pe_bltn (v := .ty "bool") (by rfl) T.b_bool bt_bool rfl) pa_nil)))))))), ?_⟩
    show DS K _ [.v d] [] _
    try dsimp only [cxOf]
    walk_at "d"
    unfold isWhole at q
    refine ite_b (fun h => ?_) (fun h => ?_)
    · rw [h, Bool.true_and] at q
      walk_at "d"
      exact q
    · rw [h, Bool.false_and] at q
      walk_at "d"
      exact q

def isPart2 : D → D → Bool
  | .int i, .int j => decide (0 < j) && decide (((Int.gcd i j : Nat) : Int) = 1)
  | _, _ => false
def isPart : D → Bool
  | .tuple [a, b] => isWhole a && isWhole b && isPart2 a b
  | _ => false
def sp_is_part : DSp := fun as Q => ∃ d : D, as = [.v d] ∧ Q (.v (.bool (isPart d))) as
theorem isWhole_int {d : D} (h : isWhole d = true) : ∃ i, d = .int i := by
  cases d <;> first | exact ⟨_, rfl⟩ | (exfalso; simp [isWhole, isTy] at h)
theorem ok_is_part {P : Program} {w : World} {K : PySem.W.Frag} {mg : Str → Option Value} {base : Heap} {a : Addr} {fd : FuncData} (F : Fun K "is_part" "is_part" s_is_part a fd) (T : Txt K mg) (c_is_whole : Cal P w K mg base 1 "is_whole" ["thing"] sp_is_whole) (c_common : Cal P w K mg base 1 "common" ["one", "other"] sp_common) : FnOk P w K mg base CX0 2 a fd ["thing"] (fnS K sp_is_part) := by
  refine ok_fn F sc_is_part (by decide) (fun as P h => ?_) (fun cdv A outer s H E hr as P h => ?_)
  · obtain ⟨a, rfl, _⟩ := h; rfl
  · obtain ⟨d, rfl, q⟩ := h
    refine ⟨_, (pss_cons (ps_if (PW.pt (pw_or (pt_not (pt_val (pe_callB (k_isi K rfl) (by rfl) T.b_isinstance bt_isinstance (pa_cons (pv 0) (pa_cons (pe_bltn (v := .ty "tuple") (by rfl) T.b_tuple bt_tuple rfl) pa_nil))))) (pw_or (pt_cmpR (k_neD K rfl hr.units) (pe_callB (k_len K rfl) (by rfl) T.b_len bt_len (pa_cons (pv 0) pa_nil)) pe_int (nomark _)) (pw_or (pt_not (pt_val (k_cal K rfl c_is_whole (hr.mono (by decide)) (by rfl) (pa_cons (pe_ix (k_ix K rfl) (pv 0) pe_int (fun _ _ => rfl)) pa_nil)))) (pw_or1 (pt_not (pt_val (k_cal K rfl c_is_whole (hr.mono (by decide)) (by rfl) (pa_cons (pe_ix (k_ix K rfl) (pv 0) pe_int (fun _ _ => rfl)) pa_nil)))))))))
      (pss_one (ps_ret pe_bl))
      pss_nil)
    (pss_one (ps_ret (pe_and (pe_cmpR op_gt (pe_ix (k_ix K rfl) (pv 0) pe_int (fun _ _ => rfl)) pe_int (nomark _)) (pe_one (pe_cmpR (k_eqD K rfl hr.units) (k_cal K rfl c_common (hr.mono (by decide)) (by rfl) (pa_cons (pe_callB call_abs (by rfl) T.b_abs bt_abs (pa_cons (pe_ix (k_ix K rfl) (pv 0) pe_int (fun _ _ => rfl)) pa_nil)) (pa_cons (pe_ix (k_ix K rfl) (pv 0) pe_int (fun _ _ => rfl)) pa_nil))) pe_int (nomark _))))))), ?_⟩
    show DS K _ [.v d] [] _
    try dsimp only [cxOf]
    have no : (∀ a b, d ≠ .tuple [a, b]) → isPart d = false := fun h => by
      unfold isPart
      split
      · rename_i a b; exact absurd rfl (h a b)
      · rfl
    cases d with
    | tuple ds =>
      match ds with
      | [] =>
        rw [no (fun _ _ z => nomatch z)] at q
        walk_at "d"; exact q
      | [_] =>
        rw [no (fun _ _ z => nomatch z)] at q
        walk_at "d"; exact q
      | a :: b :: c :: ds =>
        rw [no (fun _ _ z => nomatch z)] at q
        walk_at "d"; exact q
      | [a, b] =>
        have e : isPart (.tuple [a, b]) = (isWhole a && isWhole b && isPart2 a b) := rfl
        rw [e] at q
        clear no e
        walk_at "d"
        refine ite_nb (fun h => ?_) (fun ha => ?_)
        · rw [h] at q
          walk_at "d"; exact q
        obtain ⟨i, rfl⟩ := isWhole_int ha
        walk_at "d"
        refine ite_nb (fun h => ?_) (fun hb => ?_)
        · rw [h, Bool.and_false] at q
          walk_at "d"; exact q
        obtain ⟨j, rfl⟩ := isWhole_int hb
        have e2 : isPart2 (.int i) (.int j) = (decide (0 < j) && decide (((Int.gcd i j : Nat) : Int) = 1)) := rfl
        rw [ha, hb, Bool.true_and, Bool.true_and, e2] at q
        walk_at "d"
        refine ite_dec (fun h => ?_) (fun h => ?_)
        · rw [decide_eq_true h] at q
          walk_at "d"
          refine ⟨_, _, rfl, by split <;> omega, by omega, ?_⟩
          rw [gcd_abs]
          walk_at "d"
          exact q
        · rw [decide_eq_false h, Bool.false_and] at q
          walk_at "d"
          exact q
    | _ =>
      rw [no (fun _ _ z => nomatch z)] at q
      walk_at "d"
      exact q

def isPair : D → Bool
  | .tuple [_, _] => true
  | _ => false
def sp_is_pair : DSp := fun as Q => ∃ d : D, as = [.v d] ∧ Q (.v (.bool (isPair d))) as
theorem ok_is_pair {P : Program} {w : World} {K : PySem.W.Frag} {mg : Str → Option Value} {base : Heap} {a : Addr} {fd : FuncData} (F : Fun K "is_pair" "is_pair" s_is_pair a fd) (T : Txt K mg) : FnOk P w K mg base CX0 1 a fd ["thing"] (fnS K sp_is_pair) := by
  refine ok_fn F sc_is_pair (by decide) (fun as P h => ?_) (fun cdv A outer s H E hr as P h => ?_)
  · obtain ⟨a, rfl, _⟩ := h; rfl
  · obtain ⟨d, rfl, q⟩ := h
    refine ⟨_, (pss_one (ps_ret (pe_and (pe_callB (k_isi K rfl) (by rfl) T.b_isinstance bt_isinstance (pa_cons (pv 0) (pa_cons (pe_bltn (v := .ty "tuple") (by rfl) T.b_tuple bt_tuple rfl) pa_nil))) (pe_one (pe_cmpR (k_eqD K rfl hr.units) (pe_callB (k_len K rfl) (by rfl) T.b_len bt_len (pa_cons (pv 0) pa_nil)) pe_int (nomark _)))))), ?_⟩
    show DS K _ [.v d] [] _
    try dsimp only [cxOf]
    have no : (∀ a b, d ≠ .tuple [a, b]) → isPair d = false := fun h => by
      unfold isPair
      split
      · rename_i a b; exact absurd rfl (h a b)
      · rfl
    cases d with
    | tuple ds =>
      match ds with
      | [] =>
        rw [no (fun _ _ z => nomatch z)] at q
        walk_at "d"; exact q
      | [_] =>
        rw [no (fun _ _ z => nomatch z)] at q
        walk_at "d"; exact q
      | a :: b :: c :: ds =>
        rw [no (fun _ _ z => nomatch z)] at q
        walk_at "d"
        have e : decide (((a :: b :: c :: ds).length : Int) = 2) = false := decide_eq_false (by simp only [List.length_cons]; omega)
        simp only [e] 
        exact q
      | [a, b] =>
        walk_at "d"; exact q
    | _ =>
      rw [no (fun _ _ z => nomatch z)] at q
      walk_at "d"; exact q

def isNmT (z : Str) : Bool := decide (1 ≤ (z.length : Int)) && decide ((z.length : Int) ≤ 6) && (z.cps.toList.all fun c => decide (c ∈ abc.cps.toList))
def isName : D → Bool
  | .str z => isNmT z
  | _ => false
def sp_is_name : DSp := fun as Q => ∃ d : D, as = [.v d] ∧ (∀ z, d = .str z → z.length ≤ sizeLine) ∧ Q (.v (.bool (isName d))) as
theorem ok_is_name {P : Program} {w : World} {K : PySem.W.Frag} {mg : Str → Option Value} {base : Heap} {a : Addr} {fd : FuncData} (F : Fun K "is_name" "is_name" s_is_name a fd) (T : Txt K mg) {t_LONGEST} (g_LONGEST : mg "LONGEST" = some (.int 6 t_LONGEST)) {t_LETTERS} (g_LETTERS : mg "LETTERS" = some (.str "abcdefghijklmnopqrstuvwxyz" t_LETTERS)) : FnOk P w K mg base CX0 1 a fd ["thing"] (fnS K sp_is_name) := by
  refine ok_fn F sc_is_name (by decide) (fun as P h => ?_) (fun cdv A outer s H E hr as P h => ?_)
  · obtain ⟨a, rfl, _⟩ := h; rfl
  · obtain ⟨d, rfl, hz, q⟩ := h
    refine ⟨_, (pss_cons (ps_if (PW.pt (pw_or (pt_not (pt_val (pe_callB (k_isi K rfl) (by rfl) T.b_isinstance bt_isinstance (pa_cons (pv 0) (pa_cons (pe_bltn (v := .ty "str") (by rfl) T.b_str bt_str rfl) pa_nil))))) (pw_or1 (pt_not (pt_chain op_le op_le pe_int (pe_callB (k_len K rfl) (by rfl) T.b_len bt_len (pa_cons (pv 0) pa_nil)) (pe_glob (v := .int 6) (by rfl) g_LONGEST ⟨_, rfl⟩))))))
      (pss_one (ps_ret pe_bl))
      pss_nil)
    (pss_one (ps_ret (pe_callB (k_all K rfl (by rfl)) (by rfl) T.b_all bt_all (pa_cons (pe_lc (own := [("sign", 1)]) rfl sc_is_name.nd (pi_str (pv 0)) (blkOk_by (N := N_is_name) (sc := defScope s_is_name) (by decide +kernel)) (fun _ _ _ _ _ => (pg_name (i := 1) sc_is_name.nd rfl (Or.inl rfl))) (fun _ _ _ _ _ => pts_nil) (fun _ _ _ _ _ => (pe_cmpR (op_in_any K rfl hr.units65) (pv 1) (pe_glob (v := .str "abcdefghijklmnopqrstuvwxyz") (by rfl) g_LETTERS ⟨_, rfl⟩) (by rfl)))) pa_nil))))), ?_⟩
    show DS K _ [.v d, .no] [] _
    try dsimp only [cxOf]
    cases d with
    | str z =>
      have hz := hz z rfl
      have e : isName (.str z) = isNmT z := rfl
      rw [e] at q
      walk_at "d"
      refine opc_lenS hz ?_
      walk_at "d"
      refine ⟨_, _, rfl, rfl, ?_⟩
      walk_at "d"
      unfold isNmT at q
      refine ite_dec (fun h1 => ?_) (fun h1 => ?_)
      · rw [decide_eq_true h1, Bool.true_and] at q
        walk_at "d"
        refine ite_ndec (fun h2 => ?_) (fun h2 => ?_)
        · rw [decide_eq_false h2, Bool.false_and] at q
          walk_at "d"; exact q
        · rw [decide_eq_true h2, Bool.true_and] at q
          have h6 : z.length ≤ 6 := by omega
          walk_at "d"
          refine de_lcY (gw_name List.mem_cons_self) z.cps.toList (fun c => .str ⟨#[c]⟩) (fun c => .bool (decide (c ∈ abc.cps.toList))) (di_str ?_)
          walk_at "d"
          refine ⟨rfl, all_in1 ⟨rfl, rfl⟩, trivial, ?_, ?_, rfl, ?_⟩
          · unfold signsD
            rw [List.length_map]
            exact Nat.le_trans (show z.cps.toList.length ≤ 6 from h6) (by decide)
          · intro c hc acc
            walk_at "d"
            refine op2_inS ?_
            exact ⟨_, rfl, rfl, rfl⟩
          · walk_at "d"
            refine opc_allG rfl ?_
            walk_at "d"
            exact q
      · rw [decide_eq_false h1, Bool.false_and, Bool.false_and] at q
        walk_at "d"; exact q
    | _ =>
      walk_at "d"; exact q



def sp_plus : DSp := fun as Q => ∃ a b : Rat, as = [.v (pq a), .v (pq b)] ∧ BQ 3900 a ∧ BQ 3900 b ∧ Q (.v (pq (a + b))) as
theorem ok_plus {P : Program} {w : World} {K : PySem.W.Frag} {mg : Str → Option Value} {base : Heap} {a : Addr} {fd : FuncData} (F : Fun K "plus" "plus" s_plus a fd) (T : Txt K mg) (c_part_of : Cal P w K mg base 2 "part_of" ["top", "bottom"] sp_part_of) : FnOk P w K mg base CX0 3 a fd ["a", "b"] (fnS K sp_plus) := by
  refine ok_fn F sc_plus (by decide) (fun as P h => ?_) (fun cdv A outer s H E hr as P h => ?_)
  · obtain ⟨a, b, rfl, _⟩ := h; rfl
  · obtain ⟨a, b, rfl, ⟨ha1, ha2⟩, ⟨hb1, hb2⟩, q⟩ := h
    refine ⟨_, (pss_one (ps_ret (k_cal K rfl c_part_of (hr.mono (by decide)) (by rfl) (pa_cons (pe_op op_addS (pe_op op_mulA (pe_ix (k_ix K rfl) (pv 0) pe_int (fun _ _ => rfl)) (pe_ix (k_ix K rfl) (pv 1) pe_int (fun _ _ => rfl))) (pe_op op_mulA (pe_ix (k_ix K rfl) (pv 1) pe_int (fun _ _ => rfl)) (pe_ix (k_ix K rfl) (pv 0) pe_int (fun _ _ => rfl)))) (pa_cons (pe_op op_mulA (pe_ix (k_ix K rfl) (pv 0) pe_int (fun _ _ => rfl)) (pe_ix (k_ix K rfl) (pv 1) pe_int (fun _ _ => rfl))) pa_nil))))), ?_⟩
    rw [← pq_add] at q
    have c1 : CMulX a.num b.den := ha1.mulX hb2 (by decide)
    have c2 : CMulX b.num a.den := hb1.mulX ha2 (by decide)
    have c3 : CMulX (a.den : Int) b.den := ha2.mulX hb2 (by decide)
    have hp : (a.den : Int) * b.den ≠ 0 := Int.mul_ne_zero (den_ne a) (den_ne b)
    have hb : Bd 8000 ((a.den : Int) * b.den) := (ha2.mul hb2).mono (by decide)
    dsimp only [pq] at q ⊢
    generalize (a.den : Int) = ad at *
    generalize (b.den : Int) = bd at *
    show DS K _ [.v (.tuple [.int a.num, .int ad]), .v (.tuple [.int b.num, .int bd])] [] _
    try dsimp only [cxOf]
    walk_at "d"
    refine ⟨_, _, rfl, hp, hb, ?_⟩
    walk_at "d"
    exact q

def sp_is_less : DSp := fun as Q => ∃ a b : Rat, as = [.v (pq a), .v (pq b)] ∧ BQ 3900 a ∧ BQ 3900 b ∧ Q (.v (.bool (decide (a < b)))) as
theorem ok_is_less {P : Program} {w : World} {K : PySem.W.Frag} {mg : Str → Option Value} {base : Heap} {a : Addr} {fd : FuncData} (F : Fun K "is_less" "is_less" s_is_less a fd) (T : Txt K mg) : FnOk P w K mg base CX0 1 a fd ["a", "b"] (fnS K sp_is_less) := by
  refine ok_fn F sc_is_less (by decide) (fun as P h => ?_) (fun cdv A outer s H E hr as P h => ?_)
  · obtain ⟨a, b, rfl, _⟩ := h; rfl
  · obtain ⟨a, b, rfl, ⟨ha1, ha2⟩, ⟨hb1, hb2⟩, q⟩ := h
    refine ⟨_, (pss_one (ps_ret (pe_cmpR op_lt (pe_op op_mulA (pe_ix (k_ix K rfl) (pv 0) pe_int (fun _ _ => rfl)) (pe_ix (k_ix K rfl) (pv 1) pe_int (fun _ _ => rfl))) (pe_op op_mulA (pe_ix (k_ix K rfl) (pv 1) pe_int (fun _ _ => rfl)) (pe_ix (k_ix K rfl) (pv 0) pe_int (fun _ _ => rfl))) (nomark _)))), ?_⟩
    rw [← lt_num] at q
    have c1 : CMulX a.num b.den := ha1.mulX hb2 (by decide)
    have c2 : CMulX b.num a.den := hb1.mulX ha2 (by decide)
    dsimp only [pq] at q ⊢
    generalize (a.den : Int) = ad at *
    generalize (b.den : Int) = bd at *
    show DS K _ [.v (.tuple [.int a.num, .int ad]), .v (.tuple [.int b.num, .int bd])] [] _
    try dsimp only [cxOf]
    walk_at "d"
    exact q

theorem foldl_snoc {ps : List Rat} {k : Nat} {x : Rat} (h : ps[k]? = some x) : (ps.take (k + 1)).foldl (· + ·) 0 = (ps.take k).foldl (· + ·) (0 : Rat) + x := by
  rw [take_snoc' h, List.foldl_append]; rfl
def sp_sum_of : DSp := fun as Q => ∃ (p : SD) (ps : List Rat), as = [p] ∧ isL p (ps.map pq) ∧ (∀ x ∈ ps, BQ 3800 x) ∧ (∀ k, BQ 3800 ((ps.take k).foldl (· + ·) 0)) ∧ Q (.v (pq (ps.foldl (· + ·) 0))) as
theorem ok_sum_of {P : Program} {w : World} {K : PySem.W.Frag} {mg : Str → Option Value} {base : Heap} {a : Addr} {fd : FuncData} (F : Fun K "sum_of" "sum_of" s_sum_of a fd) (T : Txt K mg) {p_NOUGHT : Addr} (g_NOUGHT : mg "NOUGHT" = some (.ref p_NOUGHT)) (r_NOUGHT : ∀ C H, Rp K C H (.ref p_NOUGHT) (.tuple [.int 0, .int 1])) (c_plus : Cal P w K mg base 3 "plus" ["a", "b"] sp_plus) : FnOk P w K mg base CX0 4 a fd ["parts"] (fnS K sp_sum_of) := by
  refine ok_fn F sc_sum_of (by decide) (fun as P h => ?_) (fun cdv A outer s H E hr as P h => ?_)
  · obtain ⟨a, b, rfl, _⟩ := h; rfl
  · obtain ⟨p, ps, rfl, hp, hg, hs, q⟩ := h
    refine ⟨_, (pss_cons (ps_set (i := 1) sc_sum_of.nd rfl (Or.inl rfl) (pe_glob (v := .ref p_NOUGHT) (by rfl) g_NOUGHT rfl))
    (pss_cons (ps_for PassesOwn.never rfl (k_iany K rfl (pv 0)) (pg_name (i := 2) sc_sum_of.nd rfl (Or.inl rfl))
      (pss_one (ps_set (i := 1) sc_sum_of.nd rfl (Or.inl rfl) (k_cal K rfl c_plus (hr.mono (by decide)) (by rfl) (pa_cons (pv 1) (pa_cons (pv 2) pa_nil))))))
    (pss_one (ps_ret (pv 1))))), ?_⟩
    show DS K _ [p, .no, .no] [] _
    try dsimp only [cxOf]
    rcases hp with hp | ⟨j, hp⟩
    all_goals
      rw [hp]
      walk_at "d"
      refine ds_for (di_anyL ?_)
      walk_at "d"
      refine ⟨fun k s => ∃ x2 : SD, s = [p, .v (pq ((ps.take k).foldl (· + ·) 0)), x2], ⟨_, by rw [hp]; rfl⟩, ?_, ?_, ?_⟩
      · rintro k s _ ⟨x2, rfl⟩; subst hp; rfl
      · rintro k d s hd ⟨x2, rfl⟩
        obtain ⟨x, hx, rfl⟩ := pq_get hd
        have e := foldl_snoc hx
        subst hp
        walk_at "d"
        refine ⟨_, _, rfl, (hs k).mono (by decide), (hg x (List.mem_of_getElem? hx)).mono (by decide), ?_⟩
        walk_at "d"
        exact ⟨_, by rw [e]⟩
      · rintro s ⟨x2, rfl⟩
        rw [List.length_map, List.take_length]
        subst hp
        walk_at "d"
        exact q

def nonNeg : D → Bool
  | .tuple [.int i, _] => decide (0 ≤ i)
  | _ => false
def isShare : D → Bool
  | .tuple [n, w] => isName n && (isPart w && nonNeg w)
  | _ => false
theorem isPair_two {d : D} (h : isPair d = true) : ∃ a b, d = .tuple [a, b] := by
  unfold isPair at h
  split at h
  · exact ⟨_, _, rfl⟩
  · cases h
theorem isPart_pq {w : D} (h : isPart w = true) : ∃ q : Rat, w = pq q := by
  unfold isPart at h
  split at h
  · rename_i a b
    have h1 := (Bool.and_eq_true_iff.mp h).1
    have h2 := (Bool.and_eq_true_iff.mp h).2
    obtain ⟨i, rfl⟩ := isWhole_int (Bool.and_eq_true_iff.mp h1).1
    obtain ⟨j, rfl⟩ := isWhole_int (Bool.and_eq_true_iff.mp h1).2
    have h3 : (decide (0 < j) && decide (((Int.gcd i j : Nat) : Int) = 1)) = true := h2
    have hj := of_decide_eq_true (Bool.and_eq_true_iff.mp h3).1
    have hg := of_decide_eq_true (Bool.and_eq_true_iff.mp h3).2
    obtain ⟨e1, e2⟩ := divInt_red hj (Int.ofNat.inj hg)
    exact ⟨Rat.divInt i j, by unfold pq; rw [e1, e2]⟩
  · cases h
theorem isPart_of (q : Rat) : isPart (pq q) = true := by
  have h : (decide (0 < (q.den : Int)) && decide (((Int.gcd q.num q.den : Nat) : Int) = 1)) = true := by
    rw [decide_eq_true (den_gt q), Bool.true_and]
    refine decide_eq_true ?_
    have := q.reduced
    unfold Int.gcd
    rw [Int.natAbs_natCast]
    exact congrArg Nat.cast this
  exact h
theorem nonNeg_pq (q : Rat) : nonNeg (pq q) = !decide (q < 0) := by
  have h : nonNeg (pq q) = decide (0 ≤ q.num) := rfl
  rw [h]
  have := Rat.num_nonneg (q := q)
  by_cases e : q < 0
  · rw [decide_eq_true e]; exact decide_eq_false (fun z => by have := this.mp z; grind)
  · rw [decide_eq_false e]; exact decide_eq_true (this.mpr (by grind))
/-- a name's text, or what is none, of a line's length at most -/
def nmLen (d : D) : Prop := ∀ z, d = .str z → z.length ≤ sizeLine
/-- what stands at a share's place: bounded when a part -/
def shBd (d : D) : Prop := ∀ q : Rat, d = pq q → BQ 3800 q
def sp_is_share : DSp := fun as Q => ∃ d : D, as = [.v d] ∧ (∀ n w, d = .tuple [n, w] → nmLen n ∧ shBd w) ∧ Q (.v (.bool (isShare d))) as
theorem ok_is_share {P : Program} {w : World} {K : PySem.W.Frag} {mg : Str → Option Value} {base : Heap} {a : Addr} {fd : FuncData} (F : Fun K "is_share" "is_share" s_is_share a fd) (T : Txt K mg) {p_NOUGHT : Addr} (g_NOUGHT : mg "NOUGHT" = some (.ref p_NOUGHT)) (r_NOUGHT : ∀ C H, Rp K C H (.ref p_NOUGHT) (.tuple [.int 0, .int 1])) (c_is_pair : Cal P w K mg base 1 "is_pair" ["thing"] sp_is_pair) (c_is_name : Cal P w K mg base 1 "is_name" ["thing"] sp_is_name) (c_is_part : Cal P w K mg base 2 "is_part" ["thing"] sp_is_part) (c_is_less : Cal P w K mg base 1 "is_less" ["a", "b"] sp_is_less) : FnOk P w K mg base CX0 3 a fd ["thing"] (fnS K sp_is_share) := by
  refine ok_fn F sc_is_share (by decide) (fun as P h => ?_) (fun cdv A outer s H E hr as P h => ?_)
  · obtain ⟨a, rfl, _⟩ := h; rfl
  · obtain ⟨d, rfl, hz, q⟩ := h
    refine ⟨_, (pss_one (ps_ret (pe_and (k_cal K rfl c_is_pair (hr.mono (by decide)) (by rfl) (pa_cons (pv 0) pa_nil)) (pe_and (k_cal K rfl c_is_name (hr.mono (by decide)) (by rfl) (pa_cons (pe_ix (k_ix K rfl) (pv 0) pe_int (fun _ _ => rfl)) pa_nil)) (pe_and (k_cal K rfl c_is_part (hr.mono (by decide)) (by rfl) (pa_cons (pe_ix (k_ix K rfl) (pv 0) pe_int (fun _ _ => rfl)) pa_nil)) (pe_one (pe_not (k_cal K rfl c_is_less (hr.mono (by decide)) (by rfl) (pa_cons (pe_ix (k_ix K rfl) (pv 0) pe_int (fun _ _ => rfl)) (pa_cons (pe_glob (v := .ref p_NOUGHT) (by rfl) g_NOUGHT rfl) pa_nil)))))))))), ?_⟩
    show DS K _ [.v d] [] _
    try dsimp only [cxOf]
    have no : isPair d = false → isShare d = false := fun h => by
      unfold isShare
      split
      · cases h
      · rfl
    walk_at "d"
    cases hp : isPair d with
    | false =>
      rw [no hp] at q
      walk_at "d"; exact q
    | true =>
      obtain ⟨n, w, rfl⟩ := isPair_two hp
      have e : isShare (.tuple [n, w]) = (isName n && (isPart w && nonNeg w)) := rfl
      rw [e] at q
      obtain ⟨hn, hw⟩ := hz n w rfl
      walk_at "d"
      refine ⟨hn, ?_⟩
      walk_at "d"
      cases hb : isName n with
      | false =>
        rw [hb] at q
        walk_at "d"; exact q
      | true =>
        rw [hb, Bool.true_and] at q
        walk_at "d"
        cases hc : isPart w with
        | false =>
          rw [hc] at q
          walk_at "d"; exact q
        | true =>
          rw [hc, Bool.true_and] at q
          obtain ⟨x, rfl⟩ := isPart_pq hc
          rw [nonNeg_pq] at q
          walk_at "d"
          refine ⟨x, 0, rfl, (hw x rfl).mono (by decide), .zero, ?_⟩
          walk_at "d"
          exact q

theorem zipD_zip {α β : Type} (f : α → D) (g : β → D) : ∀ (xs : List α) (ys : List β), zipD (xs.map f) (ys.map g) = (xs.zip ys).map fun z => .tuple [f z.1, g z.2]
  | [], ys => by cases ys <;> rfl
  | x :: xs, [] => rfl
  | x :: xs, y :: ys => by
    have := zipD_zip f g xs ys
    unfold zipD at *
    rw [List.map_cons, List.map_cons, List.zipWith_cons_cons, this]; rfl
theorem cutD_take {α : Type} (f : α → D) (xs : List α) {m : Nat} : cutD (xs.map f) none (some (m : Int)) = (xs.take m).map f := by
  unfold cutD
  rw [HT.sIx_none, HT.sIx_nat, List.map_take]
  simp only [List.drop_zero, Nat.sub_zero]
  exact (List.take_eq_take_min).symm
theorem cutD_drop {α : Type} (f : α → D) (xs : List α) {m : Nat} : cutD (xs.map f) (some (m : Int)) none = (xs.drop m).map f := by
  unfold cutD
  rw [HT.sIx_nat, HT.sIx_none, List.map_drop]
  by_cases h : m ≤ (xs.map f).length
  · rw [Nat.min_eq_left h]
    exact List.take_of_length_le (by simp)
  · rw [Nat.min_eq_right (by omega), List.drop_eq_nil_of_le (Nat.le_refl _), List.drop_eq_nil_of_le (by omega), List.take_nil]

def ltT (a b : Str) : Bool := decide (a.cps.toList < b.cps.toList)
def areOth (g : Str) (ns : List Str) : Bool := !(ns.any fun n => PyData.eqv (.str n) (.str g)) && ((ns.zip (ns.drop 1)).all fun p => ltT p.1 p.2)
theorem sh_txts {ns : List Str} (h : ∀ n ∈ ns, tOk n) : SeqAt.shaped (.list (ns.map .str)) = true :=
  Shp.ok (n := 1) (.lmap fun n hn => ⟨(Bool.and_eq_true_iff.mp (h n hn).str).1, Nat.le_refl _⟩) (by decide)
def sp_are_others : DSp := fun as Q => ∃ (p : SD) (g : Str) (ns : List Str), as = [.v (.str g), p] ∧ isL p (ns.map .str) ∧ ns.length ≤ 1000 ∧ tOk g ∧ (∀ n ∈ ns, tOk n) ∧ Q (.v (.bool (areOth g ns))) as
theorem ok_are_others {P : Program} {w : World} {K : PySem.W.Frag} {mg : Str → Option Value} {base : Heap} {a : Addr} {fd : FuncData} (F : Fun K "are_others" "are_others" s_are_others a fd) (T : Txt K mg) : FnOk P w K mg base CX0 1 a fd ["gauge", "names"] (fnS K sp_are_others) := by
  refine ok_fn F sc_are_others (by decide) (fun as P h => ?_) (fun cdv A outer s H E hr as P h => ?_)
  · obtain ⟨a, b, c, rfl, _⟩ := h; rfl
  · obtain ⟨p, g, ns, rfl, hp, hl, hg, hn, q⟩ := h
    refine ⟨_, (pss_one (ps_ret (pe_and (pe_cmpR (op_notIn_any K rfl hr.units65) (pv 0) (pv 1) (by rfl)) (pe_one (pe_callB (k_all K rfl (by rfl)) (by rfl) T.b_all bt_all (pa_cons (pe_lc (own := [("one", 2), ("other", 3)]) rfl sc_are_others.nd (k_zip K rfl (by rfl) T.b_zip (pa_cons (pv 1) (pa_cons (pe_slice (k_sl K rfl) (pv 1) (po_some pe_int) po_none) pa_nil))) (blkOk_by (N := N_are_others) (sc := defScope s_are_others) (by decide +kernel)) (fun _ _ _ _ _ => (k_gtup K rfl (n := 2) (by rfl) (pgs_cons (pg_name (i := 2) sc_are_others.nd rfl (Or.inl rfl)) (pgs_cons (pg_name (i := 3) sc_are_others.nd rfl (Or.inl rfl)) pgs_nil)))) (fun _ _ _ _ _ => pts_nil) (fun _ _ _ _ _ => (pe_cmpR op_ltS (pv 2) (pv 3) (nomark _)))) pa_nil)))))), ?_⟩
    show DS K _ [.v (.str g), p, .no, .no] [] _
    try dsimp only [cxOf]
    have e : areOth g ns = (!(ns.any fun n => PyData.eqv (.str n) (.str g)) && ((ns.zip (ns.drop 1)).all fun p => ltT p.1 p.2)) := rfl
    rw [e] at q
    rcases hp with hp | ⟨j, hp⟩
    all_goals
      subst hp
      walk_at "d"
      refine op2_notIn rfl rfl hg.str (sh_txts hn) ?_
      rw [List.any_map]
      refine ⟨_, rfl, ?_⟩
      cases hb : (ns.any fun n => PyData.eqv (.str n) (.str g)) with
      | true =>
        rw [hb] at q
        refine iteFR (by show (!(ns.any fun n => PyData.eqv (.str n) (.str g))) = false; rw [hb]; rfl) ?_
        walk_at "d"; exact q
      | false =>
        rw [hb] at q
        refine iteTR (by show (!(ns.any fun n => PyData.eqv (.str n) (.str g))) = true; rw [hb]; rfl) ?_
        walk_at "d"
        refine de_lcY (gw_pair (by decide) (by decide)) (ns.zip (ns.drop 1)) (fun p => .tuple [.str p.1, .str p.2]) (fun p => .bool (ltT p.1 p.2)) (di_zip ?_)
        walk_at "d"
        have ec : cutD (ns.map PyData.str) (some 1) none = (ns.drop 1).map .str := cutD_drop PyData.str ns (m := 1)
        rw [ec]
        refine ⟨_, _, _, _, rfl, rfl, rfl, zipD_zip _ _ ns (ns.drop 1), all_in2 ⟨rfl, rfl⟩ ⟨rfl, rfl⟩, ⟨rfl, rfl⟩, ?_, ?_, rfl, ?_⟩
        · rw [zipD_zip, List.length_map, List.length_zip]; omega
        · rintro ⟨a, b⟩ hz acc
          walk_at "clean"
          walk_at "d"
          refine op2_ltS ?_
          exact ⟨_, rfl, rfl, rfl⟩
        · walk_at "clean"
          walk_at "d"
          refine opc_allG rfl ?_
          walk_at "d"
          exact q



def shD (x : Str × Rat) : D := .tuple [.str x.1, pq x.2]
def nmGood (n : D) : Prop := ∀ z, n = .str z → z.length ≤ sizeLine ∧ tOk z
def shGood (o : D) : Prop := ∀ n w, o = .tuple [n, w] → nmGood n ∧ ∀ q : Rat, w = pq q → BQ 400 q
def RuleIn (d : D) : Prop := ∀ n w, d = .tuple [n, w] → nmGood n ∧ ∀ os, w = .tuple os → ∀ o ∈ os, shGood o
def RuleX (g : Str) (xs : List (Str × Rat)) : Prop := isNmT g = true ∧ 1 ≤ xs.length ∧ xs.length ≤ 7 ∧ (∀ x ∈ xs, isNmT x.1 = true ∧ ¬ x.2 < 0) ∧ areOth g (xs.map Prod.fst) = true ∧ (xs.map Prod.snd).foldl (· + ·) 0 = (1 : Rat)
def RuleP (d : D) : Prop := ∃ g xs, d = .tuple [.str g, .tuple (xs.map shD)] ∧ RuleX g xs
theorem isName_str {d : D} (h : isName d = true) : ∃ z, d = .str z ∧ isNmT z = true := by
  unfold isName at h
  split at h
  · exact ⟨_, rfl, h⟩
  · cases h
theorem isShare_ex {d : D} (h : isShare d = true) : ∃ x : Str × Rat, d = shD x ∧ isNmT x.1 = true ∧ ¬ x.2 < 0 := by
  unfold isShare at h
  split at h
  · obtain ⟨h1, h2⟩ := Bool.and_eq_true_iff.mp h
    obtain ⟨h2, h3⟩ := Bool.and_eq_true_iff.mp h2
    obtain ⟨z, rfl, hz⟩ := isName_str h1
    obtain ⟨q, rfl⟩ := isPart_pq h2
    rw [nonNeg_pq] at h3
    refine ⟨(z, q), rfl, hz, ?_⟩
    simpa using h3
  · cases h
theorem isShare_of {x : Str × Rat} (h1 : isNmT x.1 = true) (h2 : ¬ x.2 < 0) : isShare (shD x) = true := by
  have e : isShare (shD x) = (isNmT x.1 && (isPart (pq x.2) && nonNeg (pq x.2))) := rfl
  rw [e, h1, isPart_of, nonNeg_pq, decide_eq_false h2]; rfl
theorem isShares_ex : ∀ {os : List D}, os.all isShare = true → ∃ xs : List (Str × Rat), os = xs.map shD ∧ ∀ x ∈ xs, isNmT x.1 = true ∧ ¬ x.2 < 0
  | [], _ => ⟨[], rfl, fun _ h => nomatch h⟩
  | d :: os, h => by
    rw [List.all_cons] at h
    obtain ⟨h1, h2⟩ := Bool.and_eq_true_iff.mp h
    obtain ⟨x, rfl, hx⟩ := isShare_ex h1
    obtain ⟨xs, rfl, hxs⟩ := isShares_ex h2
    exact ⟨x :: xs, rfl, fun y hy => by
      rcases List.mem_cons.mp hy with rfl | hy
      · exact hx
      · exact hxs y hy⟩
theorem bq_sums {n : Nat} : ∀ (ps : List Rat) (m : Nat) (a : Rat), BQ m a → (∀ x ∈ ps, BQ n x) → BQ (m + (n + 1) * ps.length) (ps.foldl (· + ·) a)
  | [], m, a, h, _ => by simpa using h
  | p :: ps, m, a, h, hp => by
    have := bq_sums ps (m + n + 1) (a + p) (h.add (hp p List.mem_cons_self)) fun x hx => hp x (List.mem_cons_of_mem _ hx)
    refine this.mono ?_
    rw [List.length_cons, Nat.mul_add]; omega
theorem no_rule {d : D} (h : ∀ g xs, d = .tuple [.str g, .tuple (xs.map shD)] → RuleX g xs → False) : false = true ↔ RuleP d := ⟨fun z => (by cases z), fun ⟨g, xs, e, r⟩ => (h g xs e r).elim⟩
theorem nmT_ok {z : Str} (h : nmGood (.str z)) : tOk z := (h z rfl).2
theorem pq_inj {a b : Rat} (h : pq a = pq b) : a = b := by
  have := eqv_pq a b
  rw [h, eqv_pq] at this
  simpa using this.symm
theorem shD_inj : ∀ {xs ys : List (Str × Rat)}, xs.map shD = ys.map shD → xs = ys
  | [], [], _ => rfl
  | [], _ :: _, h => by cases h
  | _ :: _, [], h => by cases h
  | (a, p) :: xs, (b, r) :: ys, h => by
    rw [List.map_cons, List.map_cons] at h
    injection h with h1 h2
    injection h1 with h1
    injection h1 with h1 h3
    injection h1 with h1
    injection h3 with h3 _
    have h1 : a = b := h1
    have h3 : p = r := pq_inj h3
    rw [h1, h3, shD_inj h2]
def sp_is_rule : DSp := fun as Q => ∃ d : D, as = [.v d] ∧ RuleIn d ∧ ∀ b, (b = true ↔ RuleP d) → Q (.v (.bool b)) as
theorem ok_is_rule {P : Program} {w : World} {K : PySem.W.Frag} {mg : Str → Option Value} {base : Heap} {a : Addr} {fd : FuncData} (F : Fun K "is_rule" "is_rule" s_is_rule a fd) (T : Txt K mg) {t_MOST_OTHERS} (g_MOST_OTHERS : mg "MOST_OTHERS" = some (.int 7 t_MOST_OTHERS)) {p_ONE : Addr} (g_ONE : mg "ONE" = some (.ref p_ONE)) (r_ONE : ∀ C H, Rp K C H (.ref p_ONE) (.tuple [.int 1, .int 1])) (c_are_others : Cal P w K mg base 1 "are_others" ["gauge", "names"] sp_are_others) (c_is_pair : Cal P w K mg base 1 "is_pair" ["thing"] sp_is_pair) (c_is_name : Cal P w K mg base 1 "is_name" ["thing"] sp_is_name) (c_sum_of : Cal P w K mg base 4 "sum_of" ["parts"] sp_sum_of) (c_is_share : Cal P w K mg base 3 "is_share" ["thing"] sp_is_share) : FnOk P w K mg base CX0 5 a fd ["thing"] (fnS K sp_is_rule) := by
  refine ok_fn F sc_is_rule (by decide) (fun as P h => ?_) (fun cdv A outer s H E hr as P h => ?_)
  · obtain ⟨a, rfl, _⟩ := h; rfl
  · obtain ⟨d, rfl, hd, q⟩ := h
    refine ⟨_, (pss_cons (ps_if (PW.pt (pw_or (pt_not (pt_val (k_cal K rfl c_is_pair (hr.mono (by decide)) (by rfl) (pa_cons (pv 0) pa_nil)))) (pw_or (pt_not (pt_val (k_cal K rfl c_is_name (hr.mono (by decide)) (by rfl) (pa_cons (pe_ix (k_ix K rfl) (pv 0) pe_int (fun _ _ => rfl)) pa_nil)))) (pw_or1 (pt_not (pt_val (pe_callB (k_isi K rfl) (by rfl) T.b_isinstance bt_isinstance (pa_cons (pe_ix (k_ix K rfl) (pv 0) pe_int (fun _ _ => rfl)) (pa_cons (pe_bltn (v := .ty "tuple") (by rfl) T.b_tuple bt_tuple rfl) pa_nil)))))))))
      (pss_one (ps_ret pe_bl))
      pss_nil)
    (pss_cons (ps_asg (pv 0) (k_gtup K rfl (n := 2) (by rfl) (pgs_cons (pg_name (i := 1) sc_is_rule.nd rfl (Or.inl rfl)) (pgs_cons (pg_name (i := 2) sc_is_rule.nd rfl (Or.inl rfl)) pgs_nil))))
    (pss_cons (ps_if (PW.pt (pw_or (pt_not (pt_chain op_le op_le pe_int (pe_callB (k_len K rfl) (by rfl) T.b_len bt_len (pa_cons (pv 2) pa_nil)) (pe_glob (v := .int 7) (by rfl) g_MOST_OTHERS ⟨_, rfl⟩))) (pw_or1 (pt_not (pt_val (pe_callB (k_all K rfl (by rfl)) (by rfl) T.b_all bt_all (pa_cons (pe_lc (own := [("one", 5)]) rfl sc_is_rule.nd (k_iany K rfl (pv 2)) (blkOk_by (N := N_is_rule) (sc := defScope s_is_rule) (by decide +kernel)) (fun _ _ _ _ _ => (pg_name (i := 5) sc_is_rule.nd rfl (Or.inl rfl))) (fun _ _ _ _ _ => pts_nil) (fun _ _ _ _ _ => (k_cal K rfl c_is_share (hr.mono (by decide)) (by rfl) (pa_cons (pv 5) pa_nil)))) pa_nil)))))))
      (pss_one (ps_ret pe_bl))
      pss_nil)
    (pss_one (ps_ret (pe_and (k_cal K rfl c_are_others (hr.mono (by decide)) (by rfl) (pa_cons (pv 1) (pa_cons (pe_lc (own := [("name", 3), ("share", 4)]) rfl sc_is_rule.nd (k_iany K rfl (pv 2)) (blkOk_by (N := N_is_rule) (sc := defScope s_is_rule) (by decide +kernel)) (fun _ _ _ _ _ => (k_gtup K rfl (n := 2) (by rfl) (pgs_cons (pg_name (i := 3) sc_is_rule.nd rfl (Or.inl rfl)) (pgs_cons (pg_name (i := 4) sc_is_rule.nd rfl (Or.inl rfl)) pgs_nil)))) (fun _ _ _ _ _ => pts_nil) (fun _ _ _ _ _ => (pv 3))) pa_nil))) (pe_one (pe_cmpR (k_eqD K rfl hr.units) (k_cal K rfl c_sum_of (hr.mono (by decide)) (by rfl) (pa_cons (pe_lc (own := [("name", 3), ("share", 4)]) rfl sc_is_rule.nd (k_iany K rfl (pv 2)) (blkOk_by (N := N_is_rule) (sc := defScope s_is_rule) (by decide +kernel)) (fun _ _ _ _ _ => (k_gtup K rfl (n := 2) (by rfl) (pgs_cons (pg_name (i := 3) sc_is_rule.nd rfl (Or.inl rfl)) (pgs_cons (pg_name (i := 4) sc_is_rule.nd rfl (Or.inl rfl)) pgs_nil)))) (fun _ _ _ _ _ => pts_nil) (fun _ _ _ _ _ => (pv 4))) pa_nil)) (pe_glob (v := .ref p_ONE) (by rfl) g_ONE rfl) (nomark _))))))))), ?_⟩
    show DS K _ [.v d, .no, .no, .no, .no, .no] [] _
    try dsimp only [cxOf]
    walk_at "d"
    cases hp : isPair d with
    | false =>
      walk_at "d"
      refine q false (no_rule fun g xs e _ => ?_)
      subst e; cases hp
    | true =>
      obtain ⟨n, w, rfl⟩ := isPair_two hp
      obtain ⟨hn, hw⟩ := hd n w rfl
      walk_at "d"
      refine ⟨fun z e => (hn z e).1, ?_⟩
      walk_at "d"
      cases hb : isName n with
      | false =>
        walk_at "d"
        refine q false (no_rule fun g xs e r => ?_)
        cases e
        have := r.1
        have e2 : isName (.str g) = isNmT g := rfl
        rw [hb] at e2; rw [← e2] at this; cases this
      | true =>
        obtain ⟨g, rfl, hg⟩ := isName_str hb
        walk_at "d"
        have nt : (∀ os, w ≠ .tuple os) → (false = true ↔ RuleP (.tuple [.str g, w])) := fun h => no_rule fun g xs e r => by cases e; exact h _ rfl
        cases w with
        | tuple os =>
          have hw := hw os rfl
          walk_at "d"
          refine ⟨_, _, rfl, rfl, ?_⟩
          walk_at "d"
          have bad : ¬ (1 ≤ os.length ∧ os.length ≤ 7) → (false = true ↔ RuleP (.tuple [.str g, .tuple os])) := fun h => no_rule fun g' xs e r => by
            cases e
            rw [List.length_map] at h
            exact h ⟨r.2.1, r.2.2.1⟩
          refine ite_dec (fun h1 => ?_) (fun h1 => ?_)
          · walk_at "d"
            refine ite_ndec (fun h2 => ?_) (fun h2 => ?_)
            · walk_at "d"
              exact q false (bad fun z => by omega)
            · have hl : os.length ≤ 7 := by omega
              have hl1 : 1 ≤ os.length := by omega
              clear bad nt
              walk_at "d"
              refine de_lcY (gw_name List.mem_cons_self) os id (fun o => .bool (isShare o)) (di_anyT ?_)
              walk_at "d"
              refine ⟨os.map_id.symm, all_in1 ⟨rfl, rfl⟩, trivial, by omega, ?_, rfl, ?_⟩
              · intro o ho acc
                walk_at "d"
                refine ⟨fun n w e => ⟨fun z ez => ((hw o ho n w e).1 z ez).1, fun q hq => ((hw o ho n w e).2 q hq).mono (by decide)⟩, ?_⟩
                walk_at "d"
                exact ⟨rfl, rfl⟩
              · walk_at "clean"
                walk_at "d"
                cases hall : os.all isShare with
                | false =>
                  walk_at "d"
                  refine q false (no_rule fun g' xs e r => ?_)
                  cases e
                  have : (xs.map shD).all isShare = true := by
                    rw [List.all_map, List.all_eq_true]
                    intro x hx
                    exact isShare_of (r.2.2.2.1 x hx).1 (r.2.2.2.1 x hx).2
                  rw [hall] at this; cases this
                | true =>
                  obtain ⟨xs, rfl, hxs⟩ := isShares_ex hall
                  rw [List.length_map] at hl hl1
                  clear hall
                  have hx : ∀ x ∈ xs, tOk x.1 ∧ BQ 400 x.2 := fun x hx => by
                    have := hw (shD x) (List.mem_map_of_mem hx) _ _ rfl
                    exact ⟨nmT_ok this.1, this.2 _ rfl⟩
                  walk_at "d"
                  refine de_lcY (gw_pair (by decide) (by decide)) xs shD (fun x => .str x.1) (di_anyT ?_)
                  walk_at "d"
                  refine ⟨rfl, all_in2 ⟨rfl, rfl⟩ ⟨rfl, rfl⟩, trivial, by rw [List.length_map]; omega, ?_, rfl, ?_⟩
                  · rintro ⟨z, x⟩ hz acc
                    walk_at "clean"
                    walk_at "d"
                    exact ⟨rfl, rfl⟩
                  walk_at "clean"
                  walk_at "d"
                  refine ⟨_, g, xs.map Prod.fst, rfl, .inr ⟨0, by rw [List.map_map]; rfl⟩, by rw [List.length_map]; omega, (hn g rfl).2, ?_, ?_⟩
                  · intro n hn
                    obtain ⟨x, hx1, rfl⟩ := List.mem_map.mp hn
                    exact (hx x hx1).1
                  walk_at "d"
                  cases ha : areOth g (xs.map Prod.fst) with
                  | false =>
                    walk_at "d"
                    refine q false (no_rule fun g' ys e r => ?_)
                    injection e with e
                    injection e with e1 e2
                    injection e1 with e1
                    injection e2 with e2 _
                    injection e2 with e2
                    have := shD_inj e2
                    subst e1 this
                    have := r.2.2.2.2.1
                    rw [ha] at this; cases this
                  | true =>
                    walk_at "d"
                    refine de_lcY (gw_pair (by decide) (by decide)) xs shD (fun x => pq x.2) (di_anyT ?_)
                    walk_at "d"
                    refine ⟨rfl, all_in2 ⟨rfl, rfl⟩ ⟨rfl, rfl⟩, trivial, by rw [List.length_map]; omega, ?_, rfl, ?_⟩
                    · rintro ⟨z, x⟩ hz acc
                      walk_at "clean"
                      walk_at "d"
                      exact ⟨rfl, rfl⟩
                    walk_at "clean"
                    walk_at "d"
                    have hb2 : ∀ x ∈ xs.map Prod.snd, BQ 400 x := fun x h => by
                      obtain ⟨y, hy, rfl⟩ := List.mem_map.mp h
                      exact (hx y hy).2
                    refine ⟨_, xs.map Prod.snd, rfl, .inr ⟨0, by rw [List.map_map]; rfl⟩, fun x h => (hb2 x h).mono (by decide), fun k => ?_, ?_⟩
                    · refine (bq_sums (n := 400) ((xs.map Prod.snd).take k) 1 0 .zero fun x h => hb2 x (List.mem_of_mem_take h)).mono ?_
                      rw [List.length_take, List.length_map]
                      omega
                    walk_at "d"
                    rw [show (PyData.tuple [.int 1, .int 1]) = pq 1 from rfl, eqv_pq]
                    refine q _ ⟨fun h => ⟨g, xs, rfl, hg, hl1, hl, hxs, ha, of_decide_eq_true h⟩, fun ⟨g', ys, e, r⟩ => ?_⟩
                    injection e with e
                    injection e with e1 e2
                    injection e2 with e2 _
                    injection e2 with e2
                    have := shD_inj e2
                    subst this
                    exact decide_eq_true r.2.2.2.2.2
          · walk_at "d"
            exact q false (bad fun z => by omega)
        | _ =>
          walk_at "d"
          exact q false (nt fun _ e => nomatch e)



def sp__law_part_by : DSp := fun as Q => ∃ t b : Int, as = [.v (.int t), .v (.int b)] ∧ b ≠ 0 ∧ Bd 8000 b ∧ Q (.v (pt (partOf t b))) as
theorem ok__law_part_by {P : Program} {w : World} {K : PySem.W.Frag} {mg : Str → Option Value} {base : Heap} {a : Addr} {fd : FuncData} (F : Fun K "_law_part_by" "_law_part_by" s__law_part_by a fd) (T : Txt K mg) : FnOk P w K mg base CX0 1 a fd ["_law_top", "_law_bottom"] (fnS K sp__law_part_by) := by
  refine ok_fn F sc__law_part_by (by decide) (fun as P h => ?_) (fun cdv A outer s H E hr as P h => ?_)
  · obtain ⟨a, b, rfl, _⟩ := h; rfl
  · obtain ⟨t, b, rfl, hb, bb, q⟩ := h
    refine ⟨_, (pss_cons (ps_par (i := 2) (j := 3) (by rfl) sc__law_part_by.nd rfl rfl (by decide) rfl rfl (pa_cons (pe_callB call_abs (by rfl) T.b_abs bt_abs (pa_cons (pv 0) pa_nil)) (pa_cons (pe_callB call_abs (by rfl) T.b_abs bt_abs (pa_cons (pv 1) pa_nil)) pa_nil)) (by rfl))
    (pss_cons (ps_while PassesOwn.never (pt_cmpR op_gt (pv 3) pe_int (nomark _))
      (pss_one (ps_par (i := 2) (j := 3) (by rfl) sc__law_part_by.nd rfl rfl (by decide) rfl rfl (pa_cons (pv 3) (pa_cons (pe_op op_mod (pv 2) (pv 3)) pa_nil)) (by rfl))))
    (pss_one (ps_ret (pe_ifExp (pt_cmpR op_gt (pv 1) pe_int (nomark _)) (pe_tup (pa_cons (pe_op op_fdivX (pv 0) (pv 2)) (pa_cons (pe_op op_fdivX (pv 1) (pv 2)) pa_nil))) (pe_tup (pa_cons (pe_op op_fdivX (pe_un un_neg (pv 0)) (pv 2)) (pa_cons (pe_op op_fdivX (pe_un un_neg (pv 1)) (pv 2)) pa_nil)))))))), ?_⟩
    show DS K _ [.v (.int t), .v (.int b), .no, .no] [] _
    try dsimp only [cxOf]
    walk_at "d"
    refine ds_while (fun s => ∃ x y : Int, s = [.v (.int t), .v (.int b), .v (.int x), .v (.int y)] ∧ 0 ≤ x ∧ 0 ≤ y ∧ Int.gcd x y = Int.gcd t b) (fun s => match s with | [_, _, _, .v (.int y)] => y.toNat | _ => 0) ⟨_, _, rfl, by split <;> omega, by split <;> omega, ?_⟩ ?_
    · rw [gcd_abs, Int.gcd_comm, gcd_abs, Int.gcd_comm]
    rintro s ⟨x, y, rfl, hx, hy, e⟩
    walk_at "d"
    refine ite_dec (fun h => ?_) (fun h => ?_)
    · walk_at "d"
      have h1 := Int.emod_nonneg x (show y ≠ 0 by omega)
      have h2 := Int.emod_lt_of_pos x h
      exact ⟨⟨y, x % y, rfl, hy, h1, by rw [gcd_step hx h, e]⟩, by show (x % y).toNat < y.toNat; omega⟩
    · have : y = 0 := by omega
      subst this
      rw [Int.gcd_zero_right] at e
      have ex : x = (Int.gcd t b : Nat) := by rw [← e]; omega
      subst ex
      have d1 := gcd_divX (t := t) (i := -t) hb bb
      have d2 := gcd_divX (t := t) (i := -b) hb bb
      have d3 := gcd_divX (t := t) (i := t) hb bb
      have d4 := gcd_divX (t := t) (i := b) hb bb
      unfold partOf at q
      walk_at "d"
      refine ite_dec (fun h => ?_) (fun h => ?_)
      · rw [if_neg (by omega)] at q
        walk_at "d"
        exact q
      · rw [if_pos (by omega)] at q
        walk_at "d"
        exact q

def sp__law_both : DSp := fun as Q => ∃ a b : Rat, as = [.v (pq a), .v (pq b)] ∧ BQ 3900 a ∧ BQ 3900 b ∧ Q (.v (pq (a + b))) as
theorem ok__law_both {P : Program} {w : World} {K : PySem.W.Frag} {mg : Str → Option Value} {base : Heap} {a : Addr} {fd : FuncData} (F : Fun K "_law_both" "_law_both" s__law_both a fd) (T : Txt K mg) (c__law_part_by : Cal P w K mg base 1 "_law_part_by" ["_law_top", "_law_bottom"] sp__law_part_by) : FnOk P w K mg base CX0 2 a fd ["_law_one", "_law_two"] (fnS K sp__law_both) := by
  refine ok_fn F sc__law_both (by decide) (fun as P h => ?_) (fun cdv A outer s H E hr as P h => ?_)
  · obtain ⟨a, b, rfl, _⟩ := h; rfl
  · obtain ⟨a, b, rfl, ⟨ha1, ha2⟩, ⟨hb1, hb2⟩, q⟩ := h
    refine ⟨_, (pss_one (ps_ret (k_cal K rfl c__law_part_by (hr.mono (by decide)) (by rfl) (pa_cons (pe_op op_addS (pe_op op_mulA (pe_ix (k_ix K rfl) (pv 0) pe_int (fun _ _ => rfl)) (pe_ix (k_ix K rfl) (pv 1) pe_int (fun _ _ => rfl))) (pe_op op_mulA (pe_ix (k_ix K rfl) (pv 1) pe_int (fun _ _ => rfl)) (pe_ix (k_ix K rfl) (pv 0) pe_int (fun _ _ => rfl)))) (pa_cons (pe_op op_mulA (pe_ix (k_ix K rfl) (pv 0) pe_int (fun _ _ => rfl)) (pe_ix (k_ix K rfl) (pv 1) pe_int (fun _ _ => rfl))) pa_nil))))), ?_⟩
    rw [← pq_add] at q
    have c1 : CMulX a.num b.den := ha1.mulX hb2 (by decide)
    have c2 : CMulX b.num a.den := hb1.mulX ha2 (by decide)
    have c3 : CMulX (a.den : Int) b.den := ha2.mulX hb2 (by decide)
    have hp : (a.den : Int) * b.den ≠ 0 := Int.mul_ne_zero (den_ne a) (den_ne b)
    have hb : Bd 8000 ((a.den : Int) * b.den) := (ha2.mul hb2).mono (by decide)
    dsimp only [pq] at q ⊢
    generalize (a.den : Int) = ad at *
    generalize (b.den : Int) = bd at *
    show DS K _ [.v (.tuple [.int a.num, .int ad]), .v (.tuple [.int b.num, .int bd])] [] _
    try dsimp only [cxOf]
    walk_at "d"
    refine ⟨_, _, rfl, hp, hb, ?_⟩
    walk_at "d"
    exact q

def sp__law_total : DSp := fun as Q => ∃ (p : SD) (ps : List Rat), as = [p] ∧ isL p (ps.map pq) ∧ (∀ x ∈ ps, BQ 3800 x) ∧ (∀ k, BQ 3800 ((ps.take k).foldl (· + ·) 0)) ∧ Q (.v (pq (ps.foldl (· + ·) 0))) as
theorem ok__law_total {P : Program} {w : World} {K : PySem.W.Frag} {mg : Str → Option Value} {base : Heap} {a : Addr} {fd : FuncData} (F : Fun K "_law_total" "_law_total" s__law_total a fd) (T : Txt K mg) (c__law_both : Cal P w K mg base 2 "_law_both" ["_law_one", "_law_two"] sp__law_both) : FnOk P w K mg base CX0 3 a fd ["_law_parts"] (fnS K sp__law_total) := by
  refine ok_fn F sc__law_total (by decide) (fun as P h => ?_) (fun cdv A outer s H E hr as P h => ?_)
  · obtain ⟨a, b, rfl, _⟩ := h; rfl
  · obtain ⟨p, ps, rfl, hp, hg, hs, q⟩ := h
    refine ⟨_, (pss_cons (ps_set (i := 1) sc__law_total.nd rfl (Or.inl rfl) (pe_tup (pa_cons pe_int (pa_cons pe_int pa_nil))))
    (pss_cons (ps_for PassesOwn.never rfl (k_iany K rfl (pv 0)) (pg_name (i := 2) sc__law_total.nd rfl (Or.inl rfl))
      (pss_one (ps_set (i := 1) sc__law_total.nd rfl (Or.inl rfl) (k_cal K rfl c__law_both (hr.mono (by decide)) (by rfl) (pa_cons (pv 1) (pa_cons (pv 2) pa_nil))))))
    (pss_one (ps_ret (pv 1))))), ?_⟩
    show DS K _ [p, .no, .no] [] _
    try dsimp only [cxOf]
    rcases hp with hp | ⟨j, hp⟩
    all_goals
      rw [hp]
      walk_at "d"
      refine ds_for (di_anyL ?_)
      walk_at "d"
      refine ⟨fun k s => ∃ x2 : SD, s = [p, .v (pq ((ps.take k).foldl (· + ·) 0)), x2], ⟨_, by rw [hp]; rfl⟩, ?_, ?_, ?_⟩
      · rintro k s _ ⟨x2, rfl⟩; subst hp; rfl
      · rintro k d s hd ⟨x2, rfl⟩
        obtain ⟨x, hx, rfl⟩ := pq_get hd
        have e := foldl_snoc hx
        subst hp
        walk_at "d"
        refine ⟨_, _, rfl, (hs k).mono (by decide), (hg x (List.mem_of_getElem? hx)).mono (by decide), ?_⟩
        walk_at "d"
        exact ⟨_, by rw [e]⟩
      · rintro s ⟨x2, rfl⟩
        rw [List.length_map, List.take_length]
        subst hp
        walk_at "d"
        exact q

def sp__law_product : DSp := fun as Q => ∃ a b : Rat, as = [.v (pq a), .v (pq b)] ∧ BQ 3900 a ∧ BQ 3900 b ∧ Q (.v (pq (a * b))) as
theorem ok__law_product {P : Program} {w : World} {K : PySem.W.Frag} {mg : Str → Option Value} {base : Heap} {a : Addr} {fd : FuncData} (F : Fun K "_law_product" "_law_product" s__law_product a fd) (T : Txt K mg) (c__law_part_by : Cal P w K mg base 1 "_law_part_by" ["_law_top", "_law_bottom"] sp__law_part_by) : FnOk P w K mg base CX0 2 a fd ["_law_one", "_law_two"] (fnS K sp__law_product) := by
  refine ok_fn F sc__law_product (by decide) (fun as P h => ?_) (fun cdv A outer s H E hr as P h => ?_)
  · obtain ⟨a, b, rfl, _⟩ := h; rfl
  · obtain ⟨a, b, rfl, ⟨ha1, ha2⟩, ⟨hb1, hb2⟩, q⟩ := h
    refine ⟨_, (pss_one (ps_ret (k_cal K rfl c__law_part_by (hr.mono (by decide)) (by rfl) (pa_cons (pe_op op_mulA (pe_ix (k_ix K rfl) (pv 0) pe_int (fun _ _ => rfl)) (pe_ix (k_ix K rfl) (pv 1) pe_int (fun _ _ => rfl))) (pa_cons (pe_op op_mulA (pe_ix (k_ix K rfl) (pv 0) pe_int (fun _ _ => rfl)) (pe_ix (k_ix K rfl) (pv 1) pe_int (fun _ _ => rfl))) pa_nil))))), ?_⟩
    rw [← pq_mul] at q
    have c1 : CMulX a.num b.num := ha1.mulX hb1 (by decide)
    have c3 : CMulX (a.den : Int) b.den := ha2.mulX hb2 (by decide)
    have hp : (a.den : Int) * b.den ≠ 0 := Int.mul_ne_zero (den_ne a) (den_ne b)
    have hb : Bd 8000 ((a.den : Int) * b.den) := (ha2.mul hb2).mono (by decide)
    dsimp only [pq] at q ⊢
    generalize (a.den : Int) = ad at *
    generalize (b.den : Int) = bd at *
    show DS K _ [.v (.tuple [.int a.num, .int ad]), .v (.tuple [.int b.num, .int bd])] [] _
    try dsimp only [cxOf]
    walk_at "d"
    refine ⟨_, _, rfl, hp, hb, ?_⟩
    walk_at "d"
    exact q



theorem bl_share {t b : Int} (hb : 0 < b) (h0 : 0 ≤ t) (h1 : t ≤ b) : BL b.toNat 1 (Rat.divInt t b) := by
  have hM : b ∣ ((b.toNat : Nat) : Int) := by rw [Int.toNat_of_nonneg (by omega)]; exact Int.dvd_refl b
  have h := bl_divInt (M := b.toNat) (L := t.toNat) hb hM h0 (by omega)
  refine ⟨h.1, h.2.1, ?_⟩
  have hbp : (0 : Rat) < (b : Rat) := by rw [show (0 : Rat) = ((0 : Int) : Rat) from rfl, Rat.intCast_lt_intCast]; exact hb
  have hbn : (b : Rat) ≠ 0 := fun z => by rw [z] at hbp; exact Rat.lt_irrefl hbp
  have hq : Rat.divInt t b * (b : Rat) = (t : Rat) := by rw [Rat.divInt_eq_div]; exact Rat.div_mul_cancel hbn
  refine Rat.le_of_mul_le_mul_right (c := (b : Rat)) ?_ hbp
  rw [hq, ← Rat.intCast_mul, Rat.intCast_le_intCast]
  omega
theorem mem_le_sum : ∀ {cs : List Int}, (∀ c ∈ cs, 0 ≤ c) → (0 ≤ cs.sum ∧ ∀ c ∈ cs, c ≤ cs.sum)
  | [], _ => ⟨Int.le_refl 0, fun _ h => nomatch h⟩
  | x :: cs, h => by
    have ih := mem_le_sum (cs := cs) fun c hc => h c (List.mem_cons_of_mem _ hc)
    have hx := h x List.mem_cons_self
    rw [List.sum_cons]
    refine ⟨by omega, fun c hc => ?_⟩
    rcases List.mem_cons.mp hc with rfl | hc
    · omega
    · have := ih.2 c hc; omega
theorem sum_le : ∀ {cs : List Int} {B : Int}, (∀ c ∈ cs, c ≤ B) → cs.sum ≤ cs.length * B
  | [], _, _ => by simp
  | x :: cs, B, h => by
    have ih := sum_le (cs := cs) (B := B) fun c hc => h c (List.mem_cons_of_mem _ hc)
    have hx := h x List.mem_cons_self
    rw [List.sum_cons, List.length_cons, Int.natCast_add, Int.add_mul]
    omega
theorem sum_divs (S : Int) : ∀ (es : List Int) (a : Int), (es.map fun e => Rat.divInt e S).foldl (· + ·) (Rat.divInt a S) = Rat.divInt (a + es.sum) S
  | [], a => by simp
  | e :: es, a => by
    have h : Rat.divInt a S + Rat.divInt e S = Rat.divInt (a + e) S := by
      rw [Rat.divInt_eq_div, Rat.divInt_eq_div, Rat.divInt_eq_div, Rat.div_def, Rat.div_def, Rat.div_def, ← Rat.add_mul, ← Rat.intCast_add]
    rw [List.map_cons, List.foldl_cons, h, sum_divs S es (a + e), List.sum_cons, Int.add_assoc]
theorem sum_one {S : Int} (hS : 0 < S) {es : List Int} (h : es.sum = S) : (es.map fun e => Rat.divInt e S).foldl (· + ·) 0 = 1 := by
  have := sum_divs S es 0
  rw [Rat.zero_divInt] at this
  rw [this, Int.zero_add, h, Rat.divInt_eq_div]
  have h0 : (S : Rat) ≠ 0 := fun z => by
    have := Rat.intCast_inj.mp (show (S : Rat) = ((0 : Int) : Rat) from z)
    omega
  exact (by rw [Rat.div_def]; exact Rat.mul_inv_cancel _ h0)
def sp__law_split_to : DSp := fun as Q => ∃ (ds : List D) (n m : Int), as = [.ow (some 0) ds, .v (.int m)] ∧ TapeD ds n ∧ n < 1099511600000 ∧ 1 ≤ m ∧ m ≤ 8 ∧
  ∀ (xs : List Rat) (S : Nat) ds', xs.length = m.toNat → 0 < S → S < 2 ^ 20 → (∀ x ∈ xs, BL S 1 x) → xs.foldl (· + ·) 0 = (1 : Rat) → TapeD ds' (n + 20) → Q (.ow none (xs.map pq)) [.ow (some 0) ds', .v (.int m)]
theorem ok__law_split_to {P : Program} {w : World} {K : PySem.W.Frag} {mg : Str → Option Value} {base : Heap} {a : Addr} {fd : FuncData} (F : Fun K "_law_split_to" "_law_split_to" s__law_split_to a fd) (T : Txt K mg) (c__law_draw : Cal P w K mg base 1 "_law_draw" ["_law_tape_here", "_law_many"] sp__law_draw) (c__law_part_by : Cal P w K mg base 1 "_law_part_by" ["_law_top", "_law_bottom"] sp__law_part_by) : FnOk P w K mg base CX0 2 a fd ["_law_tape_here", "_law_many"] (fnS K sp__law_split_to) := by
  refine ok_fn F sc__law_split_to (by decide) (fun as P h => ?_) (fun cdv A outer s H E hr as P h => ?_)
  · obtain ⟨a, b, c, rfl, _⟩ := h; rfl
  · obtain ⟨ds, n, m, rfl, hT, hn, m0, m1, q⟩ := h
    refine ⟨_, (pss_cons (ps_set (i := 2) sc__law_split_to.nd rfl (Or.inr rfl) (pe_lc (own := [("_law_k", 3)]) rfl sc__law_split_to.nd (pi_range1 (by rfl) T.b_range (pa_cons (pv 1) pa_nil)) (blkOk_by (N := N__law_split_to) (sc := defScope s__law_split_to) (by decide +kernel)) (fun _ _ _ _ _ => (pg_name (i := 3) sc__law_split_to.nd rfl (Or.inl rfl))) (fun _ _ _ _ _ => pts_nil) (fun _ _ _ _ _ => (k_cal K rfl c__law_draw (hr.mono (by decide)) (by rfl) (pa_cons (pv 0) (pa_cons (pe_ix (k_ix K rfl) (pe_lst (pa_cons pe_int (pa_cons pe_int (pa_cons pe_int pa_nil)))) (k_cal K rfl c__law_draw (hr.mono (by decide)) (by rfl) (pa_cons (pv 0) (pa_cons pe_int pa_nil))) (fun _ _ => rfl)) pa_nil))))))
    (pss_cons (ps_augS (pv 2) (k_cal K rfl c__law_draw (hr.mono (by decide)) (by rfl) (pa_cons (pv 0) (pa_cons (pv 1) pa_nil))) (k_getN K rfl) pe_int ip_add set_list)
    (pss_one (ps_ret (pe_lc (own := [("_law_one", 4)]) rfl sc__law_split_to.nd (k_iany K rfl (pv 2)) (blkOk_by (N := N__law_split_to) (sc := defScope s__law_split_to) (by decide +kernel)) (fun _ _ _ _ _ => (pg_name (i := 4) sc__law_split_to.nd rfl (Or.inl rfl))) (fun _ _ _ _ _ => pts_nil) (fun _ _ _ _ _ => (k_cal K rfl c__law_part_by (hr.mono (by decide)) (by rfl) (pa_cons (pv 4) (pa_cons (pe_callB (k_sum K rfl (by rfl)) (by rfl) T.b_sum bt_sum (pa_cons (pv 2) pa_nil)) pa_nil))))))))), ?_⟩
    show DS K _ [.ow (some 0) ds, .v (.int m), .no, .no, .no] [] _
    try dsimp only [cxOf]
    walk_at "d"
    refine de_lc (gw_name List.mem_cons_self) ?_
    walk_at "d"
    refine ⟨by omega, by omega, fun k' s' acc => ∃ (ds3 : List D) (cs : List Int), s' = [.ow (some 0) ds3, .v (.int m), .no, .no, .no] ∧ acc = cs.map .int ∧ cs.length = k' ∧ (∀ c ∈ cs, 0 ≤ c ∧ c ≤ 99) ∧ TapeD ds3 (n + 2 * k'), ?_, ?_, ?_, ?_, ?_, ?_⟩
    · intro i hi
      obtain rfl : i = 3 := by simpa using hi
      exact ⟨rfl, rfl⟩
    · exact ⟨ds, [], rfl, rfl, rfl, (fun _ h => nomatch h), hT.mn (by omega)⟩
    · intros; trivial
    · rw [rngD_length]; omega
    · rintro k' d s' acc hd hl ⟨ds3, cs, rfl, rfl, hq, hcs, T3⟩
      obtain ⟨hk', rfl⟩ := rngD_get hd
      walk_at "d"
      walk_at "draw"
      intro u ds4 u0 u1 T4
      obtain ⟨b, hb, hb2⟩ := mint (ns := [2, 5, 100]) u0 u1
      have hb3 : 2 ≤ b ∧ b ≤ 100 := by
        simp only [List.mem_cons, List.not_mem_nil, or_false] at hb2
        omega
      walk_at "d"
      try refine op2_ixL (d := .int b) rfl hb ?_
      walk_at "d"
      walk_at "draw"
      intro v ds5 v0 v1 T5
      walk_at "d"
      refine ⟨_, cs ++ [v], rfl, by rw [List.map_append]; rfl, by simp [hq], fun c hc => ?_, T5.mn (by omega)⟩
      rcases List.mem_append.mp hc with h | h
      · exact hcs c h
      · rw [List.mem_singleton.mp h]; omega
    · rintro s' acc ⟨ds3, cs, rfl, rfl, hq, hcs, T3⟩
      rw [rngD_length] at hq T3
      walk_at "d"
      refine ds_augL ⟨_, _, rfl⟩ ?_
      walk_at "d"
      walk_at "draw"
      intro i ds4 i0 i1 T4
      walk_at "d"
      have hil : i.toNat < cs.length := by omega
      have hci : atI (cs.map PyData.int) i = some (.int cs[i.toNat]) := by
        have h1 : atI (cs.map PyData.int) ((i.toNat : Nat) : Int) = some (.int cs[i.toNat]) := atI_nat (by rw [List.getElem?_map, List.getElem?_eq_getElem hil]; rfl)
        rwa [Int.toNat_of_nonneg i0] at h1
      refine ⟨i, _, _, _, rfl, i0, rfl, hci, ?_⟩
      rw [← List.map_set]
      obtain ⟨es, hes⟩ : ∃ es, cs.set i.toNat (cs[i.toNat] + 1) = es := ⟨_, rfl⟩
      rw [hes]
      have hel : es.length = m.toNat := by rw [← hes, List.length_set]; exact hq
      have hee : ∀ e ∈ es, 0 ≤ e ∧ e ≤ 100 := fun e he => by
        rw [← hes] at he
        rcases List.mem_or_eq_of_mem_set he with h | h
        · have := hcs e h; omega
        · have := hcs _ (List.getElem_mem hil); omega
      have hep : ∃ e ∈ es, 1 ≤ e := ⟨cs[i.toNat] + 1, by rw [← hes]; exact List.mem_set hil _, by have := hcs _ (List.getElem_mem hil); omega⟩
      obtain ⟨s0, s1⟩ := mem_le_sum fun e he => (hee e he).1
      have s2 := sum_le fun e he => (hee e he).2
      obtain ⟨e1, e2, e3⟩ := hep
      have s3 := s1 e1 e2
      have s4 : es.sum ≤ 800 := by rw [hel] at s2; omega
      obtain ⟨Sm, hSm⟩ : ∃ Sm, es.sum = Sm := ⟨_, rfl⟩
      rw [hSm] at s0 s1 s3 s4
      walk_at "clean"
      walk_at "d"
      refine de_lcY (gw_name List.mem_cons_self) es .int (fun e => pq (Rat.divInt e Sm)) (di_anyL ?_)
      walk_at "d"
      refine ⟨rfl, all_in1 ⟨rfl, rfl⟩, by first | rfl | trivial, by rw [List.length_map]; omega, ?_, rfl, ?_⟩
      · intro e he acc
        walk_at "clean"
        walk_at "d"
        refine opc_sum (ns := es) rfl ?_
        rw [hSm]
        walk_at "d"
        refine ⟨e, Sm, rfl, by omega, (Bd.of (n := 20) (by omega) (by omega)).mono (by decide), ?_⟩
        rw [partOf_pq (by omega)]
        walk_at "d"
        first | exact ⟨rfl, rfl⟩ | exact ⟨_, rfl, rfl, rfl⟩
      walk_at "clean"
      walk_at "d"
      have hq2 := q (es.map fun e => Rat.divInt e Sm) Sm.toNat ds4 (by rw [List.length_map]; exact hel) (by omega) (by omega) (fun x hx => by
        obtain ⟨e, he, rfl⟩ := List.mem_map.mp hx
        exact bl_share (by omega) (hee e he).1 (s1 e he)) (sum_one (by omega) hSm) (T4.mn (by omega))
      rw [List.map_map] at hq2
      exact hq2



/-! things that are no rules -/
theorem no_at {g : Str} {os : List D} {o : D} (ho : o ∈ os) (hn : ∀ x : Str × Rat, isNmT x.1 = true → ¬ x.2 < 0 → o ≠ shD x) : ¬ RuleP (.tuple [.str g, .tuple os]) := fun ⟨g', xs, e, r⟩ => by
  injection e with e
  injection e with _ e
  injection e with e _
  injection e with e
  subst e
  obtain ⟨x, hx, rfl⟩ := List.mem_map.mp ho
  exact hn x (r.2.2.2.1 x hx).1 (r.2.2.2.1 x hx).2 rfl
theorem no_x {g : Str} {xs : List (Str × Rat)} (hn : ¬ RuleX g xs) : ¬ RuleP (.tuple [.str g, .tuple (xs.map shD)]) := fun ⟨g', ys, e, r⟩ => by
  injection e with e
  injection e with e1 e
  injection e with e _
  injection e with e
  injection e1 with e1
  rw [shD_inj e, e1] at hn
  exact hn r
theorem no_lst (ds : List D) : ¬ RuleP (.list ds) := fun ⟨_, _, e, _⟩ => by cases e
theorem no_lst2 (a : D) (ds : List D) : ¬ RuleP (.tuple [a, .list ds]) := fun ⟨_, _, e, _⟩ => by
  injection e with e
  injection e with _ e
  injection e with e _
  cases e
theorem no_three (a b c : D) : ¬ RuleP (.tuple [a, b, c]) := fun ⟨_, _, e, _⟩ => by
  injection e with e
  injection e with _ e
  injection e with _ e
  cases e
theorem ns_num {z : Str} {i j : Int} {x : Str × Rat} (h : PyData.tuple [.str z, .tuple [.int i, .int j]] = shD x) : i = x.2.num ∧ j = (x.2.den : Int) := by
  injection h with h
  injection h with _ h
  injection h with h _
  injection h with h
  injection h with h1 h
  injection h with h2 _
  injection h1 with h1
  injection h2 with h2
  exact ⟨h1, h2⟩
theorem ns_twice (z : Str) (q : Rat) (x : Str × Rat) : PyData.tuple [.str z, .tuple [.int (2 * q.num), .int (2 * (q.den : Int))]] ≠ shD x := fun h => by
  obtain ⟨h1, h2⟩ := ns_num h
  have hr := x.2.reduced
  have a1 : 2 ∣ x.2.num.natAbs := ⟨q.num.natAbs, by rw [← h1, Int.natAbs_mul]; rfl⟩
  have a2 : 2 ∣ x.2.den := ⟨q.den, by omega⟩
  have := Nat.dvd_gcd a1 a2
  rw [hr] at this
  omega
theorem ns_zero (z : Str) (i : Int) (x : Str × Rat) : PyData.tuple [.str z, .tuple [.int i, .int 0]] ≠ shD x := fun h => by
  obtain ⟨_, h2⟩ := ns_num h
  have := x.2.den_pos
  omega
theorem ns_neg (z : Str) (i : Int) (q : Rat) (x : Str × Rat) : PyData.tuple [.str z, .tuple [.int i, .int (-(q.den : Int))]] ≠ shD x := fun h => by
  obtain ⟨_, h2⟩ := ns_num h
  have := x.2.den_pos
  have := q.den_pos
  omega
theorem ns_lst (a : D) (ds : List D) (x : Str × Rat) : PyData.tuple [a, .list ds] ≠ shD x := fun h => by
  injection h with h
  injection h with _ h
  injection h with h _
  cases h
theorem ns_list (ds : List D) (x : Str × Rat) : PyData.list ds ≠ shD x := fun h => by cases h
theorem ns_name {z : Str} {w : D} (hz : isNmT z = false) (x : Str × Rat) (hx : isNmT x.1 = true) : PyData.tuple [.str z, w] ≠ shD x := fun h => by
  injection h with h
  injection h with h _
  injection h with h
  rw [h, hx] at hz
  cases hz
theorem ns_none (w : D) (x : Str × Rat) : PyData.tuple [.none, w] ≠ shD x := fun h => by
  injection h with h
  injection h with h _
  cases h
theorem ns_tup (ds : List D) (w : D) (x : Str × Rat) : PyData.tuple [.tuple ds, w] ≠ shD x := fun h => by
  injection h with h
  injection h with h _
  cases h
/-- neighbours rise -/
theorem oth_adj {g : Str} {ns : List Str} (h : areOth g ns = true) {k : Nat} {a b : Str} (ha : ns[k]? = some a) (hb : ns[k + 1]? = some b) : ltT a b = true := by
  unfold areOth at h
  have h2 := (Bool.and_eq_true_iff.mp h).2
  have hm : (a, b) ∈ ns.zip (ns.drop 1) := by
    refine List.mem_of_getElem? (i := k) ?_
    rw [List.getElem?_zip_eq_some]
    exact ⟨ha, by rw [List.getElem?_drop, Nat.add_comm]; exact hb⟩
  exact List.all_eq_true.mp h2 _ hm
theorem oth_not {g : Str} {ns : List Str} (h : areOth g ns = true) : g ∉ ns := fun hm => by
  unfold areOth at h
  have h1 := (Bool.and_eq_true_iff.mp h).1
  have : (ns.any fun n => PyData.eqv (.str n) (.str g)) = true := List.any_eq_true.mpr ⟨g, hm, eqv_str g⟩
  rw [this] at h1
  cases h1
theorem ltT_irr (a : Str) : ltT a a = false := decide_eq_false (List.lt_irrefl _)
theorem ltT_asym {a b : Str} (h : ltT a b = true) : ltT b a = false := decide_eq_false fun z => List.lt_asymm (of_decide_eq_true h) z
theorem tx_cpsL (l : List Nat) : (tx l).cps.toList = l := rfl
theorem nm_cap (l : List Nat) : isNmT (tx (l ++ [65])) = false := by
  unfold isNmT
  refine Bool.and_eq_false_imp.mpr fun _ => ?_
  rw [tx_cpsL, List.all_append]
  refine Bool.and_eq_false_imp.mpr fun _ => by rw [abc_list]; decide +kernel
theorem nm_long (l : List Nat) (h : 1 ≤ l.length) (m : List Nat) (hm : m.length = 6) : isNmT (tx (l ++ m)) = false := by
  unfold isNmT
  have : ((tx (l ++ m)).length : Int) = l.length + m.length := by rw [tx_len, List.length_append]; push_cast; rfl
  rw [decide_eq_false (p := ((tx (l ++ m)).length : Int) ≤ 6) (by omega), Bool.and_false, Bool.false_and]
theorem nm_none : isNmT Str.empty = false := by decide +kernel
theorem alike_shx (a b : Str × Rat) : PySem.W.alike (shD a) (shD b) = true := rfl
theorem sortable_sh (xs : List (Str × Rat)) : PySem.W.AllAlike (xs.map shD) ∧ PySem.W.Sortable (xs.map shD) ∧ ∀ d ∈ xs.map shD, d.depth ≤ 30 := by
  refine ⟨fun d hd e he => ?_, .inl fun d hd => ?_, fun d hd => ?_⟩
  · obtain ⟨a, _, rfl⟩ := List.mem_map.mp hd
    obtain ⟨b, _, rfl⟩ := List.mem_map.mp he
    exact alike_shx a b
  · obtain ⟨a, _, rfl⟩ := List.mem_map.mp hd
    exact ⟨_, _, rfl⟩
  · obtain ⟨a, _, rfl⟩ := List.mem_map.mp hd
    exact Nat.le_trans (Nat.le_of_eq (show (shD a).depth = 2 from rfl)) (by decide)
theorem sort_sh (xs : List (Str × Rat)) : ∃ zs : List (Str × Rat), (xs.map shD).mergeSort leD = zs.map shD ∧ zs.Perm xs := by
  have e : (xs.mergeSort fun a b => leD (shD a) (shD b)).map shD = (xs.map shD).mergeSort leD := List.map_mergeSort (r := fun a b => leD (shD a) (shD b)) (s := leD) (f := shD) (fun _ _ _ _ => rfl)
  exact ⟨_, e.symm, List.mergeSort_perm _ _⟩
theorem no_g {g : Str} {os : List D} {w : D} (hm : PyData.tuple [.str g, w] ∈ os) : ¬ RuleP (.tuple [.str g, .tuple os]) := fun ⟨g', xs, e, r⟩ => by
  injection e with e
  injection e with e1 e
  injection e with e2 _
  injection e2 with e2
  injection e1 with e1
  subst e2 e1
  obtain ⟨x, hx, ex⟩ := List.mem_map.mp hm
  injection ex with ex
  injection ex with ex _
  injection ex with ex
  exact oth_not r.2.2.2.2.1 (List.mem_map.mpr ⟨x, hx, ex⟩)
theorem ns_less (z : Str) (i j : Int) (hi : i < 0) (x : Str × Rat) (hx : ¬ x.2 < 0) : PyData.tuple [.str z, .tuple [.int i, .int j]] ≠ shD x := fun h => by
  obtain ⟨h1, h2⟩ := ns_num h
  have : 0 ≤ x.2.num := Rat.num_nonneg.mpr (Rat.not_lt.mp hx)
  omega
def OsOk (g : Str) (os : List D) : Prop := (∀ o ∈ os, shGood o) ∧ ¬ RuleP (.tuple [.str g, .tuple os]) ∧ os.length < 40
theorem osOk_at {g : Str} {xs : List (Str × Rat)} {i : Nat} {o : D} (hx : ∀ x ∈ xs, shGood (shD x)) (hl : xs.length ≤ 7) (h : shGood o) (hn : ∀ x : Str × Rat, isNmT x.1 = true → ¬ x.2 < 0 → o ≠ shD x) : OsOk g ((xs.take i).map shD ++ [o] ++ (xs.drop (i + 1)).map shD) := by
  refine ⟨fun z hz => ?_, no_at (o := o) (by simp) hn, by simp only [List.length_append, List.length_map, List.length_take, List.length_drop, List.length_cons, List.length_nil]; omega⟩
  rcases List.mem_append.mp hz with hz | hz
  · rcases List.mem_append.mp hz with hz | hz
    · obtain ⟨x, hx', rfl⟩ := List.mem_map.mp hz
      exact hx x (List.mem_of_mem_take hx')
    · rw [List.mem_singleton.mp hz]; exact h
  · obtain ⟨x, hx', rfl⟩ := List.mem_map.mp hz
    exact hx x (List.mem_of_mem_drop hx')
theorem osOk_x {g : Str} {ys : List (Str × Rat)} (hx : ∀ x ∈ ys, shGood (shD x)) (hl : ys.length < 40) (h : ¬ RuleX g ys) : OsOk g (ys.map shD) :=
  ⟨fun z hz => by
    obtain ⟨x, hx', rfl⟩ := List.mem_map.mp hz
    exact hx x hx', no_x h, by rw [List.length_map]; exact hl⟩
theorem sum_put (w q : Rat) : ∀ (l1 l2 : List Rat) (a : Rat), (l1 ++ (q + w) :: l2).foldl (· + ·) a = (l1 ++ q :: l2).foldl (· + ·) a + w
  | [], [], a => by show a + (q + w) = a + q + w; grind
  | [], y :: l2, a => by
    have := sum_put w (q + y) [] l2 a
    have e : (([] : List Rat) ++ (q + y + w) :: l2).foldl (· + ·) a = l2.foldl (· + ·) (a + (q + y + w)) := rfl
    have e2 : (([] : List Rat) ++ (q + y) :: l2).foldl (· + ·) a = l2.foldl (· + ·) (a + (q + y)) := rfl
    have e3 : (([] : List Rat) ++ (q + w) :: y :: l2).foldl (· + ·) a = l2.foldl (· + ·) (a + (q + w) + y) := rfl
    have e4 : (([] : List Rat) ++ q :: y :: l2).foldl (· + ·) a = l2.foldl (· + ·) (a + q + y) := rfl
    rw [e, e2] at this
    rw [e3, e4, show a + (q + w) + y = a + (q + y + w) by grind, show a + q + y = a + (q + y) by grind]
    exact this
  | x :: l1, l2, a => sum_put w q l1 l2 (a + x)
theorem split_at {α : Type} {xs : List α} {i : Nat} (h : i < xs.length) : xs.take i ++ xs[i] :: xs.drop (i + 1) = xs := by
  rw [← List.drop_eq_getElem_cons h, List.take_append_drop]
theorem no_more {g : Str} {xs : List (Str × Rat)} {i : Nat} {w : Rat} (h : i < xs.length) (hX : RuleX g xs) (hw : w ≠ 0) : ¬ RuleX g (xs.take i ++ [(xs[i].1, xs[i].2 + w)] ++ xs.drop (i + 1)) := fun hR => by
  have h1 := hX.2.2.2.2.2
  have h2 := hR.2.2.2.2.2
  rw [List.append_assoc, List.singleton_append, List.map_append, List.map_cons, sum_put, ← List.map_cons (f := Prod.snd) (a := xs[i]), ← List.map_append, split_at h, h1] at h2
  grind
theorem no_twice {g : Str} {xs : List (Str × Rat)} {i : Nat} (h : i < xs.length) : ¬ RuleX g (xs.take i ++ [xs[i]] ++ xs.drop i) := fun hR => by
  have ha : ((xs.take i ++ [xs[i]] ++ xs.drop i).map Prod.fst)[i]? = some xs[i].1 := by
    rw [List.append_assoc, List.getElem?_map, List.getElem?_append_right (by rw [List.length_take]; omega), List.length_take, show i - min i xs.length = 0 by omega]; rfl
  have hb : ((xs.take i ++ [xs[i]] ++ xs.drop i).map Prod.fst)[i + 1]? = some xs[i].1 := by
    rw [List.append_assoc, List.getElem?_map, List.getElem?_append_right (by rw [List.length_take]; omega), List.length_take, show i + 1 - min i xs.length = 1 by omega, List.drop_eq_getElem_cons h]; rfl
  have := oth_adj hR.2.2.2.2.1 ha hb
  rw [ltT_irr] at this; cases this
theorem no_turn {g : Str} {a b : Str × Rat} {xs : List (Str × Rat)} (hX : RuleX g (a :: b :: xs)) : ¬ RuleX g (b :: a :: xs) := fun hR => by
  have h1 := oth_adj hX.2.2.2.2.1 (k := 0) (a := a.1) (b := b.1) rfl rfl
  have h2 := oth_adj hR.2.2.2.2.1 (k := 0) (a := b.1) (b := a.1) rfl rfl
  rw [ltT_asym h1] at h2; cases h2
theorem osOk_nil (g : Str) : OsOk g [] := ⟨(fun _ h => nomatch h), (no_x (xs := []) fun h => absurd h.2.1 (by decide)), by decide⟩
theorem shGood_nm {z : Str} {w : D} (hz : nmGood (.str z)) (hw : ∀ q : Rat, w = pq q → BQ 400 q) : shGood (.tuple [.str z, w]) := fun n v e => by
  injection e with e
  injection e with e1 e
  injection e with e2 _
  subst e1 e2
  exact ⟨hz, hw⟩
theorem pq_bq {q : Rat} {m : Nat} (h : BQ m q) (hm : m ≤ 400) : ∀ r : Rat, pq q = pq r → BQ 400 r := fun r e => by rw [← pq_inj e]; exact h.mono hm
theorem pqL_bq {i j : Int} (hi : Bd 400 i) (hj : Bd 400 j) : ∀ r : Rat, PyData.tuple [.int i, .int j] = pq r → BQ 400 r := fun r e => by
  unfold pq at e
  injection e with e
  injection e with e1 e
  injection e with e2 _
  injection e1 with e1
  injection e2 with e2
  exact ⟨by rw [← e1]; exact hi, by rw [← e2]; exact hj⟩
/-- the dict of a rule's others -/
def kS (x : Str × Rat) : Key × D := (.inr x.1, pq x.2)
def setN (xs : List (Str × Rat)) (n : Str) (v : Rat) : List (Str × Rat) := xs.map fun x => if x.1 = n then (x.1, v) else x
theorem put_kS {xs : List (Str × Rat)} {n : Str} {v : Rat} (h : n ∈ xs.map Prod.fst) : putD (xs.map kS) (.inr n) (pq v) = (setN xs n v).map kS := by
  unfold putD setN
  rw [if_pos, List.map_map, List.map_map]
  · refine List.map_congr_left fun x _ => ?_
    show (if (kS x).1 = _ then _ else _) = kS (if x.1 = n then _ else _)
    by_cases e : x.1 = n
    · rw [if_pos e, if_pos (show (kS x).1 = .inr n by unfold kS; rw [e])]; rfl
    · rw [if_neg e, if_neg (fun z => e (by unfold kS at z; injection z))]
  · obtain ⟨x, hx, e⟩ := List.mem_map.mp h
    refine List.any_eq_true.mpr ⟨kS x, List.mem_map_of_mem hx, ?_⟩
    unfold kS
    rw [e]; exact decide_eq_true rfl
theorem setN_fst (xs : List (Str × Rat)) (n : Str) (v : Rat) : (setN xs n v).map Prod.fst = xs.map Prod.fst := by
  unfold setN
  rw [List.map_map]
  refine List.map_congr_left fun x _ => ?_
  show (if x.1 = n then _ else _ : Str × Rat).1 = x.1
  split <;> rfl
theorem setN_mem {xs : List (Str × Rat)} {n : Str} {v : Rat} {x : Str × Rat} (h : x ∈ setN xs n v) : x ∈ xs ∨ (x.2 = v ∧ x.1 = n ∧ n ∈ xs.map Prod.fst) := by
  unfold setN at h
  obtain ⟨y, hy, rfl⟩ := List.mem_map.mp h
  by_cases e : y.1 = n
  · rw [if_pos e]; exact .inr ⟨rfl, e, List.mem_map.mpr ⟨y, hy, e⟩⟩
  · rw [if_neg e]; exact .inl hy
theorem setN_in {xs : List (Str × Rat)} {n : Str} {v : Rat} (h : n ∈ xs.map Prod.fst) : (n, v) ∈ setN xs n v := by
  obtain ⟨y, hy, e⟩ := List.mem_map.mp h
  unfold setN
  refine List.mem_map.mpr ⟨y, hy, ?_⟩
  rw [if_pos e, e]
theorem setN_old {xs : List (Str × Rat)} {n : Str} {v : Rat} {x : Str × Rat} (h : x ∈ xs) (e : x.1 ≠ n) : x ∈ setN xs n v := by
  unfold setN
  exact List.mem_map.mpr ⟨x, h, if_neg e⟩
theorem sh_kp (xs : List (Str × Rat)) : (xs.map kS).map kpD = xs.map shD := by rw [List.map_map]; rfl
theorem val_kS {xs : List (Str × Rat)} (hn : (xs.map Prod.fst).Nodup) {x : Str × Rat} (h : x ∈ xs) : valD (xs.map kS) (.inr x.1) = some (pq x.2) := by
  unfold valD
  induction xs with
  | nil => cases h
  | cons y ys ih =>
    rw [List.map_cons] at hn ⊢
    obtain ⟨n1, n2⟩ := List.nodup_cons.mp hn
    rw [List.find?_cons]
    rcases List.mem_cons.mp h with rfl | h
    · rw [show decide ((kS x).1 = .inr x.1) = true from decide_eq_true rfl]; rfl
    · have hne : y.1 ≠ x.1 := fun e => n1 (by rw [e]; exact List.mem_map_of_mem h)
      rw [show decide ((kS y).1 = .inr x.1) = false from decide_eq_false fun e => hne (by unfold kS at e; injection e)]
      exact ih n2 h
theorem merge_kS : ∀ {xs ys : List (Str × Rat)}, ((ys ++ xs).map Prod.fst).Nodup → mergeD (ys.map kS) (xs.map kS) = (ys ++ xs).map kS
  | [], ys, _ => by rw [List.append_nil]; rfl
  | x :: xs, ys, h => by
    have e : mergeD (ys.map kS) ((x :: xs).map kS) = mergeD (putD (ys.map kS) (kS x).1 (kS x).2) (xs.map kS) := rfl
    have hx : x.1 ∉ ys.map Prod.fst := fun hm => by
      rw [List.map_append, List.nodup_append] at h
      exact h.2.2 _ hm _ (by rw [List.map_cons]; exact List.mem_cons_self) rfl
    have hp : putD (ys.map kS) (kS x).1 (kS x).2 = (ys ++ [x]).map kS := by
      unfold putD
      rw [if_neg, List.map_append]; rfl
      intro z
      obtain ⟨kv, h1, h2⟩ := List.any_eq_true.mp z
      obtain ⟨y, hy, rfl⟩ := List.mem_map.mp h1
      have h2 := of_decide_eq_true h2
      unfold kS at h2
      injection h2 with h2
      exact hx (by rw [← h2]; exact List.mem_map_of_mem hy)
    rw [e, hp, merge_kS (by rw [List.append_assoc]; exact h), List.append_assoc]; rfl



def ThingsOk (ds : List D) : Prop := ∀ d ∈ ds, RuleIn d ∧ ¬ RuleP d
def sp__law_beyond : DSp := fun as Q => ∃ (jp jr : Nat) (ds : List D) (n : Int) (S : Nat) (gl : List Nat) (ls : List (List Nat)) (qs : List Rat), as = [.ow (some 0) ds, .v (.str (tx gl)), .ow (some jp) (ls.map fun l => .str (tx l)), .ow (some jr) (qs.map pq)] ∧ TapeD ds n ∧ n < 1099511500000 ∧ ls.length = qs.length ∧ (1 ≤ ls.length ∧ ls.length ≤ 7) ∧ nameOk gl ∧ (∀ l ∈ ls, nameOk l) ∧ ls.Nodup ∧ gl ∉ ls ∧ RuleX (tx gl) ((ls.map tx).zip qs) ∧ (∀ q ∈ qs, BL S 1 q) ∧ 0 < S ∧ S < 2 ^ 20 ∧
  ∀ ds' ts, ThingsOk ts → ts.length ≤ 100 → TapeD ds' (n + 2) → Q (.ow none ts) [.ow (some 0) ds', .v (.str (tx gl)), .ow (some jp) (ls.map fun l => .str (tx l)), .ow (some jr) (qs.map pq)]
theorem zip_sh : ∀ (ls : List (List Nat)) (qs : List Rat), zipD (ls.map fun l => PyData.str (tx l)) (qs.map pq) = ((ls.map tx).zip qs).map shD
  | [], _ => rfl
  | _ :: _, [] => rfl
  | l :: ls, q :: qs => by
    show PyData.tuple [.str (tx l), pq q] :: zipD (ls.map fun l => PyData.str (tx l)) (qs.map pq) = _
    rw [zip_sh ls qs]; rfl
theorem pq_more : pq (Rat.divInt 1 999) = .tuple [.int 1, .int 999] := by
  unfold pq
  rw [show (Rat.divInt 1 999).num = 1 from by decide +kernel, show (Rat.divInt 1 999).den = 999 from by decide +kernel]; rfl
theorem pq_less : pq (Rat.divInt (-1) 999) = .tuple [.int (-1), .int 999] := by
  unfold pq
  rw [show (Rat.divInt (-1) 999).num = -1 from by decide +kernel, show (Rat.divInt (-1) 999).den = 999 from by decide +kernel]; rfl
theorem more_at {u : Int} (u0 : 0 ≤ u) (u1 : u < 2) : ∃ w : Rat, w ≠ 0 ∧ BQ 12 w ∧ atI [PyData.tuple [.int 1, .int 999], .tuple [.int (-1), .int 999]] u = some (pq w) := by
  obtain rfl | rfl : u = 0 ∨ u = 1 := by omega
  · exact ⟨Rat.divInt 1 999, by decide +kernel, ⟨show (Rat.divInt 1 999).num.natAbs < 2 ^ 12 by decide +kernel, show ((Rat.divInt 1 999).den : Int).natAbs < 2 ^ 12 by decide +kernel⟩, by rw [pq_more]; rfl⟩
  · exact ⟨Rat.divInt (-1) 999, by decide +kernel, ⟨show (Rat.divInt (-1) 999).num.natAbs < 2 ^ 12 by decide +kernel, show ((Rat.divInt (-1) 999).den : Int).natAbs < 2 ^ 12 by decide +kernel⟩, by rw [pq_less]; rfl⟩
theorem ok__law_beyond {P : Program} {w : World} {K : PySem.W.Frag} {mg : Str → Option Value} {base : Heap} {a : Addr} {fd : FuncData} (F : Fun K "_law_beyond" "_law_beyond" s__law_beyond a fd) (T : Txt K mg) (c__law_draw : Cal P w K mg base 1 "_law_draw" ["_law_tape_here", "_law_many"] sp__law_draw) (c__law_total : Cal P w K mg base 3 "_law_total" ["_law_parts"] sp__law_total) (c__law_both : Cal P w K mg base 2 "_law_both" ["_law_one", "_law_two"] sp__law_both) : FnOk P w K mg base CX0 4 a fd ["_law_tape_here", "_law_gauge", "_law_names", "_law_shares"] (fnS K sp__law_beyond) := by
  refine ok_fn F sc__law_beyond (by decide) (fun as P h => ?_) (fun cdv A outer s H E hr as P h => ?_)
  · obtain ⟨_, _, _, _, _, _, _, _, rfl, _⟩ := h; rfl
  · obtain ⟨jp, jr, ds, n, S, gl, ls, qs, rfl, hT, hn, hlq, ⟨l1, l7⟩, hg, hls, hnd, hgn, hX, hS, hS1, hS2, q⟩ := h
    refine ⟨_, (pss_cons (ps_par (i := 4) (j := 5) (by rfl) sc__law_beyond.nd rfl rfl (by decide) rfl rfl (pa_cons (k_lstZ K rfl (by rfl) (by rfl) T.b_list (by rfl) T.b_zip (pa_cons (pv 2) (pa_cons (pv 3) pa_nil))) (pa_cons (pe_callB (k_len K rfl) (by rfl) T.b_len bt_len (pa_cons (pv 2) pa_nil)) pa_nil)) (by rfl))
    (pss_cons (ps_asg (pe_tup (pa_cons (k_cal K rfl c__law_draw (hr.mono (by decide)) (by rfl) (pa_cons (pv 0) (pa_cons (pv 5) pa_nil))) (pa_cons (pe_ix (k_ix K rfl) (pe_lst (pa_cons (pe_tup (pa_cons pe_int (pa_cons pe_int pa_nil))) (pa_cons (pe_tup (pa_cons (pe_un un_neg pe_int) (pa_cons pe_int pa_nil))) pa_nil))) (k_cal K rfl c__law_draw (hr.mono (by decide)) (by rfl) (pa_cons (pv 0) (pa_cons pe_int pa_nil))) (fun _ _ => rfl)) pa_nil))) (k_gtup K rfl (n := 2) (by rfl) (pgs_cons (pg_name (i := 6) sc__law_beyond.nd rfl (Or.inr rfl)) (pgs_cons (pg_name (i := 7) sc__law_beyond.nd rfl (Or.inl rfl)) pgs_nil))))
    (pss_cons (ps_asg (pe_ix (k_ix K rfl) (pv 4) (pv 6) (fun _ _ => rfl)) (k_gtup K rfl (n := 2) (by rfl) (pgs_cons (pg_name (i := 8) sc__law_beyond.nd rfl (Or.inl rfl)) (pgs_cons (pg_name (i := 9) sc__law_beyond.nd rfl (Or.inl rfl)) pgs_nil))))
    (pss_cons (ps_set (i := 10) sc__law_beyond.nd rfl (Or.inl rfl) (pe_lst (pa_cons (pe_op op_addS (pe_op op_addS (pe_slice (k_sl K rfl) (pv 4) po_none (po_some (pv 6))) (pe_lst (pa_cons (pe_tup (pa_cons (pv 8) (pa_cons (k_cal K rfl c__law_both (hr.mono (by decide)) (by rfl) (pa_cons (pv 9) (pa_cons (pv 7) pa_nil))) pa_nil))) pa_nil))) (pe_slice (k_sl K rfl) (pv 4) (po_some (pe_op op_addS (pv 6) pe_int)) po_none)) (pa_cons (pe_lst pa_nil) pa_nil))))
    (pss_cons (ps_expr (k_bm K rfl PySem.F.plainAttrs_list PySem.F.slot_list_append PySem.F.type_list_append mt_append (pv 10) (pa_cons (pe_op op_addS (pe_op op_addS (pe_slice (k_sl K rfl) (pv 4) po_none (po_some (pv 6))) (pe_lst (pa_cons (pe_ix (k_ix K rfl) (pv 4) (pv 6) (fun _ _ => rfl)) pa_nil))) (pe_slice (k_sl K rfl) (pv 4) (po_some (pv 6)) po_none)) pa_nil)))
    (pss_cons (ps_expr (k_bm K rfl PySem.F.plainAttrs_list PySem.F.slot_list_append PySem.F.type_list_append mt_append (pv 10) (pa_cons (pe_callB (k_sortedD K rfl hr.units) (by rfl) T.b_sorted bt_sorted (pa_cons (pe_op op_addS (pe_op op_addS (pe_slice (k_sl K rfl) (pv 4) po_none (po_some (pv 6))) (pe_slice (k_sl K rfl) (pv 4) (po_some (pe_op op_addS (pv 6) pe_int)) po_none)) (pe_lst (pa_cons (pe_tup (pa_cons (pv 1) (pa_cons (pv 9) pa_nil))) pa_nil))) pa_nil)) pa_nil)))
    (pss_cons (ps_expr (k_bm K rfl PySem.F.plainAttrs_list PySem.F.slot_list_append PySem.F.type_list_append mt_append (pv 10) (pa_cons (pe_op op_addS (pe_op op_addS (pe_slice (k_sl K rfl) (pv 4) po_none (po_some (pv 6))) (pe_lst (pa_cons (pe_tup (pa_cons (pv 8) (pa_cons (pe_tup (pa_cons (pe_op op_mulA pe_int (pe_ix (k_ix K rfl) (pv 9) pe_int (fun _ _ => rfl))) (pa_cons (pe_op op_mulA pe_int (pe_ix (k_ix K rfl) (pv 9) pe_int (fun _ _ => rfl))) pa_nil))) pa_nil))) pa_nil))) (pe_slice (k_sl K rfl) (pv 4) (po_some (pe_op op_addS (pv 6) pe_int)) po_none)) pa_nil)))
    (pss_cons (ps_expr (k_bm K rfl PySem.F.plainAttrs_list PySem.F.slot_list_append PySem.F.type_list_append mt_append (pv 10) (pa_cons (pe_op op_addS (pe_op op_addS (pe_slice (k_sl K rfl) (pv 4) po_none (po_some (pv 6))) (pe_lst (pa_cons (pe_tup (pa_cons (pv 8) (pa_cons (pe_tup (pa_cons (pe_ix (k_ix K rfl) (pv 9) pe_int (fun _ _ => rfl)) (pa_cons pe_int pa_nil))) pa_nil))) pa_nil))) (pe_slice (k_sl K rfl) (pv 4) (po_some (pe_op op_addS (pv 6) pe_int)) po_none)) pa_nil)))
    (pss_cons (ps_expr (k_bm K rfl PySem.F.plainAttrs_list PySem.F.slot_list_append PySem.F.type_list_append mt_append (pv 10) (pa_cons (pe_op op_addS (pe_op op_addS (pe_slice (k_sl K rfl) (pv 4) po_none (po_some (pv 6))) (pe_lst (pa_cons (pe_tup (pa_cons (pv 8) (pa_cons (pe_tup (pa_cons (pe_un un_neg (pe_ix (k_ix K rfl) (pv 9) pe_int (fun _ _ => rfl))) (pa_cons (pe_un un_neg (pe_ix (k_ix K rfl) (pv 9) pe_int (fun _ _ => rfl))) pa_nil))) pa_nil))) pa_nil))) (pe_slice (k_sl K rfl) (pv 4) (po_some (pe_op op_addS (pv 6) pe_int)) po_none)) pa_nil)))
    (pss_cons (ps_expr (k_bm K rfl PySem.F.plainAttrs_list PySem.F.slot_list_append PySem.F.type_list_append mt_append (pv 10) (pa_cons (pe_op op_addS (pe_op op_addS (pe_slice (k_sl K rfl) (pv 4) po_none (po_some (pv 6))) (pe_lst (pa_cons (pe_tup (pa_cons (pv 8) (pa_cons (pe_callTy (k_list K rfl) (by rfl) T.b_list bt_list (pa_cons (pv 9) pa_nil)) pa_nil))) pa_nil))) (pe_slice (k_sl K rfl) (pv 4) (po_some (pe_op op_addS (pv 6) pe_int)) po_none)) pa_nil)))
    (pss_cons (ps_expr (k_bm K rfl PySem.F.plainAttrs_list PySem.F.slot_list_append PySem.F.type_list_append mt_append (pv 10) (pa_cons (pe_op op_addS (pe_op op_addS (pe_slice (k_sl K rfl) (pv 4) po_none (po_some (pv 6))) (pe_lst (pa_cons (pe_lst (pa_cons (pv 8) (pa_cons (pv 9) pa_nil))) pa_nil))) (pe_slice (k_sl K rfl) (pv 4) (po_some (pe_op op_addS (pv 6) pe_int)) po_none)) pa_nil)))
    (pss_cons (ps_for PassesOwn.never rfl (k_iany K rfl (pe_tup (pa_cons (pe_op op_addS (pe_slice (k_sl K rfl) (pv 8) po_none (po_some pe_int)) pe_str) (pa_cons (pe_op op_addS (pv 8) pe_str) (pa_cons pe_str (pa_cons pe_non (pa_cons (pe_tup (pa_cons (pv 8) pa_nil)) pa_nil))))))) (pg_name (i := 11) sc__law_beyond.nd rfl (Or.inl rfl))
      (pss_one (ps_expr (k_bm K rfl PySem.F.plainAttrs_list PySem.F.slot_list_append PySem.F.type_list_append mt_append (pv 10) (pa_cons (pe_op op_addS (pe_op op_addS (pe_slice (k_sl K rfl) (pv 4) po_none (po_some (pv 6))) (pe_lst (pa_cons (pe_tup (pa_cons (pv 11) (pa_cons (pv 9) pa_nil))) pa_nil))) (pe_slice (k_sl K rfl) (pv 4) (po_some (pe_op op_addS (pv 6) pe_int)) po_none)) pa_nil)))))
    (pss_cons (ps_if (pt_cmpR op_gt (pv 5) pe_int (nomark _))
      (pss_cons (ps_expr (k_bm K rfl PySem.F.plainAttrs_list PySem.F.slot_list_append PySem.F.type_list_append mt_append (pv 10) (pa_cons (pe_op op_addS (pe_lst (pa_cons (pe_ix (k_ix K rfl) (pv 4) pe_int (fun _ _ => rfl)) (pa_cons (pe_ix (k_ix K rfl) (pv 4) pe_int (fun _ _ => rfl)) pa_nil))) (pe_slice (k_sl K rfl) (pv 4) (po_some pe_int) po_none)) pa_nil)))
    (pss_cons (ps_set (i := 12) sc__law_beyond.nd rfl (Or.inr rfl) (pe_op op_mod (pe_op op_addS (pv 6) pe_int) (pv 5)))
    (pss_cons (ps_set (i := 13) sc__law_beyond.nd rfl (Or.inr rfl) (pe_callTy (k_dictP K rfl (by rfl)) (by rfl) T.b_dict bt_dict (pa_cons (pv 4) pa_nil)))
    (pss_cons (k_dput K rfl hr.units (pv 13) (pe_ix (k_ix K rfl) (pv 2) (pv 6) (fun _ _ => rfl)) (pe_tup (pa_cons (pe_un un_neg pe_int) (pa_cons pe_int pa_nil))) (by rfl))
    (pss_cons (ps_setLc (i := 14) (own := [("_law_one", 15)]) rfl sc__law_beyond.nd rfl rfl (sw_true rfl rfl rfl (by decide +kernel)) (k_iany K rfl (pv 2)) (blkOk_by (N := N__law_beyond) (sc := defScope s__law_beyond) (by decide +kernel)) (fun _ _ _ _ _ => (pg_name (i := 15) sc__law_beyond.nd rfl (Or.inl rfl))) (fun _ _ _ _ _ => (pts_one (pt_cmpR (op_notInB2 K rfl hr.units65) (pv 15) (pe_tup (pa_cons (pe_ix (k_ix K rfl) (pv 2) (pv 6) (fun _ _ => rfl)) (pa_cons (pe_ix (k_ix K rfl) (pv 2) (pv 12) (fun _ _ => rfl)) pa_nil))) (by rfl)))) (fun _ _ _ _ _ => (k_dix hr.units (pv 13) (pv 15) (fun _ _ => rfl))))
    (pss_cons (k_dput K rfl hr.units (pv 13) (pe_ix (k_ix K rfl) (pv 2) (pv 12) (fun _ _ => rfl)) (k_cal K rfl c__law_total (hr.mono (by decide)) (by rfl) (pa_cons (pe_op op_addS (pe_lst (pa_cons (pe_tup (pa_cons pe_int (pa_cons pe_int pa_nil))) pa_nil)) (pe_lc (own := [("_law_one", 15)]) rfl sc__law_beyond.nd (k_iany K rfl (pv 14)) (blkOk_by (N := N__law_beyond) (sc := defScope s__law_beyond) (by decide +kernel)) (fun _ _ _ _ _ => (pg_name (i := 15) sc__law_beyond.nd rfl (Or.inl rfl))) (fun _ _ _ _ _ => pts_nil) (fun _ _ _ _ _ => (pe_tup (pa_cons (pe_un un_neg (pe_ix (k_ix K rfl) (pv 15) pe_int (fun _ _ => rfl))) (pa_cons (pe_ix (k_ix K rfl) (pv 15) pe_int (fun _ _ => rfl)) pa_nil)))))) pa_nil)) (by rfl))
    (pss_one (ps_expr (k_bm K rfl PySem.F.plainAttrs_list PySem.F.slot_list_append PySem.F.type_list_append mt_append (pv 10) (pa_cons (pe_callB (k_sortedItD K rfl (by rfl) hr.units) (by rfl) T.b_sorted bt_sorted (pa_cons (k_bm0 K rfl PySem.F.plainAttrs_dict PySem.F.slot_dict_items PySem.F.type_dict_items mt_itemsK (pv 13)) pa_nil)) pa_nil))))))))))
      pss_nil)
    (pss_one (ps_ret (pe_op op_addS (pe_lc (own := [("_law_one", 15)]) rfl sc__law_beyond.nd (k_iany K rfl (pv 10)) (blkOk_by (N := N__law_beyond) (sc := defScope s__law_beyond) (by decide +kernel)) (fun _ _ _ _ _ => (pg_name (i := 15) sc__law_beyond.nd rfl (Or.inl rfl))) (fun _ _ _ _ _ => pts_nil) (fun _ _ _ _ _ => (pe_tup (pa_cons (pv 1) (pa_cons (pe_callTy (k_tuple K rfl) (by rfl) T.b_tuple bt_tuple (pa_cons (pv 15) pa_nil)) pa_nil))))) (pe_lst (pa_cons (pe_tup (pa_cons (pv 1) (pa_cons (pv 4) pa_nil))) (pa_cons (pe_lst (pa_cons (pv 1) (pa_cons (pe_callTy (k_tuple K rfl) (by rfl) T.b_tuple bt_tuple (pa_cons (pv 4) pa_nil)) pa_nil))) (pa_cons (pe_tup (pa_cons (pv 1) (pa_cons (pe_callTy (k_tuple K rfl) (by rfl) T.b_tuple bt_tuple (pa_cons (pv 4) pa_nil)) (pa_cons pe_int pa_nil)))) pa_nil)))))))))))))))))))), ?_⟩
    show DS K _ [.ow (some 0) ds, .v (.str (tx gl)), .ow (some jp) (ls.map fun l => .str (tx l)), .ow (some jr) (qs.map pq), .no, .no, .no, .no, .no, .no, .no, .no, .no, .no, .no, .no] [] _
    try dsimp only [cxOf]
    have hpl : (ls.map fun l => PyData.str (tx l)).length = ls.length := List.length_map _
    walk_at "d"
    refine ⟨_, _, _, _, rfl, rfl, rfl, ?_⟩
    rw [zip_sh]
    have hxl : ((ls.map tx).zip qs).length = ls.length := by rw [List.length_zip, List.length_map]; omega
    obtain ⟨xs, hxs⟩ : ∃ xs, (ls.map tx).zip qs = xs := ⟨_, rfl⟩
    rw [hxs] at hX hxl ⊢
    have hxm : (xs.map shD).length = xs.length := List.length_map _
    walk_at "d"
    rw [hpl]
    walk_at "draw"
    intro at0 ds1 a0 a1 T1
    walk_at "d"
    walk_at "draw"
    intro u ds2 u0 u1 T2
    obtain ⟨w, w0', wb, iW⟩ := more_at u0 u1
    obtain ⟨i, rfl⟩ := Int.eq_ofNat_of_zero_le a0
    have hi : i < xs.length := by omega
    have iX : atI (xs.map shD) (i : Int) = some (.tuple [.str xs[i].1, pq xs[i].2]) := atI_nat (by rw [List.getElem?_map, List.getElem?_eq_getElem hi]; rfl)
    walk_at "d"
    try (refine op2_ixL rfl iW ?_
         walk_at "d")
    try (refine op2_ixL rfl iX ?_
         walk_at "d")
    have hxq : ∀ x ∈ xs, BQ 60 x.2 := fun x hx => by
      rw [← hxs] at hx
      exact ((hS _ (List.of_mem_zip hx).2).bq (by omega) hS2 (by rw [Nat.one_mul]; exact hS2)).mono (by decide)
    have hbi := hxq _ (List.getElem_mem hi)
    have eT := cutD_take shD xs (m := i)
    have eD := cutD_drop shD xs (m := i + 1)
    refine ⟨xs[i].2, w, rfl, hbi.mono (by decide), wb.mono (by decide), ?_⟩
    walk_at "d"
    rw [eT]
    have hA : ((xs.take i).map shD).length < 10 := by rw [List.length_map, List.length_take]; omega
    have hB : ((xs.drop (i + 1)).map shD).length < 10 := by rw [List.length_map, List.length_drop]; omega
    obtain ⟨A0, hA0⟩ : ∃ A0, (xs.take i).map shD = A0 := ⟨_, rfl⟩
    obtain ⟨B0, hB0⟩ : ∃ B0, (xs.drop (i + 1)).map shD = B0 := ⟨_, rfl⟩
    rw [hA0] at eT hA ⊢
    rw [hB0] at eD hB
    have eD' := hB0
    walk_at "d"
    rw [show ((i : Int) + 1) = (((i + 1 : Nat)) : Int) from rfl, eD]
    walk_at "d"
    have eC := cutD_drop shD xs (m := i)
    have hC : ((xs.drop i).map shD).length < 10 := by rw [List.length_map, List.length_drop]; omega
    obtain ⟨C0, hC0⟩ : ∃ C0, (xs.drop i).map shD = C0 := ⟨_, rfl⟩
    rw [hC0] at eC hC
    rw [eT]
    walk_at "d"
    rw [eC]
    walk_at "d"
    rw [eT]
    walk_at "d"
    rw [show ((i : Int) + 1) = (((i + 1 : Nat)) : Int) from rfl, eD]
    walk_at "d"
    obtain ⟨zs, ez, zp⟩ := sort_sh (xs.take i ++ xs.drop (i + 1) ++ [(tx gl, xs[i].2)])
    obtain ⟨s1, s2, s3⟩ := sortable_sh (xs.take i ++ xs.drop (i + 1) ++ [(tx gl, xs[i].2)])
    have eZ : (xs.take i ++ xs.drop (i + 1) ++ [(tx gl, xs[i].2)]).map shD = A0 ++ B0 ++ [PyData.tuple [PyData.str (tx gl), pq xs[i].snd]] := by
      rw [List.map_append, List.map_append, hA0, eD']; rfl
    rw [eZ] at ez s1 s2 s3
    refine opc_sortedD rfl s1 s2 s3 ?_
    rw [ez]
    have hZ : (zs.map shD).length < 20 := by
      rw [List.length_map, zp.length_eq, List.length_append, List.length_append, List.length_take, List.length_drop]
      show _ + 1 < 20
      omega
    generalize hz0 : zs.map shD = Z0 at hZ ⊢
    obtain ⟨Pq, hPq⟩ : ∃ Pq, pq xs[i].2 = Pq := ⟨_, rfl⟩
    rw [hPq]
    have hPq2 : Pq = .tuple [.int xs[i].2.num, .int (xs[i].2.den : Int)] := hPq.symm
    rw [hPq2]
    walk_at "d"
    rw [eT]
    walk_at "d"
    rw [show ((i : Int) + 1) = (((i + 1 : Nat)) : Int) from rfl, eD]
    walk_at "d"
    rw [eT]
    walk_at "d"
    rw [show ((i : Int) + 1) = (((i + 1 : Nat)) : Int) from rfl, eD]
    walk_at "d"
    rw [eT]
    walk_at "d"
    rw [show ((i : Int) + 1) = (((i + 1 : Nat)) : Int) from rfl, eD]
    walk_at "d"
    rw [eT]
    walk_at "d"
    rw [show ((i : Int) + 1) = (((i + 1 : Nat)) : Int) from rfl, eD]
    walk_at "d"
    rw [eT]
    walk_at "d"
    rw [show ((i : Int) + 1) = (((i + 1 : Nat)) : Int) from rfl, eD]
    walk_at "d"
    have hat : ∀ (k : Nat) (hk : k < xs.length), ∃ nl, ls[k]? = some nl ∧ nameOk nl ∧ xs[k].1 = tx nl := fun k hk => by
      have h1 : xs[k]? = some xs[k] := List.getElem?_eq_getElem hk
      rw [show xs[k]? = ((ls.map tx).zip qs)[k]? from by rw [hxs], List.getElem?_zip_eq_some] at h1
      rw [List.getElem?_map] at h1
      obtain ⟨nl, h2, h3⟩ := Option.map_eq_some_iff.mp h1.1
      exact ⟨nl, h2, hls nl (List.mem_of_getElem? h2), h3.symm⟩
    obtain ⟨nl, hnl0, hnl, hnn⟩ := hat i hi
    have hxg : ∀ x ∈ xs, shGood (shD x) := fun x hx => by
      have hx2 := hx
      rw [← hxs] at hx2
      obtain ⟨l, hl, e⟩ := List.mem_map.mp (List.of_mem_zip hx2).1
      refine shGood_nm (fun z ez => ?_) (pq_bq (hxq x hx) (by decide))
      injection ez with ez
      rw [← ez, ← e]
      exact ⟨by rw [tx_len]; exact Nat.le_trans (hls l hl).2.1 (by decide), tx_ok fun c hc => by have := (hls l hl).2.2 c hc; omega⟩
    have hl7 : xs.length ≤ 7 := by omega
    have hnmg : nmGood (.str xs[i].1) := fun z ez => by
      injection ez with ez
      rw [← ez, hnn]
      exact ⟨by rw [tx_len]; exact Nat.le_trans hnl.2.1 (by decide), tx_ok fun c hc => by have := hnl.2.2 c hc; omega⟩
    have hOS : ∃ OS : List (List D), OS.map PyData.list = [PyData.list (A0 ++ [PyData.tuple [PyData.str xs[i].fst, pq (xs[i].snd + w)]] ++ B0), PyData.list [],
          PyData.list (A0 ++ [PyData.tuple [PyData.str xs[i].fst, PyData.tuple [PyData.int xs[i].snd.num, PyData.int xs[i].snd.den]]] ++ C0),
          PyData.list Z0,
          PyData.list (A0 ++ [PyData.tuple [PyData.str xs[i].fst, PyData.tuple [PyData.int (2 * xs[i].snd.num), PyData.int (2 * xs[i].snd.den)]]] ++ B0),
          PyData.list (A0 ++ [PyData.tuple [PyData.str xs[i].fst, PyData.tuple [PyData.int xs[i].snd.num, PyData.int 0]]] ++ B0),
          PyData.list (A0 ++ [PyData.tuple [PyData.str xs[i].fst, PyData.tuple [PyData.int (-xs[i].snd.num), PyData.int (-xs[i].snd.den)]]] ++ B0),
          PyData.list (A0 ++ [PyData.tuple [PyData.str xs[i].fst, PyData.list [PyData.int xs[i].snd.num, PyData.int xs[i].snd.den]]] ++ B0),
          PyData.list (A0 ++ [PyData.list [PyData.str xs[i].fst, PyData.tuple [PyData.int xs[i].snd.num, PyData.int xs[i].snd.den]]] ++ B0)] ∧ (∀ os ∈ OS, OsOk (tx gl) os) ∧ OS.length = 9 := by
      refine ⟨[_, _, _, _, _, _, _, _, _], rfl, ?_, rfl⟩
      have b2 : ∀ k : Int, Bd 2 k → Bd 400 (k * xs[i].2.num) ∧ Bd 400 (k * (xs[i].2.den : Int)) := fun k hk => ⟨(hk.mul hbi.1).mono (by decide), (hk.mul hbi.2).mono (by decide)⟩
      have hn1 : Bd 400 xs[i].2.num := hbi.1.mono (by decide)
      have hd1 : Bd 400 (xs[i].2.den : Int) := hbi.2.mono (by decide)
      intro os hos
      simp only [List.mem_cons, List.not_mem_nil, or_false] at hos
      rcases hos with h | h | h | h | h | h | h | h | h
      all_goals subst h
      · rw [← hA0, ← eD', show (xs.take i).map shD ++ [PyData.tuple [PyData.str xs[i].fst, pq (xs[i].snd + w)]] ++ (xs.drop (i + 1)).map shD = (xs.take i ++ [(xs[i].1, xs[i].2 + w)] ++ xs.drop (i + 1)).map shD by rw [List.map_append, List.map_append]; rfl]
        refine osOk_x (fun x hx => ?_) ?_ (no_more hi hX w0')
        · rcases List.mem_append.mp hx with hx | hx
          · rcases List.mem_append.mp hx with hx | hx
            · exact hxg x (List.mem_of_mem_take hx)
            · rw [List.mem_singleton.mp hx]
              exact shGood_nm hnmg (pq_bq (hbi.add wb) (by decide))
          · exact hxg x (List.mem_of_mem_drop hx)
        · simp only [List.length_append, List.length_take, List.length_drop, List.length_cons, List.length_nil]; omega
      · exact osOk_nil _
      · rw [← hA0, ← hC0, show (xs.take i).map shD ++ [PyData.tuple [PyData.str xs[i].fst, PyData.tuple [PyData.int xs[i].snd.num, PyData.int xs[i].snd.den]]] ++ (xs.drop i).map shD = (xs.take i ++ [xs[i]] ++ xs.drop i).map shD by rw [List.map_append, List.map_append]; rfl]
        refine osOk_x (fun x hx => ?_) ?_ (no_twice hi)
        · rcases List.mem_append.mp hx with hx | hx
          · rcases List.mem_append.mp hx with hx | hx
            · exact hxg x (List.mem_of_mem_take hx)
            · rw [List.mem_singleton.mp hx]
              exact hxg _ (List.getElem_mem hi)
          · exact hxg x (List.mem_of_mem_drop hx)
        · simp only [List.length_append, List.length_take, List.length_drop, List.length_cons, List.length_nil]; omega
      · rw [← hz0]
        refine ⟨fun o ho => ?_, no_g (w := pq xs[i].2) (List.mem_map.mpr ⟨(tx gl, xs[i].2), zp.mem_iff.mpr (by simp), rfl⟩), by rw [hz0]; omega⟩
        obtain ⟨x, hx, rfl⟩ := List.mem_map.mp ho
        have hx := zp.mem_iff.mp hx
        rcases List.mem_append.mp hx with hx | hx
        · rcases List.mem_append.mp hx with hx | hx
          · exact hxg x (List.mem_of_mem_take hx)
          · exact hxg x (List.mem_of_mem_drop hx)
        · rw [List.mem_singleton.mp hx]
          refine shGood_nm (fun z ez => ?_) (pq_bq hbi (by decide))
          injection ez with ez
          rw [← ez]
          exact ⟨by rw [tx_len]; exact Nat.le_trans hg.2.1 (by decide), tx_ok fun c hc => by have := hg.2.2 c hc; omega⟩
      · rw [← hA0, ← eD']
        exact osOk_at hxg hl7 (shGood_nm hnmg (pqL_bq (b2 2 (by unfold Bd; decide)).1 (b2 2 (by unfold Bd; decide)).2)) fun x _ _ => ns_twice _ _ x
      · rw [← hA0, ← eD']
        exact osOk_at hxg hl7 (shGood_nm hnmg (pqL_bq hn1 (by unfold Bd; decide))) fun x _ _ => ns_zero _ _ x
      · rw [← hA0, ← eD']
        exact osOk_at hxg hl7 (shGood_nm hnmg (pqL_bq hn1.neg hd1.neg)) fun x _ _ => ns_neg _ _ _ x
      · rw [← hA0, ← eD']
        exact osOk_at hxg hl7 (shGood_nm hnmg (fun r e => by cases e)) fun x _ _ => ns_lst _ _ x
      · rw [← hA0, ← eD']
        exact osOk_at hxg hl7 (fun n v e => by cases e) fun x _ _ => ns_list _ x
    obtain ⟨OS, eOS, hOS, hOl⟩ := hOS
    rw [← eOS]
    rw [hnn]
    have hnz : (tx nl).length ≤ sizeLine := by rw [tx_len]; exact Nat.le_trans hnl.2.1 (by decide)
    have hnc : nl.length ≤ 6 := hnl.2.1
    refine ds_for (di_anyT ?_)
    walk_at "d"
    rw [show (5 : Int) = ((5 : Nat) : Int) from rfl, tx_cutT, show Str.ofString "A" = tx [65] from by decide +kernel]
    refine op2_addT (Nat.le_trans (show _ ≤ 7 by rw [tx_len, tx_len, List.length_take]; simp only [List.length_cons, List.length_nil]; omega) (by decide)) ?_
    rw [tx_app]
    walk_at "d"
    rw [show Str.ofString "abcdef" = tx [97, 98, 99, 100, 101, 102] from by decide +kernel]
    refine op2_addT (Nat.le_trans (show _ ≤ 12 by rw [tx_len, tx_len]; simp only [List.length_cons, List.length_nil]; omega) (by decide)) ?_
    rw [tx_app]
    walk_at "d"
    have hodd : ∀ d ∈ [PyData.str (tx (nl.take 5 ++ [65])), .str (tx (nl ++ [97, 98, 99, 100, 101, 102])), .str (Str.ofString ""), .none, .tuple [.str (tx nl)]], nmGood d ∧ ∀ w (x : Str × Rat), isNmT x.1 = true → PyData.tuple [d, w] ≠ shD x := fun d hd => by
      simp only [List.mem_cons, List.not_mem_nil, or_false] at hd
      rcases hd with h | h | h | h | h
      all_goals subst h
      · refine ⟨fun z ez => ?_, fun w x hx => ns_name (nm_cap _) x hx⟩
        injection ez with ez
        rw [← ez]
        refine ⟨Nat.le_trans (show _ ≤ 7 by rw [tx_len, List.length_append, List.length_take]; simp only [List.length_cons, List.length_nil]; omega) (by decide), tx_ok fun c hc => ?_⟩
        rcases List.mem_append.mp hc with hc | hc
        · have := hnl.2.2 c (List.mem_of_mem_take hc); omega
        · rw [List.mem_singleton.mp hc]; decide
      · refine ⟨fun z ez => ?_, fun w x hx => ns_name (nm_long _ hnl.1 _ rfl) x hx⟩
        injection ez with ez
        rw [← ez]
        refine ⟨Nat.le_trans (show _ ≤ 12 by rw [tx_len, List.length_append]; simp only [List.length_cons, List.length_nil]; omega) (by decide), tx_ok fun c hc => ?_⟩
        rcases List.mem_append.mp hc with hc | hc
        · have := hnl.2.2 c hc; omega
        · simp only [List.mem_cons, List.not_mem_nil, or_false] at hc; omega
      · refine ⟨fun z ez => ?_, fun w x hx => ns_name (by decide +kernel) x hx⟩
        injection ez with ez
        rw [← ez]
        exact ⟨by decide +kernel, by rw [show Str.ofString "" = tx [] from by decide +kernel]; exact tx_ok fun _ h => nomatch h⟩
      · exact ⟨(fun z ez => nomatch ez), fun w x hx => ns_none w x⟩
      · exact ⟨(fun z ez => nomatch ez), fun w x hx => ns_tup _ w x⟩
    refine ⟨fun k s => ∃ (OS : List (List D)) (x11 : SD), s = [.ow (some 0) ds2, .v (.str (tx gl)), .ow (some jp) (ls.map fun l => .str (tx l)), .ow (some jr) (qs.map pq), .ow none (xs.map shD), .v (.int ls.length), .v (.int i), .v (pq w), .v (.str (tx nl)), .v (.tuple [.int xs[i].2.num, .int xs[i].2.den]), .ow none (OS.map .list), x11, .no, .no, .no, .no] ∧ (∀ os ∈ OS, OsOk (tx gl) os) ∧ OS.length = 9 + k, ⟨OS, _, rfl, hOS, hOl⟩, ?_, ?_, ?_⟩
    · intros; trivial
    · rintro k d s hd ⟨OS, x11, rfl, hOS, hOl⟩
      have hk5 : k < 5 := (List.getElem?_eq_some_iff.mp hd).1
      obtain ⟨od1, od2⟩ := hodd d (List.mem_of_getElem? hd)
      have hOm : (OS.map PyData.list).length < 20 := by rw [List.length_map]; omega
      walk_at "d"
      rw [eT]
      walk_at "d"
      rw [show ((i : Int) + 1) = (((i + 1 : Nat)) : Int) from rfl, eD]
      walk_at "d"
      refine ⟨OS ++ [A0 ++ [.tuple [d, .tuple [.int xs[i].2.num, .int xs[i].2.den]]] ++ B0], _, by rw [List.map_append] <;> rfl, fun os hos => ?_, by rw [List.length_append]; simp only [List.length_cons, List.length_nil]; omega⟩
      rcases List.mem_append.mp hos with hos | hos
      · exact hOS os hos
      · rw [List.mem_singleton.mp hos, ← hA0, ← eD']
        refine osOk_at hxg hl7 (fun n v e => ?_) fun x hx _ => od2 _ x hx
        injection e with e
        injection e with e1 e
        injection e with e2 _
        subst e1 e2
        exact ⟨od1, pqL_bq (hbi.1.mono (by decide)) (hbi.2.mono (by decide))⟩
    · rintro s ⟨OS, x11, rfl, hOS, hOl⟩
      have hOl : OS.length = 14 := hOl
      have hOm : (OS.map PyData.list).length < 20 := by rw [List.length_map]; omega
      walk_at "f"
      refine DS.imp (D0 := { nx := fun s' => ∃ (OS : List (List D)) (x11 x12 x13 x14 : SD), s' = [.ow (some 0) ds2, .v (.str (tx gl)), .ow (some jp) (ls.map fun l => .str (tx l)), .ow (some jr) (qs.map pq), .ow none (xs.map shD), .v (.int ls.length), .v (.int i), .v (pq w), .v (.str (tx nl)), .v (.tuple [.int xs[i].2.num, .int xs[i].2.den]), .ow none (OS.map .list), x11, x12, x13, x14, .no] ∧ (∀ os ∈ OS, OsOk (tx gl) os) ∧ OS.length ≤ 16, rt := fun _ _ => False }) ?_ ?_ (fun _ _ h => h.elim) (fun _ h => h.elim) (fun _ h => h.elim)
      · walk_at "d"
        refine ite_dec (fun hmany => ?_) (fun hmany => ?_)
        · have h0 : 0 < xs.length := by omega
          have h1 : 1 < xs.length := by omega
          have iX0 : atI (xs.map shD) 0 = some (shD xs[0]) := atI_nat (j := 0) (by rw [List.getElem?_map, List.getElem?_eq_getElem h0]; rfl)
          have iX1 : atI (xs.map shD) 1 = some (shD xs[1]) := atI_nat (j := 1) (by rw [List.getElem?_map, List.getElem?_eq_getElem h1]; rfl)
          have e2 := cutD_drop shD xs (m := 2)
          have hE : ((xs.drop 2).map shD).length < 10 := by rw [List.length_map, List.length_drop]; omega
          walk_at "d"
          rw [show (2 : Int) = ((2 : Nat) : Int) from rfl, e2]
          have hxn : (xs.map Prod.fst).Nodup := by
            rw [← hxs, List.map_fst_zip (by rw [List.length_map]; omega)]
            exact List.Pairwise.map _ (fun _ _ h e => h (tx_inj e)) hnd
          obtain ⟨to, hto⟩ : ∃ to : Nat, (i + 1) % ls.length = to := ⟨_, rfl⟩
          have hto1 : to < xs.length := by rw [← hto, hxl]; exact Nat.mod_lt _ (by omega)
          have hto2 : to ≠ i := fun e => by
            rw [e] at hto
            have : i + 1 < ls.length ∨ i + 1 = ls.length := by omega
            rcases this with h | h
            · rw [Nat.mod_eq_of_lt h] at hto; omega
            · rw [h, Nat.mod_self] at hto; omega
          have htoI : ((i : Int) + 1) % (ls.length : Int) = (to : Int) := by rw [← hto]; rfl
          obtain ⟨nl2, hnl20, hnl2, hnn2⟩ := hat to hto1
          have hne : nl2 ≠ nl := fun e => hto2 ((List.getElem?_inj (i := to) (j := i) (by omega) hnd).mp (by rw [hnl20, hnl0, e]))
          have iN : atI (ls.map fun l => PyData.str (tx l)) (i : Int) = some (.str (tx nl)) := atI_nat (by rw [List.getElem?_map, hnl0]; rfl)
          have iN2 : atI (ls.map fun l => PyData.str (tx l)) (to : Int) = some (.str (tx nl2)) := atI_nat (by rw [List.getElem?_map, hnl20]; rfl)
          have hfm : ∀ (k : Nat) (hk : k < xs.length), xs[k].1 ∈ xs.map Prod.fst := fun k hk => List.mem_map_of_mem (List.getElem_mem hk)
          have hin : tx nl ∈ xs.map Prod.fst := by rw [← hnn]; exact hfm i hi
          walk_at "d"
          rw [htoI]
          walk_at "d"
          refine opc_dictP (kds := xs.map kS) (by rw [sh_kp]; rfl) ?_
          rw [show mergeD [] (xs.map kS) = xs.map kS from merge_kS (ys := []) hxn]
          have hkl : (xs.map kS).length < 10 := by rw [List.length_map]; omega
          walk_at "d"
          refine ds_dputK ?_
          walk_at "d"
          refine ⟨⟨_, _, rfl⟩, ?_⟩
          walk_at "d"
          refine ⟨_, _, .inr (tx nl), _, rfl, rfl, by omega, rfl, ?_⟩
          rw [show PyData.tuple [.int (-1), .int 3] = pq (Rat.divInt (-1) 3) from by unfold pq; rw [show (Rat.divInt (-1) 3).num = -1 from by decide +kernel, show (Rat.divInt (-1) 3).den = 3 from by decide +kernel]; rfl, put_kS hin]
          obtain ⟨x1, hx1⟩ : ∃ x1, setN xs (tx nl) (Rat.divInt (-1) 3) = x1 := ⟨_, rfl⟩
          rw [hx1]
          have hx1f : x1.map Prod.fst = xs.map Prod.fst := by rw [← hx1]; exact setN_fst _ _ _
          have hx1n : (x1.map Prod.fst).Nodup := by rw [hx1f]; exact hxn
          have hx1l : x1.length = xs.length := by have := congrArg List.length hx1f; rwa [List.length_map, List.length_map] at this
          have hx1k : (x1.map kS).length < 10 := by rw [List.length_map]; omega
          have hin2 : tx nl2 ∈ x1.map Prod.fst := by rw [hx1f, ← hnn2]; exact hfm to hto1
          have hv1 : ∀ l, ∃ v : Rat, l ∈ ls → l ≠ nl → BQ 20 v ∧ valD (x1.map kS) (.inr (tx l)) = some (pq v) := fun l => by
            by_cases hl : l ∈ ls
            · obtain ⟨m, hm, e⟩ := List.mem_iff_getElem.mp hl
              have hmx : m < xs.length := by omega
              obtain ⟨l', e1, _, e2⟩ := hat m hmx
              have : l' = l := by rw [List.getElem?_eq_getElem hm, e] at e1; exact (Option.some.inj e1).symm
              subst this
              refine ⟨xs[m].2, fun _ hne => ⟨?_, ?_⟩⟩
              · have hm2 : xs[m] ∈ (ls.map tx).zip qs := by rw [hxs]; exact List.getElem_mem hmx
                exact (hS _ (List.of_mem_zip hm2).2).bq (by omega) hS2 (by rw [Nat.one_mul]; exact hS2)
              · rw [← e2]
                refine val_kS hx1n ?_
                rw [← hx1]
                exact setN_old (List.getElem_mem hmx) (by rw [e2]; exact fun z => hne (tx_inj z))
            · exact ⟨0, fun h => absurd h hl⟩
          obtain ⟨qv, hqv⟩ := Classical.axiomOfChoice hv1
          have htok : ∀ l ∈ ls, tOk (tx l) := fun l hl => tx_ok fun c hc => by have := (hls l hl).2.2 c hc; omega
          have shp : SeqAt.shaped (.list [.str (tx nl), .str (tx nl2)]) = true := sh_txts (ns := [tx nl, tx nl2]) fun n hn => by
            rcases List.mem_cons.mp hn with h | h
            · rw [h]; exact htok nl (List.mem_of_getElem? hnl0)
            · rw [List.mem_singleton.mp h]; exact htok nl2 (List.mem_of_getElem? hnl20)
          walk_at "d"
          refine de_lcG (gw_name (by decide)) ls (fun l => .str (tx l)) (fun l => !([PyData.str (tx nl), .str (tx nl2)].any fun z => PyData.eqv z (.str (tx l)))) (fun l => pq (qv l)) (di_anyL ?_)
          walk_at "d"
          refine ⟨rfl, all_in1 ⟨rfl, rfl⟩, rfl, by rw [List.length_map]; omega, ?_, rfl, ?_⟩
          · intro l hl acc
            have hlt := htok l hl
            walk_at "clean"
            walk_at "d"
            refine op2_notInT rfl rfl hlt.str shp ?_
            walk_at "d"
            refine ⟨rfl, ?_⟩
            have hqvl := hqv l hl
            have hpn : (!([PyData.str (tx nl), .str (tx nl2)].any fun z => PyData.eqv z (.str (tx l)))) = true → l ≠ nl := fun h e => by
              subst e
              rw [List.any_cons, eqv_str, Bool.true_or] at h
              cases h
            generalize (!([PyData.str (tx nl), .str (tx nl2)].any fun z => PyData.eqv z (.str (tx l)))) = b at hpn ⊢
            cases b with
            | false => rfl
            | true =>
              obtain ⟨_, hvl⟩ := hqvl (hpn rfl)
              show DE K _ _ _ _
              refine dxK_get ?_
              walk_at "d"
              refine ⟨_, .inr (tx l), _, rfl, rfl, hvl, ?_⟩
              walk_at "d"
              first | exact rfl | exact ⟨rfl, rfl⟩ | exact ⟨_, rfl, rfl, rfl⟩
          walk_at "clean"
          have hpn : ∀ l, (!([PyData.str (tx nl), .str (tx nl2)].any fun z => PyData.eqv z (.str (tx l)))) = true → l ≠ nl := fun l h e => by
            subst e
            rw [List.any_cons, eqv_str, Bool.true_or] at h
            cases h
          have hLq : ∀ l ∈ ls.filter (fun l => !([PyData.str (tx nl), .str (tx nl2)].any fun z => PyData.eqv z (.str (tx l)))), BQ 20 (qv l) := fun l hl => (hqv l (List.mem_filter.mp hl).1 (hpn l (List.mem_filter.mp hl).2)).1
          have hLl : (ls.filter (fun l => !([PyData.str (tx nl), .str (tx nl2)].any fun z => PyData.eqv z (.str (tx l))))).length ≤ 7 := Nat.le_trans (List.length_filter_le _ _) l7
          generalize ls.filter (fun l => !([PyData.str (tx nl), .str (tx nl2)].any fun z => PyData.eqv z (.str (tx l)))) = L at hLq hLl ⊢
          walk_at "d"
          refine ds_dputK ?_
          walk_at "d"
          refine de_lcY (gw_name (by decide)) L (fun l => pq (qv l)) (fun l => pq (-(qv l))) (di_anyL ?_)
          walk_at "d"
          refine ⟨rfl, all_in1 ⟨rfl, rfl⟩, by first | rfl | trivial, by rw [List.length_map]; omega, ?_, rfl, ?_⟩
          · intro l hl acc
            show DG K _ (.v (.tuple [.int (qv l).num, .int ((qv l).den : Int)])) _ _ _
            walk_at "clean"
            walk_at "d"
            exact ⟨rfl, rfl⟩
          walk_at "clean"
          have hps : [PyData.tuple [.int 4, .int 3]] ++ L.map (fun l => pq (-(qv l))) = ((Rat.divInt 4 3) :: L.map fun l => -(qv l)).map pq := by
            rw [List.map_cons, List.map_map, show pq (Rat.divInt 4 3) = PyData.tuple [.int 4, .int 3] from by unfold pq; rw [show (Rat.divInt 4 3).num = 4 from by decide +kernel, show (Rat.divInt 4 3).den = 3 from by decide +kernel]; rfl]; rfl
          have hpl2 : (L.map fun l => pq (-(qv l))).length ≤ 7 := by rw [List.length_map]; exact hLl
          have hb43 : BQ 20 (Rat.divInt 4 3) := ⟨show (Rat.divInt 4 3).num.natAbs < 2 ^ 20 by decide +kernel, show ((Rat.divInt 4 3).den : Int).natAbs < 2 ^ 20 by decide +kernel⟩
          have hpb : ∀ x ∈ ((Rat.divInt 4 3) :: L.map fun l => -(qv l)), BQ 20 x := fun x hx => by
            rcases List.mem_cons.mp hx with h | h
            · rw [h]; exact hb43
            · obtain ⟨l, hl, rfl⟩ := List.mem_map.mp h
              exact (hLq l hl).neg
          have hsb : ∀ k, BQ 200 ((((Rat.divInt 4 3) :: L.map fun l => -(qv l)).take k).foldl (· + ·) 0) := fun k => by
            refine (bq_sums (n := 20) _ 1 0 .zero fun x hx => hpb x (List.mem_of_mem_take hx)).mono ?_
            rw [List.length_take, List.length_cons, List.length_map]
            omega
          walk_at "d"
          refine ⟨_, _, rfl, .inr ⟨0, by rw [← hps] <;> rfl⟩, fun x hx => (hpb x hx).mono (by decide), fun k => (hsb k).mono (by decide), ?_⟩
          have htb := hsb ((Rat.divInt 4 3) :: L.map fun l => -(qv l)).length
          rw [List.take_length] at htb
          generalize ((Rat.divInt 4 3) :: L.map fun l => -(qv l)).foldl (· + ·) 0 = tot at htb ⊢
          walk_at "d"
          refine ⟨⟨_, _, rfl⟩, ?_⟩
          walk_at "d"
          refine ⟨_, _, .inr (tx nl2), _, rfl, rfl, by omega, rfl, ?_⟩
          rw [put_kS hin2]
          obtain ⟨zx1, zx2, zx3⟩ := sortable_sh (setN x1 (tx nl2) tot)
          obtain ⟨zz, zze, zzp⟩ := sort_sh (setN x1 (tx nl2) tot)
          walk_at "d"
          refine ⟨by rw [sh_kp]; exact zx1, by rw [sh_kp]; exact zx2, by rw [sh_kp]; exact zx3, ?_⟩
          rw [sh_kp, zze]
          have hzzl : (zz.map shD).length < 40 := by
            rw [List.length_map, zzp.length_eq]
            have := congrArg List.length (setN_fst x1 (tx nl2) tot)
            rw [List.length_map, List.length_map] at this
            omega
          walk_at "d"
          refine ⟨OS ++ [[shD xs[1], shD xs[0]] ++ (xs.drop 2).map shD, zz.map shD], _, _, _, _, by rw [List.map_append, ← List.append_cons] <;> rfl, fun os hos => ?_, by rw [List.length_append]; simp only [List.length_cons, List.length_nil]; omega⟩
          rcases List.mem_append.mp hos with hos | hos
          · exact hOS os hos
          rcases List.mem_cons.mp hos with hos | hos
          · rw [hos, show [shD xs[1], shD xs[0]] ++ (xs.drop 2).map shD = (xs[1] :: xs[0] :: xs.drop 2).map shD from rfl]
            have e3 : xs[0] :: xs[1] :: xs.drop 2 = xs := by
              rw [show xs.drop 2 = xs.drop (1 + 1) from rfl, ← List.drop_eq_getElem_cons h1, show xs.drop 1 = xs.drop (0 + 1) from rfl, ← List.drop_eq_getElem_cons h0, List.drop_zero]
            refine osOk_x (fun x hx => ?_) ?_ (no_turn (by rw [e3]; exact hX))
            · rcases List.mem_cons.mp hx with h | h
              · rw [h]; exact hxg _ (List.getElem_mem h1)
              rcases List.mem_cons.mp h with h | h
              · rw [h]; exact hxg _ (List.getElem_mem h0)
              · exact hxg x (List.mem_of_mem_drop h)
            · simp only [List.length_cons, List.length_drop]; omega
          · rw [List.mem_singleton.mp hos]
            have hgd : ∀ x ∈ setN x1 (tx nl2) tot, shGood (shD x) := fun x hx => by
              have nmg : ∀ n, n ∈ xs.map Prod.fst → nmGood (.str n) := fun n hn => by
                obtain ⟨y, hy, e⟩ := List.mem_map.mp hn
                rw [← e]
                exact (hxg y hy _ _ rfl).1
              rcases setN_mem hx with h | ⟨e1, e2, e3⟩
              · rw [← hx1] at h
                rcases setN_mem h with h | ⟨e1, e2, e3⟩
                · exact hxg x h
                · refine shGood_nm (nmg _ (by rw [e2]; exact e3)) ?_
                  rw [e1]
                  exact pq_bq (m := 20) ⟨show (Rat.divInt (-1) 3).num.natAbs < 2 ^ 20 by decide +kernel, show ((Rat.divInt (-1) 3).den : Int).natAbs < 2 ^ 20 by decide +kernel⟩ (by decide)
              · refine shGood_nm (nmg _ (by rw [e2, ← hx1f]; exact e3)) ?_
                rw [e1]
                exact pq_bq htb (by decide)
            have hmem : (tx nl, Rat.divInt (-1) 3) ∈ zz := by
              refine zzp.mem_iff.mpr (setN_old (by rw [← hx1]; exact setN_in hin) ?_)
              exact fun e => hne (tx_inj e).symm
            refine ⟨fun o ho => ?_, ?_, hzzl⟩
            · obtain ⟨x, hx, rfl⟩ := List.mem_map.mp ho
              exact hgd x (zzp.mem_iff.mp hx)
            · refine no_x fun hR => ?_
              exact (hR.2.2.2.1 _ hmem).2 (show Rat.divInt (-1) 3 < 0 by decide +kernel)
        · walk_at "d"
          exact ⟨OS, _, _, _, _, rfl, hOS, by omega⟩
      rintro s' ⟨OS, x11, x12, x13, x14, rfl, hOS, hOl⟩
      walk_at "x"
      refine ds_freeze 4 rfl rfl ?_
      walk_at "clean"
      walk_at "d"
      refine de_lcY (gw_name (by decide)) OS PyData.list (fun os => .tuple [.str (tx gl), .tuple os]) (di_anyL ?_)
      walk_at "d"
      refine ⟨rfl, all_in1 ⟨rfl, rfl⟩, rfl, by rw [List.length_map]; omega, ?_, rfl, ?_⟩
      · intro os hos acc
        walk_at "clean"
        walk_at "d"
        exact ⟨rfl, rfl⟩
      walk_at "clean"
      walk_at "d"
      have hgn2 : nmGood (.str (tx gl)) := fun z ez => by
        injection ez with ez
        rw [← ez]
        exact ⟨by rw [tx_len]; exact Nat.le_trans hg.2.1 (by decide), tx_ok fun c hc => by have := hg.2.2 c hc; omega⟩
      refine q ds2 _ (fun d hd => ?_) ?_ (by rw [show n + 2 = n + 1 + 1 by omega]; exact T2)
      · rcases List.mem_append.mp hd with hd | hd
        · obtain ⟨os, hos, rfl⟩ := List.mem_map.mp hd
          obtain ⟨o1, o2, _⟩ := hOS os hos
          refine ⟨fun n w e => ?_, o2⟩
          cases e
          exact ⟨hgn2, fun os' e o ho => by cases e; exact o1 o ho⟩
        · simp only [List.mem_cons, List.not_mem_nil, or_false] at hd
          rcases hd with h | h | h
          all_goals subst h
          · exact ⟨fun n w e => (by cases e; exact ⟨hgn2, fun _ e => nomatch e⟩), no_lst2 _ _⟩
          · exact ⟨(fun n w e => nomatch e), no_lst _⟩
          · exact ⟨fun n w e => (by cases e), no_three _ _ _⟩
      · simp only [List.length_append, List.length_map, List.length_cons, List.length_nil]; omega



theorem str_ext {a b : Str} (h : a.cps.toList = b.cps.toList) : a = b := by
  obtain ⟨⟨x⟩⟩ := a
  obtain ⟨⟨y⟩⟩ := b
  have h : x = y := h
  rw [h]
theorem nmT_of {l : List Nat} (h : nameOk l) : isNmT (tx l) = true := by
  obtain ⟨h1, h2, h3⟩ := h
  unfold isNmT
  simp only [tx_len]
  rw [decide_eq_true (show (1 : Int) ≤ l.length by omega), decide_eq_true (show (l.length : Int) ≤ 6 by omega), Bool.true_and, Bool.true_and, List.all_eq_true]
  intro c hc
  have hc : c ∈ l := by simpa [tx] using hc
  have := h3 c hc
  refine decide_eq_true ?_
  rw [abc_list]
  exact List.mem_map.mpr ⟨c - 97, List.mem_range.mpr (by omega), by omega⟩
theorem tx_gd {l : List Nat} (h : nameOk l) : tOk (tx l) ∧ (tx l).length ≤ 6 := ⟨tx_ok fun c hc => by have := h.2.2 c hc; omega, by rw [tx_len]; exact h.2.1⟩
theorem tx_nd {ls : List (List Nat)} (h : ls.Nodup) : (ls.map tx).Nodup := List.Pairwise.map _ (fun _ _ h e => h (tx_inj e)) h
theorem rising_st : ∀ (zs : List Str) (p : Str), PyProof.Rows.risingS p zs = true → (p :: zs).Nodup → (p :: zs).Pairwise fun a b => ltT a b = true
  | [], _, _, _ => List.pairwise_singleton _ _
  | x :: zs, p, h, hn => by
    have h' : (!PySem.Spec.ltCps x.cps.toList p.cps.toList && PyProof.Rows.risingS x zs) = true := h
    obtain ⟨h1, h2⟩ := Bool.and_eq_true_iff.mp h'
    obtain ⟨n1, n2⟩ := List.nodup_cons.mp hn
    have ih := rising_st zs x h2 n2
    rw [PyProof.Rows.ltCps_eq] at h1
    have h3 : ¬ x.cps.toList < p.cps.toList := by simpa using h1
    have hne : p ≠ x := fun e => n1 (by rw [e]; exact List.mem_cons_self)
    have hle := List.not_lt.mp h3
    have hpx : ltT p x = true := by
      rcases List.le_iff_lt_or_eq.mp hle with h | h
      · exact decide_eq_true h
      · exact absurd (str_ext h) hne
    refine List.pairwise_cons.mpr ⟨fun y hy => ?_, ih⟩
    rcases List.mem_cons.mp hy with rfl | hy
    · exact hpx
    · have := (List.pairwise_cons.mp ih).1 y hy
      exact decide_eq_true (List.lt_trans (of_decide_eq_true hpx) (of_decide_eq_true this))
theorem sorted_st {zs : List Str} (h : PyProof.Rows.sortedS zs = true) (hn : zs.Nodup) : zs.Pairwise fun a b => ltT a b = true := by
  cases zs with
  | nil => exact .nil
  | cons x zs => exact rising_st zs x h hn
theorem pw_adj : ∀ {xs : List Str}, (xs.Pairwise fun a b => ltT a b = true) → ((xs.zip (xs.drop 1)).all fun q => ltT q.1 q.2) = true
  | [], _ => rfl
  | [_], _ => rfl
  | x :: y :: xs, h => by
    obtain ⟨h1, h2⟩ := List.pairwise_cons.mp h
    have ih := pw_adj h2
    show (ltT x y && (((y :: xs).zip ((y :: xs).drop 1)).all fun q => ltT q.1 q.2)) = true
    rw [h1 y List.mem_cons_self, ih]; rfl
theorem tx_unmap {zs : List Str} {ls : List (List Nat)} (h : ∀ z ∈ zs, z ∈ ls.map tx) : ∃ ms : List (List Nat), zs = ms.map tx ∧ ∀ m ∈ ms, m ∈ ls := by
  induction zs with
  | nil => exact ⟨[], rfl, fun _ h => nomatch h⟩
  | cons z zs ih =>
    obtain ⟨ms, e, hm⟩ := ih fun y hy => h y (List.mem_cons_of_mem _ hy)
    obtain ⟨l, hl, ez⟩ := List.mem_map.mp (h z List.mem_cons_self)
    refine ⟨l :: ms, by rw [e, ← ez]; rfl, fun m hm' => ?_⟩
    rcases List.mem_cons.mp hm' with rfl | hm'
    · exact hl
    · exact hm m hm'
theorem areOth_of {gl : List Nat} {ls : List (List Nat)} (hp : (ls.map tx).Pairwise fun a b => ltT a b = true) (hg : gl ∉ ls) : areOth (tx gl) (ls.map tx) = true := by
  unfold areOth
  rw [pw_adj hp, Bool.and_true]
  have : ((ls.map tx).any fun n => PyData.eqv (.str n) (.str (tx gl))) = false := by
    rw [List.any_eq_false]
    intro z hz z2
    obtain ⟨l, hl, rfl⟩ := List.mem_map.mp hz
    rw [show PyData.eqv (.str (tx l)) (.str (tx gl)) = decide (tx l = tx gl) from rfl] at z2
    have z2 := tx_inj (of_decide_eq_true z2)
    exact hg (by rw [← z2]; exact hl)
  rw [this]; rfl
theorem rule_x {gl : List Nat} {ls : List (List Nat)} {qs : List Rat} (hg : nameOk gl) (hls : ∀ l ∈ ls, nameOk l) (hp : (ls.map tx).Pairwise fun a b => ltT a b = true) (hgn : gl ∉ ls) (hl : ls.length = qs.length) (l1 : 1 ≤ ls.length) (l7 : ls.length ≤ 7) (hq : ∀ q ∈ qs, ¬ q < 0) (hs : qs.foldl (· + ·) 0 = (1 : Rat)) : RuleX (tx gl) ((ls.map tx).zip qs) := by
  have hz : ((ls.map tx).zip qs).length = ls.length := by rw [List.length_zip, List.length_map]; omega
  refine ⟨nmT_of hg, by omega, by omega, fun x hx => ?_, ?_, ?_⟩
  · obtain ⟨h1, h2⟩ := List.of_mem_zip hx
    obtain ⟨l, hl, e⟩ := List.mem_map.mp h1
    exact ⟨by rw [← e]; exact nmT_of (hls l hl), hq _ h2⟩
  · rw [List.map_fst_zip (by rw [List.length_map]; omega)]
    exact areOth_of hp hgn
  · rw [List.map_snd_zip (by rw [List.length_map]; omega)]
    exact hs
/-- things of any form -/
structure DeepOk (d : D) : Prop where
  nm : nmGood d
  sh : shGood d
  os : ∀ os, d = .tuple os → ∀ o ∈ os, shGood o
  fq : ∀ q : Rat, d = pq q → BQ 400 q
  it : ∀ i : Int, d = .int i → i.natAbs < 2 ^ 400
theorem shGood_no {d : D} (h : ∀ n w, d ≠ .tuple [n, w]) : shGood d := fun n w e => (h n w e).elim
theorem deep_unit : DeepOk (.tuple []) := ⟨(fun _ e => nomatch e), shGood_no (fun _ _ e => nomatch e), fun os e o ho => (by cases e; exact nomatch ho), (fun _ e => nomatch e), (fun _ e => nomatch e)⟩
theorem deep_none : DeepOk .none := ⟨(fun _ e => nomatch e), shGood_no (fun _ _ e => nomatch e), (fun os e => nomatch e), (fun _ e => nomatch e), (fun _ e => nomatch e)⟩
theorem deep_seven : DeepOk (.int 7) := ⟨(fun _ e => nomatch e), shGood_no (fun _ _ e => nomatch e), (fun os e => nomatch e), (fun _ e => nomatch e), fun i e => by cases e; decide⟩
theorem deep_a : DeepOk (.str (tx [97])) := ⟨fun z e => (by cases e; exact ⟨by rw [tx_len]; decide, tx_ok (by decide)⟩), shGood_no (fun _ _ e => nomatch e), (fun os e => nomatch e), (fun _ e => nomatch e), (fun i e => nomatch e)⟩
theorem deep_eight {g : List Nat} {os : List D} (hg : nameOk g) (ho : os.length ≠ 2) : DeepOk (.tuple [.str (tx g), .tuple os]) := by
  have hn : nmGood (.str (tx g)) := fun z e => by
    cases e
    exact ⟨Nat.le_trans (tx_gd hg).2 (by decide), (tx_gd hg).1⟩
  refine ⟨(fun _ e => nomatch e), fun n w e => ?_, fun xs e o hm => ?_, (fun _ e => nomatch e), (fun _ e => nomatch e)⟩
  · cases e
    refine ⟨hn, fun q e => ?_⟩
    injection e with e
    subst e
    exact (ho rfl).elim
  · cases e
    refine shGood_no fun n w e => ?_
    rcases List.mem_cons.mp hm with h | h
    · subst h; cases e
    · rw [List.mem_singleton.mp h] at e
      injection e with e
      subst e
      exact ho rfl
theorem DeepOk.one {d : D} (h : DeepOk d) : DeepOk (.tuple [d]) := by
  refine ⟨(fun _ e => nomatch e), shGood_no (fun _ _ e => nomatch e), fun xs e o hm => ?_, (fun _ e => nomatch e), (fun _ e => nomatch e)⟩
  cases e
  rw [List.mem_singleton.mp hm]; exact h.sh
theorem deep_list (d : D) : DeepOk (.list [d]) := ⟨(fun _ e => nomatch e), shGood_no (fun _ _ e => nomatch e), (fun os e => nomatch e), (fun _ e => nomatch e), (fun i e => nomatch e)⟩
theorem DeepOk.two {d : D} (h : DeepOk d) : DeepOk (.tuple [d, d]) := by
  refine ⟨(fun _ e => nomatch e), fun n w e => ?_, fun xs e o hm => ?_, fun q e => ?_, (fun _ e => nomatch e)⟩
  · cases e; exact ⟨h.nm, h.fq⟩
  · cases e
    have : o = d := by
      rcases List.mem_cons.mp hm with h | h
      · exact h
      · exact List.mem_singleton.mp h
    rw [this]; exact h.sh
  · unfold pq at e
    injection e with e
    injection e with e1 e
    injection e with e2 _
    exact ⟨h.it _ e1, h.it _ e2⟩
theorem deep_rule {d : D} (h : DeepOk d) : (RuleIn (.tuple [d]) ∧ ¬ RuleP (.tuple [d])) ∧ (RuleIn (.list [d]) ∧ ¬ RuleP (.list [d])) ∧ RuleIn (.tuple [d, d]) ∧ ¬ RuleP (.tuple [d, d]) := by
  refine ⟨⟨(fun n w e => nomatch e), fun ⟨_, _, e, _⟩ => nomatch e⟩, ⟨(fun n w e => nomatch e), fun ⟨_, _, e, _⟩ => nomatch e⟩, fun n w e => ?_, fun ⟨g, xs, e, _⟩ => ?_⟩
  · cases e; exact ⟨h.nm, h.os⟩
  · injection e with e
    injection e with e1 e
    injection e with e2 _
    rw [e1] at e2
    cases e2
theorem eight_thing {g : List Nat} {ns : List (List Nat)} {q : D} (hg : nameOk g) (hns : ∀ l ∈ ns, nameOk l) (hl : ns.length = 8) (hq : q = pq (Rat.divInt 1 8)) : RuleIn (.tuple [.str (tx g), .tuple (zipD (ns.map fun l => PyData.str (tx l)) (List.replicate 8 q))]) ∧ ¬ RuleP (.tuple [.str (tx g), .tuple (zipD (ns.map fun l => PyData.str (tx l)) (List.replicate 8 q))]) := by
  have e : zipD (ns.map fun l => PyData.str (tx l)) (List.replicate 8 q) = ((ns.map tx).zip (List.replicate 8 (Rat.divInt 1 8))).map shD := by
    rw [← zip_sh, hq, List.map_replicate]
  rw [e]
  refine ⟨fun n w e => ?_, no_x fun h => ?_⟩
  · cases e
    refine ⟨fun z e => ?_, fun os e o ho n w eo => ?_⟩
    · cases e; exact ⟨Nat.le_trans (tx_gd hg).2 (by decide), (tx_gd hg).1⟩
    · cases e
      obtain ⟨x, hx, rfl⟩ := List.mem_map.mp ho
      obtain ⟨h1, h2⟩ := List.of_mem_zip hx
      obtain ⟨l, hl, el⟩ := List.mem_map.mp h1
      injection eo with eo
      injection eo with e1 eo
      injection eo with e2 _
      subst e1 e2
      refine ⟨fun z ez => ?_, fun q' eq' => ?_⟩
      · injection ez with ez
        rw [← ez, ← el]
        exact ⟨Nat.le_trans (tx_gd (hns l hl)).2 (by decide), (tx_gd (hns l hl)).1⟩
      · have := pq_inj eq'
        rw [← this, (List.eq_of_mem_replicate h2)]
        exact ⟨show (Rat.divInt 1 8).num.natAbs < 2 ^ 400 by decide +kernel, show ((Rat.divInt 1 8).den : Int).natAbs < 2 ^ 400 by decide +kernel⟩
  · have := h.2.2.1
    rw [List.length_zip, List.length_map, List.length_replicate] at this
    omega
theorem rule_in {gl : List Nat} {ls : List (List Nat)} {qs : List Rat} (hg : nameOk gl) (hls : ∀ l ∈ ls, nameOk l) (hq : ∀ q ∈ qs, BQ 400 q) : RuleIn (.tuple [.str (tx gl), .tuple (((ls.map tx).zip qs).map shD)]) := fun n w e => by
  cases e
  refine ⟨fun z e => ?_, fun os e o ho => ?_⟩
  · cases e; exact ⟨Nat.le_trans (tx_gd hg).2 (by decide), (tx_gd hg).1⟩
  · cases e
    obtain ⟨x, hx, rfl⟩ := List.mem_map.mp ho
    obtain ⟨h1, h2⟩ := List.of_mem_zip hx
    obtain ⟨l, hl, el⟩ := List.mem_map.mp h1
    refine shGood_nm (fun z ez => ?_) (pq_bq (hq _ h2) (by decide))
    injection ez with ez
    rw [← ez, ← el]
    exact ⟨Nat.le_trans (tx_gd (hls l hl)).2 (by decide), (tx_gd (hls l hl)).1⟩
theorem not_mem_er {α : Type} {l : List α} (h : l.Nodup) {i : Nat} (hi : i < l.length) : l[i] ∉ l.eraseIdx i := by
  have h2 : (l.take i ++ l[i] :: l.drop (i + 1)).Nodup := by rw [split_at hi]; exact h
  rw [List.eraseIdx_eq_take_drop_succ]
  exact (List.nodup_cons.mp ((List.perm_middle.nodup_iff).mp h2)).1
theorem map_er {α β : Type} (f : α → β) (l : List α) (i : Nat) : (l.map f).eraseIdx i = (l.eraseIdx i).map f := by
  rw [List.eraseIdx_eq_take_drop_succ, List.eraseIdx_eq_take_drop_succ, List.map_append, List.map_take, List.map_drop]
theorem sum_ind {m : Nat} : ∀ n : Nat, ((List.range n).map fun k => if k = m then (1 : Rat) else 0).foldl (· + ·) 0 = if m < n then 1 else 0
  | 0 => rfl
  | n + 1 => by
    rw [List.range_succ, List.map_append, List.foldl_append, sum_ind n]
    show (if m < n then (1 : Rat) else 0) + (if n = m then 1 else 0) = _
    by_cases h : m < n
    · rw [if_pos h, if_neg (by omega), if_pos (by omega)]; grind
    · by_cases h2 : n = m
      · rw [if_neg h, if_pos h2, if_pos (by omega)]; grind
      · rw [if_neg h, if_neg h2, if_neg (by omega)]; grind
theorem bl_one {c : Bool} : BL 1 1 (if c = true then (1 : Rat) else 0) := by
  cases c
  · exact ⟨show ((0 : Rat).den) ∣ 1 from ⟨1, rfl⟩, by decide +kernel, by decide +kernel⟩
  · exact ⟨show ((1 : Rat).den) ∣ 1 from ⟨1, rfl⟩, by decide +kernel, by decide +kernel⟩
def sp_law : DSp := fun as Q => ∃ (p : SD) (ns : List Int), as = [p] ∧ isL p (ns.map .int) ∧ Q (.v (.bool true)) as
theorem ok_law {P : Program} {w : World} {K : PySem.W.Frag} {mg : Str → Option Value} {base : Heap} {a : Addr} {fd : FuncData} (F : Fun K "law" "law" s_law a fd) (T : Txt K mg) (c__law_folded : Cal P w K mg base 1 "_law_folded" ["_law_script", "_law_many"] sp__law_folded) (c__law_tape : Cal P w K mg base 1 "_law_tape" ["_law_script", "_law_k"] sp__law_tape) (c__law_split_to : Cal P w K mg base 2 "_law_split_to" ["_law_tape_here", "_law_many"] sp__law_split_to) (c__law_some_names : Cal P w K mg base 2 "_law_some_names" ["_law_tape_here", "_law_many"] sp__law_some_names) (c__law_draw : Cal P w K mg base 1 "_law_draw" ["_law_tape_here", "_law_many"] sp__law_draw) (c_is_rule : Cal P w K mg base 5 "is_rule" ["thing"] sp_is_rule) (c__law_beyond : Cal P w K mg base 4 "_law_beyond" ["_law_tape_here", "_law_gauge", "_law_names", "_law_shares"] sp__law_beyond) : FnOk P w K mg base CX0 6 a fd ["_law_script"] (fnS K sp_law) := by
  refine ok_fn F sc_law (by decide) (fun as P h => ?_) (fun cdv A outer s H E hr as P h => ?_)
  · obtain ⟨a, b, rfl, _⟩ := h; rfl
  · obtain ⟨p, ns, rfl, hp, q⟩ := h
    refine ⟨_, (pss_cons (ps_set (i := 1) sc_law.nd rfl (Or.inl rfl) (pe_ifExp (pt_cmpR (k_neD K rfl hr.units) (pv 0) (pe_lst pa_nil) (nomark _)) (k_cal K rfl c__law_folded (hr.mono (by decide)) (by rfl) (pa_cons (pv 0) (pa_cons pe_int pa_nil))) (pe_lst (pa_cons pe_int pa_nil))))
    (pss_cons (ps_for PassesOwn.never rfl (pi_range1 (by rfl) T.b_range (pa_cons (pe_callB (k_len K rfl) (by rfl) T.b_len bt_len (pa_cons (pv 1) pa_nil)) pa_nil)) (pg_name (i := 2) sc_law.nd rfl (Or.inl rfl))
      (pss_cons (ps_set (i := 3) sc_law.nd rfl (Or.inl rfl) (k_cal K rfl c__law_tape (hr.mono (by decide)) (by rfl) (pa_cons (pv 1) (pa_cons (pv 2) pa_nil))))
    (pss_cons (ps_set (i := 4) sc_law.nd rfl (Or.inl rfl) (pe_callB (k_sortedA K rfl) (by rfl) T.b_sorted bt_sorted (pa_cons (k_cal K rfl c__law_some_names (hr.mono (by decide)) (by rfl) (pa_cons (pv 3) (pa_cons pe_int pa_nil))) pa_nil)))
    (pss_cons (ps_set (i := 5) sc_law.nd rfl (Or.inl rfl) (k_bm K rfl PySem.F.plainAttrs_list PySem.F.slot_list_pop PySem.F.type_list_pop mt_popAt (pv 4) (pa_cons (k_cal K rfl c__law_draw (hr.mono (by decide)) (by rfl) (pa_cons (pv 3) (pa_cons pe_int pa_nil))) pa_nil)))
    (pss_cons (ps_set (i := 6) sc_law.nd rfl (Or.inl rfl) (pe_ix (k_ix K rfl) (pe_lst (pa_cons pe_int (pa_cons pe_int (pa_cons pe_int (pa_cons (pe_op op_addS pe_int (k_cal K rfl c__law_draw (hr.mono (by decide)) (by rfl) (pa_cons (pv 3) (pa_cons pe_int pa_nil)))) pa_nil))))) (k_cal K rfl c__law_draw (hr.mono (by decide)) (by rfl) (pa_cons (pv 3) (pa_cons pe_int pa_nil))) (fun _ _ => rfl)))
    (pss_cons (ps_set (i := 7) sc_law.nd rfl (Or.inl rfl) (k_cal K rfl c__law_split_to (hr.mono (by decide)) (by rfl) (pa_cons (pv 3) (pa_cons (pv 6) pa_nil))))
    (pss_cons (ps_if (pt_cmpR (k_eqD K rfl hr.units) (k_cal K rfl c__law_draw (hr.mono (by decide)) (by rfl) (pa_cons (pv 3) (pa_cons pe_int pa_nil))) pe_int (nomark _))
      (pss_cons (ps_set (i := 8) sc_law.nd rfl (Or.inr rfl) (k_cal K rfl c__law_draw (hr.mono (by decide)) (by rfl) (pa_cons (pv 3) (pa_cons (pv 6) pa_nil))))
    (pss_one (ps_setLc (i := 7) (own := [("_law_place", 13)]) rfl sc_law.nd rfl rfl (sw_true rfl rfl rfl (by decide +kernel)) (pi_range1 (by rfl) T.b_range (pa_cons (pv 6) pa_nil)) (blkOk_by (N := N_law) (sc := defScope s_law) (by decide +kernel)) (fun _ _ _ _ _ => (pg_name (i := 13) sc_law.nd rfl (Or.inl rfl))) (fun _ _ _ _ _ => pts_nil) (fun _ _ _ _ _ => (pe_tup (pa_cons (pe_callTy call_int1 (by rfl) T.b_int bt_int (pa_cons (pe_cmpR (k_eqD K rfl hr.units) (pv 13) (pv 8) (nomark _)) pa_nil)) (pa_cons pe_int pa_nil)))))))
      pss_nil)
    (pss_cons (ps_if (pt_cmpR op_notBl (k_cal K rfl c_is_rule (hr.mono (by decide)) (by rfl) (pa_cons (pe_tup (pa_cons (pv 5) (pa_cons (k_tupZ K rfl (by rfl) (by rfl) T.b_tuple (by rfl) T.b_zip (pa_cons (pe_slice (k_sl K rfl) (pv 4) po_none (po_some (pv 6))) (pa_cons (pv 7) pa_nil))) pa_nil))) pa_nil)) pe_bl (nomark _))
      (pss_one (ps_ret pe_bl))
      pss_nil)
    (pss_cons (ps_set (i := 9) sc_law.nd rfl (Or.inl rfl) (pe_tup (pa_cons (pv 5) (pa_cons (k_tupZ K rfl (by rfl) (by rfl) T.b_tuple (by rfl) T.b_zip (pa_cons (pv 4) (pa_cons (pe_op op_mulA (pe_lst (pa_cons (pe_tup (pa_cons pe_int (pa_cons pe_int pa_nil))) pa_nil)) pe_int) pa_nil))) pa_nil))))
    (pss_cons (ps_for PassesOwn.never rfl (k_iany K rfl (pe_op op_addS (k_cal K rfl c__law_beyond (hr.mono (by decide)) (by rfl) (pa_cons (pv 3) (pa_cons (pv 5) (pa_cons (pe_slice (k_sl K rfl) (pv 4) po_none (po_some (pv 6))) (pa_cons (pv 7) pa_nil))))) (pe_lst (pa_cons (pv 9) pa_nil)))) (pg_name (i := 10) sc_law.nd rfl (Or.inl rfl))
      (pss_one (ps_if (pt_cmpR op_notBl (k_cal K rfl c_is_rule (hr.mono (by decide)) (by rfl) (pa_cons (pv 10) pa_nil)) pe_bl (nomark _))
      (pss_one (ps_ret pe_bl))
      pss_nil)))
    (pss_cons (ps_set (i := 11) sc_law.nd rfl (Or.inl rfl) (pe_ix (k_ix K rfl) (pe_lst (pa_cons (pe_tup pa_nil) (pa_cons pe_non (pa_cons pe_int (pa_cons pe_str (pa_cons (pv 9) pa_nil)))))) (k_cal K rfl c__law_draw (hr.mono (by decide)) (by rfl) (pa_cons (pv 3) (pa_cons pe_int pa_nil))) (fun _ _ => rfl)))
    (pss_one (ps_for PassesOwn.never rfl (pi_range1 (by rfl) T.b_range (pa_cons (pe_op op_addS pe_int (k_cal K rfl c__law_draw (hr.mono (by decide)) (by rfl) (pa_cons (pv 3) (pa_cons pe_int pa_nil)))) pa_nil)) (pg_name (i := 12) sc_law.nd rfl (Or.inl rfl))
      (pss_cons (ps_set (i := 11) sc_law.nd rfl (Or.inl rfl) (pe_ix (k_ix K rfl) (pe_lst (pa_cons (pe_tup (pa_cons (pv 11) pa_nil)) (pa_cons (pe_lst (pa_cons (pv 11) pa_nil)) (pa_cons (pe_tup (pa_cons (pv 11) (pa_cons (pv 11) pa_nil))) pa_nil)))) (k_cal K rfl c__law_draw (hr.mono (by decide)) (by rfl) (pa_cons (pv 3) (pa_cons pe_int pa_nil))) (fun _ _ => rfl)))
    (pss_one (ps_if (pt_cmpR op_notBl (k_cal K rfl c_is_rule (hr.mono (by decide)) (by rfl) (pa_cons (pv 11) pa_nil)) pe_bl (nomark _))
      (pss_one (ps_ret pe_bl))
      pss_nil))))))))))))))))
    (pss_one (ps_ret pe_bl)))), ?_⟩
    show DS K _ [p, .no, .no, .no, .no, .no, .no, .no, .no, .no, .no, .no, .no, .no] [] _
    try dsimp only [cxOf]
    have shn : SeqAt.shaped (.list (ns.map .int)) = true := (Shp.lmap (n := 0) fun x _ => .int x).ok (by decide)
    rcases hp with rfl | ⟨j, rfl⟩
    all_goals
      walk_at "e"
      first | generalize hp0 : SD.ow (some j) (ns.map PyData.int) = p0 | generalize hp0 : SD.v (PyData.list (ns.map PyData.int)) = p0
      refine DE.imp (Q := fun r s' => s' = [p0, .no, .no, .no, .no, .no, .no, .no, .no, .no, .no, .no, .no, .no] ∧ ∃ ms : List Int, r = .ow none (ms.map .int) ∧ ms.length ≤ 4) ?_ ?_
      · subst hp0
        walk_at "d"
        refine ite_nb (fun h => ?_) (fun h => ?_)
        · walk_at "d"
          refine ⟨_, ns, 4, rfl, by first | exact .inl rfl | exact .inr ⟨_, rfl⟩, by decide, by decide, fun ms hms _ => ?_⟩
          walk_at "d"
          exact ⟨rfl, ms, rfl, hms⟩
        · walk_at "d"
          exact ⟨rfl, [0], rfl, by decide⟩
      rintro r s' ⟨rfl, ms, rfl, hms⟩
      have hln : (ms.map PyData.int).length = ms.length := List.length_map _
      walk_at "d"
      refine ds_for ?_
      walk_at "d"
      refine ⟨by omega, by omega, fun k s => ∃ x2 x3 x4 x5 x6 x7 x8 x9 x10 x11 x12 : SD, s = [p0, .ow none (ms.map .int), x2, x3, x4, x5, x6, x7, x8, x9, x10, x11, x12, .no], ⟨_, _, _, _, _, _, _, _, _, _, _, rfl⟩, ?_, ?_, ?_⟩
      · intros; trivial
      · rintro k d s hd ⟨x2, x3, x4, x5, x6, x7, x8, x9, x10, x11, x12, rfl⟩
        obtain ⟨hk, rfl⟩ := rngD_get hd
        have hk : k < ms.length := by rw [← hln]; simpa using hk
        walk_at "d"
        refine ⟨_, ms, _, rfl, .inr ⟨_, rfl⟩, by omega, by omega, fun ds T0 => ?_⟩
        walk_at "d"
        refine ⟨_, _, _, rfl, T0, by omega, by decide, by decide, fun ls ds1 hl hnd hok T1 => ?_⟩
        have hl : ls.length = 9 := hl
        walk_at "d"
        have hym : (ls.map fun l => PyData.str (tx l)) = (ls.map tx).map .str := by rw [List.map_map]; rfl
        rw [hym]
        refine opc_sortedS rfl (by rw [List.length_map]; omega) fun zs hp hs => ?_
        have hzn : zs.Nodup := hp.nodup_iff.mpr (tx_nd hnd)
        have hpw := sorted_st hs hzn
        obtain ⟨mm, rfl, hmm⟩ := tx_unmap (zs := zs) (ls := ls) fun z hz => hp.mem_iff.mp hz
        have hml : mm.length = 9 := by have := hp.length_eq; rw [List.length_map, List.length_map] at this; omega
        have hmn : mm.Nodup := List.Pairwise.of_map tx (fun a b h e => h (congrArg tx e)) hzn
        have hmo : ∀ l ∈ mm, nameOk l := fun l h => hok l (hmm l h)
        rw [show (mm.map tx).map PyData.str = mm.map fun l => PyData.str (tx l) from by rw [List.map_map]; rfl]
        walk_at "d"
        refine de_popAt ?_
        walk_at "d"
        walk_at "draw"
        intro at0 ds2 a0 a1 T2
        walk_at "d"
        obtain ⟨at', rfl⟩ := Int.eq_ofNat_of_zero_le a0
        have hat9 : at' < mm.length := by omega
        refine ⟨(at' : Int), at', .str (tx (mm[at']'hat9)), none, mm.map fun l => .str (tx l), rfl, rfl, by omega, by omega, PyProof.Rows.seqIndex_at (by omega) (by rw [List.length_map]; omega), by rw [List.getElem?_map, List.getElem?_eq_getElem hat9]; rfl, ?_⟩
        have hgl := hmo _ (List.getElem_mem hat9)
        have hgn : mm[at'] ∉ mm.eraseIdx at' := not_mem_er hmn hat9
        rw [map_er]
        obtain ⟨gl, hgle⟩ : ∃ gl, mm[at'] = gl := ⟨_, rfl⟩
        rw [hgle] at hgl hgn ⊢
        have hp8 : ((mm.eraseIdx at').map tx).Pairwise fun a b => ltT a b = true := hpw.sublist (List.Sublist.map tx (List.eraseIdx_sublist mm at'))
        have hn8 : (mm.eraseIdx at').Nodup := (List.eraseIdx_sublist mm at').nodup hmn
        have ho8 : ∀ l ∈ mm.eraseIdx at', nameOk l := fun l h => hmo l ((List.eraseIdx_sublist mm at').subset h)
        have hl8 : (mm.eraseIdx at').length = 8 := by rw [List.length_eraseIdx_of_lt hat9]; omega
        generalize mm.eraseIdx at' = ns8 at hgn hp8 hn8 ho8 hl8 ⊢
        walk_at "d"
        walk_at "draw"
        intro u ds3 u0 u1 T3
        walk_at "d"
        walk_at "draw"
        intro v ds4 v0 v1 T4
        obtain ⟨many, iM, hM⟩ := mint (ns := [1, 2, 7, 1 + u]) v0 v1
        have hm : 1 ≤ many ∧ many ≤ 7 := by
          simp only [List.mem_cons, List.not_mem_nil, or_false] at hM
          omega
        have iM : atI [PyData.int 1, .int 2, .int 7, .int (1 + u)] v = some (.int many) := iM
        walk_at "d"
        try (refine op2_ixL rfl iM ?_
             walk_at "d")
        refine ⟨_, _, _, rfl, T4, by omega, by omega, by omega, fun qs S ds5 hql S0 S1 hqs hsum T5 => ?_⟩
        walk_at "f"
        obtain ⟨mn, rfl⟩ := Int.eq_ofNat_of_zero_le (show 0 ≤ many by omega)
        refine DS.imp (D0 := { nx := fun s' => ∃ (ds6 : List D) (x8 : SD) (qs : List Rat) (S : Nat), s' = [p0, .ow none (ms.map .int), .v (.int (0 + (k : Int))), .ow none ds6, .ow none (ns8.map fun l => .str (tx l)), .v (.str (tx gl)), .v (.int (mn : Int)), .ow none (qs.map pq), x8, x9, x10, x11, x12, .no] ∧ qs.length = mn ∧ 0 < S ∧ S < 2 ^ 20 ∧ (∀ x ∈ qs, BL S 1 x) ∧ (∀ x ∈ qs, ¬ x < 0) ∧ qs.foldl (· + ·) 0 = (1 : Rat) ∧ TapeD ds6 60, rt := fun _ _ => False }) ?_ ?_ (fun _ _ h => h.elim) (fun _ h => h.elim) (fun _ h => h.elim)
        · walk_at "d"
          walk_at "draw"
          intro y ds6 y0 y1 T6
          walk_at "d"
          refine ite_dec (fun hy => ?_) (fun hy => ?_)
          · walk_at "d"
            walk_at "draw"
            intro z ds7 z0 z1 T7
            obtain ⟨zn, rfl⟩ := Int.eq_ofNat_of_zero_le z0
            walk_at "d"
            refine de_lcY (gw_name (by decide)) (List.range mn) (fun k => .int (0 + ((k : Nat) : Int))) (fun k => pq (if decide (k = zn) = true then 1 else 0)) ?_
            walk_at "d"
            refine ⟨by omega, by omega, by unfold rngD; rw [Int.toNat_natCast], all_in1 ⟨rfl, rfl⟩, by first | rfl | trivial, by rw [rngD_length]; omega, ?_, rfl, ?_⟩
            · intro e he acc
              walk_at "clean"
              walk_at "d"
              refine ⟨?_, rfl⟩
              rw [show decide ((0 : Int) + (e : Int) = (zn : Int)) = decide (e = zn) from decide_eq_decide.mpr (by omega)]
              cases decide (e = zn) <;> rfl
            walk_at "clean"
            walk_at "d"
            refine ⟨_, _, (List.range mn).map fun k => if decide (k = zn) = true then 1 else 0, 1, by rw [List.map_map] <;> rfl, by rw [List.length_map, List.length_range], by decide, by decide, fun x hx => ?_, fun x hx => ?_, ?_, T7.mn (by omega)⟩
            · obtain ⟨e, _, rfl⟩ := List.mem_map.mp hx
              exact bl_one
            · obtain ⟨e, _, rfl⟩ := List.mem_map.mp hx
              exact Rat.not_lt.mpr bl_one.2.1
            · have := sum_ind (m := zn) mn
              rw [if_pos (by omega)] at this
              simpa using this
          · walk_at "d"
            exact ⟨_, _, qs, S, rfl, by omega, S0, S1, hqs, fun x hx => Rat.not_lt.mpr (hqs x hx).2.1, hsum, T6.mn (by omega)⟩
        rintro s' ⟨ds6, x8, qs, S, rfl, hql, S0, S1, hqs, hq0, hsum, T6⟩
        walk_at "d"
        have hcut : cutD (ns8.map fun l => PyData.str (tx l)) none (some (mn : Int)) = (ns8.take mn).map fun l => PyData.str (tx l) := cutD_take (fun l => PyData.str (tx l)) ns8
        refine ⟨_, _, _, _, rfl, rfl, rfl, ?_⟩
        rw [hcut, zip_sh]
        have htl : (ns8.take mn).length = qs.length := by rw [List.length_take]; omega
        have hto : ∀ l ∈ ns8.take mn, nameOk l := fun l h => ho8 l (List.mem_of_mem_take h)
        have htg : gl ∉ ns8.take mn := fun h => hgn (List.mem_of_mem_take h)
        have htn : (ns8.take mn).Nodup := (List.take_sublist mn ns8).nodup hn8
        have hX : RuleX (tx gl) (((ns8.take mn).map tx).zip qs) := rule_x hgl hto (hp8.sublist (List.Sublist.map tx (List.take_sublist mn ns8))) htg htl (by omega) (by omega) hq0 hsum
        have hIn := rule_in hgl hto fun x hx => ((hqs x hx).bq S0 S1 (by rw [Nat.one_mul]; exact S1)).mono (show 20 ≤ 400 by decide)
        walk_at "d"
        refine ⟨hIn, fun b hb => ?_⟩
        obtain rfl : b = true := hb.mpr ⟨_, _, rfl, hX⟩
        walk_at "d"
        refine op2_mulL (ds := [.tuple [.int 1, .int 8]]) (n := 8) rfl ⟨by decide, by decide⟩ (by decide) ?_
        walk_at "d"
        refine ⟨_, _, _, _, rfl, rfl, rfl, ?_⟩
        have h8 := eight_thing (q := .tuple [.int 1, .int 8]) hgl ho8 hl8 (by unfold pq; rw [show (Rat.divInt 1 8).num = 1 from by decide +kernel, show (Rat.divInt 1 8).den = 8 from by decide +kernel]; rfl)
        have h8l : (zipD (ns8.map fun l => PyData.str (tx l)) (List.replicate 8 (PyData.tuple [.int 1, .int 8]))).length ≠ 2 := by rw [zipD_length, List.length_map, List.length_replicate, hl8]; decide
        have h8d := deep_eight hgl h8l
        rw [show (List.replicate (Int.toNat 8) [PyData.tuple [PyData.int 1, PyData.int 8]]).flatten = List.replicate 8 (PyData.tuple [PyData.int 1, PyData.int 8]) from rfl]
        obtain ⟨E8, hE8⟩ : ∃ E8, PyData.tuple [PyData.str (tx gl), .tuple (zipD (ns8.map fun l => PyData.str (tx l)) (List.replicate 8 (PyData.tuple [.int 1, .int 8])))] = E8 := ⟨_, rfl⟩
        rw [hE8] at h8 h8d
        walk_at "d"
        rw [hE8]
        refine ds_for (di_anyL ?_)
        walk_at "d"
        rw [hcut]
        refine ⟨_, _, _, _, S, gl, ns8.take mn, qs, rfl, T6, by omega, htl, ⟨by omega, by omega⟩, hgl, hto, htn, htg, hX, hqs, S0, S1, fun ds7 ts hts htsl T7 => ?_⟩
        walk_at "d"
        have hall : ∀ d ∈ ts ++ [E8], RuleIn d ∧ ¬ RuleP d := fun d hd => by
          rcases List.mem_append.mp hd with h | h
          · exact hts d h
          · rw [List.mem_singleton.mp h]; exact h8
        refine ⟨fun k2 s => ∃ x10 : SD, s = [p0, .ow none (ms.map .int), .v (.int (0 + (k : Int))), .ow none ds7, .ow none (ns8.map fun l => .str (tx l)), .v (.str (tx gl)), .v (.int (mn : Int)), .ow none (qs.map pq), x8, .v E8, x10, x11, x12, .no], ⟨_, rfl⟩, ?_, ?_, ?_⟩
        · intros; trivial
        · rintro k2 d s hd ⟨x10, rfl⟩
          obtain ⟨hin, hno⟩ := hall d (List.mem_of_getElem? hd)
          walk_at "d"
          refine ⟨hin, fun b hb => ?_⟩
          cases b with
          | true => exact absurd (hb.mp rfl) hno
          | false =>
            walk_at "d"
            exact ⟨_, rfl⟩
        rintro s ⟨x10, rfl⟩
        walk_at "d"
        walk_at "draw"
        intro f ds8 f0 f1 T8
        walk_at "d"
        obtain ⟨dp, iD, mD⟩ := atI_menu (xs := [PyData.tuple [], PyData.none, PyData.int 7, PyData.str (Str.ofString "a"), E8]) f0 f1
        have hdp : DeepOk dp := by
          simp only [List.mem_cons, List.not_mem_nil, or_false] at mD
          rcases mD with h | h | h | h | h
          all_goals subst h
          · exact deep_unit
          · exact deep_none
          · exact deep_seven
          · rw [show Str.ofString "a" = tx [97] from by decide +kernel]; exact deep_a
          · exact h8d
        refine op2_ixL rfl iD ?_
        walk_at "d"
        refine ds_for ?_
        walk_at "d"
        walk_at "draw"
        intro g ds9 g0 g1 T9
        walk_at "d"
        refine ⟨by omega, by omega, fun t s => ∃ (dsA : List D) (dp : D) (x12 : SD), s = [p0, .ow none (ms.map .int), .v (.int (0 + (k : Int))), .ow none dsA, .ow none (ns8.map fun l => .str (tx l)), .v (.str (tx gl)), .v (.int (mn : Int)), .ow none (qs.map pq), x8, .v E8, x10, .v dp, x12, .no] ∧ DeepOk dp ∧ TapeD dsA (80 + t), ⟨_, _, _, rfl, hdp, T9.mn (by omega)⟩, ?_, ?_, ?_⟩
        · intros; trivial
        · rintro t d s hd ⟨dsA, dp, x12, rfl, hdp, TA⟩
          obtain ⟨ht, rfl⟩ := rngD_get hd
          obtain ⟨⟨r1, r2⟩, ⟨r3, r4⟩, r5, r6⟩ := deep_rule hdp
          walk_at "d"
          walk_at "draw"
          intro h dsB h0 h1 TB
          walk_at "d"
          obtain ⟨dq, iQ, mQ⟩ := atI_menu (xs := [PyData.tuple [dp], PyData.list [dp], PyData.tuple [dp, dp]]) h0 h1
          have hdq : DeepOk dq ∧ RuleIn dq ∧ ¬ RuleP dq := by
            simp only [List.mem_cons, List.not_mem_nil, or_false] at mQ
            rcases mQ with h | h | h
            all_goals subst h
            · exact ⟨hdp.one, r1, r2⟩
            · exact ⟨deep_list _, r3, r4⟩
            · exact ⟨hdp.two, r5, r6⟩
          refine op2_ixL rfl iQ ?_
          walk_at "d"
          refine ⟨hdq.2.1, fun b hb => ?_⟩
          cases b with
          | true => exact absurd (hb.mp rfl) hdq.2.2
          | false =>
            walk_at "d"
            exact ⟨_, _, _, rfl, hdq.1, TB.mn (by omega)⟩
        rintro s ⟨dsA, dp, x12, rfl, hdp, TA⟩
        exact ⟨_, _, _, _, _, _, _, _, _, _, _, rfl⟩
      · rintro s ⟨x2, x3, x4, x5, x6, x7, x8, x9, x10, x11, x12, rfl⟩
        subst hp0
        walk_at "d"
        exact q
theorem law_start {ns : List Int} (_ : ns.length ≤ 63) : sp_law [.v (.list (ns.map .int))] (fun r _ => r = .v (.bool true)) := ⟨_, ns, rfl, .inl rfl, rfl⟩

end Lk36

namespace Lk36
open PySem L2 W8 RZ
theorem all_mk {l : PySem.W.OpenLaw} {w : World} {K : PySem.W.Frag} {h : Heap} {mg : Str → Option Value} {fa fn3 fn4 fn5 fn6 fn7 fn8 fn9 fn13 fn16 fn17 fn18 fn19 fn21 fn22 fn23 fn24 fn25 fn27 fn28 fn29 fn30 fn31 : Addr} (X : K.In h) (G : h.Ns mainGlobals mg) (hfa : mg "law" = some (.ref fa))
    {od3 an3 : Option Addr} {sl3 : Array (Option Value)} {oc3 kV3 dc3 pm3 cd3 ct3 : Value}
    {od4 an4 : Option Addr} {sl4 : Array (Option Value)} {oc4 kV4 dc4 pm4 cd4 ct4 : Value}
    {od5 an5 : Option Addr} {sl5 : Array (Option Value)} {oc5 kV5 dc5 pm5 cd5 ct5 : Value}
    {od6 an6 : Option Addr} {sl6 : Array (Option Value)} {oc6 kV6 dc6 pm6 cd6 ct6 : Value}
    {od7 an7 : Option Addr} {sl7 : Array (Option Value)} {oc7 kV7 dc7 pm7 cd7 ct7 : Value}
    {od8 an8 : Option Addr} {sl8 : Array (Option Value)} {oc8 kV8 dc8 pm8 cd8 ct8 : Value}
    {od9 an9 : Option Addr} {sl9 : Array (Option Value)} {oc9 kV9 dc9 pm9 cd9 ct9 : Value}
    {od13 an13 : Option Addr} {sl13 : Array (Option Value)} {oc13 kV13 dc13 pm13 cd13 ct13 : Value}
    {od16 an16 : Option Addr} {sl16 : Array (Option Value)} {oc16 kV16 dc16 pm16 cd16 ct16 : Value}
    {od17 an17 : Option Addr} {sl17 : Array (Option Value)} {oc17 kV17 dc17 pm17 cd17 ct17 : Value}
    {od18 an18 : Option Addr} {sl18 : Array (Option Value)} {oc18 kV18 dc18 pm18 cd18 ct18 : Value}
    {od19 an19 : Option Addr} {sl19 : Array (Option Value)} {oc19 kV19 dc19 pm19 cd19 ct19 : Value}
    {od21 an21 : Option Addr} {sl21 : Array (Option Value)} {oc21 kV21 dc21 pm21 cd21 ct21 : Value}
    {od22 an22 : Option Addr} {sl22 : Array (Option Value)} {oc22 kV22 dc22 pm22 cd22 ct22 : Value}
    {od23 an23 : Option Addr} {sl23 : Array (Option Value)} {oc23 kV23 dc23 pm23 cd23 ct23 : Value}
    {od24 an24 : Option Addr} {sl24 : Array (Option Value)} {oc24 kV24 dc24 pm24 cd24 ct24 : Value}
    {od25 an25 : Option Addr} {sl25 : Array (Option Value)} {oc25 kV25 dc25 pm25 cd25 ct25 : Value}
    {od27 an27 : Option Addr} {sl27 : Array (Option Value)} {oc27 kV27 dc27 pm27 cd27 ct27 : Value}
    {od28 an28 : Option Addr} {sl28 : Array (Option Value)} {oc28 kV28 dc28 pm28 cd28 ct28 : Value}
    {od29 an29 : Option Addr} {sl29 : Array (Option Value)} {oc29 kV29 dc29 pm29 cd29 ct29 : Value}
    {od30 an30 : Option Addr} {sl30 : Array (Option Value)} {oc30 kV30 dc30 pm30 cd30 ct30 : Value}
    {od31 an31 : Option Addr} {sl31 : Array (Option Value)} {oc31 kV31 dc31 pm31 cd31 ct31 : Value}
    (a3 : PySem.W.nsIn K mainGlobals "common" = some (some (.ref fn3))) (l3 : K.lookup fn3 = some ⟨oc3, od3, .func (PySem.W.fnOf "common" "common" (defArgs s_common) (defBody s_common) (defScope s_common) .none kV3 dc3 pm3 an3 cd3 ct3), sl3⟩) (c3 : PySem.W.codeIn K cd3 "common" = true) (k3 : PySem.W.keepIn K (.ref fn3) = true)
    (a4 : PySem.W.nsIn K mainGlobals "part_of" = some (some (.ref fn4))) (l4 : K.lookup fn4 = some ⟨oc4, od4, .func (PySem.W.fnOf "part_of" "part_of" (defArgs s_part_of) (defBody s_part_of) (defScope s_part_of) .none kV4 dc4 pm4 an4 cd4 ct4), sl4⟩) (c4 : PySem.W.codeIn K cd4 "part_of" = true) (k4 : PySem.W.keepIn K (.ref fn4) = true)
    (a5 : PySem.W.nsIn K mainGlobals "is_whole" = some (some (.ref fn5))) (l5 : K.lookup fn5 = some ⟨oc5, od5, .func (PySem.W.fnOf "is_whole" "is_whole" (defArgs s_is_whole) (defBody s_is_whole) (defScope s_is_whole) .none kV5 dc5 pm5 an5 cd5 ct5), sl5⟩) (c5 : PySem.W.codeIn K cd5 "is_whole" = true) (k5 : PySem.W.keepIn K (.ref fn5) = true)
    (a6 : PySem.W.nsIn K mainGlobals "is_part" = some (some (.ref fn6))) (l6 : K.lookup fn6 = some ⟨oc6, od6, .func (PySem.W.fnOf "is_part" "is_part" (defArgs s_is_part) (defBody s_is_part) (defScope s_is_part) .none kV6 dc6 pm6 an6 cd6 ct6), sl6⟩) (c6 : PySem.W.codeIn K cd6 "is_part" = true) (k6 : PySem.W.keepIn K (.ref fn6) = true)
    (a7 : PySem.W.nsIn K mainGlobals "plus" = some (some (.ref fn7))) (l7 : K.lookup fn7 = some ⟨oc7, od7, .func (PySem.W.fnOf "plus" "plus" (defArgs s_plus) (defBody s_plus) (defScope s_plus) .none kV7 dc7 pm7 an7 cd7 ct7), sl7⟩) (c7 : PySem.W.codeIn K cd7 "plus" = true) (k7 : PySem.W.keepIn K (.ref fn7) = true)
    (a8 : PySem.W.nsIn K mainGlobals "is_less" = some (some (.ref fn8))) (l8 : K.lookup fn8 = some ⟨oc8, od8, .func (PySem.W.fnOf "is_less" "is_less" (defArgs s_is_less) (defBody s_is_less) (defScope s_is_less) .none kV8 dc8 pm8 an8 cd8 ct8), sl8⟩) (c8 : PySem.W.codeIn K cd8 "is_less" = true) (k8 : PySem.W.keepIn K (.ref fn8) = true)
    (a9 : PySem.W.nsIn K mainGlobals "sum_of" = some (some (.ref fn9))) (l9 : K.lookup fn9 = some ⟨oc9, od9, .func (PySem.W.fnOf "sum_of" "sum_of" (defArgs s_sum_of) (defBody s_sum_of) (defScope s_sum_of) .none kV9 dc9 pm9 an9 cd9 ct9), sl9⟩) (c9 : PySem.W.codeIn K cd9 "sum_of" = true) (k9 : PySem.W.keepIn K (.ref fn9) = true)
    (a13 : PySem.W.nsIn K mainGlobals "is_name" = some (some (.ref fn13))) (l13 : K.lookup fn13 = some ⟨oc13, od13, .func (PySem.W.fnOf "is_name" "is_name" (defArgs s_is_name) (defBody s_is_name) (defScope s_is_name) .none kV13 dc13 pm13 an13 cd13 ct13), sl13⟩) (c13 : PySem.W.codeIn K cd13 "is_name" = true) (k13 : PySem.W.keepIn K (.ref fn13) = true)
    (a16 : PySem.W.nsIn K mainGlobals "is_pair" = some (some (.ref fn16))) (l16 : K.lookup fn16 = some ⟨oc16, od16, .func (PySem.W.fnOf "is_pair" "is_pair" (defArgs s_is_pair) (defBody s_is_pair) (defScope s_is_pair) .none kV16 dc16 pm16 an16 cd16 ct16), sl16⟩) (c16 : PySem.W.codeIn K cd16 "is_pair" = true) (k16 : PySem.W.keepIn K (.ref fn16) = true)
    (a17 : PySem.W.nsIn K mainGlobals "is_share" = some (some (.ref fn17))) (l17 : K.lookup fn17 = some ⟨oc17, od17, .func (PySem.W.fnOf "is_share" "is_share" (defArgs s_is_share) (defBody s_is_share) (defScope s_is_share) .none kV17 dc17 pm17 an17 cd17 ct17), sl17⟩) (c17 : PySem.W.codeIn K cd17 "is_share" = true) (k17 : PySem.W.keepIn K (.ref fn17) = true)
    (a18 : PySem.W.nsIn K mainGlobals "are_others" = some (some (.ref fn18))) (l18 : K.lookup fn18 = some ⟨oc18, od18, .func (PySem.W.fnOf "are_others" "are_others" (defArgs s_are_others) (defBody s_are_others) (defScope s_are_others) .none kV18 dc18 pm18 an18 cd18 ct18), sl18⟩) (c18 : PySem.W.codeIn K cd18 "are_others" = true) (k18 : PySem.W.keepIn K (.ref fn18) = true)
    (a19 : PySem.W.nsIn K mainGlobals "is_rule" = some (some (.ref fn19))) (l19 : K.lookup fn19 = some ⟨oc19, od19, .func (PySem.W.fnOf "is_rule" "is_rule" (defArgs s_is_rule) (defBody s_is_rule) (defScope s_is_rule) .none kV19 dc19 pm19 an19 cd19 ct19), sl19⟩) (c19 : PySem.W.codeIn K cd19 "is_rule" = true) (k19 : PySem.W.keepIn K (.ref fn19) = true)
    (a21 : PySem.W.nsIn K mainGlobals "_law_tape" = some (some (.ref fn21))) (l21 : K.lookup fn21 = some ⟨oc21, od21, .func (PySem.W.fnOf "_law_tape" "_law_tape" (defArgs s__law_tape) (defBody s__law_tape) (defScope s__law_tape) .none kV21 dc21 pm21 an21 cd21 ct21), sl21⟩) (c21 : PySem.W.codeIn K cd21 "_law_tape" = true) (k21 : PySem.W.keepIn K (.ref fn21) = true)
    (a22 : PySem.W.nsIn K mainGlobals "_law_draw" = some (some (.ref fn22))) (l22 : K.lookup fn22 = some ⟨oc22, od22, .func (PySem.W.fnOf "_law_draw" "_law_draw" (defArgs s__law_draw) (defBody s__law_draw) (defScope s__law_draw) .none kV22 dc22 pm22 an22 cd22 ct22), sl22⟩) (c22 : PySem.W.codeIn K cd22 "_law_draw" = true) (k22 : PySem.W.keepIn K (.ref fn22) = true)
    (a23 : PySem.W.nsIn K mainGlobals "_law_folded" = some (some (.ref fn23))) (l23 : K.lookup fn23 = some ⟨oc23, od23, .func (PySem.W.fnOf "_law_folded" "_law_folded" (defArgs s__law_folded) (defBody s__law_folded) (defScope s__law_folded) .none kV23 dc23 pm23 an23 cd23 ct23), sl23⟩) (c23 : PySem.W.codeIn K cd23 "_law_folded" = true) (k23 : PySem.W.keepIn K (.ref fn23) = true)
    (a24 : PySem.W.nsIn K mainGlobals "_law_part_by" = some (some (.ref fn24))) (l24 : K.lookup fn24 = some ⟨oc24, od24, .func (PySem.W.fnOf "_law_part_by" "_law_part_by" (defArgs s__law_part_by) (defBody s__law_part_by) (defScope s__law_part_by) .none kV24 dc24 pm24 an24 cd24 ct24), sl24⟩) (c24 : PySem.W.codeIn K cd24 "_law_part_by" = true) (k24 : PySem.W.keepIn K (.ref fn24) = true)
    (a25 : PySem.W.nsIn K mainGlobals "_law_both" = some (some (.ref fn25))) (l25 : K.lookup fn25 = some ⟨oc25, od25, .func (PySem.W.fnOf "_law_both" "_law_both" (defArgs s__law_both) (defBody s__law_both) (defScope s__law_both) .none kV25 dc25 pm25 an25 cd25 ct25), sl25⟩) (c25 : PySem.W.codeIn K cd25 "_law_both" = true) (k25 : PySem.W.keepIn K (.ref fn25) = true)
    (a27 : PySem.W.nsIn K mainGlobals "_law_total" = some (some (.ref fn27))) (l27 : K.lookup fn27 = some ⟨oc27, od27, .func (PySem.W.fnOf "_law_total" "_law_total" (defArgs s__law_total) (defBody s__law_total) (defScope s__law_total) .none kV27 dc27 pm27 an27 cd27 ct27), sl27⟩) (c27 : PySem.W.codeIn K cd27 "_law_total" = true) (k27 : PySem.W.keepIn K (.ref fn27) = true)
    (a28 : PySem.W.nsIn K mainGlobals "_law_some_names" = some (some (.ref fn28))) (l28 : K.lookup fn28 = some ⟨oc28, od28, .func (PySem.W.fnOf "_law_some_names" "_law_some_names" (defArgs s__law_some_names) (defBody s__law_some_names) (defScope s__law_some_names) .none kV28 dc28 pm28 an28 cd28 ct28), sl28⟩) (c28 : PySem.W.codeIn K cd28 "_law_some_names" = true) (k28 : PySem.W.keepIn K (.ref fn28) = true)
    (a29 : PySem.W.nsIn K mainGlobals "_law_split_to" = some (some (.ref fn29))) (l29 : K.lookup fn29 = some ⟨oc29, od29, .func (PySem.W.fnOf "_law_split_to" "_law_split_to" (defArgs s__law_split_to) (defBody s__law_split_to) (defScope s__law_split_to) .none kV29 dc29 pm29 an29 cd29 ct29), sl29⟩) (c29 : PySem.W.codeIn K cd29 "_law_split_to" = true) (k29 : PySem.W.keepIn K (.ref fn29) = true)
    (a30 : PySem.W.nsIn K mainGlobals "_law_beyond" = some (some (.ref fn30))) (l30 : K.lookup fn30 = some ⟨oc30, od30, .func (PySem.W.fnOf "_law_beyond" "_law_beyond" (defArgs s__law_beyond) (defBody s__law_beyond) (defScope s__law_beyond) .none kV30 dc30 pm30 an30 cd30 ct30), sl30⟩) (c30 : PySem.W.codeIn K cd30 "_law_beyond" = true) (k30 : PySem.W.keepIn K (.ref fn30) = true)
    (a31 : PySem.W.nsIn K mainGlobals "law" = some (some (.ref fn31))) (l31 : K.lookup fn31 = some ⟨oc31, od31, .func (PySem.W.fnOf "law" "law" (defArgs s_law) (defBody s_law) (defScope s_law) .none kV31 dc31 pm31 an31 cd31 ct31), sl31⟩) (c31 : PySem.W.codeIn K cd31 "law" = true) (k31 : PySem.W.keepIn K (.ref fn31) = true)
    {t_LETTERS} (g0_LETTERS : PySem.W.nsIn K mainGlobals "LETTERS" = some (some (.str "abcdefghijklmnopqrstuvwxyz" t_LETTERS)))
    {t_LONGEST} (g0_LONGEST : PySem.W.nsIn K mainGlobals "LONGEST" = some (some (.int 6 t_LONGEST)))
    {t_MOST_OTHERS} (g0_MOST_OTHERS : PySem.W.nsIn K mainGlobals "MOST_OTHERS" = some (some (.int 7 t_MOST_OTHERS)))
    {p_NOUGHT : Addr} {od_NOUGHT : Option Addr} {its_NOUGHT : Array Value} {n_NOUGHT : Nat} {sl_NOUGHT : Array (Option Value)}
    (g0_NOUGHT : PySem.W.nsIn K mainGlobals "NOUGHT" = some (some (.ref p_NOUGHT))) (l_NOUGHT : K.lookup p_NOUGHT = some ⟨.type "tuple", od_NOUGHT, .seq its_NOUGHT n_NOUGHT, sl_NOUGHT⟩) (s_NOUGHT : its_NOUGHT.size ≤ sizeLine) (v_NOUGHT : Vals [.int 0, .int 1] its_NOUGHT.toList)
    {p_ONE : Addr} {od_ONE : Option Addr} {its_ONE : Array Value} {n_ONE : Nat} {sl_ONE : Array (Option Value)}
    (g0_ONE : PySem.W.nsIn K mainGlobals "ONE" = some (some (.ref p_ONE))) (l_ONE : K.lookup p_ONE = some ⟨.type "tuple", od_ONE, .seq its_ONE n_ONE, sl_ONE⟩) (s_ONE : its_ONE.size ≤ sizeLine) (v_ONE : Vals [.int 1, .int 1] its_ONE.toList)
    (z_abs : PySem.W.nsIn K mainGlobals "abs" = some none)
    (z_all : PySem.W.nsIn K mainGlobals "all" = some none)
    (z_bool : PySem.W.nsIn K mainGlobals "bool" = some none)
    (z_dict : PySem.W.nsIn K mainGlobals "dict" = some none)
    (z_enumerate : PySem.W.nsIn K mainGlobals "enumerate" = some none)
    (z_int : PySem.W.nsIn K mainGlobals "int" = some none)
    (z_isinstance : PySem.W.nsIn K mainGlobals "isinstance" = some none)
    (z_len : PySem.W.nsIn K mainGlobals "len" = some none)
    (z_list : PySem.W.nsIn K mainGlobals "list" = some none)
    (z_range : PySem.W.nsIn K mainGlobals "range" = some none)
    (z_sorted : PySem.W.nsIn K mainGlobals "sorted" = some none)
    (z_str : PySem.W.nsIn K mainGlobals "str" = some none)
    (z_sum : PySem.W.nsIn K mainGlobals "sum" = some none)
    (z_tuple : PySem.W.nsIn K mainGlobals "tuple" = some none)
    (z_zip : PySem.W.nsIn K mainGlobals "zip" = some none)
    : ∃ fd : FuncData, (∀ (s : Shared) (v : Value), BindsTo s fd ⟨[v], []⟩ [("_law_script", v)]) ∧ ∀ base : Heap, K.In base → base.Ns mainGlobals mg → FnOk l.prog w K mg base CX0 6 fa fd ["_law_script"] (fnS K sp_law) := by
  have e := hfa.symm.trans (PySem.W.mg_of X G a31)
  cases e
  have g_LETTERS := PySem.W.mg_of X G g0_LETTERS
  have g_LONGEST := PySem.W.mg_of X G g0_LONGEST
  have g_MOST_OTHERS := PySem.W.mg_of X G g0_MOST_OTHERS
  have g_NOUGHT := PySem.W.mg_of X G g0_NOUGHT
  have r_NOUGHT : ∀ C H, Rp K C H (.ref p_NOUGHT) (.tuple [.int 0, .int 1]) := rp_constT l_NOUGHT s_NOUGHT v_NOUGHT fun C H => (by repeat (first | exact .nil | refine .cons (.int _) ?_ | refine .cons (.str _) ?_))
  have g_ONE := PySem.W.mg_of X G g0_ONE
  have r_ONE : ∀ C H, Rp K C H (.ref p_ONE) (.tuple [.int 1, .int 1]) := rp_constT l_ONE s_ONE v_ONE fun C H => (by repeat (first | exact .nil | refine .cons (.int _) ?_ | refine .cons (.str _) ?_))
  have T : Txt K mg := ⟨PySem.W.mg_none_of X G z_abs, PySem.W.mg_none_of X G z_all, PySem.W.mg_none_of X G z_bool, PySem.W.mg_none_of X G z_dict, PySem.W.mg_none_of X G z_enumerate, PySem.W.mg_none_of X G z_int, PySem.W.mg_none_of X G z_isinstance, PySem.W.mg_none_of X G z_len, PySem.W.mg_none_of X G z_list, PySem.W.mg_none_of X G z_range, PySem.W.mg_none_of X G z_sorted, PySem.W.mg_none_of X G z_str, PySem.W.mg_none_of X G z_sum, PySem.W.mg_none_of X G z_tuple, PySem.W.mg_none_of X G z_zip⟩
  have F3 := fun_mk (st := s_common) l3 c3 k3
  have b3 := F3.binds (ps := ["one", "other"]) fun _ _ _ _ _ _ us hl => match us, hl with | [_, _], _ => rfl
  have F4 := fun_mk (st := s_part_of) l4 c4 k4
  have b4 := F4.binds (ps := ["top", "bottom"]) fun _ _ _ _ _ _ us hl => match us, hl with | [_, _], _ => rfl
  have F5 := fun_mk (st := s_is_whole) l5 c5 k5
  have b5 := F5.binds (ps := ["thing"]) fun _ _ _ _ _ _ us hl => match us, hl with | [_], _ => rfl
  have F6 := fun_mk (st := s_is_part) l6 c6 k6
  have b6 := F6.binds (ps := ["thing"]) fun _ _ _ _ _ _ us hl => match us, hl with | [_], _ => rfl
  have F7 := fun_mk (st := s_plus) l7 c7 k7
  have b7 := F7.binds (ps := ["a", "b"]) fun _ _ _ _ _ _ us hl => match us, hl with | [_, _], _ => rfl
  have F8 := fun_mk (st := s_is_less) l8 c8 k8
  have b8 := F8.binds (ps := ["a", "b"]) fun _ _ _ _ _ _ us hl => match us, hl with | [_, _], _ => rfl
  have F9 := fun_mk (st := s_sum_of) l9 c9 k9
  have b9 := F9.binds (ps := ["parts"]) fun _ _ _ _ _ _ us hl => match us, hl with | [_], _ => rfl
  have F13 := fun_mk (st := s_is_name) l13 c13 k13
  have b13 := F13.binds (ps := ["thing"]) fun _ _ _ _ _ _ us hl => match us, hl with | [_], _ => rfl
  have F16 := fun_mk (st := s_is_pair) l16 c16 k16
  have b16 := F16.binds (ps := ["thing"]) fun _ _ _ _ _ _ us hl => match us, hl with | [_], _ => rfl
  have F17 := fun_mk (st := s_is_share) l17 c17 k17
  have b17 := F17.binds (ps := ["thing"]) fun _ _ _ _ _ _ us hl => match us, hl with | [_], _ => rfl
  have F18 := fun_mk (st := s_are_others) l18 c18 k18
  have b18 := F18.binds (ps := ["gauge", "names"]) fun _ _ _ _ _ _ us hl => match us, hl with | [_, _], _ => rfl
  have F19 := fun_mk (st := s_is_rule) l19 c19 k19
  have b19 := F19.binds (ps := ["thing"]) fun _ _ _ _ _ _ us hl => match us, hl with | [_], _ => rfl
  have F21 := fun_mk (st := s__law_tape) l21 c21 k21
  have b21 := F21.binds (ps := ["_law_script", "_law_k"]) fun _ _ _ _ _ _ us hl => match us, hl with | [_, _], _ => rfl
  have F22 := fun_mk (st := s__law_draw) l22 c22 k22
  have b22 := F22.binds (ps := ["_law_tape_here", "_law_many"]) fun _ _ _ _ _ _ us hl => match us, hl with | [_, _], _ => rfl
  have F23 := fun_mk (st := s__law_folded) l23 c23 k23
  have b23 := F23.binds (ps := ["_law_script", "_law_many"]) fun _ _ _ _ _ _ us hl => match us, hl with | [_, _], _ => rfl
  have F24 := fun_mk (st := s__law_part_by) l24 c24 k24
  have b24 := F24.binds (ps := ["_law_top", "_law_bottom"]) fun _ _ _ _ _ _ us hl => match us, hl with | [_, _], _ => rfl
  have F25 := fun_mk (st := s__law_both) l25 c25 k25
  have b25 := F25.binds (ps := ["_law_one", "_law_two"]) fun _ _ _ _ _ _ us hl => match us, hl with | [_, _], _ => rfl
  have F27 := fun_mk (st := s__law_total) l27 c27 k27
  have b27 := F27.binds (ps := ["_law_parts"]) fun _ _ _ _ _ _ us hl => match us, hl with | [_], _ => rfl
  have F28 := fun_mk (st := s__law_some_names) l28 c28 k28
  have b28 := F28.binds (ps := ["_law_tape_here", "_law_many"]) fun _ _ _ _ _ _ us hl => match us, hl with | [_, _], _ => rfl
  have F29 := fun_mk (st := s__law_split_to) l29 c29 k29
  have b29 := F29.binds (ps := ["_law_tape_here", "_law_many"]) fun _ _ _ _ _ _ us hl => match us, hl with | [_, _], _ => rfl
  have F30 := fun_mk (st := s__law_beyond) l30 c30 k30
  have b30 := F30.binds (ps := ["_law_tape_here", "_law_gauge", "_law_names", "_law_shares"]) fun _ _ _ _ _ _ us hl => match us, hl with | [_, _, _, _], _ => rfl
  refine ⟨PySem.W.fnOf "law" "law" (defArgs s_law) (defBody s_law) (defScope s_law) .none kV31 dc31 pm31 an31 cd31 ct31, fun s v => .of_eq rfl, fun base _ _ => ?_⟩
  have c_common : Cal l.prog w K mg base 1 "common" ["one", "other"] sp_common := ⟨fn3, _, PySem.W.mg_of X G a3, k3, b3, ok_common F3 T ⟩
  have c_is_whole : Cal l.prog w K mg base 1 "is_whole" ["thing"] sp_is_whole := ⟨fn5, _, PySem.W.mg_of X G a5, k5, b5, ok_is_whole F5 T ⟩
  have c_is_less : Cal l.prog w K mg base 1 "is_less" ["a", "b"] sp_is_less := ⟨fn8, _, PySem.W.mg_of X G a8, k8, b8, ok_is_less F8 T ⟩
  have c_is_name : Cal l.prog w K mg base 1 "is_name" ["thing"] sp_is_name := ⟨fn13, _, PySem.W.mg_of X G a13, k13, b13, ok_is_name F13 T g_LONGEST g_LETTERS⟩
  have c_is_pair : Cal l.prog w K mg base 1 "is_pair" ["thing"] sp_is_pair := ⟨fn16, _, PySem.W.mg_of X G a16, k16, b16, ok_is_pair F16 T ⟩
  have c_are_others : Cal l.prog w K mg base 1 "are_others" ["gauge", "names"] sp_are_others := ⟨fn18, _, PySem.W.mg_of X G a18, k18, b18, ok_are_others F18 T ⟩
  have c__law_tape : Cal l.prog w K mg base 1 "_law_tape" ["_law_script", "_law_k"] sp__law_tape := ⟨fn21, _, PySem.W.mg_of X G a21, k21, b21, ok__law_tape F21 T ⟩
  have c__law_draw : Cal l.prog w K mg base 1 "_law_draw" ["_law_tape_here", "_law_many"] sp__law_draw := ⟨fn22, _, PySem.W.mg_of X G a22, k22, b22, ok__law_draw F22 T ⟩
  have c__law_folded : Cal l.prog w K mg base 1 "_law_folded" ["_law_script", "_law_many"] sp__law_folded := ⟨fn23, _, PySem.W.mg_of X G a23, k23, b23, ok__law_folded F23 T ⟩
  have c__law_part_by : Cal l.prog w K mg base 1 "_law_part_by" ["_law_top", "_law_bottom"] sp__law_part_by := ⟨fn24, _, PySem.W.mg_of X G a24, k24, b24, ok__law_part_by F24 T ⟩
  have c_part_of : Cal l.prog w K mg base 2 "part_of" ["top", "bottom"] sp_part_of := ⟨fn4, _, PySem.W.mg_of X G a4, k4, b4, ok_part_of F4 T c_common⟩
  have c_is_part : Cal l.prog w K mg base 2 "is_part" ["thing"] sp_is_part := ⟨fn6, _, PySem.W.mg_of X G a6, k6, b6, ok_is_part F6 T c_is_whole c_common⟩
  have c__law_both : Cal l.prog w K mg base 2 "_law_both" ["_law_one", "_law_two"] sp__law_both := ⟨fn25, _, PySem.W.mg_of X G a25, k25, b25, ok__law_both F25 T c__law_part_by⟩
  have c__law_some_names : Cal l.prog w K mg base 2 "_law_some_names" ["_law_tape_here", "_law_many"] sp__law_some_names := ⟨fn28, _, PySem.W.mg_of X G a28, k28, b28, ok__law_some_names F28 T c__law_draw⟩
  have c__law_split_to : Cal l.prog w K mg base 2 "_law_split_to" ["_law_tape_here", "_law_many"] sp__law_split_to := ⟨fn29, _, PySem.W.mg_of X G a29, k29, b29, ok__law_split_to F29 T c__law_draw c__law_part_by⟩
  have c_plus : Cal l.prog w K mg base 3 "plus" ["a", "b"] sp_plus := ⟨fn7, _, PySem.W.mg_of X G a7, k7, b7, ok_plus F7 T c_part_of⟩
  have c_is_share : Cal l.prog w K mg base 3 "is_share" ["thing"] sp_is_share := ⟨fn17, _, PySem.W.mg_of X G a17, k17, b17, ok_is_share F17 T g_NOUGHT r_NOUGHT c_is_pair c_is_name c_is_part c_is_less⟩
  have c__law_total : Cal l.prog w K mg base 3 "_law_total" ["_law_parts"] sp__law_total := ⟨fn27, _, PySem.W.mg_of X G a27, k27, b27, ok__law_total F27 T c__law_both⟩
  have c_sum_of : Cal l.prog w K mg base 4 "sum_of" ["parts"] sp_sum_of := ⟨fn9, _, PySem.W.mg_of X G a9, k9, b9, ok_sum_of F9 T g_NOUGHT r_NOUGHT c_plus⟩
  have c__law_beyond : Cal l.prog w K mg base 4 "_law_beyond" ["_law_tape_here", "_law_gauge", "_law_names", "_law_shares"] sp__law_beyond := ⟨fn30, _, PySem.W.mg_of X G a30, k30, b30, ok__law_beyond F30 T c__law_draw c__law_total c__law_both⟩
  have c_is_rule : Cal l.prog w K mg base 5 "is_rule" ["thing"] sp_is_rule := ⟨fn19, _, PySem.W.mg_of X G a19, k19, b19, ok_is_rule F19 T g_MOST_OTHERS g_ONE r_ONE c_are_others c_is_pair c_is_name c_sum_of c_is_share⟩
  exact ok_law (fun_mk (st := s_law) l31 c31 k31) T c__law_folded c__law_tape c__law_split_to c__law_some_names c__law_draw c_is_rule c__law_beyond
theorem walk {l : PySem.W.OpenLaw} {q : Program} {loose : List Str} {XP : (Str → Option Value) → Heap → Prop} {YP : World → Heap → Prop} {d : DefRec} {K : Params → PySem.W.Frag} (hn : l.most = some 63) (hdf : d.params.defaults = [])
    (hY : ∀ (w : World) (h : Heap), YP w h → (K w.params).In h)
    (F : ∀ (w : World) (mg : Str → Option Value) (fa : Addr) (h : Heap), (K w.params).In h → h.Ns mainGlobals mg → mg d.name = some (.ref fa) →
      ∃ fd : FuncData, (∀ (s : Shared) (u : Value), BindsTo s fd ⟨[u], []⟩ [("_law_script", u)]) ∧ ∀ base : Heap, (K w.params).In base → base.Ns mainGlobals mg → FnOk l.prog w (K w.params) mg base CX0 6 fa fd ["_law_script"] (fnS (K w.params) sp_law)) :
    PySem.W.WalkO q loose XP YP l.row.toRowW d [] (fun f vs => PySem.call f vs) :=
  L2.walk_of (n := 63) (k := 6) (x := "_law_script") (CX := fun _ => CX0) (sp := fun w => fnS (K w.params) sp_law) hn (by decide) hdf ⟨rfl, by decide, by decide⟩ hY F (fun _ _ _ _ hl _ hS => fnS_law (law_start hl) hS) fun _ _ _ _ _ z => z
end Lk36

open PySem PySem.W PyProof.Rows in
set_option maxRecDepth 100000 in
set_option maxHeartbeats 0 in
theorem PySem.Challenge.cw_fewgauges_k36_rules_at_their_bounds_holds : PySem.Challenge.rw_fewgauges_k36_rules_at_their_bounds.Holds := by
  w_on; o_law; k_head; (case hw => w_witness2)
  k_fill
  refine Lk36.walk (l := PySem.Challenge.rw_fewgauges_k36_rules_at_their_bounds) rfl rfl (fun w h Y => PySem.W.kIn_of Y) ?F
  case F =>
    intro w mg fa h KX G hmg
    refine' Lk36.all_mk KX G hmg ?a3 ?l3 ?c3 ?k3 ?a4 ?l4 ?c4 ?k4 ?a5 ?l5 ?c5 ?k5 ?a6 ?l6 ?c6 ?k6 ?a7 ?l7 ?c7 ?k7 ?a8 ?l8 ?c8 ?k8 ?a9 ?l9 ?c9 ?k9 ?a13 ?l13 ?c13 ?k13 ?a16 ?l16 ?c16 ?k16 ?a17 ?l17 ?c17 ?k17 ?a18 ?l18 ?c18 ?k18 ?a19 ?l19 ?c19 ?k19 ?a21 ?l21 ?c21 ?k21 ?a22 ?l22 ?c22 ?k22 ?a23 ?l23 ?c23 ?k23 ?a24 ?l24 ?c24 ?k24 ?a25 ?l25 ?c25 ?k25 ?a27 ?l27 ?c27 ?k27 ?a28 ?l28 ?c28 ?k28 ?a29 ?l29 ?c29 ?k29 ?a30 ?l30 ?c30 ?k30 ?a31 ?l31 ?c31 ?k31 ?g0_LETTERS ?g0_LONGEST ?g0_MOST_OTHERS ?g0_NOUGHT ?l_NOUGHT ?s_NOUGHT ?v_NOUGHT ?g0_ONE ?l_ONE ?s_ONE ?v_ONE ?z_abs ?z_all ?z_bool ?z_dict ?z_enumerate ?z_int ?z_isinstance ?z_len ?z_list ?z_range ?z_sorted ?z_str ?z_sum ?z_tuple ?z_zip
    (case a3 => k_is)
    (case l3 => k_is)
    (case c3 => k_is)
    (case k3 => k_is)
    (case a4 => k_is)
    (case l4 => k_is)
    (case c4 => k_is)
    (case k4 => k_is)
    (case a5 => k_is)
    (case l5 => k_is)
    (case c5 => k_is)
    (case k5 => k_is)
    (case a6 => k_is)
    (case l6 => k_is)
    (case c6 => k_is)
    (case k6 => k_is)
    (case a7 => k_is)
    (case l7 => k_is)
    (case c7 => k_is)
    (case k7 => k_is)
    (case a8 => k_is)
    (case l8 => k_is)
    (case c8 => k_is)
    (case k8 => k_is)
    (case a9 => k_is)
    (case l9 => k_is)
    (case c9 => k_is)
    (case k9 => k_is)
    (case a13 => k_is)
    (case l13 => k_is)
    (case c13 => k_is)
    (case k13 => k_is)
    (case a16 => k_is)
    (case l16 => k_is)
    (case c16 => k_is)
    (case k16 => k_is)
    (case a17 => k_is)
    (case l17 => k_is)
    (case c17 => k_is)
    (case k17 => k_is)
    (case a18 => k_is)
    (case l18 => k_is)
    (case c18 => k_is)
    (case k18 => k_is)
    (case a19 => k_is)
    (case l19 => k_is)
    (case c19 => k_is)
    (case k19 => k_is)
    (case a21 => k_is)
    (case l21 => k_is)
    (case c21 => k_is)
    (case k21 => k_is)
    (case a22 => k_is)
    (case l22 => k_is)
    (case c22 => k_is)
    (case k22 => k_is)
    (case a23 => k_is)
    (case l23 => k_is)
    (case c23 => k_is)
    (case k23 => k_is)
    (case a24 => k_is)
    (case l24 => k_is)
    (case c24 => k_is)
    (case k24 => k_is)
    (case a25 => k_is)
    (case l25 => k_is)
    (case c25 => k_is)
    (case k25 => k_is)
    (case a27 => k_is)
    (case l27 => k_is)
    (case c27 => k_is)
    (case k27 => k_is)
    (case a28 => k_is)
    (case l28 => k_is)
    (case c28 => k_is)
    (case k28 => k_is)
    (case a29 => k_is)
    (case l29 => k_is)
    (case c29 => k_is)
    (case k29 => k_is)
    (case a30 => k_is)
    (case l30 => k_is)
    (case c30 => k_is)
    (case k30 => k_is)
    (case a31 => k_is)
    (case l31 => k_is)
    (case c31 => k_is)
    (case k31 => k_is)
    (case g0_LETTERS => k_is)
    (case g0_LONGEST => k_is)
    (case g0_MOST_OTHERS => k_is)
    (case g0_NOUGHT => k_is)
    (case l_NOUGHT => k_is)
    (case s_NOUGHT => exact Nat.le_of_ble_eq_true rfl)
    (case v_NOUGHT => repeat (first | exact .nil | refine .cons ⟨_, rfl⟩ ?_))
    (case g0_ONE => k_is)
    (case l_ONE => k_is)
    (case s_ONE => exact Nat.le_of_ble_eq_true rfl)
    (case v_ONE => repeat (first | exact .nil | refine .cons ⟨_, rfl⟩ ?_))
    (case z_abs => k_is)
    (case z_all => k_is)
    (case z_bool => k_is)
    (case z_dict => k_is)
    (case z_enumerate => k_is)
    (case z_int => k_is)
    (case z_isinstance => k_is)
    (case z_len => k_is)
    (case z_list => k_is)
    (case z_range => k_is)
    (case z_sorted => k_is)
    (case z_str => k_is)
    (case z_sum => k_is)
    (case z_tuple => k_is)
    (case z_zip => k_is)
#print axioms PySem.Challenge.cw_fewgauges_k36_rules_at_their_bounds_holds
