import PyProof.Rows.All
import Wide.All
import OpenK.AllK
import Wide.FinOn
import HandS.ForMost
import HandS.IsInst
import HandS.Wide
import HandS.Star
import HandS.TupAny
import HandS.Style
import HandS.SortInts
import HandS.Property
import KE.KFmtOwn
import PyProof.FactsAll.object_2
import HandS.DictComp
import KE.GoesMore
import HandS.Zip
import HandS.TryOnly
import HandS.NoneIn
import HandS.Defaults
import PyProof.Rows.Range3
import PyProof.ReprRoads
import PyProof.ReprLen
import PyProof.CallFns
import KE.KOpsOwn
import HandS.Deep
import PySem.Challenge.RW_driftmends_k47_bounds_put_together
set_option Elab.async false
set_option linter.all false
set_option maxRecDepth 100000
set_option maxHeartbeats 4000000
namespace Q
open PySem L2

/-! ### data, cells, stores -/
inductive D where
  | non | bl (b : Bool) | int (i : Int) | str (x : Str) | tup (l : List D) | lst (l : List D) | scr (l : List D) | obj (c : Str) (fs : List (Str × D))
/-- a value: data, or a cell of the store -/
inductive W where
  | d (x : D) | p (a : Addr)
inductive Cell where
  | lst (l : List D) | dk (kvs : List (Key × D)) | ins (c : Str) (dx : Addr) (fs : List (Str × W))
abbrev Sto := List (Addr × Cell)
abbrev adr (st : Sto) : List Addr := st.map (·.1)
structure Z where
  K : PySem.W.Frag
  cl : Str → Addr

def KT (K : PySem.W.Frag) (a : Addr) (xs : List V) : Prop := ∃ (o : Obj) (its : Array Value) (n : Nat), K.lookup a = some o ∧ o.cls = .type "tuple" ∧ o.data = .seq its n ∧ its.size ≤ sizeLine ∧ Vals xs its.toList
def KL (K : PySem.W.Frag) (a : Addr) (xs : List V) : Prop := ∃ (o : Obj) (its : Array Value) (n : Nat), K.lookup a = some o ∧ o.cls = .type "list" ∧ o.dict = none ∧ o.data = .seq its n ∧ its.size ≤ sizeLine ∧ Vals xs its.toList
def TAt (z : Z) (B : List Addr) (H : Hp) (a : Addr) (xs : List V) : Prop := (a ∉ B ∧ Rd H a (.tup xs)) ∨ KT z.K a xs
def LAt (z : Z) (B : List Addr) (H : Hp) (a : Addr) (xs : List V) : Prop := (a ∉ B ∧ Rd H a (.lst xs)) ∨ KL z.K a xs

mutual
inductive Rp (z : Z) (B : List Addr) (H : Hp) : V → D → Prop
  | non : Rp z B H .non .non
  | bl (b : Bool) : Rp z B H (.bl b) (.bl b)
  | int (i : Int) : Rp z B H (.int i) (.int i)
  | str (x : Str) : Rp z B H (.str x) (.str x)
  | tup {a : Addr} {xs : List V} {l : List D} : TAt z B H a xs → Rps z B H xs l → Rp z B H (.ref a) (.tup l)
  | lst {a : Addr} {xs : List V} {l : List D} : a ∉ B → H a = some (.lst xs) → Rps z B H xs l → Rp z B H (.ref a) (.lst l)
  | scr {a : Addr} {xs : List V} {l : List D} : LAt z B H a xs → Rps z B H xs l → Rp z B H (.ref a) (.scr l)
  | obj {a dx : Addr} {c : Str} {fs : List (Str × V)} {l : List (Str × D)} : a ∉ B → H a = some (.ins (z.cl c) dx fs) → Rpf z B H fs l → Rp z B H (.ref a) (.obj c l)
inductive Rps (z : Z) (B : List Addr) (H : Hp) : List V → List D → Prop
  | nil : Rps z B H [] []
  | cons {v : V} {d : D} {vs : List V} {l : List D} : Rp z B H v d → Rps z B H vs l → Rps z B H (v :: vs) (d :: l)
inductive Rpf (z : Z) (B : List Addr) (H : Hp) : List (Str × V) → List (Str × D) → Prop
  | nil : Rpf z B H [] []
  | cons {f : Str} {v : V} {d : D} {vs : List (Str × V)} {l : List (Str × D)} : Rp z B H v d → Rpf z B H vs l → Rpf z B H ((f, v) :: vs) ((f, d) :: l)
end

/-- H' keeps what H tracks outside of B; what is excluded afterwards (B') was excluded or is new -/
structure Le (B : List Addr) (H : Hp) (B' : List Addr) (H' : Hp) : Prop where
  keep : ∀ a o, H a = some o → a ∉ B → H' a = some o
  trk : ∀ a o, H a = some o → ∃ o', H' a = some o'
  new : ∀ a ∈ B', a ∈ B ∨ H a = none
theorem Le.refl (B : List Addr) (H : Hp) : Le B H B H := ⟨fun _ _ h _ => h, fun _ o h => ⟨o, h⟩, fun _ h => .inl h⟩
theorem Le.free {B B' : List Addr} {H H' : Hp} (e : Le B H B' H') {a : Addr} (h : H' a = none) : H a = none := by
  cases q : H a with
  | none => rfl
  | some o => obtain ⟨o', h'⟩ := e.trk a o q; rw [h] at h'; cases h'
theorem Le.out {B B' : List Addr} {H H' : Hp} (e : Le B H B' H') {a : Addr} {o : HO} (h : H a = some o) (n : a ∉ B) : a ∉ B' := fun m => by
  rcases e.new a m with q | q
  · exact n q
  · rw [h] at q; cases q
theorem Le.trans {B B1 B2 : List Addr} {H H1 H2 : Hp} (a : Le B H B1 H1) (b : Le B1 H1 B2 H2) : Le B H B2 H2 where
  keep := fun x o h n => b.keep x o (a.keep x o h n) (a.out h n)
  trk := fun x o h => by obtain ⟨o', h'⟩ := a.trk x o h; exact b.trk x o' h'
  new := fun x m => by
    rcases b.new x m with q | q
    · exact a.new x q
    · exact .inr (a.free q)
theorem Le.alloc {B : List Addr} {H : Hp} {p : Addr} {o : HO} (h : H p = none) : Le B H B (upd H p o) where
  keep := fun a u e _ => by rw [upd_ne (ne_of_none e h)]; exact e
  trk := fun a u e => ⟨u, by rw [upd_ne (ne_of_none e h)]; exact e⟩
  new := fun _ m => .inl m
theorem Le.same {B : List Addr} {H H' : Hp} (h : Same H H') : Le B H B H' := ⟨fun a o e _ => h a o e, fun a o e => ⟨o, h a o e⟩, fun _ m => .inl m⟩
/-- the object at an excluded place changes -/
theorem Le.mut {B : List Addr} {H : Hp} {p : Addr} {o : HO} (h : p ∈ B) : Le B H B (upd H p o) where
  keep := fun a u e n => by rw [upd_ne (fun q => n (by rw [q]; exact h))]; exact e
  trk := fun a u e => by
    by_cases q : a = p
    · subst q; exact ⟨o, upd_same⟩
    · exact ⟨u, by rw [upd_ne q]; exact e⟩
  new := fun _ m => .inl m

section
variable {z : Z} {B B' : List Addr} {H H' : Hp}
theorem Rd.some {a : Addr} {u : HO} (h : Rd H a u) : ∃ o, H a = some o := by
  rcases h with h | ⟨o, h⟩
  · exact ⟨_, h⟩
  · exact ⟨_, h⟩
theorem Rd.le (e : Le B H B' H') {a : Addr} {u : HO} (n : a ∉ B) (h : Rd H a u) : Rd H' a u := by
  rcases h with h | ⟨o, h⟩
  · exact .inl (e.keep _ _ h n)
  · exact .inr ⟨o, e.keep _ _ h n⟩
theorem TAt.le (e : Le B H B' H') {a : Addr} {xs : List V} (h : TAt z B H a xs) : TAt z B' H' a xs := by
  rcases h with ⟨n, r⟩ | h
  · obtain ⟨o, q⟩ := Rd.some r
    exact .inl ⟨e.out q n, Rd.le e n r⟩
  · exact .inr h
theorem LAt.le (e : Le B H B' H') {a : Addr} {xs : List V} (h : LAt z B H a xs) : LAt z B' H' a xs := by
  rcases h with ⟨n, r⟩ | h
  · obtain ⟨o, q⟩ := Rd.some r
    exact .inl ⟨e.out q n, Rd.le e n r⟩
  · exact .inr h
mutual
theorem Rp.le (e : Le B H B' H') : ∀ {v : V} {d : D}, Rp z B H v d → Rp z B' H' v d
  | _, _, .non => .non
  | _, _, .bl b => .bl b
  | _, _, .int i => .int i
  | _, _, .str x => .str x
  | _, _, .tup h r => .tup (h.le e) (Rps.le e r)
  | _, _, .lst n h r => .lst (e.out h n) (e.keep _ _ h n) (Rps.le e r)
  | _, _, .scr h r => .scr (h.le e) (Rps.le e r)
  | _, _, .obj n h r => .obj (e.out h n) (e.keep _ _ h n) (Rpf.le e r)
theorem Rps.le (e : Le B H B' H') : ∀ {v : List V} {d : List D}, Rps z B H v d → Rps z B' H' v d
  | _, _, .nil => .nil
  | _, _, .cons h r => .cons (Rp.le e h) (Rps.le e r)
theorem Rpf.le (e : Le B H B' H') : ∀ {v : List (Str × V)} {d : List (Str × D)}, Rpf z B H v d → Rpf z B' H' v d
  | _, _, .nil => .nil
  | _, _, .cons h r => .cons (Rp.le e h) (Rpf.le e r)
end
theorem TAt.less (s : ∀ a ∈ B', a ∈ B) {a : Addr} {xs : List V} (h : TAt z B H a xs) : TAt z B' H a xs := h.imp (fun ⟨n, r⟩ => ⟨fun m => n (s _ m), r⟩) id
theorem LAt.less (s : ∀ a ∈ B', a ∈ B) {a : Addr} {xs : List V} (h : LAt z B H a xs) : LAt z B' H a xs := h.imp (fun ⟨n, r⟩ => ⟨fun m => n (s _ m), r⟩) id
mutual
theorem Rp.less (s : ∀ a ∈ B', a ∈ B) : ∀ {v : V} {d : D}, Rp z B H v d → Rp z B' H v d
  | _, _, .non => .non
  | _, _, .bl b => .bl b
  | _, _, .int i => .int i
  | _, _, .str x => .str x
  | _, _, .tup h r => .tup (h.less s) (Rps.less s r)
  | _, _, .lst n h r => .lst (fun m => n (s _ m)) h (Rps.less s r)
  | _, _, .scr h r => .scr (h.less s) (Rps.less s r)
  | _, _, .obj n h r => .obj (fun m => n (s _ m)) h (Rpf.less s r)
theorem Rps.less (s : ∀ a ∈ B', a ∈ B) : ∀ {v : List V} {d : List D}, Rps z B H v d → Rps z B' H v d
  | _, _, .nil => .nil
  | _, _, .cons h r => .cons (Rp.less s h) (Rps.less s r)
theorem Rpf.less (s : ∀ a ∈ B', a ∈ B) : ∀ {v : List (Str × V)} {d : List (Str × D)}, Rpf z B H v d → Rpf z B' H v d
  | _, _, .nil => .nil
  | _, _, .cons h r => .cons (Rp.less s h) (Rpf.less s r)
end
end

/-! ### values, slots, stores -/
inductive Rw (z : Z) (B : List Addr) (H : Hp) : V → W → Prop
  | d {v : V} {x : D} : Rp z B H v x → Rw z B H v (.d x)
  | p {a : Addr} : a ∈ B → Rw z B H (.ref a) (.p a)
inductive Rws (z : Z) (B : List Addr) (H : Hp) : List V → List W → Prop
  | nil : Rws z B H [] []
  | cons {v : V} {w : W} {vs : List V} {l : List W} : Rw z B H v w → Rws z B H vs l → Rws z B H (v :: vs) (w :: l)
/-- what a field holds -/
inductive Rf (z : Z) (B : List Addr) (H : Hp) : V → W → Prop
  | d {v : V} {x : D} : Rp z B H v x → Rf z B H v (.d x)
  | p {a : Addr} : Rf z B H (.ref a) (.p a)
inductive Rwf (z : Z) (B : List Addr) (H : Hp) : List (Str × V) → List (Str × W) → Prop
  | nil : Rwf z B H [] []
  | cons {f : Str} {v : V} {d : W} {vs : List (Str × V)} {l : List (Str × W)} : Rf z B H v d → Rwf z B H vs l → Rwf z B H ((f, v) :: vs) ((f, d) :: l)
inductive Rpk (z : Z) (B : List Addr) (H : Hp) : List (Key × V) → List (Key × D) → Prop
  | nil : Rpk z B H [] []
  | cons {f : Key} {v : V} {d : D} {vs : List (Key × V)} {l : List (Key × D)} : Rp z B H v d → Rpk z B H vs l → Rpk z B H ((f, v) :: vs) ((f, d) :: l)
abbrev Sub (B B' : List Addr) : Prop := ∀ a ∈ B, a ∈ B'
abbrev Ds := List (Option W)
section
variable {z : Z} {B B' : List Addr} {H H' : Hp}
theorem Rw.le (e : Le B H B' H') (s : Sub B B') {v : V} {w : W} (h : Rw z B H v w) : Rw z B' H' v w := by
  cases h with
  | d h => exact .d (h.le e)
  | p h => exact .p (s _ h)
theorem Rws.le (e : Le B H B' H') (s : Sub B B') : ∀ {v : List V} {w : List W}, Rws z B H v w → Rws z B' H' v w
  | _, _, .nil => .nil
  | _, _, .cons h r => .cons (h.le e s) (Rws.le e s r)
theorem Rw.f {v : V} {w : W} (h : Rw z B H v w) : Rf z B H v w := by
  cases h with
  | d h => exact .d h
  | p h => exact .p
theorem Rf.le (e : Le B H B' H') {v : V} {w : W} (h : Rf z B H v w) : Rf z B' H' v w := by
  cases h with
  | d h => exact .d (h.le e)
  | p => exact .p
theorem Rf.less (s : Sub B' B) {v : V} {w : W} (h : Rf z B H v w) : Rf z B' H v w := by
  cases h with
  | d h => exact .d (h.less s)
  | p => exact .p
theorem Rwf.le (e : Le B H B' H') : ∀ {v : List (Str × V)} {w : List (Str × W)}, Rwf z B H v w → Rwf z B' H' v w
  | _, _, .nil => .nil
  | _, _, .cons h r => .cons (h.le e) (Rwf.le e r)
theorem Rwf.less (s : Sub B' B) : ∀ {v : List (Str × V)} {w : List (Str × W)}, Rwf z B H v w → Rwf z B' H v w
  | _, _, .nil => .nil
  | _, _, .cons h r => .cons (h.less s) (Rwf.less s r)
theorem Rpk.le (e : Le B H B' H') : ∀ {v : List (Key × V)} {w : List (Key × D)}, Rpk z B H v w → Rpk z B' H' v w
  | _, _, .nil => .nil
  | _, _, .cons h r => .cons (h.le e) (Rpk.le e r)
theorem Rpk.less (s : Sub B' B) : ∀ {v : List (Key × V)} {w : List (Key × D)}, Rpk z B H v w → Rpk z B' H v w
  | _, _, .nil => .nil
  | _, _, .cons h r => .cons (h.less s) (Rpk.less s r)
theorem Rps.length : ∀ {v : List V} {w : List D}, Rps z B H v w → v.length = w.length
  | _, _, .nil => rfl
  | _, _, .cons _ r => congrArg Nat.succ r.length
theorem Rws.length : ∀ {v : List V} {w : List W}, Rws z B H v w → v.length = w.length
  | _, _, .nil => rfl
  | _, _, .cons _ r => congrArg Nat.succ r.length
theorem Rps.get : ∀ {v : List V} {w : List D} {i : Nat} {d : D}, Rps z B H v w → w[i]? = some d → ∃ x, v[i]? = some x ∧ Rp z B H x d
  | _, _, _, _, .nil, e => by simp at e
  | _, _, 0, _, .cons h _, e => by simp at e; subst e; exact ⟨_, rfl, h⟩
  | _, _, i + 1, d, .cons _ r, e => by
    obtain ⟨x, h1, h2⟩ := Rps.get (i := i) (d := d) r (by simpa using e)
    exact ⟨x, by simpa using h1, h2⟩
theorem Rps.append : ∀ {v v' : List V} {w w' : List D}, Rps z B H v w → Rps z B H v' w' → Rps z B H (v ++ v') (w ++ w')
  | _, _, _, _, .nil, r => r
  | _, _, _, _, .cons h t, r => .cons h (Rps.append t r)
theorem Rps.one {v : V} {d : D} (h : Rp z B H v d) : Rps z B H [v] [d] := .cons h .nil

def Sl (z : Z) (B : List Addr) (H : Hp) (σ : L2.St) (ds : Ds) : Prop := σ.length = ds.length ∧ ∀ (i : Nat) (w : W), ds[i]? = some (some w) → ∃ v, σ[i]? = some (some v) ∧ Rw z B H v w
theorem Sl.le (e : Le B H B' H') (s : Sub B B') {σ : L2.St} {ds : Ds} (h : Sl z B H σ ds) : Sl z B' H' σ ds := ⟨h.1, fun i w q => by
  obtain ⟨v, h1, h2⟩ := h.2 i w q
  exact ⟨v, h1, h2.le e s⟩⟩
theorem Sl.set {σ : L2.St} {ds : Ds} (h : Sl z B H σ ds) {v : V} {w : W} (r : Rw z B H v w) (i : Nat) : Sl z B H (σ.set i (some v)) (ds.set i (some w)) := by
  refine ⟨by rw [List.length_set, List.length_set]; exact h.1, fun j u q => ?_⟩
  by_cases e : i = j
  · subst e
    have hl : i < ds.length := by
      have := (List.getElem?_eq_some_iff.mp q).1
      rw [List.length_set] at this
      exact this
    rw [List.getElem?_set_self hl] at q
    cases q
    exact ⟨v, by rw [List.getElem?_set_self (by rw [h.1]; exact hl)], r⟩
  · rw [List.getElem?_set_ne e] at q ⊢
    exact h.2 j u q
/-- forget -/
def Fgt (ds ds' : Ds) : Prop := ds.length = ds'.length ∧ ∀ (i : Nat) (w : W), ds'[i]? = some (some w) → ds[i]? = some (some w)

def CAt (z : Z) (B : List Addr) (H : Hp) (a : Addr) : Cell → Prop
  | .lst l => ∃ xs, H a = some (.lst xs) ∧ Rps z B H xs l
  | .dk kvs => ∃ es, H a = some (.dK es) ∧ Rpk z B H es kvs
  | .ins c dx fs => ∃ es, H a = some (.ins (z.cl c) dx es) ∧ Rwf z B H es fs
structure StOk (z : Z) (st : Sto) (H : Hp) : Prop where
  nd : (adr st).Nodup
  at_ : ∀ q ∈ st, CAt z (adr st) H q.1 q.2
theorem CAt.some {a : Addr} {c : Cell} (h : CAt z B H a c) : ∃ o, H a = Option.some o := by
  cases c with
  | lst l => obtain ⟨_, h, _⟩ := h; exact ⟨_, h⟩
  | dk l => obtain ⟨_, h, _⟩ := h; exact ⟨_, h⟩
  | ins c dx l => obtain ⟨_, h, _⟩ := h; exact ⟨_, h⟩
/-- the cell at a stays, all else as Le says -/
theorem CAt.le (e : Le B H B' H') {a : Addr} {c : Cell} (ha : H' a = H a) (h : CAt z B H a c) : CAt z B' H' a c := by
  cases c with
  | lst l => obtain ⟨xs, h, r⟩ := h; exact ⟨xs, by rw [ha]; exact h, r.le e⟩
  | dk l => obtain ⟨xs, h, r⟩ := h; exact ⟨xs, by rw [ha]; exact h, r.le e⟩
  | ins c dx l => obtain ⟨xs, h, r⟩ := h; exact ⟨xs, by rw [ha]; exact h, r.le e⟩
end

section
variable {z : Z} {st st' : Sto} {H H' : Hp}
theorem StOk.nil : StOk z [] H := ⟨List.nodup_nil, fun q h => by cases h⟩
theorem StOk.trk (h : StOk z st H) {a : Addr} (m : a ∈ adr st) : ∃ o, H a = some o := by
  obtain ⟨q, hq, rfl⟩ := List.mem_map.mp m
  exact (h.at_ q hq).some
/-- an allocation that no cell sees -/
theorem StOk.alloc (h : StOk z st H) {p : Addr} {o : HO} (hp : H p = none) : StOk z st (upd H p o) := ⟨h.nd, fun q m => by
  have hn : q.1 ≠ p := by
    obtain ⟨o', e⟩ := (h.at_ q m).some
    exact ne_of_none e hp
  exact (h.at_ q m).le (Le.alloc hp) (upd_ne hn)⟩
theorem StOk.same (h : StOk z st H) (e : Same H H') : StOk z st H' := ⟨h.nd, fun q m => by
  obtain ⟨o', e'⟩ := (h.at_ q m).some
  exact (h.at_ q m).le (Le.same e) (by rw [e _ _ e', e'])⟩
/-- a new cell -/
theorem StOk.push (h : StOk z st H) {p : Addr} {o : HO} {c : Cell} (hp : H p = none) (hc : CAt z (p :: adr st) (upd H p o) p c) : StOk z ((p, c) :: st) (upd H p o) := by
  have np : p ∉ adr st := fun m => by obtain ⟨o', e⟩ := h.trk m; rw [hp] at e; cases e
  refine ⟨List.nodup_cons.mpr ⟨np, h.nd⟩, fun q m => ?_⟩
  rcases List.mem_cons.mp m with e | m
  · subst e
    exact hc
  · have hn : q.1 ≠ p := by
      obtain ⟨o', e⟩ := (h.at_ q m).some
      exact ne_of_none e hp
    refine (h.at_ q m).le (B' := p :: adr st) ⟨(Le.alloc hp (B := adr st)).keep, (Le.alloc hp (B := adr st)).trk, fun a m => ?_⟩ (upd_ne hn)
    rcases List.mem_cons.mp m with e | m
    · exact .inr (by rw [e]; exact hp)
    · exact .inl m
theorem Le.push {B : List Addr} {p : Addr} {o : HO} (hp : H p = none) : Le B H (p :: B) (upd H p o) :=
  ⟨(Le.alloc hp (B := B)).keep, (Le.alloc hp (B := B)).trk, fun a m => by
    rcases List.mem_cons.mp m with e | m
    · exact .inr (by rw [e]; exact hp)
    · exact .inl m⟩
/-- the j-th cell changes -/
theorem adr_set {j : Nat} {a : Addr} {c c' : Cell} (hj : st[j]? = some (a, c)) : adr (st.set j (a, c')) = adr st := by
  rw [adr, List.map_set]
  apply List.ext_getElem?
  intro i
  by_cases e : j = i
  · subst e
    have hl := (List.getElem?_eq_some_iff.mp hj).1
    rw [List.getElem?_set_self (by rw [List.length_map]; exact hl), List.getElem?_map, hj]
    rfl
  · rw [List.getElem?_set_ne e]
theorem mem_adr {j : Nat} {a : Addr} {c : Cell} (hj : st[j]? = some (a, c)) : a ∈ adr st := List.mem_map.mpr ⟨(a, c), List.mem_of_getElem? hj, rfl⟩
theorem StOk.write (h : StOk z st H) {j : Nat} {a : Addr} {c c' : Cell} {o : HO} (hj : st[j]? = some (a, c)) (hc : CAt z (adr st) (upd H a o) a c') : StOk z (st.set j (a, c')) (upd H a o) := by
  have ea := adr_set (c' := c') hj
  refine ⟨by rw [ea]; exact h.nd, fun q m => ?_⟩
  rw [ea]
  obtain ⟨i, hi⟩ := List.getElem?_of_mem m
  by_cases e : j = i
  · subst e
    rw [List.getElem?_set_self (List.getElem?_eq_some_iff.mp hj).1] at hi
    cases hi
    exact hc
  · rw [List.getElem?_set_ne e] at hi
    have hn : q.1 ≠ a := fun x => by
      have h1 : (adr st)[i]? = some a := by rw [adr, List.getElem?_map, hi, ← x]; rfl
      have h2 : (adr st)[j]? = some a := by rw [adr, List.getElem?_map, hj]; rfl
      have li : i < (adr st).length := (List.getElem?_eq_some_iff.mp h1).1
      exact e ((List.getElem?_inj li h.nd).mp (h1.trans h2.symm)).symm
    exact (h.at_ q (List.mem_of_getElem? hi)).le (Le.mut (mem_adr hj)) (upd_ne hn)
theorem CAt.less {B B' : List Addr} (s : Sub B' B) {a : Addr} {c : Cell} (h : CAt z B H a c) : CAt z B' H a c := by
  cases c with
  | lst l => obtain ⟨xs, h, r⟩ := h; exact ⟨xs, h, r.less s⟩
  | dk l => obtain ⟨xs, h, r⟩ := h; exact ⟨xs, h, r.less s⟩
  | ins c dx l => obtain ⟨xs, h, r⟩ := h; exact ⟨xs, h, r.less s⟩
end

/-! ### the judgements -/
def Ev (z : Z) (te : TE) (ds : Ds) (st : Sto) (P : W → Sto → Prop) : Prop :=
  ∀ σ H, Sl z (adr st) H σ ds → StOk z st H → ∀ Q : VK, (∀ w st' v H', P w st' → Le (adr st) H (adr st') H' → Sub (adr st) (adr st') → StOk z st' H' → Rw z (adr st') H' v w → Q v H') → te σ H Q
def EvT (z : Z) (te : TT) (ds : Ds) (st : Sto) (P : Bool → Sto → Prop) : Prop :=
  ∀ σ H, Sl z (adr st) H σ ds → StOk z st H → ∀ Q : Bool → Hp → Prop, (∀ b st' H', P b st' → Le (adr st) H (adr st') H' → Sub (adr st) (adr st') → StOk z st' H' → Q b H') → te σ H Q
def EvA (z : Z) (te : TA) (ds : Ds) (st : Sto) (P : List W → Sto → Prop) : Prop :=
  ∀ σ H, Sl z (adr st) H σ ds → StOk z st H → ∀ Q : List V → Hp → Prop, (∀ ws st' vs H', P ws st' → Le (adr st) H (adr st') H' → Sub (adr st) (adr st') → StOk z st' H' → Rws z (adr st') H' vs ws → Q vs H') → te σ H Q
/-- two-place operations, one-place ones, calls, by values -/
def Ro (z : Z) (r : R2) (x y : W) (st : Sto) (P : W → Sto → Prop) : Prop :=
  ∀ u v H, StOk z st H → Rw z (adr st) H u x → Rw z (adr st) H v y → ∀ Q : VK, (∀ w st' v H', P w st' → Le (adr st) H (adr st') H' → Sub (adr st) (adr st') → StOk z st' H' → Rw z (adr st') H' v w → Q v H') → r u v H Q
def Ru (z : Z) (r : V → Hp → VK → Prop) (x : W) (st : Sto) (P : W → Sto → Prop) : Prop :=
  ∀ u H, StOk z st H → Rw z (adr st) H u x → ∀ Q : VK, (∀ w st' v H', P w st' → Le (adr st) H (adr st') H' → Sub (adr st) (adr st') → StOk z st' H' → Rw z (adr st') H' v w → Q v H') → r u H Q
def Rc (z : Z) (r : List V → Hp → VK → Prop) (xs : List W) (st : Sto) (P : W → Sto → Prop) : Prop :=
  ∀ us H, StOk z st H → Rws z (adr st) H us xs → ∀ Q : VK, (∀ w st' v H', P w st' → Le (adr st) H (adr st') H' → Sub (adr st) (adr st') → StOk z st' H' → Rw z (adr st') H' v w → Q v H') → r us H Q
structure Po where
  nx : Ds → Sto → Prop
  rt : W → Sto → Prop
  bk : Ds → Sto → Prop := fun _ _ => False
  ct : Ds → Sto → Prop := fun _ _ => False
structure Sat (z : Z) (P : Po) (B : List Addr) (H : Hp) (E : Ends) : Prop where
  nx : ∀ ds' st' σ' H', P.nx ds' st' → Le B H (adr st') H' → Sl z (adr st') H' σ' ds' → StOk z st' H' → E.nx σ' H'
  rt : ∀ w st' v H', P.rt w st' → Le B H (adr st') H' → StOk z st' H' → Rw z (adr st') H' v w → E.rt v H'
  bk : ∀ ds' st' σ' H', P.bk ds' st' → Le B H (adr st') H' → Sl z (adr st') H' σ' ds' → StOk z st' H' → E.bk σ' H'
  ct : ∀ ds' st' σ' H', P.ct ds' st' → Le B H (adr st') H' → Sl z (adr st') H' σ' ds' → StOk z st' H' → E.ct σ' H'
theorem Sat.le {z : Z} {P : Po} {B B' : List Addr} {H H' : Hp} {E : Ends} (s : Sat z P B H E) (e : Le B H B' H') : Sat z P B' H' E :=
  ⟨fun ds st σ h p l => s.nx ds st σ h p (e.trans l), fun w st v h p l => s.rt w st v h p (e.trans l), fun ds st σ h p l => s.bk ds st σ h p (e.trans l), fun ds st σ h p l => s.ct ds st σ h p (e.trans l)⟩
def Wp (z : Z) (t : TS) (ds : Ds) (st : Sto) (P : Po) : Prop :=
  ∀ (E : Ends) σ H, Sl z (adr st) H σ ds → StOk z st H → Sat z P (adr st) H E → t E σ H
end Q

namespace Q
open PySem L2
section
variable {z : Z} {ds : Ds} {st : Sto} {P : W → Sto → Prop} {ta tb te : TE} {x y : W} {i j : Int}

/-! ### expressions -/
theorem ev_var {i : Nat} {w : W} (h : ds[i]? = some (some w)) (p : P w st) : Ev z (tVar i) ds st P := fun σ H s o Q q => by
  obtain ⟨v, h1, h2⟩ := s.2 i w h
  exact ⟨v, h1, q w st v H p (Le.refl _ _) (fun _ m => m) o h2⟩
theorem ev_int (p : P (.d (.int i)) st) : Ev z (tC (.int i)) ds st P := fun σ H _ o Q q => q _ st _ H p (Le.refl _ _) (fun _ m => m) o (.d (.int i))
theorem ev_bl {b : Bool} (p : P (.d (.bl b)) st) : Ev z (tC (.bl b)) ds st P := fun σ H _ o Q q => q _ st _ H p (Le.refl _ _) (fun _ m => m) o (.d (.bl b))
theorem ev_str {x : Str} (p : P (.d (.str x)) st) : Ev z (tC (.str x)) ds st P := fun σ H _ o Q q => q _ st _ H p (Le.refl _ _) (fun _ m => m) o (.d (.str x))
theorem ev_non (p : P (.d .non) st) : Ev z (tC .non) ds st P := fun σ H _ o Q q => q _ st _ H p (Le.refl _ _) (fun _ m => m) o (.d .non)
theorem ev_op {r : R2} (h : Ev z ta ds st fun x st1 => Ev z tb ds st1 fun y st2 => Ro z r x y st2 P) : Ev z (tOp r ta tb) ds st P := fun σ H s o Q q =>
  h σ H s o _ fun x st1 u H1 h1 l1 b1 o1 r1 => h1 σ H1 (s.le l1 b1) o1 _ fun y st2 v H2 h2 l2 b2 o2 r2 => h2 u v H2 o2 (r1.le l2 b2) r2 Q fun w st3 v3 H3 p l3 b3 o3 r3 =>
    q w st3 v3 H3 p ((l1.trans l2).trans l3) (fun a m => b3 a (b2 a (b1 a m))) o3 r3
theorem ev_un {r : V → Hp → VK → Prop} (h : Ev z ta ds st fun x st1 => Ru z r x st1 P) : Ev z (tUn r ta) ds st P := fun σ H s o Q q =>
  h σ H s o _ fun x st1 u H1 h1 l1 b1 o1 r1 => h1 u H1 o1 r1 Q fun w st3 v3 H3 p l3 b3 o3 r3 => q w st3 v3 H3 p (l1.trans l3) (fun a m => b3 a (b1 a m)) o3 r3
theorem Ev.mono {P' : W → Sto → Prop} (h : Ev z te ds st P) (i : ∀ w st, P w st → P' w st) : Ev z te ds st P' := fun σ H s o Q q => h σ H s o Q fun w st v H p => q w st v H (i w st p)

/-! ### operations by values -/
theorem ro_I0i {f : Int → Int → Int} (p : P (.d (.int (f i j))) st) : Ro z (rI0 fun i j => .int (f i j)) (.d (.int i)) (.d (.int j)) st P := fun u v H o hu hv Q q => by
  cases hu with | d hu => cases hv with | d hv => cases hu; cases hv; exact ⟨i, j, rfl, rfl, q _ st _ H p (Le.refl _ _) (fun _ m => m) o (.d (.int _))⟩
theorem ro_I0b {f : Int → Int → Bool} (p : P (.d (.bl (f i j))) st) : Ro z (rI0 fun i j => .bl (f i j)) (.d (.int i)) (.d (.int j)) st P := fun u v H o hu hv Q q => by
  cases hu with | d hu => cases hv with | d hv => cases hu; cases hv; exact ⟨i, j, rfl, rfl, q _ st _ H p (Le.refl _ _) (fun _ m => m) o (.d (.bl _))⟩
theorem ro_Ii {C : Int → Int → Prop} {f : Int → Int → Int} (c : C i j) (p : P (.d (.int (f i j))) st) : Ro z (rI C fun i j => .int (f i j)) (.d (.int i)) (.d (.int j)) st P := fun u v H o hu hv Q q => by
  cases hu with | d hu => cases hv with | d hv => cases hu; cases hv; exact ⟨i, j, rfl, rfl, c, q _ st _ H p (Le.refl _ _) (fun _ m => m) o (.d (.int _))⟩
theorem ru_neg (p : P (.d (.int (-i))) st) : Ru z (rU fun i => .int (-i)) (.d (.int i)) st P := fun u H o hu Q q => by
  cases hu with | d hu => cases hu; exact ⟨i, rfl, q _ st _ H p (Le.refl _ _) (fun _ m => m) o (.d (.int _))⟩
/-- scalars as data -/
def sc : D → Option V
  | .non => some .non
  | .bl b => some (.bl b)
  | .int i => some (.int i)
  | .str x => some (.str x)
  | _ => none
theorem Rp.sc {B : List Addr} {H : Hp} {v u : V} {d : D} (h : Rp z B H v d) (e : sc d = some u) : v = u := by
  cases h <;> simp [Q.sc] at e <;> exact e
theorem ro_eq {a b : D} {u v : V} (ha : sc a = some u) (hb : sc b = some v) (hs : scal u v = true) (p : P (.d (.bl (decide (u = v)))) st) : Ro z rEq (.d a) (.d b) st P := fun u' v' H o hu hv Q q => by
  cases hu with | d hu => cases hv with | d hv =>
    have e1 := hu.sc ha
    have e2 := hv.sc hb
    subst e1 e2
    exact ⟨hs, q _ st _ H p (Le.refl _ _) (fun _ m => m) o (.d (.bl _))⟩
theorem ro_ne {a b : D} {u v : V} (ha : sc a = some u) (hb : sc b = some v) (hs : scal u v = true) (p : P (.d (.bl (!decide (u = v)))) st) : Ro z rNe (.d a) (.d b) st P := fun u' v' H o hu hv Q q => by
  cases hu with | d hu => cases hv with | d hv =>
    have e1 := hu.sc ha
    have e2 := hv.sc hb
    subst e1 e2
    exact ⟨hs, q _ st _ H p (Le.refl _ _) (fun _ m => m) o (.d (.bl _))⟩

/-! ### tests -/
variable {t u : TT} {R : Bool → Sto → Prop} {b : Bool}
theorem et_test (h : Ev z te ds st fun w st1 => ∃ b, w = .d (.bl b) ∧ R b st1) : EvT z (tTest te) ds st R := fun σ H s o Q q => h σ H s o _ fun w st1 v H1 h1 l1 b1 o1 r1 => by
  obtain ⟨b, rfl, p⟩ := h1
  cases r1 with | d r1 => cases r1; exact ⟨b, rfl, q b st1 H1 p l1 b1 o1⟩
theorem et_B (h : Ev z te ds st fun w st1 => ∃ b, w = .d (.bl b) ∧ R b st1) : EvT z (tB te) ds st R := et_test h
theorem et_and (h : EvT z t ds st fun a st1 => if a = true then EvT z u ds st1 R else R false st1) : EvT z (tAnd t u) ds st R := fun σ H s o Q q => h σ H s o _ fun a st1 H1 h1 l1 b1 o1 => by
  cases a with
  | true =>
    show u σ H1 Q
    exact h1 σ H1 (s.le l1 b1) o1 Q fun b st2 H2 p l2 b2 o2 => q b st2 H2 p (l1.trans l2) (fun a m => b2 a (b1 a m)) o2
  | false =>
    show Q false H1
    exact q false st1 H1 h1 l1 b1 o1
theorem et_or (h : EvT z t ds st fun a st1 => if a = true then R true st1 else EvT z u ds st1 R) : EvT z (tOr t u) ds st R := fun σ H s o Q q => h σ H s o _ fun a st1 H1 h1 l1 b1 o1 => by
  cases a with
  | false =>
    show u σ H1 Q
    exact h1 σ H1 (s.le l1 b1) o1 Q fun b st2 H2 p l2 b2 o2 => q b st2 H2 p (l1.trans l2) (fun a m => b2 a (b1 a m)) o2
  | true =>
    show Q true H1
    exact q true st1 H1 h1 l1 b1 o1
theorem et_not (h : EvT z t ds st fun a st1 => R (!a) st1) : EvT z (tNot t) ds st R := fun σ H s o Q q => h σ H s o _ fun a st1 H1 h1 l1 b1 o1 => q (!a) st1 H1 h1 l1 b1 o1
theorem ev_if (h : EvT z t ds st fun a st1 => if a = true then Ev z ta ds st1 P else Ev z tb ds st1 P) : Ev z (tIf t ta tb) ds st P := fun σ H s o Q q => h σ H s o _ fun a st1 H1 h1 l1 b1 o1 => by
  cases a with
  | true =>
    show ta σ H1 Q
    exact h1 σ H1 (s.le l1 b1) o1 Q fun b st2 v H2 p l2 b2 o2 => q b st2 v H2 p (l1.trans l2) (fun a m => b2 a (b1 a m)) o2
  | false =>
    show tb σ H1 Q
    exact h1 σ H1 (s.le l1 b1) o1 Q fun b st2 v H2 p l2 b2 o2 => q b st2 v H2 p (l1.trans l2) (fun a m => b2 a (b1 a m)) o2
theorem ev_andV (h : Ev z ta ds st fun w st1 => ∃ a, w = .d (.bl a) ∧ if a = true then Ev z tb ds st1 P else P (.d (.bl false)) st1) : Ev z (tAndV ta tb) ds st P := fun σ H s o Q q => h σ H s o _ fun w st1 v H1 h1 l1 b1 o1 r1 => by
  obtain ⟨a, rfl, h1⟩ := h1
  cases r1 with | d r1 =>
  cases r1
  refine ⟨a, rfl, ?_⟩
  cases a with
  | true =>
    show tb σ H1 Q
    exact h1 σ H1 (s.le l1 b1) o1 Q fun b st2 v H2 p l2 b2 o2 => q b st2 v H2 p (l1.trans l2) (fun a m => b2 a (b1 a m)) o2
  | false =>
    show Q (.bl false) H1
    exact q _ st1 _ H1 h1 l1 b1 o1 (.d (.bl false))
theorem ev_orV (h : Ev z ta ds st fun w st1 => ∃ a, w = .d (.bl a) ∧ if a = true then P (.d (.bl true)) st1 else Ev z tb ds st1 P) : Ev z (tOrV ta tb) ds st P := fun σ H s o Q q => h σ H s o _ fun w st1 v H1 h1 l1 b1 o1 r1 => by
  obtain ⟨a, rfl, h1⟩ := h1
  cases r1 with | d r1 =>
  cases r1
  refine ⟨a, rfl, ?_⟩
  cases a with
  | false =>
    show tb σ H1 Q
    exact h1 σ H1 (s.le l1 b1) o1 Q fun b st2 v H2 p l2 b2 o2 => q b st2 v H2 p (l1.trans l2) (fun a m => b2 a (b1 a m)) o2
  | true =>
    show Q (.bl true) H1
    exact q _ st1 _ H1 h1 l1 b1 o1 (.d (.bl true))
theorem ev_notV (h : Ev z ta ds st fun w st1 => ∃ a, w = .d (.bl a) ∧ P (.d (.bl (!a))) st1) : Ev z (tNotV ta) ds st P := fun σ H s o Q q => h σ H s o _ fun w st1 v H1 h1 l1 b1 o1 r1 => by
  obtain ⟨a, rfl, h1⟩ := h1
  cases r1 with | d r1 => cases r1; exact ⟨a, rfl, q _ st1 _ H1 h1 l1 b1 o1 (.d (.bl _))⟩

/-! ### arguments, displays -/
variable {ua : TA} {A : List W → Sto → Prop}
theorem ea_nil (p : A [] st) : EvA z tNil ds st A := fun σ H s o Q q => q [] st [] H p (Le.refl _ _) (fun _ m => m) o .nil
theorem ea_cons (h : Ev z ta ds st fun w st1 => EvA z ua ds st1 fun ws st2 => A (w :: ws) st2) : EvA z (tCons ta ua) ds st A := fun σ H s o Q q =>
  h σ H s o _ fun w st1 v H1 h1 l1 b1 o1 r1 => h1 σ H1 (s.le l1 b1) o1 _ fun ws st2 vs H2 p l2 b2 o2 r2 => q (w :: ws) st2 (v :: vs) H2 p (l1.trans l2) (fun a m => b2 a (b1 a m)) o2 (.cons (r1.le l2 b2) r2)
theorem Rws.data {B : List Addr} {H : Hp} : ∀ {vs : List V} {l : List D}, Rws z B H vs (l.map W.d) → Rps z B H vs l
  | _, [], h => by cases h; exact .nil
  | _, d :: l, h => by
    cases h with | cons h t => cases h with | d h => exact .cons h (Rws.data t)
theorem new_tup {B : List Addr} {H : Hp} {p : Addr} {vs : List V} {l : List D} (n : p ∉ B) (hp : H p = none) (h : Rps z B H vs l) : Rp z B (upd H p (.tup vs)) (.ref p) (.tup l) := .tup (.inl ⟨n, .inl upd_same⟩) (h.le (Le.alloc hp))
theorem new_lst {B : List Addr} {H : Hp} {p : Addr} {vs : List V} {l : List D} (n : p ∉ B) (hp : H p = none) (h : Rps z B H vs l) : Rp z B (upd H p (.lst vs)) (.ref p) (.lst l) := .lst n upd_same (h.le (Le.alloc hp))
theorem StOk.out {H : Hp} (h : StOk z st H) {p : Addr} (hp : H p = none) : p ∉ adr st := fun m => by
  obtain ⟨o, e⟩ := h.trk m
  rw [hp] at e; cases e
/-- all of it data -/
def unD0 : List W → Option (List D)
  | [] => some []
  | .d x :: r => (unD0 r).map (x :: ·)
  | .p _ :: _ => none
def unD (ws : List W) : Option (List D) := if Nat.ble ws.length 1000 = true then unD0 ws else none
theorem unD0_eq : ∀ {ws : List W} {l : List D}, unD0 ws = some l → ws = l.map W.d
  | [], l, h => by cases h; rfl
  | .d x :: r, l, h => by
    unfold unD0 at h
    cases q : unD0 r with
    | none => rw [q] at h; cases h
    | some l' => rw [q] at h; cases h; rw [unD0_eq q]; rfl
  | .p _ :: _, l, h => by cases h
theorem unD_eq {ws : List W} {l : List D} (h : unD ws = some l) : ws = l.map W.d ∧ l.length ≤ 1000 := by
  unfold unD at h
  split at h
  · rename_i q
    have e := unD0_eq h
    refine ⟨e, ?_⟩
    rw [e, List.length_map] at q
    exact Nat.le_of_ble_eq_true q
  · cases h
theorem ev_tup (h : EvA z ua ds st fun ws st1 => ∃ l, unD ws = some l ∧ P (.d (.tup l)) st1) : Ev z (tTup ua) ds st P := fun σ H s o Q q => h σ H s o _ fun ws st1 vs H1 h1 l1 b1 o1 r1 => by
  obtain ⟨l, hu, p⟩ := h1
  obtain ⟨rfl, hz⟩ := unD_eq hu
  have r2 := r1.data
  refine ⟨by rw [r2.length]; exact Nat.le_trans hz (by decide), fun a ha => ?_⟩
  exact q _ st1 _ _ p (l1.trans (Le.alloc ha)) b1 (o1.alloc ha) (.d (new_tup (o1.out ha) ha r2))
theorem ev_lst (h : EvA z ua ds st fun ws st1 => ∃ l, unD ws = some l ∧ P (.d (.lst l)) st1) : Ev z (tLst ua) ds st P := fun σ H s o Q q => h σ H s o _ fun ws st1 vs H1 h1 l1 b1 o1 r1 => by
  obtain ⟨l, hu, p⟩ := h1
  obtain ⟨rfl, hz⟩ := unD_eq hu
  have r2 := r1.data
  refine ⟨by rw [r2.length]; exact Nat.le_trans hz (by decide), fun a ha => ?_⟩
  exact q _ st1 _ _ p (l1.trans (Le.alloc ha)) b1 (o1.alloc ha) (.d (new_lst (o1.out ha) ha r2))
/-- a list that will be changed: a cell -/
theorem ev_lstP (h : EvA z ua ds st fun ws st1 => ∃ l, unD ws = some l ∧ ∀ a, a ∉ adr st1 → P (.p a) ((a, .lst l) :: st1)) : Ev z (tLst ua) ds st P := fun σ H s o Q q => h σ H s o _ fun ws st1 vs H1 h1 l1 b1 o1 r1 => by
  obtain ⟨l, hu, p⟩ := h1
  obtain ⟨rfl, hz⟩ := unD_eq hu
  have r2 := r1.data
  refine ⟨by rw [r2.length]; exact Nat.le_trans hz (by decide), fun a ha => ?_⟩
  exact q _ _ _ _ (p a (o1.out ha)) (l1.trans (Le.push ha)) (fun b m => List.mem_cons_of_mem _ (b1 b m)) (o1.push ha ⟨vs, upd_same, r2.le (Le.push ha)⟩) (.p List.mem_cons_self)
/-! ### calls of builtins, by values -/
theorem ev_cb {r : List V → Hp → VK → Prop} (h : EvA z ua ds st fun ws st1 => Rc z r ws st1 P) : Ev z (tCB r ua) ds st P := fun σ H s o Q q => h σ H s o _ fun ws st1 vs H1 h1 l1 b1 o1 r1 =>
  h1 vs H1 o1 r1 Q fun w st2 v H2 p l2 b2 o2 r2 => q w st2 v H2 p (l1.trans l2) (fun a m => b2 a (b1 a m)) o2 r2
/-- what is read as a sequence: a list, a tuple, a cell that holds a list -/
inductive Sq (st : Sto) : W → List D → Prop
  | lst (l : List D) : Sq st (.d (.lst l)) l
  | tup (l : List D) : Sq st (.d (.tup l)) l
  | scr (l : List D) : Sq st (.d (.scr l)) l
  | cel {a : Addr} {l : List D} {j : Nat} (h : st[j]? = some (a, .lst l)) : Sq st (.p a) l
inductive SqLs (st : Sto) : W → List D → Prop
  | lst (l : List D) : SqLs st (.d (.lst l)) l
  | scr (l : List D) : SqLs st (.d (.scr l)) l
  | cel {a : Addr} {l : List D} {j : Nat} (h : st[j]? = some (a, .lst l)) : SqLs st (.p a) l
theorem SqLs.sq {w : W} {l : List D} (h : SqLs st w l) : Sq st w l := by
  cases h with
  | lst => exact .lst l
  | scr => exact .scr l
  | cel h => exact .cel h
theorem TAt.sq {B : List Addr} {H : Hp} {a : Addr} {xs : List V} (h : TAt z B H a xs) : SqT z.K H a xs := h.imp (fun h => h.2) id
theorem LAt.sq {B : List Addr} {H : Hp} {a : Addr} {xs : List V} (h : LAt z B H a xs) : SqL z.K H a xs := h.imp (fun h => h.2) id
theorem SqLs.rd {H : Hp} {w : W} {l : List D} {v : V} (o : StOk z st H) (h : SqLs st w l) (r : Rw z (adr st) H v w) : ∃ a xs, v = .ref a ∧ SqL z.K H a xs ∧ Rps z (adr st) H xs l := by
  cases h with
  | lst => cases r with | d r => cases r with | lst n e r => exact ⟨_, _, rfl, SqL.of e, r⟩
  | scr => cases r with | d r => cases r with | scr e r => exact ⟨_, _, rfl, e.sq, r⟩
  | cel hj =>
    cases r with | p m =>
    obtain ⟨xs, e, r⟩ := o.at_ _ (List.mem_of_getElem? hj)
    exact ⟨_, _, rfl, SqL.of e, r⟩
theorem Sq.rd {H : Hp} {w : W} {l : List D} {v : V} (o : StOk z st H) (h : Sq st w l) (r : Rw z (adr st) H v w) : ∃ a xs, v = .ref a ∧ (SqL z.K H a xs ∨ SqT z.K H a xs) ∧ Rps z (adr st) H xs l := by
  cases h with
  | lst => obtain ⟨a, xs, e, q, r⟩ := SqLs.rd o (.lst l) r; exact ⟨a, xs, e, .inl q, r⟩
  | scr => obtain ⟨a, xs, e, q, r⟩ := SqLs.rd o (.scr l) r; exact ⟨a, xs, e, .inl q, r⟩
  | cel hj => obtain ⟨a, xs, e, q, r⟩ := SqLs.rd o (.cel hj) r; exact ⟨a, xs, e, .inl q, r⟩
  | tup => cases r with | d r => cases r with | tup e r => exact ⟨_, _, rfl, .inr e.sq, r⟩
theorem rws1 {B : List Addr} {H : Hp} {us : List V} {w : W} (r : Rws z B H us [w]) : ∃ u, us = [u] ∧ Rw z B H u w := by
  cases r with | cons h t => cases t; exact ⟨_, rfl, h⟩
theorem rws2 {B : List Addr} {H : Hp} {us : List V} {w w' : W} (r : Rws z B H us [w, w']) : ∃ u v, us = [u, v] ∧ Rw z B H u w ∧ Rw z B H v w' := by
  cases r with | cons h t => cases t with | cons h' t => cases t; exact ⟨_, _, rfl, h, h'⟩
theorem rw_int {B : List Addr} {H : Hp} {u : V} {i : Int} (r : Rw z B H u (.d (.int i))) : u = .int i := by cases r with | d r => cases r; rfl
theorem rw_bl {B : List Addr} {H : Hp} {u : V} {i : Bool} (r : Rw z B H u (.d (.bl i))) : u = .bl i := by cases r with | d r => cases r; rfl
theorem rw_str {B : List Addr} {H : Hp} {u : V} {i : Str} (r : Rw z B H u (.d (.str i))) : u = .str i := by cases r with | d r => cases r; rfl
theorem rc_len {w : W} {l : List D} (h : Sq st w l) (p : P (.d (.int l.length)) st) : Rc z (fun xs H Q => ∃ p ys, xs = [.ref p] ∧ (SqL z.K H p ys ∨ SqT z.K H p ys) ∧ Q (.int ys.length) H) [w] st P := fun us H o r Q q => by
  obtain ⟨u, rfl, r1⟩ := rws1 r
  obtain ⟨a, xs, rfl, hq, hr⟩ := h.rd o r1
  refine ⟨a, xs, rfl, hq, ?_⟩
  rw [hr.length]
  exact q _ st _ H p (Le.refl _ _) (fun _ m => m) o (.d (.int _))
theorem rc_abs (p : P (.d (.int (if i < 0 then -i else i))) st) : Rc z (fun xs H Q => ∃ i, xs = [.int i] ∧ Q (.int (if i < 0 then -i else i)) H) [.d (.int i)] st P := fun us H o r Q q => by
  obtain ⟨u, rfl, r1⟩ := rws1 r
  rw [rw_int r1]
  exact ⟨i, rfl, q _ st _ H p (Le.refl _ _) (fun _ m => m) o (.d (.int _))⟩
theorem rc_max2 (p : P (.d (.int (if j > i then j else i))) st) : Rc z (fun xs H Q => ∃ i j, xs = [.int i, .int j] ∧ Q (.int (if j > i then j else i)) H) [.d (.int i), .d (.int j)] st P := fun us H o r Q q => by
  obtain ⟨u, v, rfl, r1, r2⟩ := rws2 r
  rw [rw_int r1, rw_int r2]
  exact ⟨i, j, rfl, q _ st _ H p (Le.refl _ _) (fun _ m => m) o (.d (.int _))⟩
theorem rc_min2 (p : P (.d (.int (if j < i then j else i))) st) : Rc z (fun xs H Q => ∃ i j, xs = [.int i, .int j] ∧ Q (.int (if j < i then j else i)) H) [.d (.int i), .d (.int j)] st P := fun us H o r Q q => by
  obtain ⟨u, v, rfl, r1, r2⟩ := rws2 r
  rw [rw_int r1, rw_int r2]
  exact ⟨i, j, rfl, q _ st _ H p (Le.refl _ _) (fun _ m => m) o (.d (.int _))⟩
theorem rc_int1 (p : P (.d (.int i)) st) : Rc z (fun xs H Q => (∃ i, xs = [.int i] ∧ Q (.int i) H) ∨ ∃ k, xs = [.bl k] ∧ Q (.int (if k then 1 else 0)) H) [.d (.int i)] st P := fun us H o r Q q => by
  obtain ⟨u, rfl, r1⟩ := rws1 r
  rw [rw_int r1]
  exact .inl ⟨i, rfl, q _ st _ H p (Le.refl _ _) (fun _ m => m) o (.d (.int _))⟩
theorem rc_intb {b : Bool} (p : P (.d (.int (if b then 1 else 0))) st) : Rc z (fun xs H Q => (∃ i, xs = [.int i] ∧ Q (.int i) H) ∨ ∃ k, xs = [.bl k] ∧ Q (.int (if k then 1 else 0)) H) [.d (.bl b)] st P := fun us H o r Q q => by
  obtain ⟨u, rfl, r1⟩ := rws1 r
  rw [rw_bl r1]
  exact .inr ⟨b, rfl, q _ st _ H p (Le.refl _ _) (fun _ m => m) o (.d (.int _))⟩
/-! ### items -/
theorem at_get {l : List D} {xs : List V} {B : List Addr} {H : Hp} (r : Rps z B H xs l) {i : Int} {d : D} (h : atI l i = some d) : ∃ v, atI xs i = some v ∧ Rp z B H v d := by
  unfold atI at h ⊢
  rw [r.length]
  cases e : ixN l.length i with
  | none => rw [e] at h; cases h
  | some j =>
    rw [e] at h
    obtain ⟨v, h1, h2⟩ := r.get (i := j) (d := d) h
    exact ⟨v, h1, h2⟩
theorem ro_ixL {w : W} {l : List D} {d : D} (h : SqLs st w l) (ha : atI l i = some d) (p : P (.d d) st) : Ro z (rIxL z.K) w (.d (.int i)) st P := fun u v H o hu hv Q q => by
  obtain ⟨a, xs, rfl, hq, hr⟩ := h.rd o hu
  obtain ⟨x, h1, h2⟩ := at_get hr ha
  exact ⟨a, xs, i, x, rfl, rw_int hv, hq, h1, q _ st _ H p (Le.refl _ _) (fun _ m => m) o (.d h2)⟩
theorem ro_ixT {l : List D} {d : D} (ha : atI l i = some d) (p : P (.d d) st) : Ro z (rIxT z.K) (.d (.tup l)) (.d (.int i)) st P := fun u v H o hu hv Q q => by
  cases hu with | d hu => cases hu with | tup e hr =>
  obtain ⟨x, h1, h2⟩ := at_get hr ha
  exact ⟨_, _, i, x, rfl, rw_int hv, e.sq, h1, q _ st _ H p (Le.refl _ _) (fun _ m => m) o (.d h2)⟩
end
end Q

namespace Q
open PySem L2
theorem sub_refl (B : List Addr) : Sub B B := fun _ m => m
/-! ### targets -/
def Gt (z : Z) (g : TG) (is : List Nat) (w : W) (ds : Ds) (st : Sto) (R : Ds → Prop) : Prop :=
  ∀ σ H v, Sl z (adr st) H σ ds → StOk z st H → Rw z (adr st) H v w → ∀ Q : L2.St → Hp → Prop,
    (∀ ds' σ', R ds' → Sl z (adr st) H σ' ds' → (∀ vs, (∀ i ∈ is, i ∈ vs) → wipe σ' vs = wipe σ vs) → Q σ' H) → g v σ H Q
def Gts (z : Z) (g : TGs) (is : List Nat) (ws : List W) (ds : Ds) (st : Sto) (R : Ds → Prop) : Prop :=
  ∀ σ H v, Sl z (adr st) H σ ds → StOk z st H → Rws z (adr st) H v ws → ∀ Q : L2.St → Hp → Prop,
    (∀ ds' σ', R ds' → Sl z (adr st) H σ' ds' → (∀ vs, (∀ i ∈ is, i ∈ vs) → wipe σ' vs = wipe σ vs) → Q σ' H) → g v σ H Q
theorem wipe_get (σ : L2.St) (j : Nat) : ∀ vs : List Nat, (wipe σ vs)[j]? = if j ∈ vs then (if j < σ.length then some none else none) else σ[j]?
  | [] => by simp [wipe]
  | v :: vs => by
    unfold wipe
    have ih := wipe_get σ j vs
    by_cases e : v = j
    · subst e
      rw [if_pos (List.mem_cons_self)]
      by_cases hl : v < σ.length
      · rw [List.getElem?_set_self (by rw [wipe_length]; exact hl), if_pos hl]
      · rw [List.getElem?_eq_none (by rw [List.length_set, wipe_length]; omega), if_neg hl]
    · rw [List.getElem?_set_ne e, ih]
      by_cases m : j ∈ vs
      · rw [if_pos m, if_pos (List.mem_cons_of_mem _ m)]
      · rw [if_neg m, if_neg (fun h => by
          rcases List.mem_cons.mp h with h | h
          · exact e h.symm
          · exact m h)]
theorem wipe_set_in {σ : L2.St} {i : Nat} {x : Option V} {vs : List Nat} (h : i ∈ vs) : wipe (σ.set i x) vs = wipe σ vs := by
  apply List.ext_getElem?
  intro j
  rw [wipe_get, wipe_get, List.length_set]
  by_cases m : j ∈ vs
  · rw [if_pos m, if_pos m]
  · rw [if_neg m, if_neg m, List.getElem?_set_ne (fun e => m (by rw [← e]; exact h))]
/-- the slots of data forgotten -/
def wip (ds : Ds) : List Nat → Ds
  | [] => ds
  | v :: vs => (wip ds vs).set v none
theorem wip_length (σ : Ds) : ∀ vs : List Nat, (wip σ vs).length = σ.length
  | [] => rfl
  | v :: vs => by unfold wip; rw [List.length_set, wip_length σ vs]
theorem wip_some {σ : Ds} {i : Nat} {x : W} : ∀ {vs : List Nat}, (wip σ vs)[i]? = some (some x) → σ[i]? = some (some x) ∧ i ∉ vs
  | [], h => ⟨h, by simp⟩
  | v :: vs, h => by
    unfold wip at h
    by_cases hi : v = i
    · subst hi
      by_cases hv : v < (wip σ vs).length
      · rw [List.getElem?_set_self hv] at h; cases h
      · rw [List.getElem?_eq_none (by simpa using hv)] at h; cases h
    · rw [List.getElem?_set_ne hi] at h
      obtain ⟨h1, h2⟩ := wip_some h
      exact ⟨h1, by simp only [List.mem_cons, not_or]; exact ⟨fun e => hi e.symm, h2⟩⟩
section
variable {z : Z} {ds : Ds} {st : Sto} {P : Po} {te ta : TE} {R : Ds → Prop} {is js : List Nat}
theorem Sl.wipe {B : List Addr} {H : Hp} {σ : L2.St} (h : Sl z B H σ ds) (vs : List Nat) : Sl z B H (L2.wipe σ vs) (wip ds vs) := ⟨by rw [wipe_length, wip_length]; exact h.1, fun i w e => by
  obtain ⟨h1, h2⟩ := wip_some e
  obtain ⟨v, h3, h4⟩ := h.2 i w h1
  exact ⟨v, by rw [wipe_out h2]; exact h3, h4⟩⟩
theorem gt_name {i : Nat} {w : W} (h : R (ds.set i (some w))) : Gt z (gName i) [i] w ds st R := fun σ H v s o r Q q => q _ _ h (s.set r i) fun vs m => wipe_set_in (m i List.mem_cons_self)
theorem gts_nil (h : R ds) : Gts z gNil [] [] ds st R := fun σ H v s o r Q q => by cases r; exact ⟨rfl, q _ _ h s fun _ _ => rfl⟩
theorem gts_cons {g : TG} {gs : TGs} {w : W} {ws : List W} (h : Gt z g is w ds st fun ds1 => Gts z gs js ws ds1 st R) : Gts z (gCons g gs) (is ++ js) (w :: ws) ds st R := fun σ H v s o r Q q => by
  cases r with | cons r rs =>
  refine ⟨_, _, rfl, h σ H _ s o r _ fun ds1 σ1 h1 s1 w1 => h1 σ1 H _ s1 o rs Q fun ds2 σ2 h2 s2 w2 => q ds2 σ2 h2 s2 fun vs m => ?_⟩
  rw [w2 vs (fun i hi => m i (List.mem_append_right _ hi)), w1 vs (fun i hi => m i (List.mem_append_left _ hi))]
theorem Rps.ws {B : List Addr} {H : Hp} : ∀ {vs : List V} {l : List D}, Rps z B H vs l → Rws z B H vs (l.map W.d)
  | _, _, .nil => .nil
  | _, _, .cons h t => .cons (.d h) (Rps.ws t)
theorem gt_tup {n : Nat} {gs : TGs} {l : List D} (hn : l.length = n) (h : Gts z gs is (l.map W.d) ds st R) : Gt z (gTup z.K n gs) is (.d (.tup l)) ds st R := fun σ H v s o r Q q => by
  cases r with | d r => cases r with | tup e r =>
  exact ⟨_, _, rfl, e.sq, by rw [r.length]; exact hn, h σ H _ s o r.ws Q q⟩

/-! ### statements -/
theorem wp_seq {t u : TS} (h : Wp z t ds st { P with nx := fun ds1 st1 => Wp z u ds1 st1 P }) : Wp z (tSeq t u) ds st P := fun E σ H s o c =>
  h _ σ H s o ⟨fun ds1 st1 σ1 H1 h1 l1 s1 o1 => h1 E σ1 H1 s1 o1 (c.le l1), c.rt, c.bk, c.ct⟩
theorem wp_next (h : P.nx ds st) : Wp z tNext ds st P := fun E σ H s o c => c.nx ds st σ H h (Le.refl _ _) s o
theorem wp_asg {g : TG} (h : Ev z te ds st fun w st1 => Gt z g is w ds st1 fun ds1 => P.nx ds1 st1) : Wp z (tAsg te g) ds st P := fun E σ H s o c =>
  h σ H s o _ fun w st1 v H1 h1 l1 b1 o1 r1 => h1 σ H1 v (s.le l1 b1) o1 r1 _ fun ds2 σ2 h2 s2 _ => c.nx ds2 st1 σ2 H1 h2 l1 s2 o1
theorem wp_set {i : Nat} (h : Ev z te ds st fun w st1 => P.nx (ds.set i (some w)) st1) : Wp z (tAsg te (gName i)) ds st P := wp_asg (is := [i]) (h.mono fun w st1 p => gt_name p)
theorem wp_drop (h : Ev z te ds st fun _ st1 => P.nx ds st1) : Wp z (tDrop te) ds st P := fun E σ H s o c =>
  h σ H s o _ fun w st1 v H1 h1 l1 b1 o1 r1 => c.nx ds st1 σ H1 h1 l1 (s.le l1 b1) o1
theorem wp_ret (h : Ev z te ds st fun w st1 => P.rt w st1) : Wp z (tRet te) ds st P := fun E σ H s o c =>
  h σ H s o _ fun w st1 v H1 h1 l1 b1 o1 r1 => c.rt w st1 v H1 h1 l1 o1 r1
theorem wp_retN (h : P.rt (.d .non) st) : Wp z tRetN ds st P := fun E σ H s o c => c.rt _ st _ H h (Le.refl _ _) o (.d .non)
theorem wp_brk (h : P.bk ds st) : Wp z tBreak ds st P := fun E σ H s o c => c.bk ds st σ H h (Le.refl _ _) s o
theorem wp_cont (h : P.ct ds st) : Wp z tCont ds st P := fun E σ H s o c => c.ct ds st σ H h (Le.refl _ _) s o
theorem wp_if {t : TT} {a b : TS} (h : EvT z t ds st fun k st1 => if k = true then Wp z a ds st1 P else Wp z b ds st1 P) : Wp z (tIfS t a b) ds st P := fun E σ H s o c =>
  h σ H s o _ fun k st1 H1 h1 l1 b1 o1 => by
    cases k with
    | true =>
      show a E σ H1
      exact h1 E σ H1 (s.le l1 b1) o1 (c.le l1)
    | false =>
      show b E σ H1
      exact h1 E σ H1 (s.le l1 b1) o1 (c.le l1)
theorem wp_never (h : False) : Wp z tNever ds st P := h.elim
/-- forget cells -/
theorem StOk.less {st' : Sto} {H : Hp} (o : StOk z st H) (hs : ∀ q ∈ st', q ∈ st) (nd : (adr st').Nodup) : StOk z st' H := ⟨nd, fun q m => (o.at_ q (hs q m)).less fun a ha => by
  obtain ⟨q, hq, rfl⟩ := List.mem_map.mp ha
  exact List.mem_map.mpr ⟨q, hs q hq, rfl⟩⟩
/-- the returned cell becomes data -/
theorem wp_retF {j : Nat} {l : List D} {st' : Sto} (h : Ev z te ds st fun w st1 => ∃ a, w = .p a ∧ st1 = (a, .lst l) :: st' ∧ P.rt (.d (.lst l)) st') : Wp z (tRet te) ds st P := fun E σ H s o c =>
  h σ H s o _ fun w st1 v H1 h1 l1 b1 o1 r1 => by
    obtain ⟨a, rfl, rfl, p⟩ := h1
    cases r1 with | p m =>
    have na : a ∉ adr st' := (List.nodup_cons.mp o1.nd).1
    have o2 : StOk z st' H1 := o1.less (fun q m => List.mem_cons_of_mem _ m) (List.nodup_cons.mp o1.nd).2
    obtain ⟨xs, e, r⟩ := o1.at_ _ List.mem_cons_self
    refine c.rt _ st' _ H1 p ⟨l1.keep, l1.trk, fun b m => l1.new b (List.mem_cons_of_mem _ m)⟩ o2 (.d (.lst na e (r.less fun b m => List.mem_cons_of_mem _ m)))

/-! ### methods of builtin types -/
def Mt (z : Z) (r : V → List V → Hp → VK → Prop) (x : W) (xs : List W) (st : Sto) (P : W → Sto → Prop) : Prop :=
  ∀ u us H, StOk z st H → Rw z (adr st) H u x → Rws z (adr st) H us xs → ∀ Q : VK, (∀ w st' v H', P w st' → Le (adr st) H (adr st') H' → Sub (adr st) (adr st') → StOk z st' H' → Rw z (adr st') H' v w → Q v H') → r u us H Q
variable {Pe : W → Sto → Prop}
/-- a method of a list that is a cell -/
theorem ev_bmL {r : V → List V → Hp → VK → Prop} {to : TE} {ua : TA} (h : Ev z to ds st fun w st1 => ∃ (a : Addr) (j : Nat) (l : List D), w = .p a ∧ st1[j]? = some (a, .lst l) ∧ EvA z ua ds st1 fun ws st2 => Mt z r (.p a) ws st2 Pe) : Ev z (tBM z.K "list" r to ua) ds st Pe := fun σ H s o Q q =>
  h σ H s o _ fun w st1 v H1 h1 l1 b1 o1 r1 => by
    obtain ⟨a, j, l, rfl, hj, h1⟩ := h1
    have r1' := r1
    cases r1' with | p m =>
    obtain ⟨xs, e, _⟩ := o1.at_ _ (List.mem_of_getElem? hj)
    refine ⟨.inl ⟨rfl, xs, SqL.of e⟩, h1 σ H1 (s.le l1 b1) o1 _ fun ws st2 us H2 h2 l2 b2 o2 r2 => h2 _ us H2 o2 (r1.le l2 b2) r2 Q fun w st3 v3 H3 p l3 b3 o3 r3 => q w st3 v3 H3 p ((l1.trans l2).trans l3) (fun a m => b3 a (b2 a (b1 a m))) o3 r3⟩
theorem ev_bmL0 {r : V → List V → Hp → VK → Prop} {to : TE} (h : Ev z to ds st fun w st1 => ∃ (a : Addr) (j : Nat) (l : List D), w = .p a ∧ st1[j]? = some (a, .lst l) ∧ Mt z r (.p a) [] st1 Pe) : Ev z (tBM0 z.K "list" r to) ds st Pe := fun σ H s o Q q =>
  h σ H s o _ fun w st1 v H1 h1 l1 b1 o1 r1 => by
    obtain ⟨a, j, l, rfl, hj, h1⟩ := h1
    have r1' := r1
    cases r1' with | p m =>
    obtain ⟨xs, e, _⟩ := o1.at_ _ (List.mem_of_getElem? hj)
    refine ⟨.inl ⟨rfl, xs, SqL.of e⟩, h1 _ [] H1 o1 r1 .nil Q fun w st3 v3 H3 p l3 b3 o3 r3 => q w st3 v3 H3 p (l1.trans l3) (fun a m => b3 a (b1 a m)) o3 r3⟩
theorem mt_cell {j : Nat} {a : Addr} {l l' : List D} {xs' : List V} {H : Hp} {w : W} {v : V} {Q : VK} (o : StOk z st H) (hj : st[j]? = some (a, .lst l)) (r : Rps z (adr st) H xs' l') (p : Pe w (st.set j (a, .lst l'))) (rw' : Rw z (adr st) H v w)
    (q : ∀ w st' v H', Pe w st' → Le (adr st) H (adr st') H' → Sub (adr st) (adr st') → StOk z st' H' → Rw z (adr st') H' v w → Q v H') : Q v (upd H a (.lst xs')) := by
  have ea := adr_set (c' := .lst l') hj
  have le : Le (adr st) H (adr st) (upd H a (.lst xs')) := Le.mut (mem_adr hj)
  exact q w _ v _ p (by rw [ea]; exact le) (by rw [ea]; exact sub_refl _) (o.write hj ⟨xs', upd_same, r.le le⟩) (by rw [ea]; exact rw'.le le (sub_refl _))
theorem mt_append {j : Nat} {a : Addr} {l : List D} {d : D} (hj : st[j]? = some (a, .lst l)) (hl : l.length < 16000000) (p : Pe (.d .non) (st.set j (a, .lst (l ++ [d])))) : Mt z rAppend (.p a) [.d d] st Pe := fun u us H o ru rus Q q => by
  obtain ⟨y, rfl, r1⟩ := rws1 rus
  cases ru with | p m =>
  obtain ⟨xs, e, r⟩ := o.at_ _ (List.mem_of_getElem? hj)
  cases r1 with | d r1 =>
  exact ⟨a, xs, y, rfl, rfl, e, by rw [r.length]; exact Nat.lt_of_lt_of_le hl (by decide), mt_cell o hj (r.append (.one r1)) p (.d .non) q⟩
/-- xs.extend(ys), ys a list of data -/
theorem mt_extend {j : Nat} {a : Addr} {l m : List D} (hj : st[j]? = some (a, .lst l)) (hl : l.length + m.length ≤ 16000000) (p : Pe (.d .non) (st.set j (a, .lst (l ++ m)))) : Mt z rExtend (.p a) [.d (.lst m)] st Pe := fun u us H o ru rus Q q => by
  obtain ⟨y, rfl, r1⟩ := rws1 rus
  cases ru with | p mm =>
  obtain ⟨xs, e, r⟩ := o.at_ _ (List.mem_of_getElem? hj)
  cases r1 with | d r1 => cases r1 with | lst n e' r' =>
  exact ⟨a, _, xs, _, rfl, rfl, e, e', by rw [r.length, r'.length]; exact Nat.le_trans hl (by decide), mt_cell o hj (r.append r') p (.d .non) q⟩
theorem Rps.set {B : List Addr} {H : Hp} : ∀ {xs : List V} {l : List D} {v : V} {d : D} (i : Nat), Rps z B H xs l → Rp z B H v d → Rps z B H (xs.set i v) (l.set i d)
  | _, _, _, _, _, .nil, _ => .nil
  | _, _, _, _, 0, .cons _ t, r => .cons r t
  | _, _, _, _, i + 1, .cons h t, r => .cons h (Rps.set i t r)
/-- xs[i] = e -/
theorem gt_setL {to ti : TE} {σ : L2.St} {H : Hp} {v : V} {d : D} (s : Sl z (adr st) H σ ds) (o : StOk z st H) (r : Rp z (adr st) H v d)
    (h : Ev z to ds st fun x st1 => ∃ a, x = .p a ∧ Ev z ti ds st1 fun y st2 => ∃ (i : Int) (j k : Nat) (l : List D), y = .d (.int i) ∧ st2[j]? = some (a, .lst l) ∧ ixN l.length i = some k ∧ P.nx ds (st2.set j (a, .lst (l.set k d)))) {E : Ends} (c : Sat z P (adr st) H E) : gSub to ti rSetL v σ H E.nx := by
  refine h σ H s o _ fun x st1 u H1 h1 l1 b1 o1 r1 => ?_
  obtain ⟨a, rfl, h1⟩ := h1
  cases r1 with | p m1 =>
  refine h1 σ H1 (s.le l1 b1) o1 _ fun y st2 u2 H2 h2 l2 b2 o2 r2 => ?_
  obtain ⟨i, j, k, l, rfl, hj, hk, p⟩ := h2
  obtain ⟨xs, e, rx⟩ := o2.at_ _ (List.mem_of_getElem? hj)
  have ea := adr_set (c' := .lst (l.set k d)) hj
  have lw : Le (adr st2) H2 (adr st2) (upd H2 a (.lst (xs.set k v))) := Le.mut (mem_adr hj)
  have rv : Rp z (adr st2) H2 v d := (r.le l1).le l2
  refine ⟨a, xs, i, k, rfl, rw_int r2, e, by rw [rx.length]; exact hk, ?_⟩
  exact c.nx ds _ σ _ p (by rw [ea]; exact (l1.trans l2).trans lw) (by rw [ea]; exact ((s.le l1 b1).le l2 b2).le lw (sub_refl _)) (o2.write hj ⟨_, upd_same, (rx.set k rv).le lw⟩)
theorem wp_setL {to ti tv : TE} (h : Ev z tv ds st fun w st1 => ∃ d, w = .d d ∧ Ev z to ds st1 fun x st2 => ∃ a, x = .p a ∧ Ev z ti ds st2 fun y st3 => ∃ (i : Int) (j k : Nat) (l : List D), y = .d (.int i) ∧ st3[j]? = some (a, .lst l) ∧ ixN l.length i = some k ∧ P.nx ds (st3.set j (a, .lst (l.set k d)))) :
    Wp z (tAsg tv (gSub to ti rSetL)) ds st P := fun E σ H s o c => h σ H s o _ fun w st1 v H1 h1 l1 b1 o1 r1 => by
  obtain ⟨d, rfl, h1⟩ := h1
  cases r1 with | d r1 => exact gt_setL (s.le l1 b1) o1 r1 h1 (c.le l1)
end

/-! ### promises, calls -/
structure Pm where
  G : Type
  arg : G → Sto → List W → Prop
  res : G → Sto → W → Sto → Prop
def sp (z : Z) (m : Pm) : Sp := fun vs H Q _ => ∃ (g : m.G) (ws : List W) (st : Sto), m.arg g st ws ∧ Rws z (adr st) H vs ws ∧ StOk z st H ∧ ∀ w st' v H', m.res g st w st' → Le (adr st) H (adr st') H' → StOk z st' H' → Rw z (adr st') H' v w → Q v H'
section
variable {z : Z} {ds : Ds} {st : Sto} {P : W → Sto → Prop} {ua : TA} {m : Pm}
theorem ev_call {E : XK} (h : EvA z ua ds st fun ws st1 => ∃ g : m.G, m.arg g st1 ws ∧ ∀ w st2, m.res g st1 w st2 → Sub (adr st1) (adr st2) ∧ P w st2) : Ev z (tCall (sp z m) [] E ua) ds st P := fun σ H s o Q q =>
  h σ H s o _ fun ws st1 vs H1 h1 l1 b1 o1 r1 => by
    obtain ⟨g, ha, hr⟩ := h1
    refine ⟨g, ws, st1, ha, by rw [List.append_nil]; exact r1, o1, fun w st2 v H2 hres l2 o2 r2 => ?_⟩
    obtain ⟨b2, p⟩ := hr w st2 hres
    exact q w st2 v H2 p (l1.trans l2) (fun a m => b2 a (b1 a m)) o2 r2
theorem start_sl {B : List Addr} {H : Hp} {N : List Str} {vs : List V} {ws : List W} (r : Rws z B H vs ws) : Sl z B H (L2.start N vs) (ws.map some ++ List.replicate (N.length - ws.length) none) := by
  refine ⟨by simp [L2.start, r.length], fun i w e => ?_⟩
  unfold L2.start
  by_cases hi : i < ws.length
  · rw [List.getElem?_append_left (by rw [List.length_map]; exact hi), List.getElem?_map] at e
    rw [List.getElem?_append_left (by rw [List.length_map, r.length]; exact hi), List.getElem?_map]
    have go : ∀ {vs : List V} {ws : List W} {i : Nat}, Rws z B H vs ws → Option.map some ws[i]? = some (some w) → ∃ v, Option.map some vs[i]? = some (some v) ∧ Rw z B H v w := by
      intro vs ws i r
      induction r generalizing i with
      | nil => intro e; simp at e
      | cons h t ih =>
        intro e
        cases i with
        | zero => simp at e; subst e; exact ⟨_, rfl, h⟩
        | succ i => simpa using ih (i := i) (by simpa using e)
    exact go r e
  · rw [List.getElem?_append_right (by rw [List.length_map]; omega)] at e
    have := List.mem_of_getElem? e
    rw [List.mem_replicate] at this
    cases this.2
theorem fn_at {g : m.G} {ws : List W} {t : TS} {N : List Str} {vs : List V} {H : Hp} {Q : VK} (r : Rws z (adr st) H vs ws) (o : StOk z st H) (k : ∀ w st' v H', m.res g st w st' → Le (adr st) H (adr st') H' → StOk z st' H' → Rw z (adr st') H' v w → Q v H')
    (hw : Wp z t (ws.map some ++ List.replicate (N.length - ws.length) none) st { nx := fun _ st' => m.res g st (.d .non) st', rt := m.res g st }) : t { nx := fun _ H' => Q .non H', rt := Q } (L2.start N vs) H :=
  hw _ _ H (start_sl r) o ⟨fun ds' st' σ' H' h l _ o' => k _ st' _ H' h l o' (.d .non), fun w st' v H' h l o' r' => k w st' v H' h l o' r', fun _ _ _ _ h => h.elim, fun _ _ _ _ h => h.elim⟩
theorem fn_body {t : TS} {N : List Str} {vs : List V} {H : Hp} {Q : VK} {E : XK} (h : sp z m vs H Q E)
    (hw : ∀ (g : m.G) ws st, m.arg g st ws → Wp z t (ws.map some ++ List.replicate (N.length - ws.length) none) st { nx := fun _ st' => m.res g st (.d .non) st', rt := m.res g st }) : t { nx := fun _ H' => Q .non H', rt := Q } (L2.start N vs) H := by
  obtain ⟨g, ws, st, ha, r, o, k⟩ := h
  exact fn_at r o k (hw g ws st ha)
theorem sp_len {vs : List V} {H : Hp} {Q : VK} {E : XK} {n : Nat} (h : sp z m vs H Q E) (hn : ∀ g st ws, m.arg g st ws → ws.length = n) : vs.length = n := by
  obtain ⟨g, ws, st, ha, r, o, k⟩ := h
  rw [r.length]
  exact hn g st ws ha
end

/-! ### what is walked -/
/-- what the cell of a sequence must stay -/
def Still : Option (Addr × List D) → Sto → Prop
  | some (a, l), st => ∃ j : Nat, st[j]? = some (a, .lst l)
  | none, _ => True
theorem Still.cons {w : Option (Addr × List D)} {st : Sto} {c : Addr × Cell} (h : Still w st) : Still w (c :: st) := by
  cases w with
  | none => trivial
  | some a => obtain ⟨j, hj⟩ := h; exact ⟨j + 1, hj⟩
def stl : W → List D → Option (Addr × List D)
  | .p a, l => some (a, l)
  | .d _, _ => none
def Yl (z : Z) (C : Option (Addr × List D)) (B : List Addr) (H1 : Hp) (J : It) (l : List D) : Prop :=
  (∀ (i : Nat) d st' H, Le B H1 (adr st') H → StOk z st' H → Still C st' → l[i]? = some d → J.go i H ∧ ∀ x H', J.yld i H x H' → Same H H' ∧ Rp z (adr st') H' x d) ∧ (∀ (i : Nat) st' H, Le B H1 (adr st') H → StOk z st' H → Still C st' → l.length ≤ i → J.stop i H)
def EvI (z : Z) (wi : TI) (ds : Ds) (st : Sto) (A : List D → Option (Addr × List D) → Sto → Prop) : Prop :=
  ∀ σ H, Sl z (adr st) H σ ds → StOk z st H → ∀ R : It → Hp → Prop, (∀ l C st' J H', A l C st' → Le (adr st) H (adr st') H' → Sub (adr st) (adr st') → StOk z st' H' → Yl z C (adr st') H' J l → R J H') → wi σ H R
section
variable {z : Z} {ds : Ds} {st : Sto} {P : Po} {A : List D → Option (Addr × List D) → Sto → Prop} {te : TE} {ta : TA}
theorem yl_range {B : List Addr} {H1 : Hp} {n : Nat} {lo : Int} : Yl z none B H1 (Itr lo n) ((List.range n).map fun i => .int (lo + (i : Nat))) := by
  refine ⟨fun i d st' H _ _ _ e => ?_, fun i st' H _ _ _ h => by show n ≤ i; simpa using h⟩
  rw [List.getElem?_map] at e
  by_cases hi : i < n
  · rw [List.getElem?_range hi] at e
    simp at e
    subst e
    refine ⟨hi, fun x H' hy => ?_⟩
    obtain ⟨rfl, rfl⟩ := hy
    exact ⟨Same.refl _, .int _⟩
  · rw [List.getElem?_eq_none (by simp; omega)] at e
    cases e
theorem ei_range1 (h : EvA z ta ds st fun ws st1 => ∃ n : Int, ws = [.d (.int n)] ∧ -(2 ^ 62) ≤ n ∧ n < 2 ^ 62 ∧ A ((List.range n.toNat).map fun i => .int (0 + (i : Nat))) none st1) : EvI z (iRng1 ta) ds st A := fun σ H s o R q =>
  h σ H s o _ fun ws st1 vs H1 h1 l1 b1 o1 r1 => by
    obtain ⟨n, rfl, h0, h2, p⟩ := h1
    obtain ⟨u, rfl, r⟩ := rws1 r1
    rw [rw_int r]
    exact ⟨n, rfl, h0, h2, q _ _ st1 _ H1 p l1 b1 o1 yl_range⟩
theorem ei_range2 (h : EvA z ta ds st fun ws st1 => ∃ a b : Int, ws = [.d (.int a), .d (.int b)] ∧ (-(2 ^ 62) ≤ a ∧ a < 2 ^ 62 ∧ -(2 ^ 62) ≤ b ∧ b < 2 ^ 62) ∧ A ((List.range (b - a).toNat).map fun i => .int (a + (i : Nat))) none st1) : EvI z (iRng2 ta) ds st A := fun σ H s o R q =>
  h σ H s o _ fun ws st1 vs H1 h1 l1 b1 o1 r1 => by
    obtain ⟨a, b, rfl, h0, p⟩ := h1
    obtain ⟨u, v, rfl, r, r'⟩ := rws2 r1
    rw [rw_int r, rw_int r']
    exact ⟨a, b, rfl, h0, q _ _ st1 _ H1 p l1 b1 o1 yl_range⟩
theorem SqLs.stay {H H' : Hp} {st' : Sto} {w : W} {l : List D} {v : V} (o : StOk z st H) (h : SqLs st w l) (r : Rw z (adr st) H v w) (e : Le (adr st) H (adr st') H') (o' : StOk z st' H') (c : Still (stl w l) st') : ∃ a xs, v = .ref a ∧ SqL z.K H' a xs ∧ Rps z (adr st') H' xs l := by
  cases h with
  | lst => cases r with | d r => exact SqLs.rd o' (.lst l) (.d (r.le e))
  | scr => cases r with | d r => exact SqLs.rd o' (.scr l) (.d (r.le e))
  | cel hj =>
    cases r with | p m =>
    obtain ⟨j, hj'⟩ := c
    exact SqLs.rd o' (.cel hj') (.p (mem_adr hj'))
theorem ei_list (h : Ev z te ds st fun w st1 => ∃ l, SqLs st1 w l ∧ A l (stl w l) st1) : EvI z (iList z.K te) ds st A := fun σ H s o R q =>
  h σ H s o _ fun w st1 v H1 h1 l1 b1 o1 r1 => by
    obtain ⟨l, hs, p⟩ := h1
    obtain ⟨a, xs, rfl, hq, hr⟩ := hs.rd o1 r1
    refine ⟨a, rfl, ⟨xs, hq⟩, q l _ st1 _ H1 p l1 b1 o1 ⟨fun i d st' H' e o' c hd => ?_, fun i st' H' e o' c hi => ?_⟩⟩
    · obtain ⟨a', xs', ea, hq', hr'⟩ := hs.stay o1 r1 e o' c
      cases ea
      obtain ⟨x, hx, rx⟩ := hr'.get hd
      refine ⟨⟨xs', x, hq', hx⟩, fun y H2 hy => ?_⟩
      obtain ⟨rfl, hy⟩ := hy
      have := (hy xs' hq').symm.trans hx
      cases this
      exact ⟨Same.refl _, rx⟩
    · obtain ⟨a', xs', ea, hq', hr'⟩ := hs.stay o1 r1 e o' c
      cases ea
      exact ⟨xs', hq', by rw [hr'.length]; exact hi⟩
theorem ei_tup (h : Ev z te ds st fun w st1 => ∃ l, w = .d (.tup l) ∧ A l none st1) : EvI z (iTup z.K te) ds st A := fun σ H s o R q =>
  h σ H s o _ fun w st1 v H1 h1 l1 b1 o1 r1 => by
    obtain ⟨l, rfl, p⟩ := h1
    cases r1 with | d r1 =>
    have r2 := r1
    cases r2 with | @tup a xs _ ht hr =>
    refine ⟨a, rfl, ⟨xs, ht.sq⟩, q l _ st1 _ H1 p l1 b1 o1 ⟨fun i d st' H' e o' c hd => ?_, fun i st' H' e o' c hi => ?_⟩⟩
    · obtain ⟨x, hx, rx⟩ := (hr.le e).get hd
      refine ⟨⟨xs, x, (ht.le e).sq, hx⟩, fun y H2 hy => ?_⟩
      obtain ⟨rfl, hy⟩ := hy
      have := (hy xs (ht.le e).sq).symm.trans hx
      cases this
      exact ⟨Same.refl _, rx⟩
    · exact ⟨xs, (ht.le e).sq, by rw [hr.length]; exact hi⟩
theorem wp_for {wi : TI} {g : TG} {tb : TS} {is : List Nat} (h : EvI z wi ds st fun l C st1 => ∃ Iv : Nat → Ds → Sto → Prop, Iv 0 ds st1 ∧ (∀ i ds' st', Iv i ds' st' → Still C st') ∧
      (∀ (i : Nat) d ds' st', l[i]? = some d → Iv i ds' st' → Gt z g is (.d d) ds' st' fun ds2 => Wp z tb ds2 st' { nx := Iv (i + 1), rt := P.rt, bk := P.nx, ct := Iv (i + 1) }) ∧ ∀ ds' st', Iv l.length ds' st' → P.nx ds' st') :
    Wp z (tFor wi g tb) ds st P := fun E σ H s o c => h σ H s o _ fun l C st1 J H1 h1 l1 b1 o1 y => by
  obtain ⟨Iv, i0, iC, turn, fin⟩ := h1
  refine ⟨fun i m σ' H' => m = l.length - i ∧ i ≤ l.length ∧ ∃ ds' st', Iv i ds' st' ∧ Le (adr st1) H1 (adr st') H' ∧ Sl z (adr st') H' σ' ds' ∧ StOk z st' H', ⟨l.length, by simp, Nat.zero_le _, ds, st1, i0, Le.refl _ _, s.le l1 b1, o1⟩, ?_⟩
  rintro i m σ' H' ⟨rfl, hi, ds', st', hI, hl, hs, ho⟩
  by_cases hlt : i < l.length
  · obtain ⟨go, yld⟩ := y.1 i l[i] st' H' hl ho (iC _ _ _ hI) (List.getElem?_eq_getElem hlt)
    refine .inr ⟨go, fun σ2 H2 => ∃ ds' st', Iv (i + 1) ds' st' ∧ Le (adr st1) H1 (adr st') H2 ∧ Sl z (adr st') H2 σ2 ds' ∧ StOk z st' H2, fun σ2 H2 hN => ⟨l.length - (i + 1), by omega, rfl, hlt, hN⟩, fun x H2 hy => ?_⟩
    obtain ⟨sm, rx⟩ := yld x H2 hy
    have hl2 : Le (adr st') H' (adr st') H2 := Le.same sm
    refine turn i l[i] ds' st' (List.getElem?_eq_getElem hlt) hI σ' H2 x (hs.le hl2 (sub_refl _)) (ho.same sm) (.d rx) _ fun ds2 σ2 h2 s2 _ => ?_
    refine h2 _ σ2 H2 s2 (ho.same sm) ⟨fun ds3 st3 σ3 H3 p3 l3 s3 o3 => ⟨ds3, st3, p3, (hl.trans hl2).trans l3, s3, o3⟩, fun w st3 v3 H3 p3 l3 o3 r3 => c.rt w st3 v3 H3 p3 (((l1.trans hl).trans hl2).trans l3) o3 r3,
      fun ds3 st3 σ3 H3 p3 l3 s3 o3 => c.nx ds3 st3 σ3 H3 p3 (((l1.trans hl).trans hl2).trans l3) s3 o3, fun ds3 st3 σ3 H3 p3 l3 s3 o3 => ⟨ds3, st3, p3, (hl.trans hl2).trans l3, s3, o3⟩⟩
  · have e : i = l.length := by omega
    subst e
    exact .inl ⟨y.2 _ st' H' hl ho (iC _ _ _ hI) (Nat.le_refl _), c.nx ds' st' σ' H' (fin ds' st' hI) (l1.trans hl) hs ho⟩
end
end Q

namespace Q
open PySem L2
/-! ### rules joined -/
theorem OpR.or {X : Cx} {f : Value → Value → Sem Value} {r r' : R2} (h : OpR X f r) (h' : OpR X f r') : OpR X f (fun x y H Q => r x y H Q ∨ r' x y H Q) := fun pins s σ H x y v u Q I rx ry q =>
  q.elim (fun q => h pins s σ H x y v u Q I rx ry q) fun q => h' pins s σ H x y v u Q I rx ry q
def rOr (r r' : R2) : R2 := fun x y H Q => r x y H Q ∨ r' x y H Q
def rStr : R2 := fun x y H Q => ∃ i j, x = .str i ∧ y = .str j ∧ i.length + j.length ≤ sizeLine ∧ Q (.str (i ++ j)) H
def rPlus : R2 := rI0 fun i j => .int (i + j)
def rAddA (K : PySem.W.Frag) : R2 := rOr rPlus (rOr rCat (rOr (rCatA K) rStr))
def rEqA (K : PySem.W.Frag) : R2 := rOr rEq (rEqD K)
def rNeA (K : PySem.W.Frag) : R2 := rOr rNe (rNeD K)
section
variable {X : Cx}
theorem op_addA : OpR X (binaryOp .Add) (rAddA X.K) := OpR.or op_add (OpR.or op_cat (OpR.or op_catA op_add_str))
theorem op_eqA' (hu : X.A.units + 64 < cLine) : OpR X (compareOp .Eq) (rEqA X.K) := OpR.or op_eq (op_eqD hu)
theorem op_neA' (hu : X.A.units + 64 < cLine) : OpR X (compareOp .NotEq) (rNeA X.K) := OpR.or op_ne (op_neD hu)
end
section
variable {z : Z} {st : Sto} {P : W → Sto → Prop} {r r' : R2} {x y : W} {i j : Int}
theorem ro_l (h : Ro z r x y st P) : Ro z (rOr r r') x y st P := fun u v H o hu hv Q q => .inl (h u v H o hu hv Q q)
theorem ro_r (h : Ro z r' x y st P) : Ro z (rOr r r') x y st P := fun u v H o hu hv Q q => .inr (h u v H o hu hv Q q)
theorem ro_add (p : P (.d (.int (i + j))) st) : Ro z (rAddA z.K) (.d (.int i)) (.d (.int j)) st P := ro_l (ro_I0i (f := fun i j => i + j) p)
theorem ro_addS {a b : Str} (hl : a.length + b.length ≤ 16000000) (p : P (.d (.str (a ++ b))) st) : Ro z (rAddA z.K) (.d (.str a)) (.d (.str b)) st P := ro_r (ro_r (ro_r fun u v H o hu hv Q q => by
  exact ⟨a, b, rw_str hu, rw_str hv, Nat.le_trans hl (by decide), q _ st _ H p (Le.refl _ _) (sub_refl _) o (.d (.str _))⟩))
/-- lists + lists: a plain list, or a cell -/
inductive Lk (st : Sto) : W → List D → Prop
  | lst (l : List D) : Lk st (.d (.lst l)) l
  | cel {a : Addr} {l : List D} {j : Nat} (h : st[j]? = some (a, .lst l)) : Lk st (.p a) l
theorem Lk.rd {H : Hp} {w : W} {l : List D} {v : V} (o : StOk z st H) (h : Lk st w l) (r : Rw z (adr st) H v w) : ∃ a xs, v = .ref a ∧ H a = some (.lst xs) ∧ Rps z (adr st) H xs l := by
  cases h with
  | lst => cases r with | d r => cases r with | lst n e r => exact ⟨_, _, rfl, e, r⟩
  | cel hj =>
    cases r with | p m =>
    obtain ⟨xs, e, r⟩ := o.at_ _ (List.mem_of_getElem? hj)
    exact ⟨_, _, rfl, e, r⟩
theorem ro_cat {l m : List D} (hx : Lk st x l) (hy : Lk st y m) (hl : l.length + m.length ≤ 16000000) (p : P (.d (.lst (l ++ m))) st) : Ro z (rAddA z.K) x y st P := ro_r (ro_l fun u v H o hu hv Q q => by
  obtain ⟨a, xs, rfl, e1, r1⟩ := hx.rd o hu
  obtain ⟨b, ys, rfl, e2, r2⟩ := hy.rd o hv
  refine ⟨a, b, xs, ys, rfl, rfl, e1, e2, by rw [r1.length, r2.length]; exact Nat.le_trans hl (by decide), fun c hc => ?_⟩
  exact q _ st _ _ p (Le.alloc hc) (sub_refl _) (o.alloc hc) (.d (new_lst (o.out hc) hc (r1.append r2))))
theorem ro_catP {l m : List D} (hx : Lk st x l) (hy : Lk st y m) (hl : l.length + m.length ≤ 16000000) (p : ∀ a, a ∉ adr st → P (.p a) ((a, .lst (l ++ m)) :: st)) : Ro z (rAddA z.K) x y st P := ro_r (ro_l fun u v H o hu hv Q q => by
  obtain ⟨a, xs, rfl, e1, r1⟩ := hx.rd o hu
  obtain ⟨b, ys, rfl, e2, r2⟩ := hy.rd o hv
  refine ⟨a, b, xs, ys, rfl, rfl, e1, e2, by rw [r1.length, r2.length]; exact Nat.le_trans hl (by decide), fun c hc => ?_⟩
  exact q _ _ _ _ (p c (o.out hc)) (Le.push hc) (fun b m => List.mem_cons_of_mem _ m) (o.push hc ⟨_, upd_same, (r1.append r2).le (Le.push hc)⟩) (.p List.mem_cons_self))
theorem ro_catT {l m : List D} (hl : l.length + m.length ≤ 16000000) (p : P (.d (.tup (l ++ m))) st) : Ro z (rAddA z.K) (.d (.tup l)) (.d (.tup m)) st P := ro_r (ro_r (ro_l fun u v H o hu hv Q q => by
  cases hu with | d hu => cases hv with | d hv =>
  have hu' := hu
  have hv' := hv
  cases hu' with | tup e1 r1 => cases hv' with | tup e2 r2 =>
  refine ⟨_, _, _, _, rfl, rfl, e1.sq, e2.sq, by rw [r1.length, r2.length]; exact Nat.le_trans hl (by decide), fun hx => ?_, fun hx hy => ?_, fun hx hy c hc => ?_⟩
  · subst hx
    cases r1
    exact q _ st _ H p (Le.refl _ _) (sub_refl _) o (.d hv)
  · subst hy
    cases r2
    rw [List.append_nil] at p
    exact q _ st _ H p (Le.refl _ _) (sub_refl _) o (.d hu)
  · exact q _ st _ _ p (Le.alloc hc) (sub_refl _) (o.alloc hc) (.d (new_tup (o.out hc) hc (r1.append r2)))))
theorem ro_eqS {a b : D} {u v : V} (ha : sc a = some u) (hb : sc b = some v) (hs : scal u v = true) (p : P (.d (.bl (decide (u = v)))) st) : Ro z (rEqA z.K) (.d a) (.d b) st P := ro_l (ro_eq ha hb hs p)
theorem ro_neS {a b : D} {u v : V} (ha : sc a = some u) (hb : sc b = some v) (hs : scal u v = true) (p : P (.d (.bl (!decide (u = v)))) st) : Ro z (rNeA z.K) (.d a) (.d b) st P := ro_l (ro_ne ha hb hs p)
theorem vint {i j : Int} : decide (V.int i = V.int j) = decide (i = j) := by rw [Bool.eq_iff_iff]; simp
theorem vbl {i j : Bool} : decide (V.bl i = V.bl j) = decide (i = j) := by rw [Bool.eq_iff_iff]; simp
theorem vstr {i j : Str} : decide (V.str i = V.str j) = decide (i = j) := by rw [Bool.eq_iff_iff]; simp
theorem ro_eqI (p : P (.d (.bl (decide (i = j)))) st) : Ro z (rEqA z.K) (.d (.int i)) (.d (.int j)) st P := ro_eqS rfl rfl rfl (by rw [vint]; exact p)
theorem ro_neI (p : P (.d (.bl (!decide (i = j)))) st) : Ro z (rNeA z.K) (.d (.int i)) (.d (.int j)) st P := ro_neS rfl rfl rfl (by rw [vint]; exact p)
theorem ro_eqT {a b : Str} (p : P (.d (.bl (decide (a = b)))) st) : Ro z (rEqA z.K) (.d (.str a)) (.d (.str b)) st P := ro_eqS rfl rfl rfl (by rw [vstr]; exact p)
theorem ro_neT {a b : Str} (p : P (.d (.bl (!decide (a = b)))) st) : Ro z (rNeA z.K) (.d (.str a)) (.d (.str b)) st P := ro_neS rfl rfl rfl (by rw [vstr]; exact p)
theorem ro_eqB {a b : Bool} (p : P (.d (.bl (decide (a = b)))) st) : Ro z (rEqA z.K) (.d (.bl a)) (.d (.bl b)) st P := ro_eqS rfl rfl rfl (by rw [vbl]; exact p)
theorem ro_neB {a b : Bool} (p : P (.d (.bl (!decide (a = b)))) st) : Ro z (rNeA z.K) (.d (.bl a)) (.d (.bl b)) st P := ro_neS rfl rfl rfl (by rw [vbl]; exact p)
/-- items of a sequence -/
theorem ro_ix {w : W} {l : List D} {d : D} (h : Sq st w l) (ha : atI l i = some d) (p : P (.d d) st) : Ro z (rIx z.K) w (.d (.int i)) st P := fun u v H o hu hv Q q => by
  cases h with
  | lst => exact .inl (ro_ixL (.lst l) ha p u v H o hu hv Q q)
  | scr => exact .inl (ro_ixL (.scr l) ha p u v H o hu hv Q q)
  | cel hj => exact .inl (ro_ixL (.cel hj) ha p u v H o hu hv Q q)
  | tup => exact .inr (.inl (ro_ixT ha p u v H o hu hv Q q))
theorem ro_gt (p : P (.d (.bl (decide (j < i)))) st) : Ro z (rI0 fun i j => .bl (decide (j < i))) (.d (.int i)) (.d (.int j)) st P := ro_I0b (f := fun i j => decide (j < i)) p
theorem ro_ge (p : P (.d (.bl (decide (j ≤ i)))) st) : Ro z (rI0 fun i j => .bl (decide (j ≤ i))) (.d (.int i)) (.d (.int j)) st P := ro_I0b (f := fun i j => decide (j ≤ i)) p
theorem ro_lt (p : P (.d (.bl (decide (i < j)))) st) : Ro z (rI0 fun i j => .bl (decide (i < j))) (.d (.int i)) (.d (.int j)) st P := ro_I0b (f := fun i j => decide (i < j)) p
theorem ro_le (p : P (.d (.bl (decide (i ≤ j)))) st) : Ro z (rI0 fun i j => .bl (decide (i ≤ j))) (.d (.int i)) (.d (.int j)) st P := ro_I0b (f := fun i j => decide (i ≤ j)) p
theorem ro_sub (p : P (.d (.int (i - j))) st) : Ro z (rI0 fun i j => .int (i - j)) (.d (.int i)) (.d (.int j)) st P := ro_I0i (f := fun i j => i - j) p
theorem ro_mul (c : CMul i j) (p : P (.d (.int (i * j))) st) : Ro z (rI CMul fun i j => .int (i * j)) (.d (.int i)) (.d (.int j)) st P := ro_Ii (f := fun i j => i * j) c p
theorem ro_mod (c : 0 < j) (p : P (.d (.int (i % j))) st) : Ro z (rI (fun _ j => 0 < j) fun i j => .int (i % j)) (.d (.int i)) (.d (.int j)) st P := ro_Ii (C := fun _ j => 0 < j) (f := fun i j => i % j) c p
theorem ro_div (c : CDivW i j) (p : P (.d (.int (i / j))) st) : Ro z (rI CDivW fun i j => .int (i / j)) (.d (.int i)) (.d (.int j)) st P := ro_Ii (f := fun i j => i / j) c p
theorem ro_pow (c : CPow i j) (p : P (.d (.int (i ^ j.toNat))) st) : Ro z (rI CPow fun i j => .int (i ^ j.toNat)) (.d (.int i)) (.d (.int j)) st P := ro_Ii (f := fun i j => i ^ j.toNat) c p
end
theorem get_set {st : Sto} {j : Nat} {x y : Addr × Cell} (h : st[j]? = some x) : (st.set j y)[j]? = some y := List.getElem?_set_self (List.getElem?_eq_some_iff.mp h).1
theorem set_set {st : Sto} {j : Nat} {x y : Addr × Cell} : (st.set j x).set j y = st.set j y := List.set_set ..
/-! ### a def called by its name -/
structure Cf (P : Program) (w : World) (K : PySem.W.Frag) (mg : Str → Option Value) (base : Heap) (x : Str) (k : Nat) (ps : List Str) (sp : Sp) : Prop where
  ex : ∃ (f : Addr) (fd : FuncData), FnOk P w K mg base CX0 k f fd ps sp ∧ mg x = some (.ref f) ∧ PySem.W.keepIn K (.ref f) = true ∧ Binds K fd ps []
theorem pe_cf {X : Cx} {x : Str} {k : Nat} {ps : List Str} {sp : Sp} {e : Expr} {es : List Expr} {ta : TA} {p pos : Pos} (c : Cf X.prog X.w X.K X.mg X.base x k ps sp) (hr : Room k X.A) (hg : Gl X x) (ha : PA X (e :: es) ta)
    (hdb : (x == ("__debug__" : Str)) = false := by decide) (he : starEach (e :: es) X.env = (false, eval e X.env) :: starEach es X.env := by rfl) (hpl : (backTo pos (starEach es X.env)).any (·.1) = false := by rfl) :
    PE X (.Call (.Name x p) (e :: es) [] pos) (tCall sp [] E0 ta) := by
  obtain ⟨f, fd, F, hm, hk, hb⟩ := c.ex
  exact pe_call F hr hg hm hk hb .nil pass0 ha hdb he hpl
structure Bl (mg : Str → Option Value) : Prop where
  len_ : mg "len" = none
  abs_ : mg "abs" = none
  min_ : mg "min" = none
  max_ : mg "max" = none
  int_ : mg "int" = none
  str_ : mg "str" = none
  bool_ : mg "bool" = none
  tuple_ : mg "tuple" = none
  list_ : mg "list" = none
  range_ : mg "range" = none
  sorted_ : mg "sorted" = none
  any_ : mg "any" = none
  all_ : mg "all" = none
  sum_ : mg "sum" = none
  isinstance_ : mg "isinstance" = none
  enumerate_ : mg "enumerate" = none
  zip_ : mg "zip" = none
  repr_ : mg "repr" = none
end Q

namespace PySem.W
open PySem PySem.Spec PySem.Calls PyProof.Rows
section
variable {prog : Program} {w : World} {A : Around} {E : Value → Shared → Prop} {s : Shared} {K : Frag} {x C f L : Addr} {ox : Obj} {od : Option Obj} {h₀ : Heap} {m : Str → Option Value} {b tb : Value}
theorem q_ifBoundB {M : Model} {name : Str} {id : String} {args : List Value} {Q : Option Value → Shared → Prop} (X : K.In s.heap) (I : InstAt s.heap x ox C od) (hs : findIn K (.ref C) name = some (some (.builtin id)))
    (hb : ∀ self, bindSpecial (.builtin id) self = pure (.builtin id, [self])) (h : wpAny M A (call (.builtin id) (.ref x :: args)) (fun v => Q (some v)) E s) : wpAny M A (callSpecialIfBound? (.ref x) name args) Q E s := by
  simp only [callSpecialIfBound?, bindSpecialIfBound?]
  refine wpAny_holding (wpAny_bind (wpAny_bind (wpAny_bind (I.type.here ((looks_findIn X hs).here ?_)))))
  refine wpAny_bind (wpAny_askSetting (wpAny_ite ?_))
  have fin : wpAny M A (call (.builtin id) ([.ref x] ++ args) >>= fun v => pure (some v)) Q E s := wpAny_bind (wpAny_mono h (fun v s' h' => wpAny_pure h') fun _ _ h' => h')
  split
  · exact wpAny_bind ((Looks.of_pure (hb _)).here (wpAny_pure (by exact fin)))
  · exact wpAny_tryCatch (wpAny_bind ((Looks.of_pure (hb _)).here (wpAny_pure (by exact fin))))
open Builtin in
theorem q_one {Q : Value → Shared → Prop} (hu : A.in1.units < cLine) (X : K.In s.heap) (I : InstAt s.heap x ox C od) (hm : mroIn K C (.type "object") = some true) (hr : findIn K (.ref C) "__eq__" = some (some (.ref f))) (hf : isFn K (.ref f) = true)
    (h : wpAny (model prog w) A.in1 (call (.ref f) [.ref x, b]) (fun r s' => ∃ c, r = .bool c ∧ Q (.bool (!c)) s') E s) : wpAny (model prog w) A (call (.builtin "object.__ne__") [.ref x, b]) Q E s := by
  refine wpAny_call (codeAny_call_builtin PySem.F.slot_object_ne.plain PySem.F.entry_object_ne (check_slot (i := "object.__ne__") (owner := "object") (n := "__ne__") (by decide +kernel) (by decide +kernel) (I.type.andThen (looks_mroIn X hm)) (PySem.F.args_object_ne_2 _ _) ?_))
  unfold Builtin.«object.__ne__»
  refine wpAny_bind (m := slotArgs "__ne__" 1 _) (wpAny_pure ?_)
  refine wpAny_bind (m := cRoomFor _ _) (wpAny_cRoomFor hu ?_)
  refine wpAny_bind (m := callSpecialIfBound? (.ref x) (Str.ofString "__eq__") _) (ifBound_K X I hr hf (wpAny_mono h (fun r s' hq => ?_) fun _ _ y => y))
  obtain ⟨c, rfl, q⟩ := hq
  exact wpAny_bind (wpAny_truthy_bool (wpAny_pure q))
theorem q_ne {Q : Value → Shared → Prop} (hu : A.units < cLine) (hu1 : A.in1.units < cLine) (F : Fr h₀ L s.heap m) (X₀ : K.In h₀) (I : InstAt s.heap x ox C od) (hb : Looks (model prog w) s.heap (typeOf b) tb) (hn : notFirst K C tb = true)
    (hs : findIn K (.ref C) "__ne__" = some (some (.builtin "object.__ne__"))) (hm : mroIn K C (.type "object") = some true) (hr : findIn K (.ref C) "__eq__" = some (some (.ref f))) (hf : isFn K (.ref f) = true)
    (h : wpAny (model prog w) A.in1 (call (.ref f) [.ref x, b]) (fun r s' => ∃ c, r = .bool c ∧ Q (.bool (!c)) s') E s) : wpAny (model prog w) A (richCompare .NotEq (.ref x) b) Q E s := by
  have X := X₀.keeps F.keep
  have one : wpAny (model prog w) A (tryCompare (.ref x) (cmpInfo .NotEq).2.1 b) (fun r s' => ∃ v, r = some v ∧ Q v s') E s := by
    unfold tryCompare
    refine wpAny_bind (q_ifBoundB X I hs PySem.F.slot_object_ne.bind (q_one hu1 X I hm hr hf (wpAny_mono h (fun v s' hv => ?_) fun _ _ e => e)))
    obtain ⟨c, rfl, q⟩ := hv
    exact ⟨c, rfl, wpAny_pure ⟨_, rfl, q⟩⟩
  unfold richCompare
  simp only [oneThing_ref]
  refine wpAny_holding (wpAny_bind (wpAny_cRoomFor hu ?_))
  refine wpAny_bind (I.type.here (wpAny_bind (hb.here ?_)))
  split
  · rename_i q
    have e : subIn K tb (.ref C) = some false := by
      rcases Bool.or_eq_true_iff.mp hn with e | e
      · rw [beq_iff_eq.mp e] at q; simp at q
      · exact beq_iff_eq.mp e
    refine wpAny_bind ((looks_subIn X e).here ?_)
    simp only [Bool.false_eq_true, if_false]
    refine wpAny_bind (wpAny_mono one (fun r s' z => ?_) fun _ _ e => e)
    obtain ⟨v, rfl, hq⟩ := z
    exact wpAny_pure hq
  · refine wpAny_bind (wpAny_pure ?_)
    simp only [Bool.false_eq_true, if_false]
    refine wpAny_bind (wpAny_mono one (fun r s' z => ?_) fun _ _ e => e)
    obtain ⟨v, rfl, hq⟩ := z
    exact wpAny_pure hq
end
end PySem.W
namespace Q
open PySem L2 PyProof.Rows
/-! ### own operators -/
/-- a method m of the class at C, by its promise -/
structure Mf (P : Program) (w : World) (K : PySem.W.Frag) (mg : Str → Option Value) (base : Heap) (C : Addr) (m : Str) (k : Nat) (ps : List Str) (sp : Sp) : Prop where
  ex : ∃ (f : Addr) (fd : FuncData), FnOk P w K mg base CX0 k f fd ps sp ∧ Meth K C m f ∧ Binds K fd ps []
/-- the making of an instance; dvs: the defaults behind what is written -/
structure Kf (P : Program) (w : World) (K : PySem.W.Frag) (mg : Str → Option Value) (base : Heap) (C : Addr) (x : Str) (k : Nat) (ps : List Str) (dvs : List V) (sp : Sp) : Prop where
  ex : ∃ (f : Addr) (fd : FuncData) (ds : List Value), FnOk P w K mg base CX0 k f fd ps sp ∧ Mk K C f ∧ mg x = some (.ref C) ∧ Binds K fd ps ds ∧ Vals dvs ds
/-- a property -/
structure Pf (P : Program) (w : World) (K : PySem.W.Frag) (mg : Str → Option Value) (base : Heap) (C : Addr) (m : Str) (k : Nat) (ps : List Str) (sp : Sp) : Prop where
  ex : ∃ (p g : Addr) (fd : FuncData), FnOk P w K mg base CX0 k g fd ps sp ∧ PropOf K C m p g ∧ Binds K fd ps []
theorem cmp_back {v : V} {w : Value} {Q : Value → Shared → Prop} {s : Shared} (r : RelV v w) (h : Q w s) : PySem.W.CmpBack Q w s := by
  cases v with
  | non => cases r; exact h
  | bl _ => cases r; exact h
  | int _ => obtain ⟨t, rfl⟩ := r; exact h
  | str _ => obtain ⟨t, rfl⟩ := r; exact h
  | byt _ => obtain ⟨t, rfl⟩ := r; exact h
  | flt _ => obtain ⟨t, rfl⟩ := r; exact h
  | ref _ => cases r; exact h
  | ty _ => cases r; exact h
section
variable {X : Cx} {x m : Str} {k : Nat} {ps : List Str} {sp : Sp} {e o : Expr} {es : List Expr} {t : TA} {ta : TE} {p pos apos : Pos} {C : Addr} {dvs : List V}
theorem pe_cf0 (c : Cf X.prog X.w X.K X.mg X.base x k ps sp) (hr : Room k X.A) (hg : Gl X x) (hdb : (x == ("__debug__" : Str)) = false := by decide) : PE X (.Call (.Name x p) [] [] pos) (tCall sp [] E0 tNil) := by
  obtain ⟨f, fd, F, hm, hk, hb⟩ := c.ex
  exact pe_call0 F hr hg hm hk hb .nil pass0 hdb
theorem pe_mf (c : Kf X.prog X.w X.K X.mg X.base C x k ps dvs sp) (hr : Room (k + 1) X.A) (hg : Gl X x) (ha : PA X (e :: es) t)
    (hdb : (x == ("__debug__" : Str)) = false := by decide) (he : starEach (e :: es) X.env = (false, eval e X.env) :: starEach es X.env := by rfl) (hpl : (backTo pos (starEach es X.env)).any (·.1) = false := by rfl) :
    PE X (.Call (.Name x p) (e :: es) [] pos) (tMake C sp dvs E0 t) := by
  obtain ⟨f, fd, ds, F, M, hm, hb, hd⟩ := c.ex
  exact pe_make M F hr hg hm hb hd pass0 ha hdb he hpl
theorem pe_mf0 (c : Kf X.prog X.w X.K X.mg X.base C x k ps dvs sp) (hr : Room (k + 1) X.A) (hg : Gl X x) (hdb : (x == ("__debug__" : Str)) = false := by decide) :
    PE X (.Call (.Name x p) [] [] pos) (tMake C sp dvs E0 tNil) := by
  obtain ⟨f, fd, ds, F, M, hm, hb, hd⟩ := c.ex
  exact pe_make0 M F hr hg hm hb hd pass0 hdb
theorem pe_pf (he : PE X e ta) (c : Pf X.prog X.w X.K X.mg X.base C m k ps sp) (hr : Room (k + 1) X.A) (cl : Cls X.K C) (hab : attributeBase e m X.env (eval e X.env) = eval e X.env) : PE X (.Attribute e m pos) (tProp C sp [] E0 ta) := by
  obtain ⟨q, g, fd, F, hp, hb⟩ := c.ex
  exact pe_prop he cl hp F hr hb .nil pass0 hab
/-- a call of the method's def with the instance and values, room for one more -/
theorem run_in1 {pins : List (Addr × Obj)} {σ : L2.St} {H : Hp} {s : Shared} {Q : VK} {us : List Value} {vs : List V} {f : Addr} {fd : FuncData} (F : FnOk X.prog X.w X.K X.mg X.base CX0 k f fd ps sp) (hr : Room (k + 1) X.A) (hb : Binds X.K fd ps [])
    (I : Inv X pins σ H s) (r : Vals vs us) (h : sp vs H Q E0) : wpAny (model X.prog X.w) X.A.in1 (call (.ref f) us) (EP X pins σ Q) X.xe s := by
  have hl : us.length = ps.length := by rw [← r.length]; exact F.len _ _ _ _ h
  refine wpAny_call (codeAny_mono (F.run X.A.in1 X.stack s H ⟨us, []⟩ us vs Q E0 hr.in1 I.env0.in1 (by simpa using hb s us I.kIn (by simpa using hl)) r h) fun r s' hq => ?_)
  cases r with
  | error e => exact False.elim hq
  | ok fl =>
    cases fl with
    | ret u => exact I.after hq
    | next => exact False.elim hq
    | brk => exact False.elim hq
    | cont => exact False.elim hq
/-- x op y, both of the class at C -/
def rBin (C : Addr) (sp : Sp) : R2 := fun x y H Q => ∃ a b dx dy fs gs, x = .ref a ∧ y = .ref b ∧ H a = some (.ins C dx fs) ∧ H b = some (.ins C dy gs) ∧ sp [x, y] H Q E0
theorem op_bin {op : Operator} (c : Mf X.prog X.w X.K X.mg X.base C (PySem.dunder op.info.2) k ps sp) (hr : Room k X.A) (hc : PySem.W.selfFirst X.K C = true) : OpR X (binaryOp op) (rBin C sp) := by
  intro pins s σ H x y u v Q I rx ry q
  obtain ⟨f, fd, F, M, hb⟩ := c.ex
  obtain ⟨a, b, dx, dy, fs, gs, rfl, rfl, ha, hb', hsp⟩ := q
  cases rx
  cases ry
  obtain ⟨mA, J, _⟩ := ins_get I.hok ha
  obtain ⟨mB, J', _⟩ := ins_get I.hok hb'
  obtain ⟨od, J, _⟩ := J.look
  obtain ⟨od', J', _⟩ := J'.look
  obtain ⟨m, hF⟩ := I.fr
  refine PySem.W.binop_K hF I.ok.mod.kin J J'.type hc M.at_ M.fn ?_
  have r2 : Vals [V.ref a, V.ref b] [Value.ref a, Value.ref b] := .cons rfl (.cons rfl .nil)
  refine wpAny_mono (run_fn (dvs := []) (ds := []) (E := E0) F hr hb .nil pass0 I r2 hsp) (fun w s' hw => ?_) fun _ _ z => z
  obtain ⟨v, H', I', rv, qv⟩ := hw
  exact cmp_back rv ⟨v, H', I', rv, qv⟩
/-- x op y, x of the class at C, y of any known type -/
def rCmp (K : PySem.W.Frag) (C : Addr) (sp : Sp) : R2 := fun x y H Q => ∃ a dx fs tb, x = .ref a ∧ H a = some (.ins C dx fs) ∧ TyX K H y tb ∧ PySem.W.notFirst K C tb = true ∧ sp [x, y] H Q E0
theorem op_cmp {op : CmpOp} (c : Mf X.prog X.w X.K X.mg X.base C (cmpInfo op).2.1 k ps sp) (hr : Room k X.A) (ho : ∀ u v, compareOp op u v = richCompare op u v) : OpR X (compareOp op) (rCmp X.K C sp) := by
  intro pins s σ H x y u v Q I rx ry q
  obtain ⟨f, fd, F, M, hb⟩ := c.ex
  obtain ⟨a, dx, fs, tb, rfl, ha, ty, hn, hsp⟩ := q
  cases rx
  obtain ⟨mA, J, _⟩ := ins_get I.hok ha
  obtain ⟨od, J, _⟩ := J.look
  obtain ⟨Pk, Zk, pk, _⟩ := kit_of I ry ty
  obtain ⟨m, hF⟩ := I.fr
  rw [ho]
  refine PySem.W.cmp_K (op := op) (tb := tb) hr.units0 hF I.ok.mod.kin J (Zk.ty _ _ I.kIn pk) hn M.at_ M.fn ?_
  have r2 : Vals [V.ref a, y] [Value.ref a, v] := .cons rfl (.cons ry .nil)
  refine wpAny_mono (run_fn (dvs := []) (ds := []) (E := E0) F hr hb .nil pass0 I r2 hsp) (fun w s' hw => ?_) fun _ _ z => z
  obtain ⟨v, H', I', rv, qv⟩ := hw
  exact cmp_back rv ⟨v, H', I', rv, qv⟩
/-- x != y by the own == -/
def rCmpN (K : PySem.W.Frag) (C : Addr) (sp : Sp) : R2 := fun x y H Q => ∃ a dx fs tb, x = .ref a ∧ H a = some (.ins C dx fs) ∧ TyX K H y tb ∧ PySem.W.notFirst K C tb = true ∧ sp [x, y] H (fun v H' => ∃ b, v = .bl b ∧ Q (.bl (!b)) H') E0
theorem op_cmpN (c : Mf X.prog X.w X.K X.mg X.base C "__eq__" k ps sp) (hr : Room (k + 1) X.A) (hs : PySem.W.findIn X.K (.ref C) "__ne__" = some (some (.builtin "object.__ne__"))) (hm : PySem.W.mroIn X.K C (.type "object") = some true) : OpR X (compareOp .NotEq) (rCmpN X.K C sp) := by
  intro pins s σ H x y u v Q I rx ry q
  obtain ⟨f, fd, F, M, hb⟩ := c.ex
  obtain ⟨a, dx, fs, tb, rfl, ha, ty, hn, hsp⟩ := q
  cases rx
  obtain ⟨mA, J, _⟩ := ins_get I.hok ha
  obtain ⟨od, J, _⟩ := J.look
  obtain ⟨Pk, Zk, pk, _⟩ := kit_of I ry ty
  obtain ⟨m, hF⟩ := I.fr
  show wpAny _ _ (richCompare .NotEq (.ref a) v) _ _ _
  refine PySem.W.q_ne (tb := tb) hr.units0 (hr.in1.units0) hF I.ok.mod.kin J (Zk.ty _ _ I.kIn pk) hn hs hm M.at_ M.fn ?_
  have r2 : Vals [V.ref a, y] [Value.ref a, v] := .cons rfl (.cons ry .nil)
  refine wpAny_mono (run_in1 F hr hb I r2 hsp) (fun w s' hw => ?_) fun _ _ z => z
  obtain ⟨v, H', I', rv, h2⟩ := hw
  obtain ⟨b, e, qv⟩ := h2
  subst e
  cases rv
  exact ⟨b, rfl, .bl (!b), H', I', rfl, qv⟩
/-- x in o, x not in o, o of the class at C with an own __contains__ that gives a bool -/
def rHas (neg : Bool) (C : Addr) (sp : Sp) : R2 := fun y x H Q => ∃ a dx fs, x = .ref a ∧ H a = some (.ins C dx fs) ∧ sp [x, y] H (fun v H' => ∃ b, v = .bl b ∧ Q (.bl (if neg then !b else b)) H') E0
theorem op_has (c : Mf X.prog X.w X.K X.mg X.base C "__contains__" k ps sp) (hr : Room k X.A) : OpR X (compareOp .In) (rHas false C sp) := by
  intro pins s σ H y x v u Q I ry rx q
  obtain ⟨f, fd, F, M, hb⟩ := c.ex
  obtain ⟨a, dx, fs, rfl, ha, hsp⟩ := q
  cases rx
  obtain ⟨mA, J, _⟩ := ins_get I.hok ha
  obtain ⟨od, J, _⟩ := J.look
  obtain ⟨m, hF⟩ := I.fr
  refine PySem.W.in_K hF I.ok.mod.kin J M.at_ M.fn ?_
  have r2 : Vals [V.ref a, y] [Value.ref a, v] := .cons rfl (.cons ry .nil)
  refine wpAny_mono (run_fn (dvs := []) (ds := []) (E := E0) F hr hb .nil pass0 I r2 hsp) (fun w s' hw => ?_) fun _ _ z => z
  obtain ⟨v, H', I', rv, h2⟩ := hw
  obtain ⟨b, e, qv⟩ := h2
  subst e
  cases rv
  exact wpAny_truthy_bool ⟨.bl b, H', I', rfl, qv⟩
theorem op_hasN (c : Mf X.prog X.w X.K X.mg X.base C "__contains__" k ps sp) (hr : Room k X.A) : OpR X (compareOp .NotIn) (rHas true C sp) := by
  intro pins s σ H y x v u Q I ry rx q
  obtain ⟨f, fd, F, M, hb⟩ := c.ex
  obtain ⟨a, dx, fs, rfl, ha, hsp⟩ := q
  cases rx
  obtain ⟨mA, J, _⟩ := ins_get I.hok ha
  obtain ⟨od, J, _⟩ := J.look
  obtain ⟨m, hF⟩ := I.fr
  refine PySem.W.notIn_K hF I.ok.mod.kin J M.at_ M.fn ?_
  have r2 : Vals [V.ref a, y] [Value.ref a, v] := .cons rfl (.cons ry .nil)
  refine wpAny_mono (run_fn (dvs := []) (ds := []) (E := E0) F hr hb .nil pass0 I r2 hsp) (fun w s' hw => ?_) fun _ _ z => z
  obtain ⟨v, H', I', rv, h2⟩ := hw
  obtain ⟨b, e, qv⟩ := h2
  subst e
  cases rv
  exact wpAny_truthy_bool ⟨.bl (!b), H', I', rfl, qv⟩
/-- the truth of an instance by its own __bool__ -/
def tTruO (C : Addr) (sp : Sp) (ta : TE) : TT := fun σ H Q => ta σ H fun x H1 => ∃ a dx fs, x = .ref a ∧ H1 a = some (.ins C dx fs) ∧ sp [x] H1 (fun v H' => ∃ b, v = .bl b ∧ Q b H') E0
theorem tru_own (c : Mf X.prog X.w X.K X.mg X.base C "__bool__" k ps sp) (hr : Room k X.A) : TruR X (fun x H Q => ∃ a dx fs, x = .ref a ∧ H a = some (.ins C dx fs) ∧ sp [x] H (fun v H' => ∃ b, v = .bl b ∧ Q b H') E0) := by
  intro pins s σ H x v Q I rx q
  obtain ⟨f, fd, F, M, hb⟩ := c.ex
  obtain ⟨a, dx, fs, rfl, ha, hsp⟩ := q
  cases rx
  obtain ⟨mA, J, _⟩ := ins_get I.hok ha
  obtain ⟨od, J, _⟩ := J.look
  obtain ⟨m, hF⟩ := I.fr
  refine PySem.W.truthy_K hF I.ok.mod.kin J M.at_ M.fn ?_
  have r2 : Vals [V.ref a] [Value.ref a] := .cons rfl .nil
  refine wpAny_mono (run_fn (dvs := []) (ds := []) (E := E0) F hr hb .nil pass0 I r2 hsp) (fun w s' hw => ?_) fun _ _ z => z
  obtain ⟨v, H', I', rv, h2⟩ := hw
  obtain ⟨b, e, qv⟩ := h2
  subst e
  cases rv
  exact ⟨H', I', qv⟩
theorem pt_own (c : Mf X.prog X.w X.K X.mg X.base C "__bool__" k ps sp) (hr : Room k X.A) (ha : PE X e ta) (he : ∀ whole, isTrue e X.env whole = (do let v ← whole; standAt e.pos; holding [v] (truthy v)) := by intro _; rfl) : PT X e (tTruO C sp ta) := by
  refine ⟨fun pins s σ H Q I h => ?_⟩
  exact isTrue_plain (thn (ha.run pins s σ H _ I h) fun v s1 ⟨x, H1, I1, r1, q1⟩ => tru_own c hr pins s1 σ H1 x v Q I1 r1 q1) (he _)
end
end Q

namespace Q
open PySem L2
section
variable {z : Z} {B : List Addr} {H : Hp}
theorem Rpf.look {f : Str} {d : D} : ∀ {fs : List (Str × V)} {l : List (Str × D)}, Rpf z B H fs l → l.lookup f = some d → ∃ v, fs.lookup f = some v ∧ Rp z B H v d
  | _, _, .nil, e => by simp at e
  | _, _, .cons (f := g) h t, e => by
    rw [List.lookup_cons] at e ⊢
    by_cases q : (f == g) = true
    · rw [q] at e ⊢
      cases e
      exact ⟨_, rfl, h⟩
    · rw [Bool.not_eq_true] at q
      rw [q] at e ⊢
      exact Rpf.look t e
theorem Rpf.lookN {f : Str} : ∀ {fs : List (Str × V)} {l : List (Str × D)}, Rpf z B H fs l → l.lookup f = none → fs.lookup f = none
  | _, _, .nil, _ => rfl
  | _, _, .cons (f := g) h t, e => by
    rw [List.lookup_cons] at e ⊢
    by_cases q : (f == g) = true
    · rw [q] at e
      cases e
    · rw [Bool.not_eq_true] at q
      rw [q] at e ⊢
      exact Rpf.lookN t e
end
/-- what is asked of a class for its fields -/
structure Fl (z : Z) (c f : Str) : Prop where
  cl : Cls z.K (z.cl c)
  no : NoAttr z.K (z.cl c) f
def putW (f : Str) (v : W) : List (Str × W) → List (Str × W)
  | [] => [(f, v)]
  | (g, u) :: r => if g = f then (g, v) :: r else (g, u) :: putW f v r
section
variable {z : Z} {ds : Ds} {st : Sto} {P : W → Sto → Prop} {ta tv : TE} {ua : TA} {m : Pm} {c f : Str}
theorem Rwf.put {B : List Addr} {H : Hp} {v : V} {w : W} (r : Rf z B H v w) : ∀ {fs : List (Str × V)} {l : List (Str × W)}, Rwf z B H fs l → Rwf z B H (putF f v fs) (putW f w l)
  | _, _, .nil => .cons r .nil
  | _, _, .cons (f := g) h t => by
    unfold putF putW
    by_cases q : g = f
    · rw [if_pos q, if_pos q]
      exact .cons r t
    · rw [if_neg q, if_neg q]
      exact .cons h (Rwf.put r t)
theorem Rwf.length {B : List Addr} {H : Hp} : ∀ {fs : List (Str × V)} {l : List (Str × W)}, Rwf z B H fs l → fs.length = l.length
  | _, _, .nil => rfl
  | _, _, .cons _ t => congrArg Nat.succ t.length
theorem Rwf.look {B : List Addr} {H : Hp} {d : W} : ∀ {fs : List (Str × V)} {l : List (Str × W)}, Rwf z B H fs l → l.lookup f = some d → ∃ v, fs.lookup f = some v ∧ Rf z B H v d
  | _, _, .nil, e => by simp at e
  | _, _, .cons (f := g) h t, e => by
    rw [List.lookup_cons] at e ⊢
    by_cases q : (f == g) = true
    · rw [q] at e ⊢
      cases e
      exact ⟨_, rfl, h⟩
    · rw [Bool.not_eq_true] at q
      rw [q] at e ⊢
      exact Rwf.look t e
def dat (l : List (Str × D)) : List (Str × W) := l.map fun f => (f.1, .d f.2)
theorem Rwf.dat {B : List Addr} {H : Hp} : ∀ {fs : List (Str × V)} {l : List (Str × D)}, Rwf z B H fs (dat l) → Rpf z B H fs l
  | _, [], h => by cases h; exact .nil
  | _, d :: l, h => by
    obtain ⟨f, d⟩ := d
    cases h with | cons h t => cases h with | d h => exact .cons h (Rwf.dat t)
/-- o.f, an object's or a cell's -/
theorem ev_fld (h : Ev z ta ds st fun w st1 => ∃ c l d, w = .d (.obj c l) ∧ Fl z c f ∧ l.lookup f = some d ∧ P (.d d) st1) : Ev z (tFld z.K ta f) ds st P := fun σ H s o Q q => h σ H s o _ fun w st1 v H1 h1 l1 b1 o1 r1 => by
  obtain ⟨c, l, d, rfl, F, e, p⟩ := h1
  cases r1 with | d r1 => cases r1 with | obj n e1 r =>
  obtain ⟨x, hx, rx⟩ := r.look e
  exact ⟨_, _, _, _, x, rfl, e1, F.cl, F.no, hx, q _ st1 x H1 p l1 b1 o1 (.d rx)⟩
theorem ev_fldP (h : Ev z ta ds st fun w st1 => ∃ (a : Addr) (j : Nat) (c : Str) (dx : Addr) (l : List (Str × W)) (d : W), w = .p a ∧ st1[j]? = some (a, .ins c dx l) ∧ Fl z c f ∧ l.lookup f = some d ∧ (∀ b, d = .p b → b ∈ adr st1) ∧ P d st1) : Ev z (tFld z.K ta f) ds st P := fun σ H s o Q q => h σ H s o _ fun w st1 v H1 h1 l1 b1 o1 r1 => by
  obtain ⟨a, j, c, dx, l, d, rfl, hj, F, e, hb, p⟩ := h1
  cases r1 with | p m =>
  obtain ⟨es, e1, r⟩ := o1.at_ _ (List.mem_of_getElem? hj)
  obtain ⟨x, hx, rx⟩ := r.look e
  exact ⟨_, _, _, _, x, rfl, e1, F.cl, F.no, hx, q _ st1 x H1 p l1 b1 o1 (by
    cases rx with
    | d rx => exact .d rx
    | p => exact .p (hb _ rfl))⟩
/-- self.f = e -/
theorem wp_fld {Pp : Po} (h : Ev z tv ds st fun w st1 => Ev z ta ds st1 fun x st2 => ∃ (a : Addr) (j : Nat) (c : Str) (dx : Addr) (fs : List (Str × W)), x = .p a ∧ st2[j]? = some (a, .ins c dx fs) ∧ Fl z c f ∧ fs.length < 1000 ∧ Pp.nx ds (st2.set j (a, .ins c dx (putW f w fs)))) :
    Wp z (sFld z.K ta tv f) ds st Pp := fun E σ H s o cc => h σ H s o _ fun w st1 v H1 h1 l1 b1 o1 r1 => h1 σ H1 (s.le l1 b1) o1 _ fun x st2 u H2 h2 l2 b2 o2 r2 => by
  obtain ⟨a, j, c, dx, fs, rfl, hj, F, hl, p⟩ := h2
  cases r2 with | p m2 =>
  obtain ⟨es, e1, r⟩ := o2.at_ _ (List.mem_of_getElem? hj)
  have rv := r1.le l2 b2
  have ea := adr_set (c' := .ins c dx (putW f w fs)) hj
  have lw : Le (adr st2) H2 (adr st2) (upd H2 a (.ins (z.cl c) dx (putF f v es))) := Le.mut (mem_adr hj)
  refine ⟨a, _, dx, es, rfl, e1, F.cl, F.no, by rw [r.length]; exact hl, ?_⟩
  exact cc.nx ds _ σ _ p (by rw [ea]; exact (l1.trans l2).trans lw) (by rw [ea]; exact ((s.le l1 b1).le l2 b2).le lw (sub_refl _)) (o2.write hj ⟨_, upd_same, (Rwf.put rv.f r).le lw⟩)
/-- C(..): the new instance, filled by __init__, is data -/
theorem ev_make {C : Addr} {dvs : List V} {dl : List D} {E : XK} (hC : C = z.cl c) (hdv : ∀ B H, Rps z B H dvs dl) (h : EvA z ua ds st fun ws st1 => ∀ x dx, x ∉ adr st1 → ∃ g : m.G, m.arg g ((x, .ins c dx []) :: st1) (.p x :: (ws ++ dl.map W.d)) ∧
      ∀ w st2, m.res g ((x, .ins c dx []) :: st1) w st2 → w = .d .non ∧ ∃ l, st2 = (x, .ins c dx (dat l)) :: st1 ∧ P (.d (.obj c l)) st1) : Ev z (tMake C (sp z m) dvs E ua) ds st P := fun σ H s o Q q => h σ H s o _ fun ws st1 vs H1 h1 l1 b1 o1 r1 => by
  subst hC
  intro x dx hx hdx ne
  have hx1 : (upd H1 dx (.own x)) x = none := by rw [upd_ne (Ne.symm ne)]; exact hx
  have lA : Le (adr st1) H1 (adr st1) (upd H1 dx (.own x)) := Le.alloc hdx
  have oA : StOk z st1 (upd H1 dx (.own x)) := o1.alloc hdx
  have lB : Le (adr st1) (upd H1 dx (.own x)) (x :: adr st1) (upd (upd H1 dx (.own x)) x (.ins (z.cl c) dx [])) := Le.push hx1
  have oB : StOk z ((x, .ins c dx []) :: st1) (upd (upd H1 dx (.own x)) x (.ins (z.cl c) dx [])) := oA.push hx1 ⟨[], upd_same, .nil⟩
  have sB : Sub (adr st1) (x :: adr st1) := fun a m => List.mem_cons_of_mem _ m
  obtain ⟨g, ha, hr⟩ := h1 x dx (o1.out hx)
  have app : ∀ {B : List Addr} {H : Hp} {vs us : List V} {ws xs : List W}, Rws z B H vs ws → Rws z B H us xs → Rws z B H (vs ++ us) (ws ++ xs) := by
    intro B H vs us ws xs r r'
    induction r with
    | nil => exact r'
    | cons h t ih => exact .cons h ih
  refine ⟨g, _, _, ha, .cons (.p List.mem_cons_self) (app (r1.le (lA.trans lB) sB) (hdv _ _).ws), oB, fun w st2 v H2 hres l2 o2 r2 => ?_⟩
  obtain ⟨rfl, l, rfl, p⟩ := hr w st2 hres
  cases r2 with | d r2 =>
  cases r2
  refine ⟨rfl, ?_⟩
  have nx : x ∉ adr st1 := o1.out hx
  have o3 : StOk z st1 H2 := o2.less (fun q m => List.mem_cons_of_mem _ m) o1.nd
  obtain ⟨es, e2, rf⟩ := o2.at_ _ List.mem_cons_self
  have l12 := (l1.trans lA).trans (lB.trans l2)
  refine q _ st1 _ H2 p ⟨l12.keep, l12.trk, fun a m => l12.new a (List.mem_cons_of_mem _ m)⟩ b1 o3 (.d (.obj nx e2 ?_))
  exact (Rwf.dat rf).less fun a m => List.mem_cons_of_mem _ m
where less := ()
theorem Rpf.less' {B B' : List Addr} {H : Hp} (s : ∀ a ∈ B', a ∈ B) {v : List (Str × V)} {d : List (Str × D)} (h : Rpf z B H v d) : Rpf z B' H v d := Rpf.less s h
/-- o.m(..), o.p (a property), by the promise of the def -/
theorem ev_meth {C : Addr} {E : XK} {mn : Str} (hC : C = z.cl c) (h : Ev z ta ds st fun w st1 => ∃ l, w = .d (.obj c l) ∧ l.lookup mn = none ∧ EvA z ua ds st1 fun ws st2 => ∃ g : m.G, m.arg g st2 (w :: ws) ∧ ∀ w st3, m.res g st2 w st3 → Sub (adr st2) (adr st3) ∧ P w st3) :
    Ev z (tMeth C mn (sp z m) [] E ta ua) ds st P := fun σ H s o Q q => h σ H s o _ fun w st1 v H1 h1 l1 b1 o1 r1 => by
  subst hC
  obtain ⟨l, rfl, hl, h1⟩ := h1
  have r1' := r1
  cases r1' with | d r1' => cases r1' with | obj n e1 r =>
  refine ⟨_, _, _, rfl, e1, r.lookN hl, h1 σ H1 (s.le l1 b1) o1 _ fun ws st2 vs H2 h2 l2 b2 o2 r2 => ?_⟩
  obtain ⟨g, ha, hr⟩ := h2
  refine ⟨g, _, st2, ha, by rw [List.append_nil]; exact .cons (r1.le l2 b2) r2, o2, fun w st3 v H3 hres l3 o3 r3 => ?_⟩
  obtain ⟨b3, p⟩ := hr w st3 hres
  exact q w st3 v H3 p ((l1.trans l2).trans l3) (fun a m => b3 a (b2 a (b1 a m))) o3 r3
theorem ev_prop {C : Addr} {E : XK} (hC : C = z.cl c) (h : Ev z ta ds st fun w st1 => ∃ l, w = .d (.obj c l) ∧ ∃ g : m.G, m.arg g st1 [w] ∧ ∀ w st3, m.res g st1 w st3 → Sub (adr st1) (adr st3) ∧ P w st3) :
    Ev z (tProp C (sp z m) [] E ta) ds st P := fun σ H s o Q q => h σ H s o _ fun w st1 v H1 h1 l1 b1 o1 r1 => by
  subst hC
  obtain ⟨l, rfl, g, ha, hr⟩ := h1
  have r1' := r1
  cases r1' with | d r1' => cases r1' with | obj n e1 r =>
  refine ⟨_, _, _, rfl, e1, g, _, st1, ha, .cons r1 .nil, o1, fun w st3 v H3 hres l3 o3 r3 => ?_⟩
  obtain ⟨b3, p⟩ := hr w st3 hres
  exact q w st3 v H3 p (l1.trans l3) (fun a m => b3 a (b1 a m)) o3 r3
/-! ### types of data -/
structure TyC (z : Z) (c : Str) : Prop where
  cl : Cls z.K (z.cl c)
  ha : PySem.W.findIn z.K (.ref (z.cl c)) "__class__" = some (some (.builtin "object.__class__"))
  hn : PySem.W.specialIn z.K (.builtin "object.__class__") "__get__" = some (some (.builtin "getset_descriptor.__get__"))
  ht : PySem.W.takesIn z.K (.builtin "object.__class__") = some true
  hm : PySem.W.mroIn z.K (z.cl c) (.type "object") = some true
  kI : PySem.W.kitOne z.K (.ref (z.cl c)) (.type "int") = some false
  kB : PySem.W.kitOne z.K (.ref (z.cl c)) (.type "bool") = some false
  kS : PySem.W.kitOne z.K (.ref (z.cl c)) (.type "str") = some false
  kT : PySem.W.kitOne z.K (.ref (z.cl c)) (.type "tuple") = some false
  kL : PySem.W.kitOne z.K (.ref (z.cl c)) (.type "list") = some false
inductive Tw (z : Z) (st : Sto) : W → Value → Prop
  | non : Tw z st (.d .non) (.type "NoneType")
  | bl (b : Bool) : Tw z st (.d (.bl b)) (.type "bool")
  | int (i : Int) : Tw z st (.d (.int i)) (.type "int")
  | str (x : Str) : Tw z st (.d (.str x)) (.type "str")
  | tup (l : List D) : Tw z st (.d (.tup l)) (.type "tuple")
  | lst (l : List D) : Tw z st (.d (.lst l)) (.type "list")
  | cel {a : Addr} {l : List D} {j : Nat} (h : st[j]? = some (a, .lst l)) : Tw z st (.p a) (.type "list")
  | obj {c : Str} (l : List (Str × D)) (h : TyC z c) : Tw z st (.d (.obj c l)) (.ref (z.cl c))
theorem Tw.ty {H : Hp} {w : W} {t : Value} {v : V} (h : Tw z st w t) (o : StOk z st H) (r : Rw z (adr st) H v w) : TyX z.K H v t := by
  cases h with
  | non => cases r with | d r => cases r; exact .base .non
  | bl b => cases r with | d r => cases r; exact .base (.bl b)
  | int b => cases r with | d r => cases r; exact .base (.int b)
  | str b => cases r with | d r => cases r; exact .base (.str b)
  | tup l => cases r with | d r => cases r with | tup e r =>
    rcases e with ⟨_, e | ⟨ob, e⟩⟩ | ⟨ob, its, n, e, hc, _⟩
    · exact .base (.tup e)
    · exact .fTuple e
    · exact .kTuple e hc
  | lst l => cases r with | d r => cases r with | lst n e r => exact .base (.lst e)
  | cel hj =>
    cases r with | p m =>
    obtain ⟨xs, e, _⟩ := o.at_ _ (List.mem_of_getElem? hj)
    exact .base (.lst e)
  | obj l hc => cases r with | d r => cases r with | obj n e r => exact .base (.ins e hc.cl hc.ha hc.hn hc.ht hc.hm)
/-- the value's type is known -/
def HasT (z : Z) (st : Sto) : W → Prop
  | .d (.obj c _) => TyC z c
  | .d (.scr _) => False
  | .p a => ∃ (j : Nat) (l : List D), st[j]? = some (a, .lst l)
  | _ => True
def isT : W → String → Bool
  | .d (.int _), T => T == "int"
  | .d (.bl _), T => T == "bool" || T == "int"
  | .d (.str _), T => T == "str"
  | .d (.tup _), T => T == "tuple"
  | .d (.lst _), T => T == "list"
  | .p _, T => T == "list"
  | _, _ => false
structure Kts (z : Z) (t : Value) (w : W) : Prop where
  i : PySem.W.kitOne z.K t (.type "int") = some (isT w "int")
  b : PySem.W.kitOne z.K t (.type "bool") = some (isT w "bool")
  s : PySem.W.kitOne z.K t (.type "str") = some (isT w "str")
  u : PySem.W.kitOne z.K t (.type "tuple") = some (isT w "tuple")
  l : PySem.W.kitOne z.K t (.type "list") = some (isT w "list")
theorem HasT.kts {w : W} (h : HasT z st w) : ∃ t, Tw z st w t ∧ Kts z t w := by
  cases w with
  | d x =>
    cases x with
    | non => exact ⟨_, .non, kit_ty (r := false) (by decide +kernel), kit_ty (r := false) (by decide +kernel), kit_ty (r := false) (by decide +kernel), kit_ty (r := false) (by decide +kernel), kit_ty (r := false) (by decide +kernel)⟩
    | bl b => exact ⟨_, .bl b, kit_ty (r := true) (by decide +kernel), kit_ty (r := true) (by decide +kernel), kit_ty (r := false) (by decide +kernel), kit_ty (r := false) (by decide +kernel), kit_ty (r := false) (by decide +kernel)⟩
    | int b => exact ⟨_, .int b, kit_ty (r := true) (by decide +kernel), kit_ty (r := false) (by decide +kernel), kit_ty (r := false) (by decide +kernel), kit_ty (r := false) (by decide +kernel), kit_ty (r := false) (by decide +kernel)⟩
    | str b => exact ⟨_, .str b, kit_ty (r := false) (by decide +kernel), kit_ty (r := false) (by decide +kernel), kit_ty (r := true) (by decide +kernel), kit_ty (r := false) (by decide +kernel), kit_ty (r := false) (by decide +kernel)⟩
    | tup b => exact ⟨_, .tup b, kit_ty (r := false) (by decide +kernel), kit_ty (r := false) (by decide +kernel), kit_ty (r := false) (by decide +kernel), kit_ty (r := true) (by decide +kernel), kit_ty (r := false) (by decide +kernel)⟩
    | lst b => exact ⟨_, .lst b, kit_ty (r := false) (by decide +kernel), kit_ty (r := false) (by decide +kernel), kit_ty (r := false) (by decide +kernel), kit_ty (r := false) (by decide +kernel), kit_ty (r := true) (by decide +kernel)⟩
    | scr b => exact h.elim
    | obj c l => exact ⟨_, .obj l h, h.kI, h.kB, h.kS, h.kT, h.kL⟩
  | p a =>
    obtain ⟨j, l, hj⟩ := h
    exact ⟨_, .cel hj, kit_ty (r := false) (by decide +kernel), kit_ty (r := false) (by decide +kernel), kit_ty (r := false) (by decide +kernel), kit_ty (r := false) (by decide +kernel), kit_ty (r := true) (by decide +kernel)⟩
theorem Kts.any {t : Value} {w : W} (k : Kts z t w) : PySem.W.kitAny z.K t [.type "list", .type "tuple"] = some (isT w "list" || isT w "tuple") := by
  unfold PySem.W.kitAny
  rw [k.l]
  cases isT w "list" with
  | true => rfl
  | false =>
    show PySem.W.kitAny z.K t [.type "tuple"] = _
    unfold PySem.W.kitAny
    rw [k.u]
    cases isT w "tuple" <;> rfl
/-- isinstance(x, c) -/
theorem ev_isi {T : String} (h : Ev z ta ds st fun w st1 => ∃ t b, Tw z st1 w t ∧ PySem.W.kitOne z.K t (.type T) = some b ∧ P (.d (.bl b)) st1) : Ev z (tCB (rIsi z.K) (tCons ta (tCons (tC (.ty T)) tNil))) ds st P := fun σ H s o Q q => h σ H s o _ fun w st1 v H1 h1 l1 b1 o1 r1 => by
  obtain ⟨t, b, hw, hk, p⟩ := h1
  exact ⟨v, .ty T, t, .type T, b, rfl, .ty T, hw.ty o1 r1, hk, q _ st1 _ H1 p l1 b1 o1 (.d (.bl b))⟩
theorem ev_isiO {C : Addr} (h : Ev z ta ds st fun w st1 => ∃ t b, Tw z st1 w t ∧ PySem.W.kitOne z.K t (.ref C) = some b ∧ P (.d (.bl b)) st1) : Ev z (tCB (rIsi z.K) (tCons ta (tCons (tC (.ref C)) tNil))) ds st P := fun σ H s o Q q => h σ H s o _ fun w st1 v H1 h1 l1 b1 o1 r1 => by
  obtain ⟨t, b, hw, hk, p⟩ := h1
  exact ⟨v, .ref C, t, .ref C, b, rfl, .own C, hw.ty o1 r1, hk, q _ st1 _ H1 p l1 b1 o1 (.d (.bl b))⟩
/-- isinstance(x, (S, T)) -/
theorem ev_isiT2 {S T : String} (h : Ev z ta ds st fun w st1 => ∃ t b, Tw z st1 w t ∧ PySem.W.kitAny z.K t [.type S, .type T] = some b ∧ P (.d (.bl b)) st1) : Ev z (tCB (rIsiT z.K) (tCons ta (tCons (tTup (tCons (tC (.ty S)) (tCons (tC (.ty T)) tNil))) tNil))) ds st P := fun σ H s o Q q => h σ H s o _ fun w st1 v H1 h1 l1 b1 o1 r1 => by
  obtain ⟨t, b, hw, hk, p⟩ := h1
  refine ⟨by show 2 ≤ sizeLine; decide, fun a ha => ?_⟩
  have la : Le (adr st1) H1 (adr st1) (upd H1 a (.tup [.ty S, .ty T])) := Le.alloc ha
  exact ⟨v, a, [.ty S, .ty T], t, [.type S, .type T], b, rfl, upd_same, .cons (.ty S) (.cons (.ty T) .nil), hw.ty (o1.alloc ha) (r1.le la (sub_refl _)), hk, q _ st1 _ _ p (l1.trans la) b1 (o1.alloc ha) (.d (.bl b))⟩
/-! ### own operators -/
variable {C : Addr} {x y : W}
theorem ro_bin {l k : List (Str × D)} (hC : C = z.cl c) (hx : x = .d (.obj c l)) (hy : y = .d (.obj c k)) (h : ∃ g : m.G, m.arg g st [x, y] ∧ ∀ w st', m.res g st w st' → Sub (adr st) (adr st') ∧ P w st') : Ro z (rBin C (sp z m)) x y st P := fun u v H o hu hv Q q => by
  subst hC hx hy
  obtain ⟨g, ha, hr⟩ := h
  have hu' := hu
  have hv' := hv
  cases hu' with | d hu' => cases hu' with | obj n e1 r =>
  cases hv' with | d hv' => cases hv' with | obj n2 e2 r2 =>
  refine ⟨_, _, _, _, _, _, rfl, rfl, e1, e2, g, _, st, ha, .cons hu (.cons hv .nil), o, fun w st3 v H3 hres l3 o3 r3 => ?_⟩
  obtain ⟨b3, p⟩ := hr w st3 hres
  exact q w st3 v H3 p l3 b3 o3 r3
theorem ro_cmp {l : List (Str × D)} {tb : Value} (hC : C = z.cl c) (hx : x = .d (.obj c l)) (hy : Tw z st y tb) (hn : PySem.W.notFirst z.K C tb = true) (h : ∃ g : m.G, m.arg g st [x, y] ∧ ∀ w st', m.res g st w st' → Sub (adr st) (adr st') ∧ P w st') : Ro z (rCmp z.K C (sp z m)) x y st P := fun u v H o hu hv Q q => by
  subst hC hx
  obtain ⟨g, ha, hr⟩ := h
  have hu' := hu
  cases hu' with | d hu' => cases hu' with | obj n e1 r =>
  refine ⟨_, _, _, tb, rfl, e1, hy.ty o hv, hn, g, _, st, ha, .cons hu (.cons hv .nil), o, fun w st3 v H3 hres l3 o3 r3 => ?_⟩
  obtain ⟨b3, p⟩ := hr w st3 hres
  exact q w st3 v H3 p l3 b3 o3 r3
theorem ro_cmpN {l : List (Str × D)} {tb : Value} (hC : C = z.cl c) (hx : x = .d (.obj c l)) (hy : Tw z st y tb) (hn : PySem.W.notFirst z.K C tb = true) (h : ∃ g : m.G, m.arg g st [x, y] ∧ ∀ w st', m.res g st w st' → Sub (adr st) (adr st') ∧ ∃ b, w = .d (.bl b) ∧ P (.d (.bl (!b))) st') : Ro z (rCmpN z.K C (sp z m)) x y st P := fun u v H o hu hv Q q => by
  subst hC hx
  obtain ⟨g, ha, hr⟩ := h
  have hu' := hu
  cases hu' with | d hu' => cases hu' with | obj n e1 r =>
  refine ⟨_, _, _, tb, rfl, e1, hy.ty o hv, hn, g, _, st, ha, .cons hu (.cons hv .nil), o, fun w st3 v H3 hres l3 o3 r3 => ?_⟩
  obtain ⟨b3, b, rfl, p⟩ := hr w st3 hres
  rw [rw_bl r3]
  exact ⟨b, rfl, q _ st3 _ H3 p l3 b3 o3 (.d (.bl _))⟩
theorem ro_has {neg : Bool} {l : List (Str × D)} (hC : C = z.cl c) (hx : x = .d (.obj c l)) (h : ∃ g : m.G, m.arg g st [x, y] ∧ ∀ w st', m.res g st w st' → Sub (adr st) (adr st') ∧ ∃ b, w = .d (.bl b) ∧ P (.d (.bl (if neg then !b else b))) st') : Ro z (rHas neg C (sp z m)) y x st P := fun v u H o hv hu Q q => by
  subst hC hx
  obtain ⟨g, ha, hr⟩ := h
  have hu' := hu
  cases hu' with | d hu' => cases hu' with | obj n e1 r =>
  refine ⟨_, _, _, rfl, e1, g, _, st, ha, .cons hu (.cons hv .nil), o, fun w st3 v H3 hres l3 o3 r3 => ?_⟩
  obtain ⟨b3, b, rfl, p⟩ := hr w st3 hres
  rw [rw_bl r3]
  exact ⟨b, rfl, q _ st3 _ H3 p l3 b3 o3 (.d (.bl _))⟩
theorem et_own {R : Bool → Sto → Prop} (hC : C = z.cl c) (h : Ev z ta ds st fun w st1 => ∃ l, w = .d (.obj c l) ∧ ∃ g : m.G, m.arg g st1 [w] ∧ ∀ w st', m.res g st1 w st' → Sub (adr st1) (adr st') ∧ ∃ b, w = .d (.bl b) ∧ R b st') : EvT z (tTruO C (sp z m) ta) ds st R := fun σ H s o Q q => h σ H s o _ fun w st1 v H1 h1 l1 b1 o1 r1 => by
  subst hC
  obtain ⟨l, rfl, g, ha, hr⟩ := h1
  have r1' := r1
  cases r1' with | d r1' => cases r1' with | obj n e1 r =>
  refine ⟨_, _, _, rfl, e1, g, _, st1, ha, .cons r1 .nil, o1, fun w st3 v H3 hres l3 o3 r3 => ?_⟩
  obtain ⟨b3, b, rfl, p⟩ := hr w st3 hres
  rw [rw_bl r3]
  exact ⟨b, rfl, q b st3 H3 p (l1.trans l3) (fun a m => b3 a (b1 a m)) o3⟩
end
end Q

namespace Q
open PySem L2
section
variable {z : Z} {B : List Addr} {H : Hp}
theorem rps_ints : ∀ {xs : List V} {ns : List Int}, Rps z B H xs (ns.map .int) → xs = ns.map V.int
  | _, [], h => by cases h; rfl
  | _, n :: ns, h => by
    cases h with | cons h t => cases h; rw [rps_ints t]; rfl
theorem rps_bls : ∀ {xs : List V} {ns : List Bool}, Rps z B H xs (ns.map .bl) → xs = ns.map V.bl
  | _, [], h => by cases h; rfl
  | _, n :: ns, h => by
    cases h with | cons h t => cases h; rw [rps_bls t]; rfl
theorem rps_strs : ∀ {xs : List V} {ns : List Str}, Rps z B H xs (ns.map .str) → xs = ns.map V.str
  | _, [], h => by cases h; rfl
  | _, n :: ns, h => by
    cases h with | cons h t => cases h; rw [rps_strs t]; rfl
theorem ints_rps : ∀ (ns : List Int), Rps z B H (ns.map V.int) (ns.map .int)
  | [] => .nil
  | n :: ns => .cons (.int n) (ints_rps ns)
theorem strs_rps : ∀ (ns : List Str), Rps z B H (ns.map V.str) (ns.map .str)
  | [] => .nil
  | n :: ns => .cons (.str n) (strs_rps ns)
theorem Rps.drop : ∀ {xs : List V} {l : List D} (n : Nat), Rps z B H xs l → Rps z B H (xs.drop n) (l.drop n)
  | _, _, 0, r => r
  | _, _, _ + 1, .nil => .nil
  | _, _, n + 1, .cons _ t => Rps.drop n t
theorem Rps.take : ∀ {xs : List V} {l : List D} (n : Nat), Rps z B H xs l → Rps z B H (xs.take n) (l.take n)
  | _, _, 0, _ => .nil
  | _, _, _ + 1, .nil => .nil
  | _, _, n + 1, .cons h t => .cons h (Rps.take n t)
theorem Rps.reverse : ∀ {xs : List V} {l : List D}, Rps z B H xs l → Rps z B H xs.reverse l.reverse
  | _, _, .nil => .nil
  | _, _, .cons h t => by rw [List.reverse_cons, List.reverse_cons]; exact (Rps.reverse t).append (.one h)
def cutD (xs : List D) (lo hi : Option Int) : List D := (xs.drop (HT.sIx xs.length 0 lo)).take (HT.sIx xs.length xs.length hi - HT.sIx xs.length 0 lo)
theorem Rps.cut {xs : List V} {l : List D} (r : Rps z B H xs l) (lo hi : Option Int) : Rps z B H (cutV xs lo hi) (cutD l lo hi) := by
  unfold cutV cutD
  rw [r.length]
  exact (r.drop _).take _
end
section
variable {z : Z} {ds : Ds} {st : Sto} {P : W → Sto → Prop} {ta te : TE} {ua : TA} {w : W}
theorem rc_any {bs : List Bool} (h : SqLs st w (bs.map .bl)) (p : P (.d (.bl (bs.any id))) st) : Rc z (rAny z.K) [w] st P := fun us H o r Q q => by
  obtain ⟨u, rfl, r1⟩ := rws1 r
  obtain ⟨a, xs, rfl, hq, hr⟩ := h.rd o r1
  rw [rps_bls hr] at hq
  exact ⟨a, bs, rfl, hq, q _ st _ H p (Le.refl _ _) (sub_refl _) o (.d (.bl _))⟩
theorem rc_all {bs : List Bool} (h : SqLs st w (bs.map .bl)) (p : P (.d (.bl (bs.all id))) st) : Rc z (rAll z.K) [w] st P := fun us H o r Q q => by
  obtain ⟨u, rfl, r1⟩ := rws1 r
  obtain ⟨a, xs, rfl, hq, hr⟩ := h.rd o r1
  rw [rps_bls hr] at hq
  exact ⟨a, bs, rfl, hq, q _ st _ H p (Le.refl _ _) (sub_refl _) o (.d (.bl _))⟩
theorem rc_sum {ns : List Int} (h : SqLs st w (ns.map .int)) (p : P (.d (.int ns.sum)) st) : Rc z (rSum z.K) [w] st P := fun us H o r Q q => by
  obtain ⟨u, rfl, r1⟩ := rws1 r
  obtain ⟨a, xs, rfl, hq, hr⟩ := h.rd o r1
  rw [rps_ints hr] at hq
  exact ⟨a, ns, rfl, hq, q _ st _ H p (Le.refl _ _) (sub_refl _) o (.d (.int _))⟩
theorem rc_maxL {ns : List Int} (h : SqLs st w (ns.map .int)) (h0 : 0 < ns.length) (p : ∀ m ∈ ns, (∀ y ∈ ns, y ≤ m) → P (.d (.int m)) st) : Rc z (rMax z.K) [w] st P := fun us H o r Q q => by
  obtain ⟨u, rfl, r1⟩ := rws1 r
  obtain ⟨a, xs, rfl, hq, hr⟩ := h.rd o r1
  rw [rps_ints hr] at hq
  exact ⟨a, ns, rfl, hq, h0, fun m hm hle => q _ st _ H (p m hm hle) (Le.refl _ _) (sub_refl _) o (.d (.int _))⟩
theorem rc_minL {ns : List Int} (h : SqLs st w (ns.map .int)) (h0 : 0 < ns.length) (p : ∀ m ∈ ns, (∀ y ∈ ns, m ≤ y) → P (.d (.int m)) st) : Rc z (rMin z.K) [w] st P := fun us H o r Q q => by
  obtain ⟨u, rfl, r1⟩ := rws1 r
  obtain ⟨a, xs, rfl, hq, hr⟩ := h.rd o r1
  rw [rps_ints hr] at hq
  exact ⟨a, ns, rfl, hq, h0, fun m hm hle => q _ st _ H (p m hm hle) (Le.refl _ _) (sub_refl _) o (.d (.int _))⟩
theorem rc_sorted {ns : List Int} (h : SqLs st w (ns.map .int)) (p : ∀ ns' : List Int, ns'.Perm ns → ns'.Pairwise (· ≤ ·) → P (.d (.lst (ns'.map .int))) st) : Rc z (rSortedI z.K) [w] st P := fun us H o r Q q => by
  obtain ⟨u, rfl, r1⟩ := rws1 r
  obtain ⟨a, xs, rfl, hq, hr⟩ := h.rd o r1
  rw [rps_ints hr] at hq
  exact ⟨a, ns, rfl, hq, fun ns' b h1 h2 hb => q _ st _ _ (p ns' h1 h2) (Le.alloc hb) (sub_refl _) (o.alloc hb) (.d (new_lst (o.out hb) hb (ints_rps ns')))⟩
theorem rc_tuple {l : List D} (h : Sq st w l) (p : P (.d (.tup l)) st) : Rc z (fun xs H Q => ∃ p ys, xs = [.ref p] ∧ ((SqL z.K H p ys ∧ ∀ l, H l = none → Q (.ref l) (upd H l (.tup ys))) ∨ (SqT z.K H p ys ∧ Q (.ref p) H))) [w] st P := fun us H o r Q q => by
  obtain ⟨u, rfl, r1⟩ := rws1 r
  have lst : ∀ {l : List D}, SqLs st w l → P (.d (.tup l)) st → ∃ p ys, [u] = [V.ref p] ∧ ((SqL z.K H p ys ∧ ∀ l, H l = none → Q (.ref l) (upd H l (.tup ys))) ∨ (SqT z.K H p ys ∧ Q (.ref p) H)) := fun h p => by
    obtain ⟨a, xs, rfl, hq, hr⟩ := h.rd o r1
    exact ⟨a, xs, rfl, .inl ⟨hq, fun b hb => q _ st _ _ p (Le.alloc hb) (sub_refl _) (o.alloc hb) (.d (new_tup (o.out hb) hb hr))⟩⟩
  cases h with
  | lst => exact lst (.lst l) p
  | scr => exact lst (.scr l) p
  | cel hj => exact lst (.cel hj) p
  | tup =>
    have r2 := r1
    cases r2 with | d r2 => cases r2 with | tup e hr => exact ⟨_, _, rfl, .inr ⟨e.sq, q _ st _ H p (Le.refl _ _) (sub_refl _) o r1⟩⟩
theorem rc_list {l : List D} (h : Sq st w l) (p : P (.d (.lst l)) st) : Rc z (fun xs H Q => ∃ p ys, xs = [.ref p] ∧ (SqL z.K H p ys ∨ SqT z.K H p ys) ∧ ∀ l, H l = none → Q (.ref l) (upd H l (.lst ys))) [w] st P := fun us H o r Q q => by
  obtain ⟨u, rfl, r1⟩ := rws1 r
  obtain ⟨a, xs, rfl, hq, hr⟩ := h.rd o r1
  exact ⟨a, xs, rfl, hq, fun b hb => q _ st _ _ p (Le.alloc hb) (sub_refl _) (o.alloc hb) (.d (new_lst (o.out hb) hb hr))⟩
theorem rc_listP {l : List D} (h : Sq st w l) (p : ∀ a, a ∉ adr st → P (.p a) ((a, .lst l) :: st)) : Rc z (fun xs H Q => ∃ p ys, xs = [.ref p] ∧ (SqL z.K H p ys ∨ SqT z.K H p ys) ∧ ∀ l, H l = none → Q (.ref l) (upd H l (.lst ys))) [w] st P := fun us H o r Q q => by
  obtain ⟨u, rfl, r1⟩ := rws1 r
  obtain ⟨a, xs, rfl, hq, hr⟩ := h.rd o r1
  exact ⟨a, xs, rfl, hq, fun b hb => q _ _ _ _ (p b (o.out hb)) (Le.push hb) (fun _ m => List.mem_cons_of_mem _ m) (o.push hb ⟨_, upd_same, hr.le (Le.push hb)⟩) (.p List.mem_cons_self)⟩
theorem ev_revL (h : Ev z te ds st fun w st1 => ∃ l, SqLs st1 w l ∧ P (.d (.lst l.reverse)) st1) : Ev z (tRevL z.K te) ds st P := fun σ H s o Q q => h σ H s o _ fun w st1 v H1 h1 l1 b1 o1 r1 => by
  obtain ⟨l, hs, p⟩ := h1
  obtain ⟨a, xs, rfl, hq, hr⟩ := hs.rd o1 r1
  exact ⟨a, xs, rfl, hq, fun b hb => q _ st1 _ _ p (l1.trans (Le.alloc hb)) b1 (o1.alloc hb) (.d (new_lst (o1.out hb) hb hr.reverse))⟩
/-! ### slices -/
def EvO (z : Z) (to : TO) (ds : Ds) (st : Sto) (R : Option Int → Sto → Prop) : Prop :=
  ∀ σ H, Sl z (adr st) H σ ds → StOk z st H → ∀ Q : Option Int → Hp → Prop, (∀ i st' H', R i st' → Le (adr st) H (adr st') H' → Sub (adr st) (adr st') → StOk z st' H' → Q i H') → to σ H Q
variable {R : Option Int → Sto → Prop}
theorem eo_none (p : R none st) : EvO z tNoPart ds st R := fun σ H s o Q q => q none st H p (Le.refl _ _) (sub_refl _) o
theorem eo_some (h : Ev z te ds st fun w st1 => ∃ i, w = .d (.int i) ∧ R (some i) st1) : EvO z (tPart te) ds st R := fun σ H s o Q q => h σ H s o _ fun w st1 v H1 h1 l1 b1 o1 r1 => by
  obtain ⟨i, rfl, p⟩ := h1
  exact ⟨i, rw_int r1, q (some i) st1 H1 p l1 b1 o1⟩
theorem ev_slL {tl th : TO} (h : Ev z te ds st fun w st1 => EvO z tl ds st1 fun lo st2 => EvO z th ds st2 fun hi st3 => ∃ l, SqLs st3 w l ∧ P (.d (.lst (cutD l lo hi))) st3) : Ev z (tSl (rSlL z.K) te tl th) ds st P := fun σ H s o Q q => h σ H s o _ fun w st1 v H1 h1 l1 b1 o1 r1 =>
  h1 σ H1 (s.le l1 b1) o1 _ fun lo st2 H2 h2 l2 b2 o2 => h2 σ H2 ((s.le l1 b1).le l2 b2) o2 _ fun hi st3 H3 h3 l3 b3 o3 => by
    obtain ⟨l, hs, p⟩ := h3
    obtain ⟨a, xs, rfl, hq, hr⟩ := hs.rd o3 ((r1.le l2 b2).le l3 b3)
    exact ⟨a, xs, rfl, hq, fun b hb => q _ st3 _ _ p (((l1.trans l2).trans l3).trans (Le.alloc hb)) (fun a m => b3 a (b2 a (b1 a m))) (o3.alloc hb) (.d (new_lst (o3.out hb) hb (hr.cut lo hi)))⟩
theorem cut_whole {l : List D} {lo hi : Option Int} (h : HT.sIx l.length 0 lo = 0 ∧ HT.sIx l.length l.length hi = l.length) : cutD l lo hi = l := by
  unfold cutD
  rw [h.1, h.2, List.drop_zero, Nat.sub_zero, List.take_length]
theorem ev_slT {tl th : TO} (h : Ev z te ds st fun w st1 => EvO z tl ds st1 fun lo st2 => EvO z th ds st2 fun hi st3 => ∃ l, w = .d (.tup l) ∧ P (.d (.tup (cutD l lo hi))) st3) : Ev z (tSl (rSlA z.K) te tl th) ds st P := fun σ H s o Q q => h σ H s o _ fun w st1 v H1 h1 l1 b1 o1 r1 =>
  h1 σ H1 (s.le l1 b1) o1 _ fun lo st2 H2 h2 l2 b2 o2 => h2 σ H2 ((s.le l1 b1).le l2 b2) o2 _ fun hi st3 H3 h3 l3 b3 o3 => by
    obtain ⟨l, rfl, p⟩ := h3
    have r3 := (r1.le l2 b2).le l3 b3
    have r4 := r3
    cases r4 with | d r4 => cases r4 with | tup e hr =>
    refine ⟨_, _, rfl, e.sq, fun hw => ?_, fun hw b hb => ?_⟩
    · rw [hr.length] at hw
      rw [cut_whole hw] at p
      exact q _ st3 _ _ p ((l1.trans l2).trans l3) (fun a m => b3 a (b2 a (b1 a m))) o3 r3
    · exact q _ st3 _ _ p (((l1.trans l2).trans l3).trans (Le.alloc hb)) (fun a m => b3 a (b2 a (b1 a m))) (o3.alloc hb) (.d (new_tup (o3.out hb) hb (hr.cut lo hi)))
/-! ### comprehensions -/
theorem et_yes {R : Bool → Sto → Prop} (p : R true st) : EvT z tYes ds st R := fun σ H s o Q q => q true st H p (Le.refl _ _) (sub_refl _) o
theorem ev_lc {wi : TI} {g : TG} {tt : TT} {vs is : List Nat} (hv : ∀ i ∈ is, i ∈ vs) (h : EvI z wi ds st fun l C st1 => ∃ Iv : Nat → List D → Sto → Prop, Iv 0 [] st1 ∧ (∀ i acc st', Iv i acc st' → Still C st' ∧ acc.length < 16000000) ∧
      (∀ (i : Nat) d acc st' a, l[i]? = some d → Iv i acc st' → a ∉ adr st' → Gt z g is (.d d) (wip ds vs) ((a, .lst acc) :: st') fun ds2 => EvT z tt ds2 ((a, .lst acc) :: st') fun b st2 => if b = true then Ev z te ds2 st2 fun w st3 => ∃ d' st4, w = .d d' ∧ st3 = (a, .lst acc) :: st4 ∧ Iv (i + 1) (acc ++ [d']) st4 else ∃ st4, st2 = (a, .lst acc) :: st4 ∧ Iv (i + 1) acc st4) ∧
      ∀ acc st', Iv l.length acc st' → Sub (adr st) (adr st') ∧ P (.d (.lst acc)) st') : Ev z (tLc wi g tt te vs) ds st P := fun σ H s o Q q => h σ H s o _ fun l C st1 J H1 h1 l1 b1 o1 y => by
  obtain ⟨Iv, i0, iC, turn, fin⟩ := h1
  intro a ha
  have lp : Le (adr st1) H1 (a :: adr st1) (upd H1 a (.lst [])) := Le.push ha
  have op : StOk z ((a, .lst []) :: st1) (upd H1 a (.lst [])) := o1.push ha ⟨[], upd_same, .nil⟩
  have sl0 : Sl z (adr st1) H1 σ ds := s.le l1 b1
  refine ⟨fun i m H' => m = l.length - i ∧ i ≤ l.length ∧ ∃ acc st', Iv i acc st' ∧ Le (adr st1) H1 (a :: adr st') H' ∧ Sl z (a :: adr st') H' (wipe σ vs) (wip ds vs) ∧ StOk z ((a, .lst acc) :: st') H', ⟨l.length, by simp, Nat.zero_le _, [], st1, i0, lp, (sl0.le lp fun _ m => List.mem_cons_of_mem _ m).wipe vs, op⟩, ?_⟩
  rintro i m H' ⟨rfl, hi, acc, st', hI, hl, hs, ho⟩
  have na : a ∉ adr st' := (List.nodup_cons.mp ho.nd).1
  obtain ⟨stl, hacc⟩ := iC _ _ _ hI
  by_cases hlt : i < l.length
  · obtain ⟨go, yld⟩ := y.1 i l[i] ((a, .lst acc) :: st') H' hl ho stl.cons (List.getElem?_eq_getElem hlt)
    refine .inr ⟨go, fun H2 => ∃ acc st', Iv (i + 1) acc st' ∧ Le (adr st1) H1 (a :: adr st') H2 ∧ Sl z (a :: adr st') H2 (wipe σ vs) (wip ds vs) ∧ StOk z ((a, .lst acc) :: st') H2, fun H2 hN => ⟨l.length - (i + 1), by omega, rfl, hlt, hN⟩, fun x H2 hy => ?_⟩
    obtain ⟨sm, rx⟩ := yld x H2 hy
    have hl2 : Le (a :: adr st') H' (a :: adr st') H2 := Le.same sm
    have ho2 := ho.same sm
    have hs2 := hs.le hl2 (sub_refl _)
    refine turn i l[i] acc st' a (List.getElem?_eq_getElem hlt) hI na (wipe σ vs) H2 x hs2 ho2 (.d rx) _ fun ds2 σ2 h2 s2 w2 => ⟨?_, h2 σ2 H2 s2 ho2 _ fun b st2 H3 h3 l3 b3 o3 => ?_⟩
    · rw [w2 vs hv]
      apply List.ext_getElem?
      intro j
      rw [wipe_get, wipe_length, wipe_get]
      by_cases m : j ∈ vs
      · rw [if_pos m, if_pos m]
      · rw [if_neg m, if_neg m]
    · cases b with
      | false =>
        obtain ⟨st4, rfl, i4⟩ := h3
        exact ⟨acc, st4, i4, (hl.trans hl2).trans l3, hs2.le l3 b3, o3⟩
      | true =>
        show te σ2 H3 _
        refine h3 σ2 H3 (s2.le l3 b3) o3 _ fun w st3 v H4 h4 l4 b4 o4 r4 => ?_
        obtain ⟨d', st4, rfl, rfl, i4⟩ := h4
        obtain ⟨xs, ea, rxs⟩ := o4.at_ _ List.mem_cons_self
        cases r4 with | d r4 =>
        have lw : Le (a :: adr st4) H4 (a :: adr st4) (upd H4 a (.lst (xs ++ [v]))) := Le.mut List.mem_cons_self
        refine ⟨xs, ea, by rw [rxs.length]; exact Nat.lt_of_lt_of_le hacc (by decide), acc ++ [d'], st4, i4, (((hl.trans hl2).trans l3).trans l4).trans lw, ((hs2.le l3 b3).le l4 b4).le lw (sub_refl _), ?_⟩
        exact o4.write (j := 0) (c := .lst acc) rfl ⟨_, upd_same, (rxs.append (.one r4)).le lw⟩
  · have e : i = l.length := by omega
    subst e
    obtain ⟨b2, p⟩ := fin acc st' hI
    refine .inl ⟨y.2 _ ((a, .lst acc) :: st') H' hl ho stl.cons (Nat.le_refl _), ?_⟩
    obtain ⟨xs, ea, rxs⟩ := ho.at_ _ List.mem_cons_self
    have o' : StOk z st' H' := ho.less (fun q m => List.mem_cons_of_mem _ m) (List.nodup_cons.mp ho.nd).2
    have l2 := l1.trans hl
    exact q _ st' _ H' p ⟨l2.keep, l2.trk, fun b m => l2.new b (List.mem_cons_of_mem _ m)⟩ b2 o' (.d (.lst na ea (rxs.less fun b m => List.mem_cons_of_mem _ m)))
end
end Q

namespace Q
open PySem L2
def valD (kvs : List (Key × D)) (k : Key) : Option D := (kvs.find? fun kv => decide (kv.1 = k)).map (·.2)
def putD (kvs : List (Key × D)) (k : Key) (v : D) : List (Key × D) :=
  if (kvs.any fun kv => decide (kv.1 = k)) = true then kvs.map (fun kv => if kv.1 = k then (kv.1, v) else kv) else kvs ++ [(k, v)]
def kD : Key → D
  | .inl i => .int i
  | .inr x => .str x
section
variable {z : Z} {B : List Addr} {H : Hp}
theorem Rpk.length : ∀ {es : List (Key × V)} {kvs : List (Key × D)}, Rpk z B H es kvs → es.length = kvs.length
  | _, _, .nil => rfl
  | _, _, .cons _ t => congrArg Nat.succ t.length
theorem Rpk.any {k : Key} : ∀ {es : List (Key × V)} {kvs : List (Key × D)}, Rpk z B H es kvs → (es.any fun kv => decide (kv.1 = k)) = (kvs.any fun kv => decide (kv.1 = k))
  | _, _, .nil => rfl
  | _, _, .cons _ t => by rw [List.any_cons, List.any_cons, Rpk.any t]
theorem Rpk.map {k : Key} {v : V} {d : D} (r : Rp z B H v d) : ∀ {es : List (Key × V)} {kvs : List (Key × D)}, Rpk z B H es kvs → Rpk z B H (es.map fun kv => if kv.1 = k then (kv.1, v) else kv) (kvs.map fun kv => if kv.1 = k then (kv.1, d) else kv)
  | _, _, .nil => .nil
  | _, _, .cons (f := f) h t => by
    rw [List.map_cons, List.map_cons]
    by_cases e : f = k
    · simp only [e, if_true]
      exact .cons r (Rpk.map r t)
    · simp only [e, if_false]
      exact .cons h (Rpk.map r t)
theorem Rpk.snoc {k : Key} {v : V} {d : D} (r : Rp z B H v d) : ∀ {es : List (Key × V)} {kvs : List (Key × D)}, Rpk z B H es kvs → Rpk z B H (es ++ [(k, v)]) (kvs ++ [(k, d)])
  | _, _, .nil => .cons r .nil
  | _, _, .cons h t => .cons h (Rpk.snoc r t)
theorem Rpk.put {k : Key} {v : V} {d : D} (r : Rp z B H v d) {es : List (Key × V)} {kvs : List (Key × D)} (h : Rpk z B H es kvs) : Rpk z B H (putK es k v) (putD kvs k d) := by
  unfold putK putD
  rw [h.any]
  by_cases e : (kvs.any fun kv => decide (kv.1 = k)) = true
  · rw [if_pos e, if_pos e]; exact h.map r
  · rw [if_neg e, if_neg e]; exact h.snoc r
theorem Rpk.val {k : Key} {d : D} : ∀ {es : List (Key × V)} {kvs : List (Key × D)}, Rpk z B H es kvs → valD kvs k = some d → ∃ v, valV es k = some v ∧ Rp z B H v d
  | _, _, .nil, e => by simp [valD] at e
  | _, _, .cons (f := f) h t, e => by
    by_cases q : f = k
    · rw [valV_pos (by exact q)]
      simp [valD, q] at e
      subst e
      exact ⟨_, rfl, h⟩
    · rw [valV_neg (by exact q)]
      simp [valD, q] at e
      exact Rpk.val t (by simpa [valD] using e)
theorem Rpk.valN {k : Key} : ∀ {es : List (Key × V)} {kvs : List (Key × D)}, Rpk z B H es kvs → valD kvs k = none → valV es k = none
  | _, _, .nil, _ => rfl
  | _, _, .cons (f := f) h t, e => by
    by_cases q : f = k
    · simp [valD, q] at e
    · rw [valV_neg (by exact q)]
      simp only [valD, List.find?_cons, q, decide_false] at e
      exact Rpk.valN t e
theorem Rpk.get {i : Nat} {k : Key} {d : D} : ∀ {es : List (Key × V)} {kvs : List (Key × D)} {i : Nat}, Rpk z B H es kvs → kvs[i]? = some (k, d) → ∃ v, es[i]? = some (k, v) ∧ Rp z B H v d
  | _, _, _, .nil, e => by simp at e
  | _, _, 0, .cons h _, e => by simp at e; obtain ⟨rfl, rfl⟩ := e; exact ⟨_, rfl, h⟩
  | _, _, i + 1, .cons _ t, e => by simpa using Rpk.get (i := i) t (by simpa using e)
theorem rp_key {k : Key} : Rp z B H (kV k) (kD k) := by
  cases k with
  | inl i => exact .int i
  | inr x => exact .str x
theorem rp_keyV {k : Key} {v : V} (h : Rp z B H v (kD k)) : v = kV k := by
  cases k with
  | inl i => cases h; rfl
  | inr x => cases h; rfl
end
/-! ### a new dict that is only walked -/
def iKeysN (td : TE) : TI := fun σ H R => td σ H fun x H1 => ∃ d kvs, x = .ref d ∧ H1 d = some (.dK kvs) ∧ ∀ o, R (Itk d o kvs) (upd H1 d (.frz o (.dK kvs)))
open PyProof.Rows in
theorem pi_keysN {X : Cx} {tg e : Expr} {td : TE} (he : PE X e td) : PI X tg e (iKeysN td) := by
  refine ⟨fun pins s σ H R I h => ?_⟩
  refine thn (he.run pins s σ H _ I h) fun u s1 ⟨x, H1, I1, rx, d, kvs, ex, hd, q⟩ => ?_
  subst ex
  obtain rfl : u = Value.ref d := rx
  obtain ⟨od, I2⟩ := I1.lock hd trivial
  obtain ⟨hs, hgd, hx, es, ep, vs, hdt, hsz, kv, hm⟩ := I2.frzK upd_same
  refine iter_keys hs hgd hx hdt (pi_one (tk := s1.toks) I2 _ (turn_keys _ hdt) ⟨_, Heap.get?_push_size _ rfl, rfl, ?_⟩ (q od))
  rw [hsz] <;> rfl
section
variable {z : Z} {ds : Ds} {st : Sto} {P : W → Sto → Prop} {ta te td tk tv ty tx : TE} {ua : TA} {A : List D → Option (Addr × List D) → Sto → Prop}
theorem ei_keysN (h : Ev z td ds st fun w st1 => ∃ a kvs st2, w = .p a ∧ st1 = (a, .dk kvs) :: st2 ∧ Sub (adr st) (adr st2) ∧ A (kvs.map fun kv => kD kv.1) none st2) : EvI z (iKeysN td) ds st A := fun σ H s o R q => h σ H s o _ fun w st1 v H1 h1 l1 b1 o1 r1 => by
  obtain ⟨a, kvs, st2, rfl, rfl, b2, p⟩ := h1
  cases r1 with | p m =>
  obtain ⟨es, ea, r⟩ := o1.at_ _ List.mem_cons_self
  have na : a ∉ adr st2 := (List.nodup_cons.mp o1.nd).1
  refine ⟨a, es, rfl, ea, fun ob => ?_⟩
  have lw : Le (a :: adr st2) H1 (a :: adr st2) (upd H1 a (.frz ob (.dK es))) := Le.mut List.mem_cons_self
  have o2 : StOk z st2 (upd H1 a (.frz ob (.dK es))) := by
    refine ⟨(List.nodup_cons.mp o1.nd).2, fun q m => ?_⟩
    have hn : q.1 ≠ a := fun e => na (List.mem_map.mpr ⟨q, m, e⟩)
    exact (((o1.at_ q (List.mem_cons_of_mem _ m)).le lw (upd_ne hn))).less fun b mb => List.mem_cons_of_mem _ mb
  have l2 := l1.trans lw
  refine q _ _ st2 _ _ p ⟨l2.keep, l2.trk, fun b mb => l2.new b (List.mem_cons_of_mem _ mb)⟩ b2 o2 ⟨fun i d st' H' e o' c hd => ?_, fun i st' H' e o' c hi => ?_⟩
  · have hf := e.keep a _ upd_same na
    rw [List.getElem?_map] at hd
    cases hk : kvs[i]? with
    | none => rw [hk] at hd; cases hd
    | some kd =>
      rw [hk] at hd
      have hd' : kD kd.1 = d := Option.some.inj hd
      obtain ⟨x, hx, _⟩ := r.get (k := kd.1) (d := kd.2) (i := i) hk
      have hl := (List.getElem?_eq_some_iff.mp hx).1
      refine ⟨⟨hf, hl⟩, fun y H2 hy => ?_⟩
      obtain ⟨rfl, k, v, hkv, rfl⟩ := hy
      rw [hx] at hkv
      cases hkv
      rw [← hd']
      exact ⟨Same.refl _, rp_key⟩
  · exact ⟨e.keep a _ upd_same na, by rw [r.length]; simpa using hi⟩
theorem ev_dc {wi : TI} {g : TG} {tt : TT} {vs is : List Nat} (hv : ∀ i ∈ is, i ∈ vs) (h : EvI z wi ds st fun l C st1 => ∃ Iv : Nat → List (Key × D) → Sto → Prop, Iv 0 [] st1 ∧ (∀ i acc st', Iv i acc st' → Still C st' ∧ acc.length < 16000000) ∧
      (∀ (i : Nat) d acc st' a, l[i]? = some d → Iv i acc st' → a ∉ adr st' → Gt z g is (.d d) (wip ds vs) ((a, .dk acc) :: st') fun ds2 => EvT z tt ds2 ((a, .dk acc) :: st') fun b st2 => if b = true then Ev z tk ds2 st2 fun w st3 => ∃ k, w = .d (kD k) ∧ Ev z tv ds2 st3 fun u st4 => ∃ d' st5, u = .d d' ∧ st4 = (a, .dk acc) :: st5 ∧ Iv (i + 1) (putD acc k d') st5 else ∃ st4, st2 = (a, .dk acc) :: st4 ∧ Iv (i + 1) acc st4) ∧
      ∀ acc st' a, Iv l.length acc st' → a ∉ adr st' → Sub (adr st) (adr st') ∧ P (.p a) ((a, .dk acc) :: st')) : Ev z (tDc wi g tt tk tv vs) ds st P := fun σ H s o Q q => h σ H s o _ fun l C st1 J H1 h1 l1 b1 o1 y => by
  obtain ⟨Iv, i0, iC, turn, fin⟩ := h1
  intro a ha
  have lp : Le (adr st1) H1 (a :: adr st1) (upd H1 a (.dK [])) := Le.push ha
  have op : StOk z ((a, .dk []) :: st1) (upd H1 a (.dK [])) := o1.push ha ⟨[], upd_same, .nil⟩
  have sl0 : Sl z (adr st1) H1 σ ds := s.le l1 b1
  refine ⟨fun i m H' => m = l.length - i ∧ i ≤ l.length ∧ ∃ acc st', Iv i acc st' ∧ Le (adr st1) H1 (a :: adr st') H' ∧ Sl z (a :: adr st') H' (wipe σ vs) (wip ds vs) ∧ StOk z ((a, .dk acc) :: st') H', ⟨l.length, by simp, Nat.zero_le _, [], st1, i0, lp, (sl0.le lp fun _ m => List.mem_cons_of_mem _ m).wipe vs, op⟩, ?_⟩
  rintro i m H' ⟨rfl, hi, acc, st', hI, hl, hs, ho⟩
  have na : a ∉ adr st' := (List.nodup_cons.mp ho.nd).1
  obtain ⟨stl, hacc⟩ := iC _ _ _ hI
  by_cases hlt : i < l.length
  · obtain ⟨go, yld⟩ := y.1 i l[i] ((a, .dk acc) :: st') H' hl ho stl.cons (List.getElem?_eq_getElem hlt)
    refine .inr ⟨go, fun H2 => ∃ acc st', Iv (i + 1) acc st' ∧ Le (adr st1) H1 (a :: adr st') H2 ∧ Sl z (a :: adr st') H2 (wipe σ vs) (wip ds vs) ∧ StOk z ((a, .dk acc) :: st') H2, fun H2 hN => ⟨l.length - (i + 1), by omega, rfl, hlt, hN⟩, fun x H2 hy => ?_⟩
    obtain ⟨sm, rx⟩ := yld x H2 hy
    have hl2 : Le (a :: adr st') H' (a :: adr st') H2 := Le.same sm
    have ho2 := ho.same sm
    have hs2 := hs.le hl2 (sub_refl _)
    refine turn i l[i] acc st' a (List.getElem?_eq_getElem hlt) hI na (wipe σ vs) H2 x hs2 ho2 (.d rx) _ fun ds2 σ2 h2 s2 w2 => ⟨?_, h2 σ2 H2 s2 ho2 _ fun b st2 H3 h3 l3 b3 o3 => ?_⟩
    · rw [w2 vs hv]
      apply List.ext_getElem?
      intro j
      rw [wipe_get, wipe_length, wipe_get]
      by_cases m : j ∈ vs
      · rw [if_pos m, if_pos m]
      · rw [if_neg m, if_neg m]
    · cases b with
      | false =>
        obtain ⟨st4, rfl, i4⟩ := h3
        exact ⟨acc, st4, i4, (hl.trans hl2).trans l3, hs2.le l3 b3, o3⟩
      | true =>
        show tk σ2 H3 _
        refine h3 σ2 H3 (s2.le l3 b3) o3 _ fun w st3 v H4 h4 l4 b4 o4 r4 => ?_
        obtain ⟨k, rfl, h4⟩ := h4
        refine h4 σ2 H4 ((s2.le l3 b3).le l4 b4) o4 _ fun w st5 v5 H5 h5 l5 b5 o5 r5 => ?_
        obtain ⟨d', st6, rfl, rfl, i6⟩ := h5
        obtain ⟨xs, ea, rxs⟩ := o5.at_ _ List.mem_cons_self
        cases r4 with | d r4 => cases r5 with | d r5 =>
        have lw : Le (a :: adr st6) H5 (a :: adr st6) (upd H5 a (.dK (putK xs k v5))) := Le.mut List.mem_cons_self
        refine ⟨xs, k, rp_keyV r4, ea, by rw [rxs.length]; exact Nat.lt_of_lt_of_le hacc (by decide), putD acc k d', st6, i6, ((((hl.trans hl2).trans l3).trans l4).trans l5).trans lw, (((hs2.le l3 b3).le l4 b4).le l5 b5).le lw (sub_refl _), ?_⟩
        exact o5.write (j := 0) (c := .dk acc) rfl ⟨_, upd_same, (rxs.put r5).le lw⟩
  · have e : i = l.length := by omega
    subst e
    obtain ⟨b2, p⟩ := fin acc st' a hI na
    refine .inl ⟨y.2 _ ((a, .dk acc) :: st') H' hl ho stl.cons (Nat.le_refl _), ?_⟩
    exact q _ _ _ H' p (l1.trans hl) (fun b m => List.mem_cons_of_mem _ (b2 b m)) ho (.p List.mem_cons_self)
/-! ### dict cells by keys -/
theorem ev_dnew (p : ∀ a, a ∉ adr st → P (.p a) ((a, .dk []) :: st)) : Ev z tDNewK ds st P := fun σ H s o Q q => fun a ha =>
  q _ _ _ _ (p a (o.out ha)) (Le.push ha) (fun _ m => List.mem_cons_of_mem _ m) (o.push ha ⟨[], upd_same, .nil⟩) (.p List.mem_cons_self)
theorem ev_dget {h : Ev z td ds st fun w st1 => ∃ a, w = .p a ∧ Ev z ty ds st1 fun y st2 => ∃ (j : Nat) (kvs : List (Key × D)) (k : Key) (d : D), y = .d (kD k) ∧ st2[j]? = some (a, .dk kvs) ∧ valD kvs k = some d ∧ P (.d d) st2} : Ev z (tDGet td ty) ds st P := fun σ H s o Q q => h σ H s o _ fun w st1 v H1 h1 l1 b1 o1 r1 => by
  obtain ⟨a, rfl, h1⟩ := h1
  cases r1 with | p m1 =>
  refine h1 σ H1 (s.le l1 b1) o1 _ fun y st2 u H2 h2 l2 b2 o2 r2 => ?_
  obtain ⟨j, kvs, k, d, rfl, hj, hv, p⟩ := h2
  cases r2 with | d r2 =>
  obtain ⟨es, ea, r⟩ := o2.at_ _ (List.mem_of_getElem? hj)
  obtain ⟨x, hx, rx⟩ := r.val hv
  refine ⟨a, x, rfl, ?_, q _ st2 _ H2 p (l1.trans l2) (fun a m => b2 a (b1 a m)) o2 (.d rx)⟩
  rw [rp_keyV r2, ← hx]
  exact DGet.k ea
theorem ev_dget2 (h : Ev z td ds st fun w st1 => ∃ (a : Addr) (j0 : Nat) (kv0 : List (Key × D)), w = .p a ∧ st1[j0]? = some (a, .dk kv0) ∧ Ev z ty ds st1 fun y st2 => Ev z tx ds st2 fun x st3 => ∃ (j : Nat) (kvs : List (Key × D)) (k : Key) (dx : D), x = .d dx ∧ y = .d (kD k) ∧ st3[j]? = some (a, .dk kvs) ∧ P (.d ((valD kvs k).getD dx)) st3) : Ev z (tDGet2 td ty tx) ds st P := fun σ H s o Q q => h σ H s o _ fun w st1 v H1 h1 l1 b1 o1 r1 => by
  obtain ⟨a, j0, kv0, rfl, hj0, h1⟩ := h1
  cases r1 with | p m1 =>
  obtain ⟨es0, ea0, _⟩ := o1.at_ _ (List.mem_of_getElem? hj0)
  refine ⟨a, rfl, .inl ⟨es0, .inl ea0⟩, ?_⟩
  refine h1 σ H1 (s.le l1 b1) o1 _ fun y st2 u H2 h2 l2 b2 o2 r2 => ?_
  refine h2 σ H2 ((s.le l1 b1).le l2 b2) o2 _ fun x st3 u3 H3 h3 l3 b3 o3 r3 => ?_
  obtain ⟨j, kvs, k, dx, rfl, rfl, hj, p⟩ := h3
  cases r2 with | d r2 => cases r3 with | d r3 =>
  obtain ⟨es, ea, r⟩ := o3.at_ _ (List.mem_of_getElem? hj)
  have hb : ∀ a ∈ adr st, a ∈ adr st3 := fun a m => b3 a (b2 a (b1 a m))
  refine ⟨valV es k, by rw [rp_keyV r2]; exact DGet.k ea, ?_⟩
  cases hv : valD kvs k with
  | none =>
    rw [r.valN hv]
    rw [hv] at p
    exact q _ st3 _ H3 p ((l1.trans l2).trans l3) hb o3 (.d r3)
  | some d =>
    obtain ⟨x, hx, rx⟩ := r.val hv
    rw [hx]
    rw [hv] at p
    exact q _ st3 _ H3 p ((l1.trans l2).trans l3) hb o3 (.d rx)
theorem wp_dput {Pp : Po} (h : Ev z tv ds st fun w st1 => ∃ d, w = .d d ∧ Ev z td ds st1 fun x st2 => ∃ a, x = .p a ∧ Ev z ty ds st2 fun y st3 => ∃ (j : Nat) (kvs : List (Key × D)) (k : Key), y = .d (kD k) ∧ st3[j]? = some (a, .dk kvs) ∧ kvs.length < 16000000 ∧ Pp.nx ds (st3.set j (a, .dk (putD kvs k d)))) : Wp z (sDPut td ty tv) ds st Pp := fun E σ H s o c =>
  h σ H s o _ fun w st1 v H1 h1 l1 b1 o1 r1 => by
    obtain ⟨d, rfl, h1⟩ := h1
    cases r1 with | d r1 =>
    refine h1 σ H1 (s.le l1 b1) o1 _ fun x st2 u H2 h2 l2 b2 o2 r2 => ?_
    obtain ⟨a, rfl, h2⟩ := h2
    cases r2 with | p m2 =>
    refine h2 σ H2 ((s.le l1 b1).le l2 b2) o2 _ fun y st3 u3 H3 h3 l3 b3 o3 r3 => ?_
    obtain ⟨j, kvs, k, rfl, hj, hl, p⟩ := h3
    cases r3 with | d r3 =>
    obtain ⟨es, ea, r⟩ := o3.at_ _ (List.mem_of_getElem? hj)
    have ec := adr_set (c' := .dk (putD kvs k d)) hj
    have rv : Rp z (adr st3) H3 v d := (r1.le l2).le l3
    have lw : Le (adr st3) H3 (adr st3) (upd H3 a (.dK (putK es k v))) := Le.mut (mem_adr hj)
    refine ⟨a, _, rfl, .inl ⟨es, k, ea, rp_keyV r3, by rw [r.length]; exact Nat.lt_of_lt_of_le hl (by decide), rfl⟩, ?_⟩
    exact c.nx ds _ σ _ p (by rw [ec]; exact ((l1.trans l2).trans l3).trans lw) (by rw [ec]; exact (((s.le l1 b1).le l2 b2).le l3 b3).le lw (sub_refl _)) (o3.write hj ⟨_, upd_same, (r.put rv).le lw⟩)
end
end Q

namespace PySem
open Sem (wp)
open AutoSeq1 (wpAny_loadPart')
set_option maxHeartbeats 1000000 in
theorem q_enumerate_newT (l : Addr) (items : Array Value) (n : Nat) (dct : Option Addr) (sl : Array (Option Value)) :
    Meets (Builtin.«enumerate.__new__» ⟨[.type "enumerate", .ref l], []⟩) (fun _ R s => s.heap.get? l = some { cls := .type "tuple", dict := dct, data := .seq items n, slots := sl } ∧
      R (.ok (.ret (.ref (s.heap.push { cls := .type "tuple_iterator", data := .fields #[.ref l, .int 0 0] }).objs.size)))
        { s with heap := (s.heap.push { cls := .type "tuple_iterator", data := .fields #[.ref l, .int 0 0] }).push { cls := .type "enumerate", data := .fields #[.none, .bool false, .ref s.heap.objs.size, rawInt 0, .none, .none] } }) :=
  .of_wp fun prog w A R s h => by
    obtain ⟨hp, g, d, tk, os⟩ := s; obtain ⟨hl, h⟩ := h
    have hsub := sub_enumerate
    have hL : Heap.IsTuple (Shared.heap ⟨hp, g, d, tk, os⟩) l items := ⟨_, hl, rfl, n, rfl⟩
    wp_walk using wpAny_loadPart' hl
    refine wpAny_stack_any fun st => wpAny_pure ?_
    split
    · rename_i c _ _ _ _ _
      cases (c == Value.type "enumerate")
      · wp_walk using wpAny_loadPart' hl, wpAny_pyIter_tuple hL
        exact ⟨_, rfl, h⟩
      · wp_walk using wpAny_loadPart' hl, wpAny_pyIter_tuple hL
        exact ⟨_, rfl, h⟩
    · wp_walk using wpAny_loadPart' hl, wpAny_pyIter_tuple hL
      exact ⟨_, rfl, h⟩
section
variable {prog : Program} {w : World} {A : Around} {E : Value → Shared → Prop} {s : Shared}
theorem q_call_enumT {l : Addr} {items : Array Value} {Q : Value → Shared → Prop} (hL : s.heap.IsTuple l items)
    (h : ∀ h', IsEnum h' (s.heap.objs.size + 1) s.heap.objs.size 0 .none → h'.IsTupleIter s.heap.objs.size l 0 → h'.objs.size = s.heap.objs.size + 2 →
      (∀ b o, s.heap.get? b = some o → h'.get? b = some o) → Q (.ref (s.heap.objs.size + 1)) { s with heap := h' }) :
    wpAny (model prog w) A (call (.type "enumerate") [.ref l]) Q E s := by
  obtain ⟨⟨c, dct, dt, sl⟩, hl, hc, n, hd⟩ := hL
  replace hc : c = .type "tuple" := hc
  replace hd : dt = .seq items n := hd
  subst hc hd
  refine callType_new F.called_enumerate (by decide) (F.typeCall_enumerate_1 _) (F.newCall_enumerate_1 _) (fun obj => F.args_object_init_2 obj _) F.entry_enumerate_new
    (q_enumerate_newT l items n dct sl) ⟨hl, ?_⟩
  have hz : (s.heap.push { cls := .type "tuple_iterator", data := .fields #[.ref l, .int 0 0] }).objs.size = s.heap.objs.size + 1 := Heap.size_push ..
  show _ ∧ _
  rw [hz]
  have he : IsEnum ((s.heap.push { cls := .type "tuple_iterator", data := .fields #[.ref l, .int 0 0] }).push
      { cls := .type "enumerate", data := .fields #[.none, .bool false, .ref s.heap.objs.size, rawInt 0, .none, .none] }) (s.heap.objs.size + 1) s.heap.objs.size 0 .none := by
    have := Heap.get?_push_size (s.heap.push { cls := .type "tuple_iterator", data := .fields #[.ref l, .int 0 0] })
      (o := { cls := .type "enumerate", data := .fields #[.none, .bool false, .ref s.heap.objs.size, rawInt 0, .none, .none] }) rfl
    rw [hz] at this; exact this
  refine ⟨⟨_, he, rfl⟩, h _ he ⟨_, Heap.get?_push_of_some _ (Heap.get?_push_size _ rfl), rfl, rfl⟩ (by rw [Heap.size_push, hz]) fun b o x => Heap.get?_push_of_some _ (Heap.get?_push_of_some _ x)⟩
end
end PySem
namespace Q
open PySem L2 PyProof.Rows
/-! ### enumerate(tuple) -/
def IteT (K : PySem.W.Frag) (a : Addr) : It :=
  ⟨fun i H => ∃ (xs : List V) (x : V), SqT K H a xs ∧ xs[i]? = some x, fun i H v H' => ∃ T x, v = .ref T ∧ H T = none ∧ H' = upd H T (.tup [.int (i : Nat), x]) ∧ ∀ xs, SqT K H a xs → xs[i]? = some x, fun i H => ∃ xs : List V, SqT K H a xs ∧ xs.length ≤ i⟩
theorem turn_enumT {P : Program} {w : World} {K : PySem.W.Frag} {elts : List Expr} {kk : Nat} {tpos : Pos} (a e it : Addr) (hae : a ≠ e) (hai : a ≠ it) :
    Turn P w K (.Tuple elts kk tpos) (IteT K a) [e, it] e (fun i h => (∃ old, IsEnum h e it ((i : Nat) : Int) old) ∧ h.IsTupleIter it a i ∧ e ≠ it) where
  mem := by simp
  obj := fun i h st b hb => by
    obtain ⟨⟨old, he⟩, ⟨o, ho, hc, hd⟩, _⟩ := st
    have e' : b = e ∨ b = it := by simpa using hb
    rcases e' with z | z
    · rw [z]; exact ⟨_, he, fun v q => nomatch q⟩
    · rw [z]; exact ⟨o, ho, fun v q => by rw [hd] at q; cases q⟩
  keep := fun i h h' st k => let ⟨⟨old, he⟩, hi, hne⟩ := st; ⟨⟨old, k e (by simp) _ he⟩, hi.at fun o q => k it (by simp) o q, hne⟩
  item := by
    intro X hP hw hK hc i pins s σ H E I hf st hg
    subst hP hw hK
    obtain ⟨⟨old, he⟩, hit, hne⟩ := st
    obtain ⟨xs, x, hq, hx⟩ := hg
    obtain ⟨its, rv, p, hz⟩ := I.tuple hq
    obtain ⟨u, hu, ru⟩ := rv.get hx
    have hel : e < s.heap.objs.size := Heap.lt_size he
    have hil : it < s.heap.objs.size := by obtain ⟨_, q, _⟩ := hit; exact Heap.lt_size q
    have hil2 : i < its.toArray.size := by
      rw [List.size_toArray]
      exact (List.getElem?_eq_some_iff.mp hu).1
    refine wpAny_pyNext_enum_itemD (Draws.tuple (prog := X.prog) (w := X.w) (A := X.A.in1) (show X.A.in1.handled = none from I.ok.hd hc) it a hai its.toArray) he ⟨hit, p⟩ hil2 hne (by
      intro m
      rcases List.mem_cons.mp m with q | q
      · exact hne q
      · exact hae (List.mem_singleton.mp q).symm) fun x' h' tk hx' ho hit' hT hsz hk => ?_
    have eu : x' = u := by
      have h1 : its[i]? = some x' := by simpa using hx'
      rw [hu] at h1
      exact (Option.some.inj h1).symm
    subst eu
    refine ⟨_, rfl, wpAny_letOwnedTupleGo_enum (s := { s with heap := h', toks := tk + 1 }) ho fun h'' he' sb => ?_⟩
    have hT2 : h''.get? s.heap.objs.size = some { cls := .type "tuple", data := .seq #[.int i tk, x'] } := (sb.2 _ (Nat.ne_of_gt hel)).trans hT
    have new : ObjOk X.prog X.w (upd H s.heap.objs.size (.tup [.int (i : Nat), x])) h'' s.heap.objs.size (.tup [.int (i : Nat), x]) :=
      ⟨by show 2 ≤ sizeLine; decide, [.int i tk, x'], .cons ⟨_, rfl⟩ (.cons ru .nil), ⟨_, hT2, rfl, _, rfl⟩⟩
    have I1 : Inv X pins σ (upd H s.heap.objs.size (.tup [.int (i : Nat), x])) { s with heap := h'', toks := tk + 1 } :=
      I.turnedNew (ch := [e, it]) (fun b ob hb q => (sb.2 b (fun z => hb (by simp [z]))).trans (hk b ob (fun z => hb (by simp [z])) (fun z => hb (by simp [z])) q)) hf (Nat.le_refl _) new
    refine ⟨.ref s.heap.objs.size, _, I1, rfl, ⟨_, x, rfl, I.hok.fresh (Nat.le_refl _), rfl, fun ys hy => by rw [I.tuple_inj hy hq]; exact hx⟩, ⟨⟨x', ?_⟩, hit'.1.at fun o q => (sb.2 it (Ne.symm hne)).trans q, hne⟩, fun b hb => ?_⟩
    · have e1 : ((i + 1 : Nat) : Int) = (i : Int) + 1 := by omega
      rw [e1]; exact he'
    · have hb' : b < s.heap.objs.size := by
        have e' : b = e ∨ b = it := by simpa using hb
        rcases e' with z | z
        · rw [z]; exact hel
        · rw [z]; exact hil
      rw [upd_ne (Nat.ne_of_lt hb')]
      exact (hf b hb).1
  done := by
    intro X hP hw hK hc i pins s σ H E I hf st hg
    subst hP hw hK
    obtain ⟨⟨old, he⟩, hit, hne⟩ := st
    obtain ⟨xs, hq, hx⟩ := hg
    obtain ⟨its, rv, p, hz⟩ := I.tuple hq
    obtain ⟨f0, f1, f2, f3, f4, f5⟩ := hf it (by simp)
    have hl := rv.length
    refine q_enum_end (I.ok.hd hc) he hit p (by simp; omega) fun h' eb => ⟨rfl, I.turned (t' := s.toks) (fun b o hb q => eb b o hb q) f0 f1 f3 f4 f5⟩
  self := fun A i s Q E st h => let ⟨⟨_, he⟩, _⟩ := st; wpAny_pyIter_enum he h
where
  q_enum_end {prog : Program} {w : World} {A : Around} {E : Value → Shared → Prop} {s : Shared} {e it a : Addr} {i : Nat} {c : Int} {old : Value} {items : Array Value} {Q : Option Value → Shared → Prop} (hh : A.handled = none) (he : IsEnum s.heap e it c old) (hit : s.heap.IsTupleIter it a i) (hL : s.heap.IsTuple a items) (hi : items.size ≤ i)
    (hQ : ∀ h', Heap.ExtBut it s.heap h' → Q none { s with heap := h' }) : wpAny (model prog w) A (pyNext (.ref e)) Q E s := by
    have hT : s.TypeIs (.ref e) "enumerate" := ⟨_, he, rfl⟩
    unfold pyNext
    refine wpAny_bind (wpAny_attempt (wpAny_callSpecial?_slot (name := Str.ofString "__next__") hT F.slot_enumerate_next
      (wpAny_call_entry F.slot_enumerate_next hT F.entry_enumerate_next ?_ (F.args_enumerate_next_1 _))))
    show wpAny _ _ (field (.ref e) 2 >>= _) _ _ _
    refine wpAny_bind (wpAny_field he rfl (x := .ref it) rfl ?_)
    refine wpAny_bind (wpAny_nextOf_tuple_end (show A.in1.handled = none from hh) hit hL (by simp; omega) fun h' x he' hx' => ?_)
    obtain ⟨o, ho, hc⟩ := hx'
    refine wpAny_bind (wpAny_isInstance (T := "StopIteration") (b := true) ⟨o, ho, hc⟩ isSubtype_stop ?_)
    exact wpAny_pure (hQ _ he')
def iEnumT (K : PySem.W.Frag) (ta : TA) : TI := fun σ H R => ta σ H fun vs H1 => ∃ a xs, vs = [.ref a] ∧ SqT K H1 a xs ∧ R (IteT K a) H1
theorem pi_enumT {X : Cx} {e : Expr} {ta : TA} {p pos tpos : Pos} {elts : List Expr} {kk : Nat} (hg : Gl X "enumerate") (hm : X.mg "enumerate" = none) (ha : PA X [e] ta) (hs : starEach [e] X.env = [(false, eval e X.env)] := by rfl) :
    PI X (.Tuple elts kk tpos) (.Call (.Name "enumerate" p) [e] [] pos) (iEnumT X.K ta) := by
  refine ⟨fun pins s σ H R I h => ?_⟩
  refine Call_ (ld_blt I hg hm boot_enumerate (PyProof.Rows.callWith_type1 (thn (ha.run pos pins s σ H _ I h) fun us s1 ⟨vs, H1, I1, r1, q1⟩ => ?_) hs rfl))
  obtain ⟨a, xs, ex, hq, q⟩ := q1
  subst ex
  cases r1 with
  | cons r rr =>
    cases rr
    cases r
    obtain ⟨its, rv, p', hz⟩ := I1.tuple hq
    refine q_call_enumT p' fun h' he hit hsz hk => wpAny_pyIter_enum he ?_
    have hal : a < s1.heap.objs.size := by obtain ⟨o, ho, _⟩ := p'; exact Heap.lt_size ho
    have I2 : Inv X pins σ H1 { s1 with heap := h' } := I1.kept (t' := s1.toks) hk
    refine ⟨s1.heap.objs.size + 1, [s1.heap.objs.size + 1, s1.heap.objs.size], _, _, H1, rfl, I2, turn_enumT a (s1.heap.objs.size + 1) s1.heap.objs.size (Nat.ne_of_lt (Nat.lt_succ_of_lt hal)) (Nat.ne_of_lt hal), ⟨⟨.none, he⟩, hit, Nat.succ_ne_self _⟩, fun b hb => ?_, q⟩
    have e' : b = s1.heap.objs.size + 1 ∨ b = s1.heap.objs.size := by simpa using hb
    have hle : s1.heap.objs.size ≤ b := by
      rcases e' with z | z
      · rw [z]; exact Nat.le_add_right _ _
      · rw [z]; exact Nat.le_refl _
    exact I1.fpOk hle (I1.hok.fresh hle)
section
variable {z : Z} {ds : Ds} {st : Sto} {A : List D → Option (Addr × List D) → Sto → Prop} {ta : TA}
def enumD : Nat → List D → List D
  | _, [] => []
  | i, d :: l => .tup [.int (i : Nat), d] :: enumD (i + 1) l
theorem enumD_get : ∀ (l : List D) (k i : Nat), (enumD k l)[i]? = (l[i]?).map fun d => .tup [.int ((k + i : Nat) : Int), d]
  | [], _, _ => by simp [enumD]
  | d :: l, k, 0 => by simp [enumD]
  | d :: l, k, i + 1 => by
    simp only [enumD, List.getElem?_cons_succ]
    rw [enumD_get l (k + 1) i, show k + 1 + i = k + (i + 1) by omega]
theorem enumD_len : ∀ (l : List D) (k : Nat), (enumD k l).length = l.length
  | [], _ => rfl
  | d :: l, k => by simp [enumD, enumD_len l]
theorem ei_enum (h : EvA z ta ds st fun ws st1 => ∃ w l, ws = [w] ∧ SqLs st1 w l ∧ A (enumD 0 l) (stl w l) st1) : EvI z (iEnum z.K ta) ds st A := fun σ H s o R q =>
  h σ H s o _ fun ws st1 vs H1 h1 l1 b1 o1 r1 => by
    obtain ⟨w, l, rfl, hs, p⟩ := h1
    obtain ⟨v, rfl, r2⟩ := rws1 r1
    clear r1
    have r1 := r2
    obtain ⟨a, xs, rfl, hq, hr⟩ := hs.rd o1 r1
    refine ⟨a, xs, rfl, hq, q _ _ st1 _ H1 p l1 b1 o1 ⟨fun i d st' H' e o' c hd => ?_, fun i st' H' e o' c hi => ?_⟩⟩
    · obtain ⟨a', xs', ea, hq', hr'⟩ := hs.stay o1 r1 e o' c
      cases ea
      rw [enumD_get] at hd
      cases hl : l[i]? with
      | none => rw [hl] at hd; cases hd
      | some d0 =>
        rw [hl] at hd
        have hd := Option.some.inj hd
        obtain ⟨x, hx, rx⟩ := hr'.get hl
        refine ⟨⟨xs', x, hq', hx⟩, fun y H2 hy => ?_⟩
        obtain ⟨T, x', rfl, hT, rfl, hy⟩ := hy
        have := (hy xs' hq').symm.trans hx
        cases this
        rw [← hd, Nat.zero_add]
        exact ⟨fun b ob eb => by rw [upd_ne (ne_of_none eb hT)]; exact eb, new_tup (o'.out hT) hT (.cons (.int _) (.one rx))⟩
    · obtain ⟨a', xs', ea, hq', hr'⟩ := hs.stay o1 r1 e o' c
      cases ea
      exact ⟨xs', hq', by rw [hr'.length]; rw [enumD_len] at hi; exact hi⟩
theorem ei_enumT (h : EvA z ta ds st fun ws st1 => ∃ l, ws = [.d (.tup l)] ∧ A (enumD 0 l) none st1) : EvI z (iEnumT z.K ta) ds st A := fun σ H s o R q =>
  h σ H s o _ fun ws st1 vs H1 h1 l1 b1 o1 r1 => by
    obtain ⟨l, rfl, p⟩ := h1
    obtain ⟨v, rfl, r2⟩ := rws1 r1
    cases r2 with | d r2 => cases r2 with | @tup a xs _ ht hr =>
    refine ⟨a, xs, rfl, ht.sq, q _ _ st1 _ H1 p l1 b1 o1 ⟨fun i d st' H' e o' c hd => ?_, fun i st' H' e o' c hi => ?_⟩⟩
    · rw [enumD_get] at hd
      cases hl : l[i]? with
      | none => rw [hl] at hd; cases hd
      | some d0 =>
        rw [hl] at hd
        have hd := Option.some.inj hd
        obtain ⟨x, hx, rx⟩ := (hr.le e).get hl
        refine ⟨⟨xs, x, (ht.le e).sq, hx⟩, fun y H2 hy => ?_⟩
        obtain ⟨T, x', rfl, hT, rfl, hy⟩ := hy
        have := (hy xs (ht.le e).sq).symm.trans hx
        cases this
        rw [← hd, Nat.zero_add]
        exact ⟨fun b ob eb => by rw [upd_ne (ne_of_none eb hT)]; exact eb, new_tup (o'.out hT) hT (.cons (.int _) (.one rx))⟩
    · exact ⟨xs, (ht.le e).sq, by rw [hr.length]; rw [enumD_len] at hi; exact hi⟩
end
end Q

namespace Q
open PySem L2
/-! ### data as the library's -/
mutual
def py : D → PyData
  | .non => .none
  | .bl b => .bool b
  | .int i => .int i
  | .str x => .str x
  | .tup l => .tuple (pys l)
  | .lst l => .list (pys l)
  | .scr l => .list (pys l)
  | .obj _ _ => .none
def pys : List D → List PyData
  | [] => []
  | d :: l => py d :: pys l
end
mutual
/-- no objects -/
def pl : D → Bool
  | .non => true
  | .bl _ => true
  | .int _ => true
  | .str _ => true
  | .tup l => pls l
  | .lst l => pls l
  | .scr l => pls l
  | .obj _ _ => false
def pls : List D → Bool
  | [] => true
  | d :: l => pl d && pls l
end
section
variable {z : Z} {B : List Addr} {H : Hp}
mutual
theorem Rp.dp : ∀ {v : V} {d : D}, Rp z B H v d → pl d = true → Dp z.K H v (py d)
  | _, _, .non, _ => .non
  | _, _, .bl b, _ => .bl b
  | _, _, .int b, _ => .int b
  | _, _, .str b, _ => .str b
  | _, _, .tup h r, e => .tup h.sq (Rps.dp r e)
  | _, _, .lst _ h r, e => .lst (SqL.of h) (Rps.dp r e)
  | _, _, .scr h r, e => .lst h.sq (Rps.dp r e)
  | _, _, .obj _ _ _, e => by cases e
theorem Rps.dp : ∀ {v : List V} {d : List D}, Rps z B H v d → pls d = true → DpAll z.K H v (pys d)
  | _, _, .nil, _ => .nil
  | _, _, .cons h r, e => by
    unfold pls at e
    obtain ⟨e1, e2⟩ := Bool.and_eq_true_iff.mp e
    exact .cons (Rp.dp h e1) (Rps.dp r e2)
end
end
section
variable {z : Z} {st : Sto} {P : W → Sto → Prop}
/-- data that == may be asked of -/
def okD (d : D) : Bool := pl d && SeqAt.shaped (py d)
theorem ro_eqD {a b : D} (ha : okD a = true) (hb : okD b = true) (p : P (.d (.bl (PyData.eqv (py a) (py b)))) st) : Ro z (rEqA z.K) (.d a) (.d b) st P := ro_r fun u v H o hu hv Q q => by
  obtain ⟨a1, a2⟩ := Bool.and_eq_true_iff.mp ha
  obtain ⟨b1, b2⟩ := Bool.and_eq_true_iff.mp hb
  cases hu with | d hu => cases hv with | d hv =>
  exact ⟨_, _, hu.dp a1, hv.dp b1, a2, b2, q _ st _ H p (Le.refl _ _) (sub_refl _) o (.d (.bl _))⟩
theorem ro_neD {a b : D} (ha : okD a = true) (hb : okD b = true) (p : P (.d (.bl (!PyData.eqv (py a) (py b)))) st) : Ro z (rNeA z.K) (.d a) (.d b) st P := ro_r fun u v H o hu hv Q q => by
  obtain ⟨a1, a2⟩ := Bool.and_eq_true_iff.mp ha
  obtain ⟨b1, b2⟩ := Bool.and_eq_true_iff.mp hb
  cases hu with | d hu => cases hv with | d hv =>
  exact ⟨_, _, hu.dp a1, hv.dp b1, a2, b2, q _ st _ H p (Le.refl _ _) (sub_refl _) o (.d (.bl _))⟩
end
/-! ### lists of pairs of ints -/
def eP (p : Int × Int) : D := .tup [.int p.1, .int p.2]
theorem eqv_pairs : ∀ (R S : List (Int × Int)), PyData.eqvAll (pys (R.map eP)) (pys (S.map eP)) = decide (R = S)
  | [], [] => rfl
  | [], b :: S => rfl
  | a :: R, [] => rfl
  | a :: R, b :: S => by
    show (PyData.eqv (py (eP a)) (py (eP b)) && PyData.eqvAll (pys (R.map eP)) (pys (S.map eP))) = _
    rw [eqv_pairs R S]
    show ((a.1 == b.1 && (a.2 == b.2 && true)) && decide (R = S)) = _
    rw [Bool.eq_iff_iff]
    simp [Prod.ext_iff]
theorem pls_pairs : ∀ (R : List (Int × Int)), pls (R.map eP) = true
  | [] => rfl
  | a :: R => by show (pl (eP a) && pls (R.map eP)) = true; rw [pls_pairs R]; rfl
theorem lay_pairs : ∀ (R : List (Int × Int)), PyData.canLayAll0 (pys (R.map eP)) = true
  | [] => rfl
  | a :: R => by
    show (PyData.canLay0 (py (eP a)) && PyData.canLayAll0 (pys (R.map eP))) = true
    rw [lay_pairs R]; rfl
theorem dep_pairs : ∀ (R : List (Int × Int)), PyData.depthAll (pys (R.map eP)) ≤ 1
  | [] => by decide
  | a :: R => by
    have ih := dep_pairs R
    show max (PyData.depth (py (eP a))) (PyData.depthAll (pys (R.map eP))) ≤ 1
    have : PyData.depth (py (eP a)) = 1 := rfl
    omega
theorem ok_pairsT (R : List (Int × Int)) : okD (.tup (R.map eP)) = true := by
  unfold okD SeqAt.shaped
  rw [show pl (.tup (R.map eP)) = true from pls_pairs R]
  have h1 : PyData.canLay0 (py (.tup (R.map eP))) = true := lay_pairs R
  have h2 : PyData.depth (py (.tup (R.map eP))) ≤ 64 := by
    have := dep_pairs R
    show PyData.depthAll (pys (R.map eP)) + 1 ≤ 64
    omega
  rw [h1, decide_eq_true h2] <;> rfl
theorem eqv_pairsT (R S : List (Int × Int)) : PyData.eqv (py (.tup (R.map eP))) (py (.tup (S.map eP))) = decide (R = S) := by
  rw [← eqv_pairs R S]
  rfl
end Q
namespace Q
open PySem L2
section
variable {z : Z} {st : Sto} {P : W → Sto → Prop}
theorem rc_lenA {w : W} {l : List D} (h : Sq st w l) (p : P (.d (.int l.length)) st) : Rc z (fun xs H Q => ∃ x n, xs = [x] ∧ LenV z.K x H n ∧ Q (.int n) H) [w] st P := fun us H o r Q q => by
  obtain ⟨u, rfl, r1⟩ := rws1 r
  obtain ⟨a, xs, rfl, hq, hr⟩ := h.rd o r1
  refine ⟨.ref a, l.length, rfl, ?_, q _ st _ H p (Le.refl _ _) (sub_refl _) o (.d (.int _))⟩
  rcases hq with hq | hq
  · exact .inl ⟨xs, hq, hr.length.symm⟩
  · exact .inr ⟨xs, hq, hr.length.symm⟩
theorem rc_lenS {x : Str} (hl : x.length ≤ 16000000) (p : P (.d (.int x.length)) st) : Rc z (fun xs H Q => ∃ x n, xs = [x] ∧ LenV z.K x H n ∧ Q (.int n) H) [.d (.str x)] st P := fun us H o r Q q => by
  obtain ⟨u, rfl, r1⟩ := rws1 r
  rw [rw_str r1]
  exact ⟨.str x, x.length, rfl, ⟨Nat.le_trans hl (by decide), rfl⟩, q _ st _ H p (Le.refl _ _) (sub_refl _) o (.d (.int _))⟩
theorem atI_lt {l : List D} {i : Int} (h0 : 0 ≤ i) (h1 : i < l.length) : ∃ d, atI l i = some d ∧ l[i.toNat]? = some d := by
  have hl : i.toNat < l.length := by omega
  refine ⟨l[i.toNat], ?_, List.getElem?_eq_getElem hl⟩
  unfold atI ixN
  rw [if_pos h0, if_pos h1]
  exact List.getElem?_eq_getElem hl
theorem atI_int {ns : List Int} {i : Int} (h0 : 0 ≤ i) (h1 : i < ns.length) : ∃ n, atI (ns.map D.int) i = some (.int n) := by
  obtain ⟨d, h, q⟩ := atI_lt (l := ns.map D.int) h0 (by rw [List.length_map]; exact h1)
  rw [List.getElem?_map] at q
  cases e : ns[i.toNat]? with
  | none => rw [e] at q; cases q
  | some n => rw [e] at q; exact ⟨n, by rw [h, ← Option.some.inj q]⟩
end
end Q

namespace Q
open PySem L2
theorem units_of {k : Nat} {A : Around} (r : Room k A) : A.units + 64 < cLine := by have := r.un; omega
section
variable {z : Z} {ds : Ds} {st : Sto} {P : W → Sto → Prop} {te : TE}
theorem take_succ_map {α : Type} {xs : List α} {i : Nat} {x : α} (h : xs[i]? = some x) : xs.take (i + 1) = xs.take i ++ [x] := by
  rw [List.take_add_one, h]
  rfl
/-- a comprehension that changes no store: what is kept, mapped -/
theorem ev_lcF {α : Type} {wi : TI} {g : TG} {tt : TT} {vs is : List Nat} (hv : ∀ i ∈ is, i ∈ vs) (h : EvI z wi ds st fun l C st1 => ∃ (xs : List α) (enc : α → D) (p : α → Bool) (f : α → D), l = xs.map enc ∧ Still C st1 ∧ xs.length < 16000000 ∧ Sub (adr st) (adr st1) ∧
      (∀ x ∈ xs, ∀ a acc, a ∉ adr st1 → Gt z g is (.d (enc x)) (wip ds vs) ((a, .lst acc) :: st1) fun ds2 => EvT z tt ds2 ((a, .lst acc) :: st1) fun b st2 => b = p x ∧ st2 = (a, .lst acc) :: st1 ∧ (p x = true → Ev z te ds2 ((a, .lst acc) :: st1) fun w st3 => w = .d (f x) ∧ st3 = (a, .lst acc) :: st1)) ∧
      P (.d (.lst ((xs.filter p).map f))) st1) : Ev z (tLc wi g tt te vs) ds st P := by
  refine ev_lc (is := is) hv fun σ H s o R q => h σ H s o R fun l C st1 J H1 h1 => q l C st1 J H1 ?_
  obtain ⟨xs, enc, p, f, rfl, hC, hn, hS, turn, fin⟩ := h1
  refine ⟨fun i acc st' => st' = st1 ∧ acc = ((xs.take i).filter p).map f, ⟨rfl, by simp⟩, ?_, ?_, ?_⟩
  · rintro i acc st' ⟨rfl, rfl⟩
    refine ⟨hC, ?_⟩
    rw [List.length_map]
    have h1 := List.length_filter_le p (xs.take i)
    have h2 : (xs.take i).length ≤ xs.length := by rw [List.length_take]; exact Nat.min_le_right _ _
    omega
  · rintro i d acc st' a hd ⟨rfl, rfl⟩ ha
    rw [List.getElem?_map] at hd
    cases hx : xs[i]? with
    | none => rw [hx] at hd; cases hd
    | some x =>
      rw [hx] at hd
      cases hd
      intro σ H v s o r Q q
      refine turn x (List.mem_of_getElem? hx) a _ ha σ H v s o r Q fun ds' σ' h2 => q ds' σ' ?_
      intro σ3 H3 s3 o3 Q3 q3
      refine h2 σ3 H3 s3 o3 Q3 fun b st2 H' h3 => q3 b st2 H' ?_
      obtain ⟨rfl, rfl, h3⟩ := h3
      cases hp : p x with
      | false => exact ⟨_, rfl, rfl, by rw [take_succ_map hx, List.filter_append, List.map_append]; simp [hp]⟩
      | true =>
        refine (h3 hp).mono fun w st3 h4 => ?_
        obtain ⟨rfl, rfl⟩ := h4
        exact ⟨_, _, rfl, rfl, rfl, by rw [take_succ_map hx, List.filter_append, List.map_append]; simp [hp]⟩
  · rintro acc st' ⟨rfl, rfl⟩
    rw [List.length_map, List.take_length]
    exact ⟨hS, fin⟩
theorem ev_lcM {α : Type} {wi : TI} {g : TG} {vs is : List Nat} (hv : ∀ i ∈ is, i ∈ vs) (h : EvI z wi ds st fun l C st1 => ∃ (xs : List α) (enc : α → D) (f : α → D), l = xs.map enc ∧ Still C st1 ∧ xs.length < 16000000 ∧ Sub (adr st) (adr st1) ∧
      (∀ x ∈ xs, ∀ a acc, a ∉ adr st1 → Gt z g is (.d (enc x)) (wip ds vs) ((a, .lst acc) :: st1) fun ds2 => Ev z te ds2 ((a, .lst acc) :: st1) fun w st3 => w = .d (f x) ∧ st3 = (a, .lst acc) :: st1) ∧
      P (.d (.lst (xs.map f))) st1) : Ev z (tLc wi g tYes te vs) ds st P := by
  refine ev_lcF (α := α) (is := is) hv fun σ H s o R q => h σ H s o R fun l C st1 J H1 h1 => q l C st1 J H1 ?_
  obtain ⟨xs, enc, f, rfl, hC, hn, hS, turn, fin⟩ := h1
  refine ⟨xs, enc, fun _ => true, f, rfl, hC, hn, hS, fun x hx a acc ha => ?_, by rw [List.filter_eq_self.mpr fun _ _ => rfl]; exact fin⟩
  intro σ H v s o r Q q
  exact turn x hx a acc ha σ H v s o r Q fun ds' σ' h2 => q ds' σ' (et_yes ⟨rfl, rfl, fun _ => h2⟩)
/-- two clauses, no tests, no store -/
theorem ev_lc2M {α β : Type} {wi wi1 : TI} {g g1 : TG} {vs vs1 is is1 : List Nat} (hv : ∀ i ∈ is, i ∈ vs) (hv1 : ∀ i ∈ is1, i ∈ vs1) (h : EvI z wi ds st fun l C st1 => ∃ (xs : List α) (enc : α → D) (ys : List β) (enc1 : β → D) (f : α → β → D), l = xs.map enc ∧ Still C st1 ∧ xs.length * ys.length < 16000000 ∧ Sub (adr st) (adr st1) ∧
      (∀ x ∈ xs, ∀ a acc, a ∉ adr st1 → Gt z g is (.d (enc x)) (wip ds vs) ((a, .lst acc) :: st1) fun ds2 => EvI z wi1 ds2 ((a, .lst acc) :: st1) fun l1 C1 st2 => l1 = ys.map enc1 ∧ st2 = (a, .lst acc) :: st1 ∧ Still C1 st1 ∧
        ∀ y ∈ ys, ∀ acc', Gt z g1 is1 (.d (enc1 y)) (wip ds2 vs1) ((a, .lst acc') :: st1) fun ds3 => Ev z te ds3 ((a, .lst acc') :: st1) fun w st3 => w = .d (f x y) ∧ st3 = (a, .lst acc') :: st1) ∧
      P (.d (.lst (xs.flatMap fun x => ys.map (f x)))) st1) : Ev z (tLc2 wi g tYes wi1 g1 tYes te vs vs1) ds st P := fun σ H s o Q q => h σ H s o _ fun l C st1 J H1 h1 l1 b1 o1 y => by
  obtain ⟨xs, enc, ys, enc1, f, rfl, hC, hn, hS, turn, fin⟩ := h1
  intro a ha
  have lp : Le (adr st1) H1 (a :: adr st1) (upd H1 a (.lst [])) := Le.push ha
  have op : StOk z ((a, .lst []) :: st1) (upd H1 a (.lst [])) := o1.push ha ⟨[], upd_same, .nil⟩
  have sl0 : Sl z (adr st1) H1 σ ds := s.le l1 b1
  have na : a ∉ adr st1 := (List.nodup_cons.mp op.nd).1
  have lenF : ∀ (zs : List α), (zs.flatMap fun x => ys.map (f x)).length = zs.length * ys.length := by
    intro zs
    induction zs with
    | nil => simp
    | cons b zs ih => rw [List.flatMap_cons, List.length_append, ih, List.length_map, List.length_cons, Nat.succ_mul, Nat.add_comm]
  refine ⟨fun i m H' => m = xs.length - i ∧ i ≤ xs.length ∧ Le (adr st1) H1 (a :: adr st1) H' ∧ Sl z (a :: adr st1) H' (wipe σ vs) (wip ds vs) ∧ StOk z ((a, .lst ((xs.take i).flatMap fun x => ys.map (f x))) :: st1) H', ⟨xs.length, by simp, Nat.zero_le _, lp, (sl0.le lp fun _ m => List.mem_cons_of_mem _ m).wipe vs, by simpa using op⟩, ?_⟩
  rintro i m H' ⟨rfl, hi, hl, hs, ho⟩
  by_cases hlt : i < xs.length
  · have hx : xs[i]? = some xs[i] := List.getElem?_eq_getElem hlt
    obtain ⟨go, yld⟩ := y.1 i (enc xs[i]) ((a, .lst _) :: st1) H' hl ho hC.cons (by rw [List.getElem?_map, hx]; rfl)
    refine .inr ⟨go, fun H2 => Le (adr st1) H1 (a :: adr st1) H2 ∧ Sl z (a :: adr st1) H2 (wipe σ vs) (wip ds vs) ∧ StOk z ((a, .lst ((xs.take (i + 1)).flatMap fun x => ys.map (f x))) :: st1) H2, fun H2 hN => ⟨xs.length - (i + 1), by omega, rfl, hlt, hN⟩, fun x H2 hy => ?_⟩
    obtain ⟨sm, rx⟩ := yld x H2 hy
    have hl2 : Le (a :: adr st1) H' (a :: adr st1) H2 := Le.same sm
    have ho2 := ho.same sm
    have hs2 := hs.le hl2 (sub_refl _)
    refine turn xs[i] (List.mem_of_getElem? hx) a _ na (wipe σ vs) H2 x hs2 ho2 (.d rx) _ fun ds2 σ2 h2 s2 w2 => ⟨?_, ?_⟩
    · rw [w2 vs hv]
      apply List.ext_getElem?
      intro j
      rw [wipe_get, wipe_length, wipe_get]
      by_cases m : j ∈ vs
      · rw [if_pos m, if_pos m]
      · rw [if_neg m, if_neg m]
    · show wi1 σ2 H2 _
      refine h2 σ2 H2 s2 ho2 _ fun lb C1 st2 J1 H4 h4 l4 b4 o4 y4 => ?_
      obtain ⟨rfl, rfl, hC1, turn1⟩ := h4
      refine ⟨fun j k H5 => k = ys.length - j ∧ j ≤ ys.length ∧ Le (a :: adr st1) H4 (a :: adr st1) H5 ∧ Sl z (a :: adr st1) H5 (wipe σ vs) (wip ds vs) ∧ Sl z (a :: adr st1) H5 (wipe σ2 vs1) (wip ds2 vs1) ∧ StOk z ((a, .lst (((xs.take i).flatMap fun x => ys.map (f x)) ++ (ys.take j).map (f xs[i]))) :: st1) H5, ⟨ys.length, by simp, Nat.zero_le _, Le.refl _ _, hs2.le l4 b4, (s2.le l4 b4).wipe vs1, by simpa using o4⟩, ?_⟩
      rintro j k H5 ⟨rfl, hj, l5, s5, s6, o5⟩
      by_cases hlj : j < ys.length
      · have hyj : ys[j]? = some ys[j] := List.getElem?_eq_getElem hlj
        obtain ⟨go1, yld1⟩ := y4.1 j (enc1 ys[j]) ((a, .lst _) :: st1) H5 l5 o5 hC1.cons (by rw [List.getElem?_map, hyj]; rfl)
        refine .inr ⟨go1, fun H6 => Le (a :: adr st1) H4 (a :: adr st1) H6 ∧ Sl z (a :: adr st1) H6 (wipe σ vs) (wip ds vs) ∧ Sl z (a :: adr st1) H6 (wipe σ2 vs1) (wip ds2 vs1) ∧ StOk z ((a, .lst (((xs.take i).flatMap fun x => ys.map (f x)) ++ (ys.take (j + 1)).map (f xs[i]))) :: st1) H6, fun H6 hN => ⟨ys.length - (j + 1), by omega, rfl, hlj, hN⟩, fun x1 H6 hy1 => ?_⟩
        obtain ⟨sm1, rx1⟩ := yld1 x1 H6 hy1
        have hl6 : Le (a :: adr st1) H5 (a :: adr st1) H6 := Le.same sm1
        have ho6 := o5.same sm1
        refine turn1 ys[j] (List.mem_of_getElem? hyj) _ (wipe σ2 vs1) H6 x1 (s6.le hl6 (sub_refl _)) ho6 (.d rx1) _ fun ds3 σ3 h3 s3 w3 => ⟨?_, ?_⟩
        · rw [w3 vs1 hv1]
          apply List.ext_getElem?
          intro j
          rw [wipe_get, wipe_length, wipe_get]
          by_cases m : j ∈ vs1
          · rw [if_pos m, if_pos m]
          · rw [if_neg m, if_neg m]
        · show te σ3 H6 _
          refine h3 σ3 H6 s3 ho6 _ fun w st3 v H7 h7 l7 b7 o7 r7 => ?_
          obtain ⟨rfl, rfl⟩ := h7
          obtain ⟨vals, ea, rxs⟩ := o7.at_ _ List.mem_cons_self
          cases r7 with | d r7 =>
          have lw : Le (a :: adr st1) H7 (a :: adr st1) (upd H7 a (.lst (vals ++ [v]))) := Le.mut List.mem_cons_self
          have hall : Le (a :: adr st1) H5 (a :: adr st1) (upd H7 a (.lst (vals ++ [v]))) := (hl6.trans l7).trans lw
          refine ⟨vals, ea, ?_, l5.trans hall, s5.le hall (sub_refl _), s6.le hall (sub_refl _), ?_⟩
          · rw [rxs.length, List.length_append, lenF, List.length_map, List.length_take, List.length_take, Nat.min_eq_left (Nat.le_of_lt hlt), Nat.min_eq_left (Nat.le_of_lt hlj)]
            refine Nat.lt_of_lt_of_le (Nat.lt_of_le_of_lt ?_ hn) (by decide)
            have : (i + 1) * ys.length ≤ xs.length * ys.length := Nat.mul_le_mul_right _ hlt
            rw [Nat.succ_mul] at this
            omega
          · have := o7.write (j := 0) (c := .lst _) (c' := .lst ((((xs.take i).flatMap fun x => ys.map (f x)) ++ (ys.take j).map (f xs[i])) ++ [f xs[i] ys[j]])) rfl ⟨_, upd_same, (rxs.append (.one r7)).le lw⟩
            rw [take_succ_map hyj, List.map_append, ← List.append_assoc]
            exact this
      · have e : j = ys.length := by omega
        subst e
        refine .inl ⟨y4.2 _ ((a, .lst _) :: st1) H5 l5 o5 hC1.cons (by rw [List.length_map]; exact Nat.le_refl _), ((hl.trans hl2).trans l4).trans l5, s5, ?_⟩
        rw [take_succ_map hx, List.flatMap_append, List.flatMap_singleton]
        rw [List.take_length] at o5
        exact o5
  · have e : i = xs.length := by omega
    subst e
    refine .inl ⟨y.2 _ ((a, .lst _) :: st1) H' hl ho hC.cons (by rw [List.length_map]; exact Nat.le_refl _), ?_⟩
    obtain ⟨vals, ea, rxs⟩ := ho.at_ _ List.mem_cons_self
    have o' : StOk z st1 H' := ho.less (fun q m => List.mem_cons_of_mem _ m) (List.nodup_cons.mp ho.nd).2
    have l2 := l1.trans hl
    rw [List.take_length] at rxs
    exact q _ st1 _ H' fin ⟨l2.keep, l2.trk, fun b m => l2.new b (List.mem_cons_of_mem _ m)⟩ hS o' (.d (.lst na ea (rxs.less fun b m => List.mem_cons_of_mem _ m)))
end
/-! ### zip of tuples, stars, lists as sources of names -/
section
variable {z : Z} {ds : Ds} {st : Sto} {A : List D → Option (Addr × List D) → Sto → Prop} {ta : TA}
def zipD : List D → List D → List D
  | x :: l, y :: m => .tup [x, y] :: zipD l m
  | _, _ => []
theorem zipD_get : ∀ (l m : List D) (i : Nat) (d : D), (zipD l m)[i]? = some d → ∃ x y, l[i]? = some x ∧ m[i]? = some y ∧ d = .tup [x, y]
  | [], _, i, d, h => by simp [zipD] at h
  | x :: l, [], i, d, h => by simp [zipD] at h
  | x :: l, y :: m, 0, d, h => by simp [zipD] at h; exact ⟨x, y, rfl, rfl, h.symm⟩
  | x :: l, y :: m, i + 1, d, h => by
    simp only [zipD, List.getElem?_cons_succ] at h ⊢
    exact zipD_get l m i d h
theorem zipD_len : ∀ (l m : List D), (zipD l m).length = min l.length m.length
  | [], _ => by simp [zipD]
  | x :: l, [] => by simp [zipD]
  | x :: l, y :: m => by simp only [zipD, List.length_cons, zipD_len l m]; omega
theorem ei_zipT (h : EvA z ta ds st fun ws st1 => ∃ l m, ws = [.d (.tup l), .d (.tup m)] ∧ A (zipD l m) none st1) : EvI z (RZ.iZipA z.K ta) ds st A := fun σ H s o R q =>
  h σ H s o _ fun ws st1 vs H1 h1 l1 b1 o1 r1 => by
    obtain ⟨l, m, rfl, p⟩ := h1
    obtain ⟨v, u, rfl, r2, r3⟩ := rws2 r1
    cases r2 with | d r2 => cases r2 with | @tup a xs _ ht hr => cases r3 with | d r3 => cases r3 with | @tup b ys _ ht' hr' =>
    refine ⟨a, b, xs, ys, rfl, .inr ⟨ht.sq, ht'.sq, q _ _ st1 _ H1 p l1 b1 o1 ⟨fun i d st' H' e o' c hd => ?_, fun i st' H' e o' c hi => ?_⟩⟩⟩
    · obtain ⟨x0, y0, hx0, hy0, rfl⟩ := zipD_get _ _ _ _ hd
      obtain ⟨x, hx, rx⟩ := (hr.le e).get hx0
      obtain ⟨y, hy, ry⟩ := (hr'.le e).get hy0
      refine ⟨⟨xs, ys, x, y, (ht.le e).sq, (ht'.le e).sq, hx, hy⟩, fun v H2 hv => ?_⟩
      obtain ⟨T, x', y', rfl, hT, rfl, hx', hy'⟩ := hv
      have := (hx' xs (ht.le e).sq).symm.trans hx
      cases this
      have := (hy' ys (ht'.le e).sq).symm.trans hy
      cases this
      exact ⟨fun b ob eb => by rw [upd_ne (ne_of_none eb hT)]; exact eb, new_tup (o'.out hT) hT (.cons rx (.one ry))⟩
    · refine ⟨xs, ys, (ht.le e).sq, (ht'.le e).sq, ?_⟩
      rw [hr.length, hr'.length]
      rw [zipD_len] at hi
      omega
theorem Rps.wsA {B : List Addr} {H : Hp} : ∀ {vs : List V} {l : List D} {us : List V} {ws : List W}, Rps z B H vs l → Rws z B H us ws → Rws z B H (vs ++ us) (l.map W.d ++ ws)
  | _, _, _, _, .nil, r => r
  | _, _, _, _, .cons h t, r => .cons (.d h) (Rps.wsA t r)
theorem ea_star {te : TE} {P : List W → Sto → Prop} (h : Ev z te ds st fun w st1 => ∃ l, Sq st1 w l ∧ EvA z ta ds st1 fun ws st2 => st2 = st1 ∧ P (l.map W.d ++ ws) st2) : EvA z (StX.tStar z.K te ta) ds st P := fun σ H s o Q q => h σ H s o _ fun w st1 v H1 h1 l1 b1 o1 r1 => by
  obtain ⟨l, hs, h2⟩ := h1
  obtain ⟨a, xs, rfl, hq, hr⟩ := hs.rd o1 r1
  refine ⟨a, xs, rfl, hq.symm, h2 σ H1 (s.le l1 b1) o1 _ fun ws st2 vs H2 h3 l2 b2 o2 r2 => ?_⟩
  obtain ⟨rfl, h3⟩ := h3
  exact q _ st2 _ H2 h3 (l1.trans l2) (fun a m => b2 a (b1 a m)) o2 ((hr.le l2).wsA r2)
theorem ev_tupL {P : W → Sto → Prop} (h : EvA z ta ds st fun ws st1 => ∃ l, ws = l.map W.d ∧ l.length ≤ 16000000 ∧ P (.d (.tup l)) st1) : Ev z (tTup ta) ds st P := fun σ H s o Q q => h σ H s o _ fun ws st1 vs H1 h1 l1 b1 o1 r1 => by
  obtain ⟨l, rfl, hz, p⟩ := h1
  have r2 := r1.data
  refine ⟨by rw [r2.length]; exact Nat.le_trans hz (by decide), fun a ha => ?_⟩
  exact q _ st1 _ _ p (l1.trans (Le.alloc ha)) b1 (o1.alloc ha) (.d (new_tup (o1.out ha) ha r2))
theorem gt_lst {n : Nat} {gs : TGs} {l : List D} {w : W} {is : List Nat} {R : Ds → Prop} (hs : SqLs st w l) (hn : l.length = n) (h : Gts z gs is (l.map W.d) ds st R) : Gt z (gLst z.K n gs) is w ds st R := fun σ H v s o r Q q => by
  obtain ⟨a, xs, rfl, hq, hr⟩ := hs.rd o r
  exact ⟨a, xs, rfl, hq, hr.length.trans hn, h σ H xs s o hr.ws Q q⟩
end
section
variable {z : Z} {ds : Ds} {st : Sto} {P : Po} {te : TE}
/-- data is returned, what the def made is forgotten -/
theorem wp_retD (h : Ev z te ds st fun w st1 => ∃ d pre st', w = .d d ∧ st1 = pre ++ st' ∧ P.rt (.d d) st') : Wp z (tRet te) ds st P := fun E σ H s o c =>
  h σ H s o _ fun w st1 v H1 h1 l1 b1 o1 r1 => by
    obtain ⟨d, pre, st', rfl, rfl, p⟩ := h1
    cases r1 with | d r1 =>
    have sub : ∀ a ∈ adr st', a ∈ adr (pre ++ st') := fun a m => by
      obtain ⟨q, hq, rfl⟩ := List.mem_map.mp m
      exact List.mem_map.mpr ⟨q, List.mem_append_right _ hq, rfl⟩
    have nd : (adr st').Nodup := by
      have := o1.nd
      rw [show adr (pre ++ st') = adr pre ++ adr st' from List.map_append ..] at this
      exact (List.nodup_append.mp this).2.1
    have o2 : StOk z st' H1 := o1.less (fun q m => List.mem_append_right _ m) nd
    exact c.rt _ st' _ H1 p ⟨l1.keep, l1.trk, fun b m => l1.new b (sub b m)⟩ o2 (.d (r1.less sub))
end
end Q

namespace Q
open PySem L2
/-! ### the kit's rules, the heap of the load named: they hold inside of comprehensions too -/
section
variable {X : Cx} {K : PySem.W.Frag}
theorem kIx (e : X.K = K) : IxR X (rIx K) := e ▸ ix_seq
theorem kAdd (e : X.K = K) : OpR X (binaryOp .Add) (rAddA K) := e ▸ op_addA
theorem kEq (e : X.K = K) (hu : X.A.units + 64 < cLine) : OpR X (compareOp .Eq) (rEqA K) := e ▸ op_eqA' hu
theorem kNe (e : X.K = K) (hu : X.A.units + 64 < cLine) : OpR X (compareOp .NotEq) (rNeA K) := e ▸ op_neA' hu
theorem kLen (e : X.K = K) : CallR X (.builtin "len") (fun xs H Q => ∃ x n, xs = [x] ∧ LenV K x H n ∧ Q (.int n) H) := e ▸ call_len
theorem kIsi (e : X.K = K) : CallR X (.builtin "isinstance") (rIsi K) := e ▸ call_isi
theorem kIsiT (e : X.K = K) : CallR X (.builtin "isinstance") (rIsiT K) := e ▸ call_isiT
theorem kAny (e : X.K = K) (hc : X.calm = true) : CallR X (.builtin "any") (rAny K) := e ▸ cr_any hc
theorem kAll (e : X.K = K) (hc : X.calm = true) : CallR X (.builtin "all") (rAll K) := e ▸ cr_all hc
theorem kSum (e : X.K = K) (hc : X.calm = true) : CallR X (.builtin "sum") (rSum K) := e ▸ cr_sum hc
theorem kMax (e : X.K = K) (hc : X.calm = true) : CallR X (.builtin "max") (rMax K) := e ▸ cr_max hc
theorem kMin (e : X.K = K) (hc : X.calm = true) : CallR X (.builtin "min") (rMin K) := e ▸ cr_min hc
theorem kSorted (e : X.K = K) : CallR X (.builtin "sorted") (rSortedI K) := e ▸ cr_sortedI
theorem kTupleOf (e : X.K = K) : CallR X (.type "tuple") (fun xs H Q => ∃ p ys, xs = [.ref p] ∧ ((SqL K H p ys ∧ ∀ l, H l = none → Q (.ref l) (upd H l (.tup ys))) ∨ (SqT K H p ys ∧ Q (.ref p) H))) := e ▸ call_tuple_of
theorem kListOf (e : X.K = K) : CallR X (.type "list") (fun xs H Q => ∃ p ys, xs = [.ref p] ∧ (SqL K H p ys ∨ SqT K H p ys) ∧ ∀ l, H l = none → Q (.ref l) (upd H l (.lst ys))) := e ▸ call_list_of
theorem kSlL (e : X.K = K) : SlR X (rSlL K) := e ▸ sl_list
theorem kSlA (e : X.K = K) : SlR X (rSlA K) := e ▸ sl_tupA
variable {x o : Expr} {es : List Expr} {ta to te : TE} {t : TA} {f : Str} {pos cpos apos : Pos} {tg l : Expr} {tl : TE}
theorem kFld (e : X.K = K) (he : PE X x ta) (hb : attributeBase x f X.env (eval x X.env) = eval x X.env) : PE X (.Attribute x f pos) (tFld K ta f) := e ▸ pe_fld he hb
theorem kRev {k : Nat} {p1 p2 p3 : Pos} (e : X.K = K) (he : PE X x te) : PE X (.Subscript x (.Slice none none (some (.UnaryOp .USub (.Constant (.int 1) k p1) p2)) p3) pos) (tRevL K te) := e ▸ pe_revL he
theorem kiList (e : X.K = K) (hl : PE X l tl) : PI X tg l (iList K tl) := e ▸ pi_list hl
theorem kiTup (e : X.K = K) (hl : PE X l tl) : PI X tg l (iTup K tl) := e ▸ pi_tup hl
theorem kiZip {e1 e2 : Expr} {ta : TA} {p tpos : Pos} {elts : List Expr} {kk : Nat} (e : X.K = K) (hg : Gl X "zip") (hm : X.mg "zip" = none) (ha : PA X [e1, e2] ta)
    (hs : starEach [e1, e2] X.env = (false, eval e1 X.env) :: starEach [e2] X.env := by rfl) (hpl : (backTo pos (starEach [e2] X.env)).any (·.1) = false := by rfl) :
    PI X (.Tuple elts kk tpos) (.Call (.Name "zip" p) [e1, e2] [] pos) (RZ.iZipA K ta) := e ▸ RZ.pi_zipA hg hm ha hs hpl
theorem kgTup {es : List Expr} {k : Nat} {t : TGs} {n : Nat} (e : X.K = K) (hc : X.calm = true) (h : PGs X es t)
    (hn : (assignEach es X.env).length = n := by rfl) (hst : (assignEach es X.env).findIdx? (·.1) = none := by rfl) : PG X (.Tuple es k pos) (gTup K n t) := e ▸ pg_tup hc h hn hst
theorem kgLst {es : List Expr} {k : Nat} {t : TGs} {n : Nat} (e : X.K = K) (hc : X.calm = true) (h : PGs X es t)
    (hn : (assignEach es X.env).length = n := by rfl) (hst : (assignEach es X.env).findIdx? (·.1) = none := by rfl) : PG X (.Tuple es k pos) (gLst K n t) := e ▸ pg_lst hc h hn hst
theorem kaStar {p : Pos} (e : X.K = K) (he : PE X x te) (hr : PA X es t) (hs : starEach (.Starred x p :: es) X.env = (true, eval x X.env) :: starEach es X.env := by rfl) : PA X (.Starred x p :: es) (StX.tStar K te t) := e ▸ StX.pa_star he hr hs
theorem kCmp {C : Addr} {k : Nat} {ps : List Str} {sp : Sp} {op : CmpOp} (e : X.K = K) (c : Mf X.prog X.w X.K X.mg X.base C (cmpInfo op).2.1 k ps sp) (hr : Room k X.A) (ho : ∀ u v, compareOp op u v = richCompare op u v) : OpR X (compareOp op) (rCmp K C sp) := e ▸ op_cmp c hr ho
theorem kCmpN {C : Addr} {k : Nat} {ps : List Str} {sp : Sp} (e : X.K = K) (c : Mf X.prog X.w X.K X.mg X.base C "__eq__" k ps sp) (hr : Room (k + 1) X.A) (hs : PySem.W.findIn X.K (.ref C) "__ne__" = some (some (.builtin "object.__ne__"))) (hm : PySem.W.mroIn X.K C (.type "object") = some true) : OpR X (compareOp .NotEq) (rCmpN K C sp) := e ▸ op_cmpN c hr hs hm
end
theorem funD_ok {P : Program} {w : World} {K : PySem.W.Frag} {mg : Str → Option Value} {base : Heap} {x qual : Str} {st : Stmt} {dvs : List V} {kws : List (Str × V)} {f : Addr} {fd : FuncData} {N ps : List Str} {k : Nat} {sp : Sp} (F : FunD K x qual (defArgs st) (defBody st) (defScope st) dvs kws f fd) (S : FnScope N ps (defScope st)) (len : ∀ vs H Q E, sp vs H Q E → vs.length = ps.length)
    (hbody : ∀ (cdv : Value) (A : Around) (outer : List Env) (s : Shared) (H : Hp) (vs : List V) (Q : VK) (E : XK), Room k (A.deeper (PyProof.Rows.envOfC qual (defScope st) s.heap.objs.size f cdv)) → sp vs H Q E →
      ∃ t, PSs (cxOf CX0 P w K mg base N qual (defScope st) f cdv A outer s H E).nox (defBody st) t ∧ t { nx := fun _ H' => Q .non H', rt := Q } (start N vs) H) : FnOk P w K mg base CX0 (k + 1) f fd ps sp :=
  F.ok S len fun cdv A outer s H vs Q E hr hsp => by
    obtain ⟨t, h, q⟩ := hbody cdv A outer s H vs Q E hr hsp
    exact ⟨t, h.nox, q⟩
end Q
namespace Q
open PySem L2 PyProof.Rows
/-! ### bool(an instance) -/
theorem bool_new_in {prog : Program} {w : World} (l : Addr) : MeetsIn prog w (Builtin.«bool.__new__» ⟨[.type "bool", .ref l], []⟩) (fun A R s => wpAny (model prog w) A.in1 (truthy (.ref l)) (fun b s' => R (.ok (.ret (.bool b))) s') (fun e s' => R (.error e) s') s) :=
  .of_wp fun A R s hs => by
    obtain ⟨hp, g, d, tk, os⟩ := s
    have f1 := F.conv_sub_bool
    repeat (any_goals (first | assumption | (with_reducible refine wpAny_bind (wpAny_mono hs (fun b s' h => ?_) (fun e s' h => h))) | wp_step))
    all_goals first | exact ⟨_, rfl, h⟩ | exact h | skip
section
variable {X : Cx} {C : Addr} {k : Nat} {ps : List Str} {sp : Sp}
theorem call_bool_own (c : Mf X.prog X.w X.K X.mg X.base C "__bool__" k ps sp) (hr : Room (k + 2) X.A) : CallR X (.type "bool") (fun xs H Q => ∃ a dx fs, xs = [.ref a] ∧ H a = some (.ins C dx fs) ∧ sp [.ref a] H (fun v H' => ∃ b, v = .bl b ∧ Q (.bl b) H') E0) := by
  intro pins s σ H xs us Q I r h
  obtain ⟨f, fd, Fk, M, hb⟩ := c.ex
  obtain ⟨a, dx, fs, rfl, ha, hsp⟩ := h
  obtain rfl := Vals.ref1 r
  obtain ⟨mA, J, _⟩ := ins_get I.hok ha
  obtain ⟨od, J, _⟩ := J.look
  obtain ⟨m, hF⟩ := I.fr
  refine callType_newIn PySem.F.called_bool PySem.F.newNe_bool (PySem.F.typeCall_bool_1 _) (PySem.F.newCall_bool_1 _) (fun obj => PySem.F.args_object_init_2 obj _) PySem.F.entry_bool_new (bool_new_in a) ?_
  refine PySem.W.truthy_K hF I.ok.mod.kin J M.at_ M.fn ?_
  have r2 : Vals [V.ref a] [Value.ref a] := .cons rfl .nil
  have hl : [Value.ref a].length = ps.length := by rw [← r2.length]; exact Fk.len _ _ _ _ hsp
  refine wpAny_call (codeAny_mono (Fk.run X.A.in1.in1 X.stack s H ⟨[.ref a], []⟩ [.ref a] [.ref a] _ E0 hr.in1.in1 I.env0.in1.in1 (by simpa using hb s [.ref a] I.kIn (by simpa using hl)) r2 hsp) fun r s' hq => ?_)
  cases r with
  | error e => exact False.elim hq
  | ok fl =>
    cases fl with
    | ret u =>
      obtain ⟨v, H', I', rv, b, e, qv⟩ := I.after hq
      subst e
      cases rv
      exact ⟨rfl, .bl b, H', I', rfl, qv⟩
    | next => exact False.elim hq
    | brk => exact False.elim hq
    | cont => exact False.elim hq
end
section
variable {z : Z} {ds : Ds} {st : Sto} {P : W → Sto → Prop} {m : Pm} {c : Str} {C : Addr}
theorem rc_bool {l : List (Str × D)} {w : W} (hC : C = z.cl c) (hx : w = .d (.obj c l)) (h : ∃ g : m.G, m.arg g st [w] ∧ ∀ w st', m.res g st w st' → Sub (adr st) (adr st') ∧ ∃ b, w = .d (.bl b) ∧ P (.d (.bl b)) st') :
    Rc z (fun xs H Q => ∃ a dx fs, xs = [.ref a] ∧ H a = some (.ins C dx fs) ∧ sp z m [.ref a] H (fun v H' => ∃ b, v = .bl b ∧ Q (.bl b) H') E0) [w] st P := fun us H o r Q q => by
  subst hC hx
  obtain ⟨u, rfl, r1⟩ := rws1 r
  have r2 := r1
  cases r2 with | d r2 => cases r2 with | obj n e1 rf =>
  obtain ⟨g, ha, hr⟩ := h
  refine ⟨_, _, _, rfl, e1, g, _, st, ha, .cons r1 .nil, o, fun w st3 v H3 hres l3 o3 r3 => ?_⟩
  obtain ⟨b3, b, rfl, p⟩ := hr w st3 hres
  rw [rw_bl r3]
  exact ⟨b, rfl, q _ st3 _ H3 p l3 b3 o3 (.d (.bl b))⟩
end
/-! ### the law's own head -/
def spLaw (K : PySem.W.Frag) : Sp := fun vs H Q _ => ∃ (a : Addr) (ns : List Int), vs = [.ref a] ∧ SqL K H a (ns.map V.int) ∧ ns.length ≤ 63 ∧ ∀ H', Q (.bl true) H'
def pmLaw : Pm := ⟨List Int, fun ns st ws => ws = [.d (.scr (ns.map .int))] ∧ st = [] ∧ ns.length ≤ 63, fun _ _ r _ => r = .d (.bl true)⟩
theorem law_sp {z : Z} {vs : List V} {H : Hp} {Q : VK} {E : XK} (h : spLaw z.K vs H Q E) : sp z pmLaw vs H Q E := by
  obtain ⟨a, ns, rfl, hs, hl, q⟩ := h
  refine ⟨ns, _, [], ⟨rfl, rfl, hl⟩, .cons (.d (.scr ?_ (ints_rps ns))) .nil, .nil, fun w st' v H' hr _ _ r => ?_⟩
  · exact hs.imp (fun h => ⟨fun m => (nomatch m), h⟩) id
  · rw [show w = _ from hr] at r
    rw [rw_bl r]
    exact q H'
/-! ### isinstance by facts that k_is finds -/
theorem kit_refT {K : PySem.W.Frag} {C : Addr} {T : String} {b : Bool} (hm : PySem.W.kitMeta T = true) (hs : PySem.W.subIn K (.ref C) (.type T) = some b) : PySem.W.kitOne K (.ref C) (.type T) = some b := by
  unfold PySem.W.kitOne
  rw [if_neg (by intro h; cases (beq_iff_eq.mp h))]
  show (if PySem.W.kitMeta T = true then PySem.W.subIn K (.ref C) (.type T) else none) = _
  rw [if_pos hm]
  exact hs
theorem kit_refC {K : PySem.W.Frag} {C : Addr} : PySem.W.kitOne K (.ref C) (.ref C) = some true := by
  unfold PySem.W.kitOne
  rw [if_pos (beq_self_eq_true _)]
theorem kit_xC {K : PySem.W.Frag} {C : Addr} {t : Value} {b : Bool} (hn : t ≠ .ref C) (hd : PySem.W.hasDictIn K C = true) (ht : PySem.W.typeIn K (.ref C) = some (.type "type")) (hs : PySem.W.subIn K t (.ref C) = some b) : PySem.W.kitOne K t (.ref C) = some b := by
  unfold PySem.W.kitOne
  rw [if_neg (by intro h; exact hn (beq_iff_eq.mp h))]
  show (if ((PySem.W.clsIn K C).isSome && PySem.W.typeIn K (.ref C) == some (.type "type")) = true then PySem.W.subIn K t (.ref C) else none) = _
  have hc : (PySem.W.clsIn K C).isSome = true := by
    obtain ⟨cd, hc, _⟩ := PySem.W.any_some hd
    rw [hc]
    rfl
  rw [if_pos (by rw [hc, ht]; rfl)]
  exact hs
end Q

namespace Q
open PySem PySem.Spec PyProof.Rows L2
/-! ### a law whose body may show values: no repr is under way where it is called -/
/-- a def's promise where no repr is under way -/
def FnG (P : Program) (w : World) (K : PySem.W.Frag) (mg : Str → Option Value) (base : Heap) (k : Nat) (f : Addr) (fd : FuncData) (ps : List Str) (sp : Sp) : Prop :=
  ∀ (B : Around) (out : List Env) (t : Shared) (H : Hp) (ar : Args) (us : List Value) (vs : List V) (Q : VK) (E : XK), Room k B → B.guards = some [] → Env0 P w K mg base B out t H → BindsTo t fd ar (ps.zip us) → Vals vs us → sp vs H Q E →
    codeAny (model P w) B (.call (.ref f) ar) (CR CX0 out P w H t Q E) t
theorem fnG_ok {P : Program} {w : World} {K : PySem.W.Frag} {mg : Str → Option Value} {base : Heap} {x qual : Str} {st : Stmt} {f : Addr} {fd : FuncData} {N ps : List Str} {k : Nat} {sp : Sp} (F : Fun K x qual st f fd) (S : FnScope N ps (defScope st)) (len : ∀ vs H Q E, sp vs H Q E → vs.length = ps.length)
    (hbody : ∀ (cdv : Value) (A : Around) (outer : List Env) (s : Shared) (H : Hp) (vs : List V) (Q : VK) (E : XK), Room k (A.deeper (envOfC qual (defScope st) s.heap.objs.size f cdv)) → A.guards = some [] → sp vs H Q E →
      ∃ t, PSs (cxOf CX0 P w K mg base N qual (defScope st) f cdv A outer s H E).nox (defBody st) t ∧ t { nx := fun _ H' => Q .non H', rt := Q } (start N vs) H) : FnG P w K mg base (k + 1) f fd ps sp := by
  obtain ⟨oc, od, kV, doc, pm, an, cdv, ct, osl, rfl, lk, hcd⟩ := F.ex
  intro B out t H ar us vs Q E room gd e0 bnd rel prom
  have n1 := len _ _ _ _ prom
  have up : ∀ b o, base.get? b = some o → t.heap.get? b = some o := fun b o q => (e0.bs b o q).1
  have kin : K.In t.heap := e0.mod.kin.keeps up
  have kinds : ∀ y ∈ ps.zip us, (defScope st).names.lookup y.1 = some .local ∨ ((defScope st).names.lookup y.1 = some .cell ∧ ((cellsFrom (t.heap.objs.size + 1) (defScope st).names []).lookup y.1).isSome = true) := by
    rintro ⟨n, v⟩ m
    exact (S.par n (List.of_mem_zip m).1).imp id fun c => ⟨c, PySem.W.cellsFrom_some _ _ _ (.inl c)⟩
  refine codeAny_call_function room.depth (kin _ _ lk) rfl S.co S.gen rfl (PySem.W.codeRec_of kin hcd) (bnd _ _ _ _ (wpAny_newFunctionEnv_cells S.kind kinds fun env he t1 new => ?_))
  subst he
  refine ⟨(e0.mod.nolimit.keeps up).keeps new.toInCall.keep, codeAny_func ?_⟩
  obtain ⟨tb, der, hold⟩ := hbody cdv B out t H vs Q E (room.deeper _) gd prom
  refine wpAny_mono (der.nox.run [] t1 (start N vs) H _ (inv_start S room.hd e0 n1 rel new) hold) (fun fl t2 done => ?_) fun e t2 h => h
  cases fl with
  | brk => obtain ⟨_, _, _, no⟩ := done; exact False.elim no
  | cont => obtain ⟨_, _, _, no⟩ := done; exact False.elim no
  | next =>
    obtain ⟨σ2, H2, J, q⟩ := done
    exact ⟨V.non, H2, J.os, J.bare, J.base, J.hok, rfl, q⟩
  | ret u =>
    obtain ⟨v, σ2, H2, J, rv, q⟩ := done
    exact ⟨v, H2, J.os, J.bare, J.base, J.hok, rv, q⟩
/-- the law is called -/
theorem callG {P : Program} {w : World} {K : PySem.W.Frag} {mg mb : Str → Option Value} {k : Nat} {fa a : Addr} {fd : FuncData} {x : Str} {t : Shared} {vs : List Value} {ns : List Int} (kin : K.In t.heap) (glb : t.heap.Ns mainGlobals mg) (blt : t.heap.Ns builtinsNs mb) (isB : ∀ x : Str, x ≠ "__name__" → mb x = bootBuiltins x)
    (lim : t.heap.NoLimit) (gens : t.gens = #[]) (at_a : t.heap.get? a = some { cls := .type "list", data := .seq vs.toArray }) (isInts : IntsAre vs ns) (few : ns.length ≤ 63) (room : Room k callerA)
    (F : ∀ base : Heap, K.In base → base.Ns mainGlobals mg → FnG P w K mg base k fa fd [x] (spLaw K)) (bnd : ∀ (s : Shared) (u : Value), BindsTo s fd ⟨[u], []⟩ [(x, u)]) :
    codeAny (model P w) callerA (.call (.ref fa) ⟨[.ref a], []⟩) (fun r s' => r = .ok (.ret (.bool true)) ∧ OldK t.heap s'.heap ∧ s'.os = t.os ∧ AllBare s'.gens) t := by
  have small : ns.length ≤ sizeLine := Nat.le_trans few (by decide)
  have main : ∀ H : Hp, Only H → SqL K H a (ns.map V.int) → HOk P w H t.heap → (∀ b, H b ≠ none → b = a ∧ K.lookup a = none) → codeAny (model P w) callerA (.call (.ref fa) ⟨[.ref a], []⟩) (fun r s' => r = .ok (.ret (.bool true)) ∧ OldK t.heap s'.heap ∧ s'.os = t.os ∧ AllBare s'.gens) t := by
    intro H only seq hok sole
    have free : ∀ {b : Addr} {o : Obj}, t.heap.get? b = some o → (b = a → K.lookup a = none → False) → (hidT t.heap H).get? b = some o := fun {b o} e no => hidT_get e (by
      apply Classical.byContradiction
      intro h
      exact no (sole b h).1 (sole b h).2)
    have ns2 : ∀ {b : Addr} {m : Str → Option Value}, t.heap.Ns b m → (hidT t.heap H).Ns b m := by
      rintro b m ⟨o, es, ep, e, d, r⟩
      refine ⟨o, es, ep, free e fun eb _ => ?_, d, r⟩
      subst eb
      have := at_a.symm.trans e
      cases this
      cases d
    have kin2 : K.In (hidT t.heap H) := fun b o e => free (kin b o e) fun eb no => by rw [eb, no] at e; cases e
    have md : Mod K mg (hidT t.heap H) := ⟨kin2, ns2 glb, ⟨mb, ns2 blt, isB⟩, by obtain ⟨mc, h1, h2⟩ := lim; exact ⟨mc, ns2 h1, h2⟩⟩
    have e0 : Env0 P w K mg (hidT t.heap H) callerA [] t H := ⟨rfl, md, fun b o e => of_hidT e, Nat.le_of_eq (hidT_size _ _), trivial, fun b hb => (nomatch hb), hok, .of_eq gens⟩
    refine codeAny_mono (F _ kin2 (ns2 glb) callerA [] t H ⟨[.ref a], []⟩ [.ref a] [.ref a] (fun v _ => v = .bl true) (fun _ _ _ => False) room rfl e0 (bnd t (.ref a)) (.cons rfl .nil) ⟨a, ns, rfl, seq, few, fun _ => rfl⟩) fun r t2 h => ?_
    cases r with
    | error e => exact False.elim h
    | ok fl =>
      cases fl with
      | ret u =>
        obtain ⟨v, H2, os, bare, un, hok2, rv, rfl⟩ := h
        cases rv
        refine ⟨rfl, OldK.of_keep fun b o e => ?_, os, bare⟩
        rcases only b with q | ⟨ob, xs, q⟩
        · exact un.keep b o e q (fun m => (nomatch m)) (fun m => (nomatch m))
        · have e1 := (hok b _ q).1
          have e2 := (hok2 b _ (un.frzs b ob _ q)).1
          rw [e] at e1
          cases e1
          exact e2
      | next => exact False.elim h
      | brk => exact False.elim h
      | cont => exact False.elim h
  have rv := vals_ints isInts
  cases hk : K.lookup a with
  | some o =>
    have e := at_a.symm.trans (kin a o hk)
    cases e
    exact main (fun _ => none) (fun _ => .inl rfl) (.inr ⟨_, vs.toArray, _, hk, rfl, rfl, rfl, by rw [List.size_toArray, isInts.length]; exact small, by simpa using rv⟩) (fun b u q => by cases q) (fun b q => (q rfl).elim)
  | none =>
    let O : Obj := { cls := .type "list", data := .seq vs.toArray }
    let H : Hp := fun b => if b = a then some (.frz O (.lst (ns.map V.int))) else none
    have yes : H a = some (.frz O (.lst (ns.map V.int))) := if_pos rfl
    have no : ∀ b, b ≠ a → H b = none := fun b n => if_neg n
    refine main H (fun b => ?_) (.inl (.inr ⟨O, yes⟩)) (fun b u q => ?_) (fun b q => ?_)
    · by_cases h : b = a
      · rw [h]; exact .inr ⟨_, _, yes⟩
      · exact .inl (no b h)
    · by_cases h : b = a
      · subst h
        have := yes.symm.trans q
        cases this
        exact ⟨at_a, by rw [List.length_map]; exact small, vs, _, rv, at_a⟩
      · rw [no b h] at q; cases q
    · by_cases h : b = a
      · exact ⟨h, hk⟩
      · exact (q (no b h)).elim
theorem walkG {l : PySem.W.OpenLaw} {k : Nat} {q : Program} {loose : List Str} {XP : (Str → Option Value) → Heap → Prop} {YP : World → Heap → Prop} {d : DefRec} {K : Params → PySem.W.Frag} {x : Str} (hn : l.most = some 63) (hdf : d.params.defaults = []) (room : Room k callerA) (hY : ∀ (w : World) (h : Heap), YP w h → (K w.params).In h)
    (F : ∀ (w : World) (mg : Str → Option Value) (fa : Addr) (h : Heap), (K w.params).In h → h.Ns mainGlobals mg → mg d.name = some (.ref fa) → ∃ fd : FuncData, (∀ (s : Shared) (u : Value), BindsTo s fd ⟨[u], []⟩ [(x, u)]) ∧ ∀ base : Heap, (K w.params).In base → base.Ns mainGlobals mg → FnG l.prog w (K w.params) mg base k fa fd [x] (spLaw (K w.params))) :
    PySem.W.WalkO q loose XP YP l.row.toRowW d [] (fun f vs => PySem.call f vs) := by
  refine Att.attach_call hn hdf fun w t0 t mg mb fa o pm cd doc a vs ns G Y _ _ _ nm at_a isInts few gens => ?_
  obtain ⟨fd, bnd, hF⟩ := F w mg fa _ (hY w _ Y) G.T.g nm
  exact callG (hY w _ Y) G.T.g G.T.b G.T.builtins G.T.nolimit gens at_a isInts few room hF bnd
/-! ### repr -/
def rRepr (K : PySem.W.Frag) : List V → Hp → VK → Prop := fun xs H Q => ∃ x d, xs = [x] ∧ Dp K H x d ∧ d.showable = true ∧ d.hasDict = false ∧ d.depth ≤ 60 ∧ d.shown.length ≤ sizeLine ∧ Q (.str d.shown) H
theorem call_reprD {X : Cx} {K : PySem.W.Frag} (e : X.K = K) (gd : X.A.guards = some []) (hu : X.A.units + 64 < cLine) : CallR X (.builtin "repr") (rRepr K) := by
  intro pins s σ H xs us Q I r h
  obtain ⟨x, d, rfl, hd, hs, hn, hp, hz, q⟩ := h
  rw [← e] at hd
  obtain ⟨u, rfl, rx⟩ := vals1 r
  cases hd with
  | non => cases rx; exact PySem.P.repr_of_none ⟨.str _, H, I.tok _, ⟨_, rfl⟩, q⟩
  | bl b => cases rx; exact PySem.P.repr_of_bool ⟨.str _, H, I.tok _, ⟨_, rfl⟩, q⟩
  | int i => obtain ⟨t, rfl⟩ := rx; exact PySem.P.repr_of_int (of_decide_eq_true hs) ⟨.str _, H, I.tok _, ⟨_, rfl⟩, q⟩
  | str y => obtain ⟨t, rfl⟩ := rx; exact PySem.P.repr_of_str ⟨.str _, H, I.tok _, ⟨_, rfl⟩, q⟩ hz
  | lst h1 h2 =>
    obtain ⟨as, rd⟩ := Dp.reads I _ _ _ (.lst h1 h2) rx
    cases rx
    exact repr_of_reads' rd hs (fun e => by rw [hn] at e; cases e) gd (by omega) (fun b o e => e) (fun h' u tk hk => ⟨.str _, H, I.kept hk, ⟨u, rfl⟩, q⟩) hz
  | tup h1 h2 =>
    obtain ⟨as, rd⟩ := Dp.reads I _ _ _ (.tup h1 h2) rx
    cases rx
    exact repr_of_reads' rd hs (fun e => by rw [hn] at e; cases e) gd (by omega) (fun b o e => e) (fun h' u tk hk => ⟨.str _, H, I.kept hk, ⟨u, rfl⟩, q⟩) hz
end Q

namespace PySem.W
open PySem PySem.Calls PyProof.Rows
section
variable {prog : Program} {w : World} {M : Model} {A : Around} {E : Value → Shared → Prop} {s : Shared} {K : Frag} {x C L f : Addr} {h₀ : Heap} {m : Str → Option Value} {ox : Obj} {od : Option Obj} {nm : String}
/-- a class without the in-place method -/
theorem q_noI {h : Heap} {cd : ClassData} {add : Bool} (X : K.In h) (hc : clsIn K C = some cd) (hm : cd.mro = [.ref C, .type "object"]) (h1 : findIn K (.ref C) (dunderI nm) = some none) (h2 : findIn K (.type "object") (dunderI nm) = some none) : Looks M h (fillsInplaceSlot (.ref C) nm add) false := by
  intro A Q E s k q
  have Lm : Looks M h (mroOf (.ref C)) cd.mro := (looks_clsIn X hc).andThen (f := fun cd => pure cd.mro) .now
  have Lm' := Lm.keeps k
  obtain ⟨hh, g, d, tt, os⟩ := s
  have X' : K.In hh := X.keeps k
  have L1 : Looks M hh (typeLookup (.ref C) (dunderI nm)) none := looks_findIn X' h1
  have L2 : Looks M hh (typeLookup (.type "object") (dunderI nm)) none := looks_findIn X' h2
  unfold fillsInplaceSlot
  refine wpAny_bind (Lm'.at ?_)
  rw [hm, List.anyM_cons]
  refine wpAny_bind ?_
  refine wpAny_bind (L1.at (wpAny_pure ?_))
  simp only [Bool.false_eq_true, if_false]
  rw [List.anyM_cons]
  refine wpAny_bind ?_
  refine wpAny_bind (L2.at (wpAny_pure ?_))
  simp only [Bool.false_eq_true, if_false]
  exact wpAny_pure q
theorem q_inplace {op : Operator} {b : Value} {cd : ClassData} {Q : Value → Shared → Prop} (F : Fr h₀ L s.heap m) (X₀ : K.In h₀) (I : InstAt s.heap x ox C od) (hb : Looks (model prog w) s.heap (typeOf b) (.ref C)) (hcd : clsIn K C = some cd) (hm : cd.mro = [.ref C, .type "object"])
    (h1 : findIn K (.ref C) (dunderI op.info.2) = some none) (h2 : findIn K (.type "object") (dunderI op.info.2) = some none) (hs : findIn K (.ref C) (PySem.dunder op.info.2) = some (some (.ref f))) (hf : isFn K (.ref f) = true)
    (h : wpAny (model prog w) A (call (.ref f) [.ref x, b]) (CmpBack Q) E s) : wpAny (model prog w) A (inplaceOp op (.ref x) b) Q E s := by
  have X := X₀.keeps F.keep
  unfold inplaceOp
  refine wpAny_holding ?_
  refine wpAny_bind (I.type.here (wpAny_bind ((q_noI X hcd hm h1 h2).here ?_)))
  rw [if_neg (by decide)]
  refine wpAny_bind ?_
  unfold binaryOp1
  refine wpAny_bind (I.type.here (wpAny_bind (hb.here (wpAny_bind ((fills_K X hcd hm hs).here ?_)))))
  simp only [beq_self_eq_true, if_true]
  refine wpAny_bind (wpAny_pure ?_)
  simp only [Bool.and_false, Bool.false_eq_true, if_false, Bool.false_and]
  refine wpAny_bind (wpAny_pure ?_)
  simp only [Bool.false_eq_true, if_false]
  refine wpAny_bind (m := tryMethod (.ref x) _ b) (wpAny_mono (ksp_try X I hs hf h) (fun r s' hr => ?_) fun _ _ e => e)
  obtain ⟨v, rfl, hv⟩ := hr
  exact wpAny_pure (wpAny_pure hv)
end
end PySem.W
namespace Q
open PySem L2 PyProof.Rows
/-- what K tells of a class without in-place methods -/
structure NoI (K : PySem.W.Frag) (C : Addr) (i : Str) : Prop where
  ex : ∃ cd : ClassData, PySem.W.clsIn K C = some cd ∧ cd.mro = [.ref C, .type "object"]
  no : PySem.W.findIn K (.ref C) i = some none
  no2 : PySem.W.findIn K (.type "object") i = some none
section
variable {X : Cx} {C : Addr} {k : Nat} {ps : List Str} {sp : Sp}
theorem ip_own {op : Operator} (c : Mf X.prog X.w X.K X.mg X.base C (PySem.dunder op.info.2) k ps sp) (hr : Room k X.A) (hn : NoI X.K C (dunderI op.info.2)) : PIp X op (rBin C sp) := by
  intro pins s σ H x y u v Q I rx ry q
  obtain ⟨f, fd, Fk, M, hb⟩ := c.ex
  obtain ⟨a, b, dx, dy, fs, gs, rfl, rfl, ha, hb', hsp⟩ := q
  cases rx
  cases ry
  obtain ⟨_, J, _⟩ := ins_get I.hok ha
  obtain ⟨_, J', _⟩ := ins_get I.hok hb'
  obtain ⟨od, J, _⟩ := J.look
  obtain ⟨od', J', _⟩ := J'.look
  obtain ⟨m, hF⟩ := I.fr
  obtain ⟨cd, hcd, hm⟩ := hn.ex
  refine PySem.W.q_inplace hF I.ok.mod.kin J J'.type hcd hm hn.no hn.no2 M.at_ M.fn ?_
  refine wpAny_mono (run_fn (dvs := []) (ds := []) (E := E0) Fk hr hb .nil pass0 I (show Vals [V.ref a, V.ref b] [Value.ref a, Value.ref b] from .cons rfl (.cons rfl .nil)) hsp) (fun w s' hw => ?_) fun _ _ z => z
  obtain ⟨v, H', I', rv, qv⟩ := hw
  exact cmp_back rv ⟨v, H', I', rv, qv⟩
end
section
variable {z : Z} {ds : Ds} {st : Sto} {P : Po} {te : TE} {ta : TA}
theorem wp_aug {i : Nat} {ti : TIp} {w0 : W} (h0 : ds[i]? = some (some w0)) (h : Ev z te ds st fun y st1 => Ro z ti w0 y st1 fun w st2 => P.nx (ds.set i (some w)) st2) : Wp z (tAug i te ti) ds st P := fun E σ H s o c => by
  obtain ⟨v, hv, rv⟩ := s.2 i w0 h0
  refine ⟨v, hv, h σ H s o _ fun w st1 y H1 h1 l1 b1 o1 r1 => ?_⟩
  refine h1 v y H1 o1 (rv.le l1 b1) r1 _ fun w2 st2 u H2 h2 l2 b2 o2 r2 => ?_
  exact c.nx _ st2 _ H2 h2 (l1.trans l2) (((s.le l1 b1).le l2 b2).set r2 i) o2
theorem wp_par {i j : Nat} (h : EvA z ta ds st fun ws st1 => ∃ x y, ws = [x, y] ∧ P.nx ((ds.set i (some x)).set j (some y)) st1) : Wp z (tPar i j ta) ds st P := fun E σ H s o c =>
  h σ H s o _ fun ws st1 vs H1 h1 l1 b1 o1 r1 => by
    obtain ⟨x, y, rfl, p⟩ := h1
    obtain ⟨u, v, rfl, ru, rv⟩ := rws2 r1
    exact ⟨u, v, rfl, c.nx _ st1 _ H1 p l1 (((s.le l1 b1).set ru i).set rv j) o1⟩
end
/-! ### x in a list, by equal data -/
section
variable {X : Cx} {K : PySem.W.Frag}
theorem room65 {k : Nat} {A : Around} (r : Room k A) : A.units + 65 < cLine := by have := r.un; omega
theorem kInD (e : X.K = K) (hu : X.A.units + 65 < cLine) : OpR X (compareOp .In) (rInD K) := e ▸ op_inD hu
theorem kNotInD (e : X.K = K) (hu : X.A.units + 65 < cLine) : OpR X (compareOp .NotIn) (rNotInD K) := e ▸ op_notInD hu
theorem kRepr (e : X.K = K) (gd : X.A.guards = some []) (hu : X.A.units + 64 < cLine) : CallR X (.builtin "repr") (rRepr K) := call_reprD e gd hu
end
section
variable {z : Z} {st : Sto} {P : W → Sto → Prop}
theorem SqLs.dp {H : Hp} {w : W} {l : List D} {v : V} (o : StOk z st H) (h : SqLs st w l) (r : Rw z (adr st) H v w) (hp : pls l = true) : Dp z.K H v (.list (pys l)) := by
  obtain ⟨a, xs, rfl, hq, hr⟩ := h.rd o r
  exact .lst hq (hr.dp hp)
theorem ro_inD {a : D} {w : W} {l : List D} (h : SqLs st w l) (ha : okD a = true) (hl : okD (.lst l) = true) (p : P (.d (.bl ((pys l).any fun y => PyData.eqv y (py a)))) st) : Ro z (rInD z.K) (.d a) w st P := fun u v H o hu hv Q q => by
  obtain ⟨a1, a2⟩ := Bool.and_eq_true_iff.mp ha
  obtain ⟨b1, b2⟩ := Bool.and_eq_true_iff.mp hl
  cases hu with | d hu =>
  exact ⟨_, _, hu.dp a1, h.dp o hv b1, a2, b2, q _ st _ H p (Le.refl _ _) (sub_refl _) o (.d (.bl _))⟩
theorem ro_notInD {a : D} {w : W} {l : List D} (h : SqLs st w l) (ha : okD a = true) (hl : okD (.lst l) = true) (p : P (.d (.bl (!(pys l).any fun y => PyData.eqv y (py a)))) st) : Ro z (rNotInD z.K) (.d a) w st P := fun u v H o hu hv Q q => by
  obtain ⟨a1, a2⟩ := Bool.and_eq_true_iff.mp ha
  obtain ⟨b1, b2⟩ := Bool.and_eq_true_iff.mp hl
  cases hu with | d hu =>
  exact ⟨_, _, hu.dp a1, h.dp o hv b1, a2, b2, q _ st _ H p (Le.refl _ _) (sub_refl _) o (.d (.bl _))⟩
/-- data that repr may be asked of -/
structure Shw (d : D) : Prop where
  pl : pl d = true
  sh : (py d).showable = true
  nd : (py d).hasDict = false
  dp : (py d).depth ≤ 60
  ln : (py d).shown.length ≤ 16000000
theorem rc_repr {d : D} (h : Shw d) (p : P (.d (.str (py d).shown)) st) : Rc z (rRepr z.K) [.d d] st P := fun us H o r Q q => by
  obtain ⟨u, rfl, r1⟩ := rws1 r
  cases r1 with | d r1 =>
  exact ⟨u, _, rfl, r1.dp h.pl, h.sh, h.nd, h.dp, Nat.le_trans h.ln (by decide), q _ st _ H p (Le.refl _ _) (sub_refl _) o (.d (.str _))⟩
end
/-! #### what may be shown -/
theorem shw_bl (b : Bool) : Shw (.bl b) := ⟨rfl, rfl, rfl, Nat.zero_le _, by cases b <;> decide⟩
theorem shw_int {i : Int} (h : i.natAbs.log2 < 1920) : Shw (.int i) := ⟨rfl, decide_eq_true h, rfl, Nat.zero_le _, Nat.le_trans (show (Str.ofString (toString i)).length ≤ 1921 from by have e := PySem.int_text_length_le (k := 1920) (by decide) h; rw [PySem.ofString_length]; exact e) (by decide)⟩
/-- the items of a list or a tuple: at most n signs each -/
structure ShwA (l : List D) (n : Nat) : Prop where
  pl : pls l = true
  sh : PyData.showableAll (pys l) = true
  nd : PyData.hasDictAll (pys l) = false
  dp : PyData.depthAll (pys l) ≤ 59
  ln : ((PyData.shownAll (pys l)).map (·.length)).sum + 2 * (PyData.shownAll (pys l)).length ≤ n
theorem ShwA.nil : ShwA [] 0 := ⟨rfl, rfl, rfl, by decide, Nat.le_refl _⟩
theorem ShwA.cons {d : D} {l : List D} {n m : Nat} (h : Shw d) (hd : (py d).depth ≤ 59) (hl : (py d).shown.length ≤ m) (t : ShwA l n) : ShwA (d :: l) (n + m + 2) where
  pl := by unfold pls; rw [h.pl, t.pl]; rfl
  sh := by show ((py d).showable && PyData.showableAll (pys l)) = true; rw [h.sh, t.sh]; rfl
  nd := by show ((py d).hasDict || PyData.hasDictAll (pys l)) = false; rw [h.nd, t.nd]; rfl
  dp := by show max (py d).depth (PyData.depthAll (pys l)) ≤ 59; have := t.dp; omega
  ln := by
    have := t.ln
    show (((py d).shown :: PyData.shownAll (pys l)).map (·.length)).sum + 2 * ((py d).shown :: PyData.shownAll (pys l)).length ≤ _
    rw [List.map_cons, List.sum_cons, List.length_cons]
    omega
theorem ShwA.lst {l : List D} {n : Nat} (h : ShwA l n) (hn : n ≤ 15000000) : Shw (.lst l) ∧ (py (.lst l)).shown.length ≤ n + 3 := by
  have e : (py (.lst l)).shown.length ≤ n + 3 := Nat.le_trans (listText_len_le (PyData.shownAll (pys l))) (by have := h.ln; omega)
  exact ⟨⟨h.pl, h.sh, h.nd, by show PyData.depthAll (pys l) + 1 ≤ 60; have := h.dp; omega, by omega⟩, e⟩
theorem ShwA.tup {l : List D} {n : Nat} (h : ShwA l n) (hn : n ≤ 15000000) : Shw (.tup l) ∧ (py (.tup l)).shown.length ≤ n + 3 := by
  have e : (py (.tup l)).shown.length ≤ n + 3 := Nat.le_trans (tupleText_len_le (PyData.shownAll (pys l))) (by have := h.ln; omega)
  exact ⟨⟨h.pl, h.sh, h.nd, by show PyData.depthAll (pys l) + 1 ≤ 60; have := h.dp; omega, by omega⟩, e⟩
theorem shown_int {i : Int} (h : i.natAbs.log2 < 1920) : (py (.int i)).shown.length ≤ 1921 := by
  show (Str.ofString (toString i)).length ≤ 1921
  rw [PySem.ofString_length]
  exact PySem.int_text_length_le (k := 1920) (by decide) h
theorem shown_bl (b : Bool) : (py (.bl b)).shown.length ≤ 5 := by cases b <;> decide
end Q

namespace MB
abbrev Pr := Int × Int
def Und (p : Pr) (cs : List Pr) : Prop := ∃ c ∈ cs, p.1 ≤ c.1 ∧ p.2 ≤ c.2
def undB (p : Pr) (cs : List Pr) : Bool := cs.any fun c => decide (p.1 ≤ c.1) && decide (p.2 ≤ c.2)
theorem undB_iff {p : Pr} {cs : List Pr} : undB p cs = true ↔ Und p cs := by
  unfold undB Und
  simp [List.any_eq_true]
def Stair (R : List Pr) : Prop := R.Pairwise fun a b => a.1 < b.1 ∧ b.2 < a.2
theorem und_append {p : Pr} {a b : List Pr} : Und p (a ++ b) ↔ Und p a ∨ Und p b := by
  unfold Und
  constructor
  · rintro ⟨c, h, q⟩
    rcases List.mem_append.mp h with h | h
    · exact .inl ⟨c, h, q⟩
    · exact .inr ⟨c, h, q⟩
  · rintro (⟨c, h, q⟩ | ⟨c, h, q⟩)
    · exact ⟨c, List.mem_append_left _ h, q⟩
    · exact ⟨c, List.mem_append_right _ h, q⟩
theorem und_trans {p q : Pr} {cs : List Pr} (h : p.1 ≤ q.1) (h' : p.2 ≤ q.2) (u : Und q cs) : Und p cs := by
  obtain ⟨c, m, a, b⟩ := u
  exact ⟨c, m, by omega, by omega⟩
theorem und_self {p : Pr} {cs : List Pr} (h : p ∈ cs) : Und p cs := ⟨p, h, Int.le_refl _, Int.le_refl _⟩
theorem und_sub {a b : List Pr} (h : ∀ c ∈ a, Und c b) {p : Pr} (u : Und p a) : Und p b := by
  obtain ⟨c, m, x, y⟩ := u
  exact und_trans x y (h c m)
theorem stair_anti {R : List Pr} (s : Stair R) {a b : Pr} (ha : a ∈ R) (hb : b ∈ R) (h1 : a.1 ≤ b.1) (h2 : a.2 ≤ b.2) : a = b := by
  induction R with
  | nil => cases ha
  | cons c R ih =>
    obtain ⟨s1, s2⟩ := List.pairwise_cons.mp s
    rcases List.mem_cons.mp ha with ha' | ha'
    · rcases List.mem_cons.mp hb with hb' | hb'
      · rw [ha', hb']
      · have := s1 b hb'; rw [← ha'] at this; omega
    · rcases List.mem_cons.mp hb with hb' | hb'
      · have := s1 a ha'; rw [← hb'] at this; omega
      · exact ih s2 ha' hb'
theorem stair_mem {R S : List Pr} (s : Stair R) (e : ∀ p, Und p R ↔ Und p S) {a : Pr} (ha : a ∈ R) : a ∈ S := by
  obtain ⟨c, hc, h1, h2⟩ := (e a).mp (und_self ha)
  obtain ⟨d, hd, h3, h4⟩ := (e c).mpr (und_self hc)
  have : a = d := stair_anti s ha hd (by omega) (by omega)
  subst this
  have e1 : a.1 = c.1 := by omega
  have e2 : a.2 = c.2 := by omega
  have : a = c := Prod.ext e1 e2
  rw [this]
  exact hc
theorem sorted_eq : ∀ {R S : List Pr}, R.Pairwise (fun a b => a.1 < b.1) → S.Pairwise (fun a b => a.1 < b.1) → (∀ p, p ∈ R ↔ p ∈ S) → R = S
  | [], [], _, _, _ => rfl
  | [], b :: S, _, _, e => by have := (e b).mpr List.mem_cons_self; cases this
  | a :: R, [], _, _, e => by have := (e a).mp List.mem_cons_self; cases this
  | a :: R, b :: S, r, s, e => by
    obtain ⟨r1, r2⟩ := List.pairwise_cons.mp r
    obtain ⟨s1, s2⟩ := List.pairwise_cons.mp s
    have hab : a = b := by
      rcases List.mem_cons.mp ((e a).mp List.mem_cons_self) with h | h
      · exact h
      · rcases List.mem_cons.mp ((e b).mpr List.mem_cons_self) with h' | h'
        · exact h'.symm
        · have := s1 a h
          have := r1 b h'
          omega
    subst hab
    have : R = S := sorted_eq r2 s2 fun p => by
      constructor
      · intro h
        rcases List.mem_cons.mp ((e p).mp (List.mem_cons_of_mem _ h)) with q | q
        · subst q; have := r1 p h; omega
        · exact q
      · intro h
        rcases List.mem_cons.mp ((e p).mpr (List.mem_cons_of_mem _ h)) with q | q
        · subst q; have := s1 p h; omega
        · exact q
    rw [this]
theorem stair_eq {R S : List Pr} (r : Stair R) (s : Stair S) (e : ∀ p, Und p R ↔ Und p S) : R = S :=
  sorted_eq (r.imp fun h => h.1) (s.imp fun h => h.1) fun p => ⟨fun h => stair_mem r e h, fun h => stair_mem s (fun q => (e q).symm) h⟩
def lesser (a b : Pr) : Pr := (if b.1 < a.1 then b.1 else a.1, if b.2 < a.2 then b.2 else a.2)
def meet (R S : List Pr) : List Pr := R.flatMap fun a => S.map fun b => lesser a b
theorem und_meet {p : Pr} {R S : List Pr} : Und p (meet R S) ↔ Und p R ∧ Und p S := by
  unfold Und meet
  constructor
  · rintro ⟨c, h, q1, q2⟩
    obtain ⟨a, ha, h⟩ := List.mem_flatMap.mp h
    obtain ⟨b, hb, rfl⟩ := List.mem_map.mp h
    simp only [lesser] at q1 q2
    refine ⟨⟨a, ha, ?_, ?_⟩, ⟨b, hb, ?_, ?_⟩⟩
    · split at q1 <;> omega
    · split at q2 <;> omega
    · split at q1 <;> omega
    · split at q2 <;> omega
  · rintro ⟨⟨a, ha, a1, a2⟩, ⟨b, hb, b1, b2⟩⟩
    refine ⟨lesser a b, List.mem_flatMap.mpr ⟨a, ha, List.mem_map.mpr ⟨b, hb, rfl⟩⟩, ?_, ?_⟩
    · simp only [lesser]; split <;> omega
    · simp only [lesser]; split <;> omega
/-! the size -/
def NonNeg (R : List Pr) : Prop := ∀ c ∈ R, 0 ≤ c.1 ∧ 0 ≤ c.2
def h (R : List Pr) (x : Nat) : Nat := R.foldr (fun c acc => if (x : Int) ≤ c.1 then max (c.2 + 1).toNat acc else acc) 0
theorem lt_h {R : List Pr} {x y : Nat} : y < h R x ↔ Und ((x : Int), (y : Int)) R := by
  induction R with
  | nil => simp [h, Und]
  | cons c R ih =>
    have e : h (c :: R) x = if (x : Int) ≤ c.1 then max (c.2 + 1).toNat (h R x) else h R x := rfl
    have u : Und ((x : Int), (y : Int)) (c :: R) ↔ ((x : Int) ≤ c.1 ∧ (y : Int) ≤ c.2) ∨ Und ((x : Int), (y : Int)) R := by
      unfold Und
      simp
    rw [u, e, ← ih]
    by_cases q : (x : Int) ≤ c.1
    · rw [if_pos q]
      simp only [q, true_and]
      have : y < (c.2 + 1).toNat ↔ (y : Int) ≤ c.2 := by omega
      rw [← this]
      omega
    · rw [if_neg q]
      simp [q]
theorem h_ext {R S : List Pr} (e : ∀ p, Und p R ↔ Und p S) (x : Nat) : h R x = h S x := by
  have : ∀ y, y < h R x ↔ y < h S x := fun y => by rw [lt_h, lt_h]; exact e _
  have h1 := this (h R x)
  have h2 := this (h S x)
  omega
theorem h_or {R S T : List Pr} (e : ∀ p, Und p T ↔ Und p R ∨ Und p S) (x : Nat) : h T x = max (h R x) (h S x) := by
  have : ∀ y, y < h T x ↔ y < h R x ∨ y < h S x := fun y => by rw [lt_h, lt_h, lt_h]; exact e _
  have h1 := this (h T x)
  have h2 := this (h R x)
  have h3 := this (h S x)
  omega
theorem h_and {R S T : List Pr} (e : ∀ p, Und p T ↔ Und p R ∧ Und p S) (x : Nat) : h T x = min (h R x) (h S x) := by
  have : ∀ y, y < h T x ↔ y < h R x ∧ y < h S x := fun y => by rw [lt_h, lt_h, lt_h]; exact e _
  have h1 := this (h T x)
  have h2 := this (h R x)
  have h3 := this (h S x)
  omega
/-- the sum of n heights from b on -/
def sm (R : List Pr) (b : Nat) : Nat → Nat
  | 0 => 0
  | n + 1 => h R b + sm R (b + 1) n
def sizeFrom (b : Int) : List Pr → Int
  | [] => 0
  | c :: R => (c.1 + 1 - b) * (c.2 + 1) + sizeFrom (c.1 + 1) R
theorem sm_add (R : List Pr) (m n : Nat) : ∀ b, sm R b (m + n) = sm R b m + sm R (b + m) n := by
  induction m with
  | zero => intro b; simp [sm]
  | succ m ih =>
    intro b
    rw [show m + 1 + n = (m + n) + 1 by omega]
    simp only [sm]
    rw [ih, show b + 1 + m = b + (m + 1) by omega]
    omega
theorem sm_congr {R S : List Pr} {n : Nat} : ∀ {b : Nat}, (∀ x, b ≤ x → h R x = h S x) → sm R b n = sm S b n := by
  induction n with
  | zero => intros; rfl
  | succ n ih =>
    intro b e
    simp only [sm]
    rw [e b (Nat.le_refl _), ih fun x hx => e x (by omega)]
theorem sm_const {R : List Pr} {k n : Nat} : ∀ {b : Nat}, (∀ x, b ≤ x → x < b + n → h R x = k) → sm R b n = n * k := by
  induction n with
  | zero => intros; simp [sm]
  | succ n ih =>
    intro b e
    simp only [sm]
    rw [e b (Nat.le_refl _) (by omega), ih fun x h1 h2 => e x (by omega) (by omega), Nat.succ_mul]
    omega
theorem h_nil (x : Nat) : h [] x = 0 := rfl
theorem sm_nil (n : Nat) : ∀ b, sm [] b n = 0 := by
  induction n with
  | zero => intro b; rfl
  | succ n ih => intro b; simp only [sm]; rw [ih, h_nil]
theorem h_head {c : Pr} {R : List Pr} (s : Stair (c :: R)) (h2 : 0 ≤ c.2) {x : Nat} (hx : (x : Int) ≤ c.1) : h (c :: R) x = (c.2 + 1).toNat := by
  have : ∀ y, y < h (c :: R) x ↔ y < (c.2 + 1).toNat := fun y => by
    rw [lt_h]
    constructor
    · rintro ⟨d, hd, q1, q2⟩
      rcases List.mem_cons.mp hd with rfl | hd
      · simp only at q2; omega
      · have := (List.pairwise_cons.mp s).1 d hd
        simp only at q2
        omega
    · intro hy
      exact ⟨c, List.mem_cons_self, hx, by simp only; omega⟩
  have h1 := this (h (c :: R) x)
  have h3 := this (c.2 + 1).toNat
  omega
theorem h_tail {c : Pr} {R : List Pr} {x : Nat} (hx : c.1 < (x : Int)) : h (c :: R) x = h R x := by
  show (if (x : Int) ≤ c.1 then max (c.2 + 1).toNat (h R x) else h R x) = h R x
  rw [if_neg (by omega)]
theorem size_sm : ∀ {R : List Pr} {b N : Nat}, Stair R → NonNeg R → (∀ c ∈ R, (b : Int) ≤ c.1 ∧ c.1 < N) → b ≤ N → sizeFrom b R = (sm R b (N - b) : Nat)
  | [], b, N, _, _, _, _ => by rw [sm_nil]; rfl
  | c :: R, b, N, s, nn, hb, hN => by
    obtain ⟨hc1, hc2⟩ := hb c List.mem_cons_self
    obtain ⟨n1, n2⟩ := nn c List.mem_cons_self
    have s2 : Stair R := (List.pairwise_cons.mp s).2
    have ih := size_sm (R := R) (b := (c.1 + 1).toNat) (N := N) s2 (fun d hd => nn d (List.mem_cons_of_mem _ hd)) (fun d hd => by
      have h1 := (List.pairwise_cons.mp s).1 d hd
      have h2 := (hb d (List.mem_cons_of_mem _ hd)).2
      omega) (by omega)
    have e1 : ((c.1 + 1).toNat : Int) = c.1 + 1 := by omega
    rw [e1] at ih
    show (c.1 + 1 - b) * (c.2 + 1) + sizeFrom (c.1 + 1) R = _
    rw [ih]
    have hs : N - b = ((c.1 + 1).toNat - b) + (N - (c.1 + 1).toNat) := by omega
    rw [hs, sm_add]
    rw [sm_const (k := (c.2 + 1).toNat) fun x h1 h2 => h_head s n2 (by omega)]
    rw [show b + ((c.1 + 1).toNat - b) = (c.1 + 1).toNat by omega]
    rw [sm_congr (R := c :: R) (S := R) fun x hx => h_tail (by omega)]
    rw [Int.natCast_add, Int.natCast_mul]
    have e2 : (((c.1 + 1).toNat - b : Nat) : Int) = c.1 + 1 - b := by omega
    have e3 : (((c.2 + 1).toNat : Nat) : Int) = c.2 + 1 := by omega
    rw [e2, e3]
def size (R : List Pr) : Int := sizeFrom 0 R
def bound (R : List Pr) : Nat := R.foldr (fun c acc => max (c.1 + 1).toNat acc) 0
theorem lt_bound : ∀ {R : List Pr} {c : Pr}, c ∈ R → 0 ≤ c.1 → c.1 < (bound R : Nat)
  | d :: R, c, hc, h0 => by
    have e : bound (d :: R) = max (d.1 + 1).toNat (bound R) := rfl
    rw [e]
    rcases List.mem_cons.mp hc with rfl | hc
    · omega
    · have := lt_bound hc h0
      omega
theorem size_at {R : List Pr} (s : Stair R) (nn : NonNeg R) {N : Nat} (hN : bound R ≤ N) : size R = (sm R 0 N : Nat) := by
  have := size_sm (b := 0) (N := N) s nn (fun c hc => ⟨(nn c hc).1, by have := lt_bound hc (nn c hc).1; omega⟩) (Nat.zero_le _)
  simpa [size] using this
theorem sm_both {R S A O : List Pr} (ha : ∀ p, Und p A ↔ Und p R ∧ Und p S) (ho : ∀ p, Und p O ↔ Und p R ∨ Und p S) (n : Nat) : ∀ b, sm A b n + sm O b n = sm R b n + sm S b n := by
  induction n with
  | zero => intro b; rfl
  | succ n ih =>
    intro b
    simp only [sm]
    have := ih (b + 1)
    have h1 := h_and ha b
    have h2 := h_or ho b
    omega
theorem size_both {R S A O : List Pr} (r : Stair R) (s : Stair S) (a : Stair A) (o : Stair O) (nr : NonNeg R) (ns : NonNeg S) (na : NonNeg A) (no : NonNeg O) (ha : ∀ p, Und p A ↔ Und p R ∧ Und p S) (ho : ∀ p, Und p O ↔ Und p R ∨ Und p S) : size A + size O = size R + size S := by
  have N := max (max (bound R) (bound S)) (max (bound A) (bound O))
  let N := max (max (bound R) (bound S)) (max (bound A) (bound O))
  rw [size_at r nr (N := N) (by omega), size_at s ns (N := N) (by omega), size_at a na (N := N) (by omega), size_at o no (N := N) (by omega)]
  have := sm_both ha ho N 0
  omega
theorem size_pos {R : List Pr} (s : Stair R) (nn : NonNeg R) : 0 < size R ↔ R ≠ [] := by
  constructor
  · rintro h rfl
    simp [size, sizeFrom] at h
  · intro h
    cases R with
    | nil => exact absurd rfl h
    | cons c R =>
      rw [size_at s nn (Nat.le_refl _)]
      have hb := lt_bound (R := c :: R) List.mem_cons_self (nn c List.mem_cons_self).1
      obtain ⟨n1, n2⟩ := nn c List.mem_cons_self
      cases q : bound (c :: R) with
      | zero => rw [q] at hb; omega
      | succ n =>
        simp only [sm]
        have := h_head s n2 (x := 0) (by simpa using n1)
        omega
theorem nodup_le : ∀ {R cs : List Pr}, R.Nodup → (∀ c ∈ R, c ∈ cs) → R.length ≤ cs.length
  | [], cs, _, _ => Nat.zero_le _
  | a :: R, cs, n, h => by
    obtain ⟨n1, n2⟩ := List.nodup_cons.mp n
    have ha : a ∈ cs := h a List.mem_cons_self
    have ih := nodup_le (R := R) (cs := cs.erase a) n2 fun c hc => (List.mem_erase_of_ne (fun e => n1 (by rw [← e]; exact hc))).mpr (h c (List.mem_cons_of_mem _ hc))
    have hl := List.length_erase_of_mem ha
    have hp := List.length_pos_of_mem ha
    simp only [List.length_cons]
    omega
theorem stair_le {R cs : List Pr} (s : Stair R) (h : ∀ c ∈ R, c ∈ cs) : R.length ≤ cs.length := by
  refine nodup_le ?_ h
  exact s.imp fun {a b} h e => by rw [e] at h; omega
end MB

namespace Q
open PySem L2
/-! ### promises: words -/
def isInt (w : W) : Bool := isT w "int" && !isT w "bool"
def isNum : W → Bool
  | .d (.int i) => decide (0 ≤ i)
  | _ => false
def pmIsInt (z : Z) : Pm := ⟨W, fun w st ws => ws = [w] ∧ HasT z st w, fun w st r st' => r = .d (.bl (isInt w)) ∧ st' = st⟩
def pmIsNum (z : Z) : Pm := ⟨W, fun w st ws => ws = [w] ∧ HasT z st w, fun w st r st' => r = .d (.bl (isNum w)) ∧ st' = st⟩
def pmIsSeq (z : Z) : Pm := ⟨W, fun w st ws => ws = [w] ∧ HasT z st w, fun w st r st' => r = .d (.bl (isT w "list" || isT w "tuple")) ∧ st' = st⟩
theorem isInt_is {w : W} (h : isInt w = true) : ∃ i, w = .d (.int i) := by
  cases w with
  | p a => cases h
  | d x =>
    cases x with
    | int i => exact ⟨i, rfl⟩
    | _ => cases h
theorem isNum_not {w : W} (h : isInt w = false) : isNum w = false := by
  cases w with
  | p a => rfl
  | d x =>
    cases x with
    | int i => cases h
    | _ => rfl
/-! ### promises: the source of draws -/
structure GTake where
  (a : Addr) (j : Nat) (w s c n : Int)
def bx (w s c : Int) : Cell := .lst [.int w, .int s, .int c]
def pmTake : Pm := ⟨GTake, fun g st ws => ws = [.p g.a, .d (.int g.n)] ∧ st[g.j]? = some (g.a, bx g.w g.s g.c) ∧ 0 < g.n ∧ g.n.natAbs.log2 < 9000,
  fun g st w st' => ∃ r w' s' c' : Int, 0 ≤ r ∧ r < g.n ∧ w = .d (.int r) ∧ st' = st.set g.j (g.a, bx w' s' c')⟩
structure GBox where
  (ns : List Int) (k own : Int)
/-- the new source: a cell of three ints -/
def pmBox3 : Pm := ⟨GBox, fun g st ws => ws = [.d (.scr (g.ns.map .int)), .d (.int g.k), .d (.int g.own)] ∧ 0 ≤ g.k,
  fun g st w st' => ∃ a w' s' c', a ∉ adr st ∧ w = .p a ∧ st' = (a, bx w' s' c') :: st⟩
def pmBox2 : Pm := ⟨GBox, fun g st ws => ws = [.d (.scr (g.ns.map .int)), .d (.int g.k)] ∧ 0 ≤ g.k,
  fun g st w st' => ∃ a w' s' c', a ∉ adr st ∧ w = .p a ∧ st' = (a, bx w' s' c') :: st⟩
structure GAt where
  (a : Addr) (j : Nat) (w s c : Int)
/-! ### promises: bounds -/
open MB
def fB (R : List Pr) : List (Str × D) := [(("corners" : Str), .tup (R.map eP))]
def eB (R : List Pr) : D := .obj "Bounds" (fB R)
def isPr : W → Bool
  | .d (.tup [.int i, .int j]) => decide (0 ≤ i) && decide (0 ≤ j)
  | _ => false
def pmIsPr (z : Z) : Pm := ⟨W, fun w st ws => ws = [w] ∧ HasT z st w ∧ ∀ l, w = .d (.tup l) → ∀ d ∈ l, HasT z [] (.d d), fun w st r st' => r = .d (.bl (isPr w)) ∧ st' = st⟩
structure GUnd where
  (p : Pr) (cs : List Pr) (w : W)
def pmUnd : Pm := ⟨GUnd, fun g st ws => ws = [.d (eP g.p), g.w] ∧ Sq st g.w (g.cs.map eP) ∧ g.cs.length ≤ 1000000, fun g st r st' => r = .d (.bl (undB g.p g.cs)) ∧ st' = st⟩
/-- a tuple or a list that is data -/
inductive Sd : W → List D → Prop
  | tup (l : List D) : Sd (.d (.tup l)) l
  | lst (l : List D) : Sd (.d (.lst l)) l
structure GCs where
  (cs : List Pr) (w : W)
/-- the greatest of some pairs -/
structure Gr (R cs : List Pr) : Prop where
  st : Stair R
  mem : ∀ c ∈ R, c ∈ cs
  und : ∀ p, Und p R ↔ Und p cs
def pmGr : Pm := ⟨GCs, fun g st ws => ws = [g.w] ∧ Sd g.w (g.cs.map eP) ∧ g.cs.length ≤ 100000, fun g st r st' => ∃ R, Gr R g.cs ∧ r = .d (.tup (R.map eP)) ∧ st' = st⟩
def pmLes : Pm := ⟨Pr × Pr, fun g st ws => ws = [.d (eP g.1), .d (eP g.2)], fun g st r st' => r = .d (eP (lesser g.1 g.2)) ∧ st' = st⟩
structure GIni where
  (x dx : Addr) (cs : List Pr) (w : W) (st : Sto)
def pmIni : Pm := ⟨GIni, fun g st ws => ws = [.p g.x, g.w] ∧ st = (g.x, .ins "Bounds" g.dx []) :: g.st ∧ Sd g.w (g.cs.map eP) ∧ g.cs.length ≤ 100000 ∧ NonNeg g.cs,
  fun g st r st' => ∃ R, Gr R g.cs ∧ r = .d .non ∧ st' = (g.x, .ins "Bounds" g.dx (dat (fB R))) :: g.st⟩
/-- bounds: a stair of numbers, not too many -/
structure Bd (R : List Pr) : Prop where
  st : Stair R
  nn : NonNeg R
/-- two bounds -/
structure GTwo where
  (R S : List Pr)
def pmOr : Pm := ⟨GTwo, fun g st ws => ws = [.d (eB g.R), .d (eB g.S)] ∧ Bd g.R ∧ Bd g.S ∧ g.R.length + g.S.length ≤ 100000, fun g st r st' => ∃ T, Bd T ∧ T.length ≤ g.R.length + g.S.length ∧ (∀ p, Und p T ↔ Und p g.R ∨ Und p g.S) ∧ r = .d (eB T) ∧ st' = st⟩
def pmAnd : Pm := ⟨GTwo, fun g st ws => ws = [.d (eB g.R), .d (eB g.S)] ∧ Bd g.R ∧ Bd g.S ∧ g.R.length * g.S.length ≤ 100000, fun g st r st' => ∃ T, Bd T ∧ T.length ≤ g.R.length * g.S.length ∧ (∀ p, Und p T ↔ Und p g.R ∧ Und p g.S) ∧ r = .d (eB T) ∧ st' = st⟩
def pmLe : Pm := ⟨GTwo, fun g st ws => ws = [.d (eB g.R), .d (eB g.S)] ∧ g.R.length ≤ 100000 ∧ g.S.length ≤ 100000, fun g st r st' => r = .d (.bl (g.R.all fun p => undB p g.S)) ∧ st' = st⟩
def pmLt : Pm := ⟨GTwo, fun g st ws => ws = [.d (eB g.R), .d (eB g.S)] ∧ g.R.length ≤ 100000 ∧ g.S.length ≤ 100000, fun g st r st' => r = .d (.bl ((g.R.all fun p => undB p g.S) && !decide (g.R = g.S))) ∧ st' = st⟩
def pmGe : Pm := ⟨GTwo, fun g st ws => ws = [.d (eB g.R), .d (eB g.S)] ∧ g.R.length ≤ 100000 ∧ g.S.length ≤ 100000, fun g st r st' => r = .d (.bl (g.S.all fun p => undB p g.R)) ∧ st' = st⟩
def pmGt : Pm := ⟨GTwo, fun g st ws => ws = [.d (eB g.R), .d (eB g.S)] ∧ g.R.length ≤ 100000 ∧ g.S.length ≤ 100000, fun g st r st' => r = .d (.bl ((g.S.all fun p => undB p g.R) && !decide (g.R = g.S))) ∧ st' = st⟩
def pmEq (z : Z) : Pm := ⟨List Pr × W, fun g st ws => ws = [.d (eB g.1), g.2] ∧ HasT z st g.2 ∧ (∀ c l, g.2 = .d (.obj c l) → c = "Bounds" ∧ ∃ S, l = fB S),
  fun g st r st' => ∃ b, r = .d (.bl b) ∧ st' = st ∧ (b = true ↔ g.2 = .d (eB g.1))⟩
def pmSize : Pm := ⟨List Pr, fun R st ws => ws = [.d (eB R)] ∧ R.length ≤ 100000 ∧ ∀ c ∈ R, 0 ≤ c.1 ∧ c.1 < 2 ^ 60 ∧ 0 ≤ c.2 ∧ c.2 < 2 ^ 60, fun R st r st' => r = .d (.int (size R)) ∧ st' = st⟩
def pmBool : Pm := ⟨List Pr, fun R st ws => ws = [.d (eB R)], fun R st r st' => r = .d (.bl (!R.isEmpty)) ∧ st' = st⟩
end Q
namespace Q
open PySem L2 MB
structure GCorn where
  (a : Addr) (j : Nat) (w s c many top : Int)
def pmCorn : Pm := ⟨GCorn, fun g st ws => ws = [.p g.a, .d (.int g.many), .d (.int g.top)] ∧ st[g.j]? = some (g.a, bx g.w g.s g.c) ∧ 0 ≤ g.many ∧ g.many ≤ 100 ∧ 4 ≤ g.top ∧ g.top < 2 ^ 50,
  fun g st r st' => ∃ (cs : List Pr) (w' s' c' : Int), (cs.length : Int) ≤ g.many ∧ (∀ c ∈ cs, 0 ≤ c.1 ∧ c.1 ≤ g.top ∧ 0 ≤ c.2 ∧ c.2 ≤ g.top) ∧ r = .d (.lst (cs.map eP)) ∧ st' = st.set g.j (g.a, bx w' s' c')⟩
theorem log_lt {n : Int} (h0 : 0 < n) (h1 : n < 2 ^ 60) : n.natAbs.log2 < 9000 := by
  have : n.natAbs < 2 ^ 60 := by omega
  exact Nat.lt_trans (PySem.Flt.log2_lt_of (by decide) this) (by decide)
/-- a draw -/
theorem take_ok {a : Addr} {j : Nat} {w s c n : Int} {st : Sto} {P : W → Sto → Prop} (hj : st[j]? = some (a, bx w s c)) (h0 : 0 < n) (h1 : n < 2 ^ 60) (h : ∀ r w' s' c' : Int, 0 ≤ r → r < n → P (.d (.int r)) (st.set j (a, bx w' s' c'))) :
    ∃ g : pmTake.G, pmTake.arg g st [.p a, .d (.int n)] ∧ ∀ w st2, pmTake.res g st w st2 → Sub (adr st) (adr st2) ∧ P w st2 := by
  refine ⟨⟨a, j, w, s, c, n⟩, ⟨rfl, hj, h0, log_lt h0 h1⟩, ?_⟩
  rintro r st2 ⟨r, w', s', c', hr0, hr1, rfl, rfl⟩
  refine ⟨?_, h r w' s' c' hr0 hr1⟩
  rw [show (⟨a, j, w, s, c, n⟩ : GTake).a = a from rfl, show (⟨a, j, w, s, c, n⟩ : GTake).j = j from rfl, adr_set hj]
  exact sub_refl _
/-! ### the greatest of some pairs, step by step -/
structure GInv (cs : List Pr) (done : List Int) (R : List Pr) : Prop where
  st : R.Pairwise fun a b => b.1 < a.1 ∧ a.2 < b.2
  mem : ∀ c ∈ R, c ∈ cs ∧ c.1 ∈ done
  und : ∀ c ∈ cs, c.1 ∈ done → Und c R
theorem GInv.zero (cs : List Pr) : GInv cs [] [] := ⟨.nil, fun c h => (nomatch h), fun c _ h => (nomatch h)⟩
theorem GInv.no {cs : List Pr} {done : List Int} {R : List Pr} {b m : Int} (h : GInv cs done R) (hu : undB (b, m) R = true) (hm : ∀ c ∈ cs, c.1 = b → c.2 ≤ m) : GInv cs (done ++ [b]) R where
  st := h.st
  mem := fun c hc => ⟨(h.mem c hc).1, List.mem_append_left _ (h.mem c hc).2⟩
  und := fun c hc hd => by
    rcases List.mem_append.mp hd with hd | hd
    · exact h.und c hc hd
    · have e : c.1 = b := by simpa using hd
      exact und_trans (q := (b, m)) (by omega) (hm c hc e) (undB_iff.mp hu)
theorem GInv.yes {cs : List Pr} {done : List Int} {R : List Pr} {b m : Int} (h : GInv cs done R) (hu : undB (b, m) R = false) (hb : (b, m) ∈ cs) (hm : ∀ c ∈ cs, c.1 = b → c.2 ≤ m) (hd : ∀ d ∈ done, b < d) : GInv cs (done ++ [b]) (R ++ [(b, m)]) where
  st := by
    refine List.pairwise_append.mpr ⟨h.st, List.pairwise_singleton _ _, fun a ha c hc => ?_⟩
    have e : c = (b, m) := by simpa using hc
    subst e
    have h1 := hd _ (h.mem a ha).2
    refine ⟨h1, ?_⟩
    apply Classical.byContradiction
    intro hn
    have : undB (b, m) R = true := undB_iff.mpr ⟨a, ha, by show b ≤ a.1; omega, by show m ≤ a.2; exact Int.not_lt.mp hn⟩
    rw [hu] at this
    cases this
  mem := fun c hc => by
    rcases List.mem_append.mp hc with hc | hc
    · exact ⟨(h.mem c hc).1, List.mem_append_left _ (h.mem c hc).2⟩
    · have e : c = (b, m) := by simpa using hc
      subst e
      exact ⟨hb, by simp⟩
  und := fun c hc hd => by
    rcases List.mem_append.mp hd with hd | hd
    · exact und_append.mpr (.inl (h.und c hc hd))
    · have e : c.1 = b := by simpa using hd
      exact und_append.mpr (.inr ⟨(b, m), by simp, by show c.1 ≤ b; omega, hm c hc e⟩)
theorem GInv.fin {cs : List Pr} {done : List Int} {R : List Pr} (h : GInv cs done R) (hd : ∀ c ∈ cs, c.1 ∈ done) : Gr R.reverse cs where
  st := by
    unfold Stair
    rw [List.pairwise_reverse]
    exact h.st.imp fun h => ⟨h.1, h.2⟩
  mem := fun c hc => (h.mem c (List.mem_reverse.mp hc)).1
  und := fun p => by
    constructor
    · rintro ⟨c, hc, h1⟩
      exact ⟨c, (h.mem c (List.mem_reverse.mp hc)).1, h1⟩
    · intro hp
      obtain ⟨c, hc, h1⟩ := und_sub (fun c hc => h.und c hc (hd c hc)) hp
      exact ⟨c, List.mem_reverse.mpr hc, h1⟩
/-! ### keys that are ints -/
def ksD (ks : List Int) : List (Key × D) := ks.map fun i => (.inl i, .bl true)
theorem putD_ks (ks : List Int) (i : Int) : putD (ksD ks) (.inl i) (.bl true) = ksD (if i ∈ ks then ks else ks ++ [i]) := by
  have e : ((ksD ks).any fun kv => decide (kv.1 = (.inl i : Key))) = decide (i ∈ ks) := by
    induction ks with
    | nil => simp [ksD]
    | cons a ks ih =>
      have e1 : ksD (a :: ks) = (.inl a, .bl true) :: ksD ks := rfl
      rw [e1, List.any_cons, ih, Bool.eq_iff_iff]
      simp
      exact ⟨fun h => h.imp (fun h => h.symm) id, fun h => h.imp (fun h => h.symm) id⟩
  unfold putD
  rw [e]
  by_cases h : i ∈ ks
  · rw [decide_eq_true h, if_pos rfl, if_pos h]
    unfold ksD
    rw [List.map_map]
    refine List.map_congr_left fun a ha => ?_
    show (if (Sum.inl a : Key) = .inl i then ((.inl a : Key), D.bl true) else (.inl a, .bl true)) = _
    split <;> rfl
  · rw [decide_eq_false h, if_neg h]
    unfold ksD
    rw [List.map_append]
    rfl
/-- keys of some firsts -/
structure KsOf (ks : List Int) (cs : List Pr) : Prop where
  nd : ks.Nodup
  mem : ∀ i, i ∈ ks ↔ ∃ c ∈ cs, c.1 = i
  le : ks.length ≤ cs.length
theorem KsOf.zero : KsOf [] [] := ⟨.nil, fun i => by simp, Nat.le_refl _⟩
theorem KsOf.snoc {ks : List Int} {cs : List Pr} (h : KsOf ks cs) (c : Pr) : KsOf (if c.1 ∈ ks then ks else ks ++ [c.1]) (cs ++ [c]) := by
  by_cases hc : c.1 ∈ ks
  · rw [if_pos hc]
    refine ⟨h.nd, fun i => ?_, by have := h.le; rw [List.length_append]; omega⟩
    rw [h.mem i]
    constructor
    · rintro ⟨d, hd, e⟩; exact ⟨d, List.mem_append_left _ hd, e⟩
    · rintro ⟨d, hd, e⟩
      rcases List.mem_append.mp hd with hd | hd
      · exact ⟨d, hd, e⟩
      · have : d = c := by simpa using hd
        subst this
        rw [← e]
        exact (h.mem _).mp hc
  · rw [if_neg hc]
    refine ⟨?_, fun i => ?_, by have := h.le; rw [List.length_append, List.length_append]; exact Nat.add_le_add this (Nat.le_refl _)⟩
    · rw [List.nodup_append]
      exact ⟨h.nd, by simp, fun a ha b hb e => hc (by rw [← (show b = c.1 by simpa using hb), ← e]; exact ha)⟩
    · rw [List.mem_append, h.mem i]
      constructor
      · rintro (⟨d, hd, e⟩ | hi)
        · exact ⟨d, List.mem_append_left _ hd, e⟩
        · exact ⟨c, by simp, (by simpa using hi : i = c.1).symm⟩
      · rintro ⟨d, hd, e⟩
        rcases List.mem_append.mp hd with hd | hd
        · exact .inl ⟨d, hd, e⟩
        · have : d = c := by simpa using hd
          subst this
          exact .inr (by simp [e])
/-- the keys, sorted, turned about: each is less than those before it -/
theorem desc_of {ks ns : List Int} (nd : ks.Nodup) (hp : ns.Perm ks) (hs : ns.Pairwise (· ≤ ·)) : ns.reverse.Pairwise fun a b => b < a := by
  rw [List.pairwise_reverse]
  have hn : ns.Nodup := hp.nodup_iff.mpr nd
  exact (List.pairwise_and_iff.mpr ⟨hs, hn⟩).imp fun h => by omega
theorem meet_len (R S : List Pr) : (meet R S).length = R.length * S.length := by
  unfold meet
  induction R with
  | nil => simp
  | cons b R ih => rw [List.flatMap_cons, List.length_append, ih, List.length_map, List.length_cons, Nat.succ_mul, Nat.add_comm]
theorem meet_map (R S : List Pr) : (R.flatMap fun a => S.map fun b => eP (lesser a b)) = (meet R S).map eP := by
  unfold meet
  rw [List.map_flatMap]
  congr 1
  funext a
  rw [List.map_map]
  rfl
/-- the begins and the sum behind size -/
def begs (b : Int) : List Pr → List Int
  | [] => [b]
  | c :: R => b :: begs (c.1 + 1) R
theorem begs_eq (b : Int) (R : List Pr) : begs b R = b :: R.map fun c => c.1 + 1 := by
  induction R generalizing b with
  | nil => rfl
  | cons c R ih => show b :: begs (c.1 + 1) R = _; rw [ih]; rfl
def begZip (b : Int) : List Pr → List (Int × Pr)
  | [] => []
  | c :: R => (b, c) :: begZip (c.1 + 1) R
theorem begZip_zip (b : Int) (R : List Pr) : zipD ((begs b R).map .int) (R.map eP) = (begZip b R).map fun q => .tup [.int q.1, eP q.2] := by
  induction R generalizing b with
  | nil => rfl
  | cons c R ih =>
    show D.tup [.int b, eP c] :: zipD ((begs (c.1 + 1) R).map .int) (R.map eP) = _
    rw [ih]
    rfl
theorem begZip_sum (b : Int) (R : List Pr) : ((begZip b R).map fun q => (q.2.1 + 1 - q.1) * (q.2.2 + 1)).sum = sizeFrom b R := by
  induction R generalizing b with
  | nil => rfl
  | cons c R ih =>
    show ((c.1 + 1 - b) * (c.2 + 1) :: (begZip (c.1 + 1) R).map fun q => (q.2.1 + 1 - q.1) * (q.2.2 + 1)).sum = (c.1 + 1 - b) * (c.2 + 1) + sizeFrom (c.1 + 1) R
    rw [List.sum_cons, ih]
theorem begZip_len (b : Int) (R : List Pr) : (begZip b R).length = R.length := by
  induction R generalizing b with
  | nil => rfl
  | cons c R ih => show (begZip (c.1 + 1) R).length + 1 = _; rw [ih]; rfl
theorem begZip_mem {b : Int} {R : List Pr} {q : Int × Pr} (hb : 0 ≤ b ∧ b ≤ 2 ^ 60) (hR : ∀ c ∈ R, 0 ≤ c.1 ∧ c.1 < 2 ^ 60) (h : q ∈ begZip b R) : (0 ≤ q.1 ∧ q.1 ≤ 2 ^ 60) ∧ q.2 ∈ R := by
  induction R generalizing b with
  | nil => cases h
  | cons c R ih =>
    have hc := hR c List.mem_cons_self
    rcases List.mem_cons.mp (show q ∈ (b, c) :: begZip (c.1 + 1) R from h) with rfl | h
    · exact ⟨hb, List.mem_cons_self⟩
    · obtain ⟨h1, h2⟩ := ih (b := c.1 + 1) ⟨by omega, by omega⟩ (fun c hc => hR c (List.mem_cons_of_mem _ hc)) h
      exact ⟨h1, List.mem_cons_of_mem _ h2⟩
theorem eP_inj {R S : List Pr} (h : R.map eP = S.map eP) : R = S := by
  induction R generalizing S with
  | nil => cases S with
    | nil => rfl
    | cons b S => cases h
  | cons a R ih => cases S with
    | nil => cases h
    | cons b S =>
      injection h with h1 h2
      unfold eP at h1
      injection h1 with h1
      injection h1 with h3 h4
      injection h4 with h4
      injection h3 with h3
      injection h4 with h4
      rw [ih h2, Prod.ext h3 h4]
theorem eB_inj {R S : List Pr} (h : W.d (eB R) = W.d (eB S)) : R = S := by
  unfold eB fB at h
  injection h with h
  injection h with _ h
  injection h with h
  injection h with _ h
  injection h with h
  exact eP_inj h
/-! ### bounds as sets -/
structure Is (R : List Pr) (n : Nat) (f : Pr → Prop) : Prop where
  st : Stair R
  nn : NonNeg R
  le : R.length ≤ n
  und : ∀ p, Und p R ↔ f p
  top : ∀ c ∈ R, c.1 ≤ 10 ^ 13 ∧ c.2 ≤ 10 ^ 13
def leB (R S : List Pr) : Bool := R.all fun p => undB p S
theorem leB_iff {R S : List Pr} : leB R S = true ↔ ∀ p, Und p R → Und p S := by
  unfold leB
  rw [List.all_eq_true]
  constructor
  · intro h p hp
    exact und_sub (fun c hc => undB_iff.mp (h c hc)) hp
  · intro h c hc
    exact undB_iff.mpr (h c (und_self hc))
theorem Is.eq {R S : List Pr} {n m : Nat} {f g : Pr → Prop} (a : Is R n f) (b : Is S m g) (h : ∀ p, f p ↔ g p) : R = S := stair_eq a.st b.st fun p => (a.und p).trans ((h p).trans (b.und p).symm)
theorem Is.self {R : List Pr} {n : Nat} {f : Pr → Prop} (a : Is R n f) : Is R n (fun p => Und p R) := ⟨a.st, a.nn, a.le, fun p => Iff.rfl, a.top⟩
theorem Is.bd {R : List Pr} {n : Nat} {f : Pr → Prop} (a : Is R n f) : Bd R := ⟨a.st, a.nn⟩
section
variable {z : Z} {st : Sto} {P : W → Sto → Prop} {R S : List Pr} {n m : Nat} {f g : Pr → Prop}
theorem do_and (hx : Is R n f) (hy : Is S m g) (hnm : n * m ≤ 100000) (h : ∀ T, Is T (n * m) (fun p => f p ∧ g p) → P (.d (eB T)) st) : Ro z (rBin (z.cl "Bounds") (sp z pmAnd)) (.d (eB R)) (.d (eB S)) st P := by
  have hl : R.length * S.length ≤ n * m := Nat.mul_le_mul hx.le hy.le
  refine ro_bin rfl rfl rfl ⟨⟨R, S⟩, ⟨rfl, hx.bd, hy.bd, Nat.le_trans hl hnm⟩, ?_⟩
  rintro r st2 ⟨T, hT, hle, hu, rfl, rfl⟩
  refine ⟨sub_refl _, h T ⟨hT.st, hT.nn, Nat.le_trans hle hl, fun p => ?_, fun c hc => ?_⟩⟩
  · rw [hu p, hx.und p, hy.und p]
  · obtain ⟨⟨d, hd, h1, h2⟩, _⟩ := (hu c).mp (und_self hc)
    have := hx.top d hd
    omega
theorem do_or (hx : Is R n f) (hy : Is S m g) (hnm : n + m ≤ 100000) (h : ∀ T, Is T (n + m) (fun p => f p ∨ g p) → P (.d (eB T)) st) : Ro z (rBin (z.cl "Bounds") (sp z pmOr)) (.d (eB R)) (.d (eB S)) st P := by
  have hl : R.length + S.length ≤ n + m := Nat.add_le_add hx.le hy.le
  refine ro_bin rfl rfl rfl ⟨⟨R, S⟩, ⟨rfl, hx.bd, hy.bd, Nat.le_trans hl hnm⟩, ?_⟩
  rintro r st2 ⟨T, hT, hle, hu, rfl, rfl⟩
  refine ⟨sub_refl _, h T ⟨hT.st, hT.nn, Nat.le_trans hle hl, fun p => ?_, fun c hc => ?_⟩⟩
  · rw [hu p, hx.und p, hy.und p]
  · rcases (hu c).mp (und_self hc) with ⟨d, hd, h1, h2⟩ | ⟨d, hd, h1, h2⟩
    · have := hx.top d hd
      omega
    · have := hy.top d hd
      omega
variable (ty : TyC z "Bounds") (nf : PySem.W.notFirst z.K (z.cl "Bounds") (.ref (z.cl "Bounds")) = true)
include ty nf
theorem do_le (h1 : R.length ≤ 100000) (h2 : S.length ≤ 100000) (h : P (.d (.bl (leB R S))) st) : Ro z (rCmp z.K (z.cl "Bounds") (sp z pmLe)) (.d (eB R)) (.d (eB S)) st P := by
  refine ro_cmp rfl rfl (.obj _ ty) nf ⟨⟨R, S⟩, ⟨rfl, h1, h2⟩, ?_⟩
  rintro r st2 ⟨rfl, rfl⟩
  exact ⟨sub_refl _, h⟩
theorem do_lt (h1 : R.length ≤ 100000) (h2 : S.length ≤ 100000) (h : P (.d (.bl (leB R S && !decide (R = S)))) st) : Ro z (rCmp z.K (z.cl "Bounds") (sp z pmLt)) (.d (eB R)) (.d (eB S)) st P := by
  refine ro_cmp rfl rfl (.obj _ ty) nf ⟨⟨R, S⟩, ⟨rfl, h1, h2⟩, ?_⟩
  rintro r st2 ⟨rfl, rfl⟩
  exact ⟨sub_refl _, h⟩
theorem do_ge (h1 : R.length ≤ 100000) (h2 : S.length ≤ 100000) (h : P (.d (.bl (leB S R))) st) : Ro z (rCmp z.K (z.cl "Bounds") (sp z pmGe)) (.d (eB R)) (.d (eB S)) st P := by
  refine ro_cmp rfl rfl (.obj _ ty) nf ⟨⟨R, S⟩, ⟨rfl, h1, h2⟩, ?_⟩
  rintro r st2 ⟨rfl, rfl⟩
  exact ⟨sub_refl _, h⟩
theorem do_gt (h1 : R.length ≤ 100000) (h2 : S.length ≤ 100000) (h : P (.d (.bl (leB S R && !decide (R = S)))) st) : Ro z (rCmp z.K (z.cl "Bounds") (sp z pmGt)) (.d (eB R)) (.d (eB S)) st P := by
  refine ro_cmp rfl rfl (.obj _ ty) nf ⟨⟨R, S⟩, ⟨rfl, h1, h2⟩, ?_⟩
  rintro r st2 ⟨rfl, rfl⟩
  exact ⟨sub_refl _, h⟩
theorem pmEq_arg (st : Sto) (R S : List Pr) : (pmEq z).arg (R, .d (eB S)) st [.d (eB R), .d (eB S)] := ⟨rfl, ty, fun c l e => by
  unfold eB at e
  injection e with e
  injection e with e1 e2
  exact ⟨e1.symm, S, e2.symm⟩⟩
theorem do_eq (h : P (.d (.bl (decide (R = S)))) st) : Ro z (rCmp z.K (z.cl "Bounds") (sp z (pmEq z))) (.d (eB R)) (.d (eB S)) st P := by
  refine ro_cmp rfl rfl (.obj _ ty) nf ⟨(R, .d (eB S)), pmEq_arg ty nf st R S, ?_⟩
  rintro r st2 ⟨b, rfl, rfl, hb⟩
  refine ⟨sub_refl _, ?_⟩
  have e : b = decide (R = S) := by
    rw [Bool.eq_iff_iff, hb, decide_eq_true_iff]
    exact ⟨fun e => (eB_inj e).symm, fun e => by rw [e]⟩
  rw [e]
  exact h
theorem do_ne (h : P (.d (.bl (!decide (R = S)))) st) : Ro z (rCmpN z.K (z.cl "Bounds") (sp z (pmEq z))) (.d (eB R)) (.d (eB S)) st P := by
  refine ro_cmpN rfl rfl (.obj _ ty) nf ⟨(R, .d (eB S)), pmEq_arg ty nf st R S, ?_⟩
  rintro r st2 ⟨b, rfl, rfl, hb⟩
  refine ⟨sub_refl _, b, rfl, ?_⟩
  have e : b = decide (R = S) := by
    rw [Bool.eq_iff_iff, hb, decide_eq_true_iff]
    exact ⟨fun e => (eB_inj e).symm, fun e => by rw [e]⟩
  rw [e]
  exact h
end
theorem do_size {st : Sto} {P : W → Sto → Prop} {R : List Pr} {n : Nat} {f : Pr → Prop} (hx : Is R n f) (hn : n ≤ 100000) (h : P (.d (.int (size R))) st) : ∃ l, W.d (eB R) = .d (.obj "Bounds" l) ∧ ∃ g : pmSize.G, pmSize.arg g st [.d (eB R)] ∧ ∀ w st3, pmSize.res g st w st3 → Sub (adr st) (adr st3) ∧ P w st3 := by
  refine ⟨_, rfl, R, ⟨rfl, Nat.le_trans hx.le hn, fun c hc => ?_⟩, ?_⟩
  · have h1 := hx.top c hc
    have h2 := hx.nn c hc
    refine ⟨h2.1, by omega, h2.2, by omega⟩
  · rintro r st2 ⟨rfl, rfl⟩
    exact ⟨sub_refl _, h⟩
theorem range_int {n i : Nat} {d : D} (h : ((List.range n).map fun i => D.int (0 + (i : Nat)))[i]? = some d) : d = .int (i : Nat) ∧ i < n := by
  rw [List.getElem?_map] at h
  by_cases hi : i < n
  · rw [List.getElem?_range hi] at h
    have : D.int (0 + (i : Nat)) = d := Option.some.inj h
    rw [Int.zero_add] at this
    exact ⟨this.symm, hi⟩
  · rw [List.getElem?_eq_none (by rw [List.length_range]; omega)] at h
    cases h
theorem three_of {α : Type} {l : List α} (h : l.length = 3) : ∃ a b c, l = [a, b, c] := by
  match l, h with
  | [a, b, c], _ => exact ⟨a, b, c, rfl⟩
theorem iteF {c : Bool} {a b : Prop} (h : c = false) (hb : b) : if c = true then a else b := by rw [h]; exact hb
theorem iteT {c : Bool} {a b : Prop} (h : c = true) (ha : a) : if c = true then a else b := by rw [h]; exact ha
theorem ev_andB {z : Z} {ds : Ds} {st : Sto} {P : W → Sto → Prop} {ta tb : TE} (h : Ev z ta ds st fun w st1 => ∃ a b, w = .d (.bl a) ∧ (a = true → Ev z tb ds st1 fun w2 st2 => w2 = .d (.bl b) ∧ st2 = st1) ∧ P (.d (.bl (a && b))) st1) : Ev z (tAndV ta tb) ds st P := by
  refine ev_andV (h.mono fun w st1 h1 => ?_)
  obtain ⟨a, b, rfl, hb, p⟩ := h1
  refine ⟨a, rfl, ?_⟩
  cases a with
  | false => exact p
  | true =>
    rw [if_pos rfl]
    refine (hb rfl).mono fun w2 st2 h2 => ?_
    obtain ⟨rfl, rfl⟩ := h2
    exact p
theorem leB_self (R : List Pr) : leB R R = true := leB_iff.mpr fun _ h => h
theorem or_le {R S M : List Pr} {n m : Nat} {g : Pr → Prop} (hM : Is M n (fun p => Und p R ∨ Und p S)) (hS : Is S m g) : leB R S = decide (M = S) := by
  rw [Bool.eq_iff_iff, leB_iff, decide_eq_true_iff]
  constructor
  · intro h
    exact hM.eq hS.self fun p => ⟨fun h' => h'.elim (h p) id, fun h' => .inr h'⟩
  · intro e p h
    have := (hM.und p).mpr (.inl h)
    rw [e] at this
    exact this
theorem and_le {R S M : List Pr} {n m : Nat} {g : Pr → Prop} (hM : Is M n (fun p => Und p R ∧ Und p S)) (hR : Is R m g) : leB R S = decide (M = R) := by
  rw [Bool.eq_iff_iff, leB_iff, decide_eq_true_iff]
  constructor
  · intro h
    exact hM.eq hR.self fun p => ⟨fun h' => h'.1, fun h' => ⟨h', h p h'⟩⟩
  · intro e p h
    rw [← e] at h
    exact ((hM.und p).mp h).2
theorem dec_comm {R S : List Pr} : decide (R = S) = decide (S = R) := by
  rw [Bool.eq_iff_iff, decide_eq_true_iff, decide_eq_true_iff]
  exact eq_comm
theorem neB {a b : Bool} (h : a = b) : (!decide (a = b)) = false := by rw [decide_eq_true h]; rfl
theorem kb_of {z : Z} {c : Str} (k0 : PySem.W.kitOne z.K (.ref (z.cl c)) (.ref (z.cl c)) = some true) (k1 : PySem.W.kitOne z.K (.type "NoneType") (.ref (z.cl c)) = some false) (k2 : PySem.W.kitOne z.K (.type "bool") (.ref (z.cl c)) = some false) (k3 : PySem.W.kitOne z.K (.type "int") (.ref (z.cl c)) = some false)
    (k4 : PySem.W.kitOne z.K (.type "str") (.ref (z.cl c)) = some false) (k5 : PySem.W.kitOne z.K (.type "tuple") (.ref (z.cl c)) = some false) (k6 : PySem.W.kitOne z.K (.type "list") (.ref (z.cl c)) = some false) {st : Sto} {w : W} {t : Value} (h : Tw z st w t) (q : ∀ c' l, w = .d (.obj c' l) → c' = c) :
    ∃ b, PySem.W.kitOne z.K t (.ref (z.cl c)) = some b ∧ (b = true ↔ ∃ l, w = .d (.obj c l)) := by
  have no : ∀ {x : W}, (∀ l, x ≠ .d (.obj c l)) → (false = true ↔ ∃ l, x = .d (.obj c l)) := fun h => ⟨fun e => (nomatch e), fun ⟨l, e⟩ => (h l e).elim⟩
  cases h with
  | non => exact ⟨_, k1, no fun l e => by cases e⟩
  | bl b => exact ⟨_, k2, no fun l e => by cases e⟩
  | int b => exact ⟨_, k3, no fun l e => by cases e⟩
  | str b => exact ⟨_, k4, no fun l e => by cases e⟩
  | tup b => exact ⟨_, k5, no fun l e => by cases e⟩
  | lst b => exact ⟨_, k6, no fun l e => by cases e⟩
  | cel b => exact ⟨_, k6, no fun l e => by cases e⟩
  | obj l h =>
    have e := q _ l rfl
    subst e
    exact ⟨_, k0, fun _ => ⟨l, rfl⟩, fun _ => rfl⟩
end Q

namespace MB
/-- c is below d -/
def Bel (c d : Pr) : Prop := c.1 ≤ d.1 ∧ c.2 ≤ d.2
theorem Bel.antisymm {c d : Pr} (h : Bel c d) (h' : Bel d c) : c = d := Prod.ext (Int.le_antisymm h.1 h'.1) (Int.le_antisymm h.2 h'.2)
theorem Bel.trans {c d e : Pr} (h : Bel c d) (h' : Bel d e) : Bel c e := ⟨Int.le_trans h.1 h'.1, Int.le_trans h.2 h'.2⟩
theorem Bel.refl (c : Pr) : Bel c c := ⟨Int.le_refl _, Int.le_refl _⟩
/-- nothing else of cs is above c -/
def Top (cs : List Pr) (c : Pr) : Prop := ∀ d ∈ cs, Bel c d → d = c
theorem top_above : ∀ {cs : List Pr} {c : Pr}, c ∈ cs → ∃ d ∈ cs, Bel c d ∧ Top cs d
  | a :: l, c, h => by
    have key : ∀ e ∈ l, ∃ d ∈ a :: l, Bel e d ∧ Top (a :: l) d := by
      intro e he
      obtain ⟨d, hd, h1, h2⟩ := top_above he
      by_cases q : Bel d a
      · refine ⟨a, List.mem_cons_self, h1.trans q, fun f hf hb => ?_⟩
        rcases List.mem_cons.mp hf with rfl | hf
        · rfl
        · have e1 := h2 f hf (q.trans hb)
          rw [e1] at hb ⊢
          exact Bel.antisymm q hb
      · refine ⟨d, List.mem_cons_of_mem _ hd, h1, fun f hf hb => ?_⟩
        rcases List.mem_cons.mp hf with rfl | hf
        · exact (q hb).elim
        · exact h2 f hf hb
    rcases List.mem_cons.mp h with rfl | h
    · by_cases q : ∃ e ∈ l, Bel c e
      · obtain ⟨e, he, hb⟩ := q
        obtain ⟨d, hd, h1, h2⟩ := key e he
        exact ⟨d, hd, hb.trans h1, h2⟩
      · refine ⟨c, List.mem_cons_self, Bel.refl c, fun f hf hb => ?_⟩
        rcases List.mem_cons.mp hf with e | hf
        · exact e
        · exact (q ⟨f, hf, hb⟩).elim
    · exact key c h
end MB
namespace Q
open PySem L2 MB
/-! ### the law's own words of bounds -/
structure GTop (cs : List Pr) (n : Nat) (F : List Pr) : Prop where
  nd : F.Nodup
  mem : ∀ c, c ∈ F ↔ c ∈ cs.take n ∧ Top cs c
  le : F.length ≤ n
theorem GTop.zero (cs : List Pr) : GTop cs 0 [] := ⟨.nil, fun c => by simp, Nat.le_refl _⟩
theorem GTop.no {cs : List Pr} {n : Nat} {F : List Pr} {c : Pr} (h : GTop cs n F) (hx : cs[n]? = some c) (hc : ¬ (Top cs c ∧ c ∉ F)) : GTop cs (n + 1) F where
  nd := h.nd
  mem := fun d => by
    rw [h.mem d, take_succ_map hx, List.mem_append]
    constructor
    · rintro ⟨h1, h2⟩; exact ⟨.inl h1, h2⟩
    · rintro ⟨h1 | h1, h2⟩
      · exact ⟨h1, h2⟩
      · have e : d = c := by simpa using h1
        subst e
        have : d ∈ F := Classical.byContradiction fun hn => hc ⟨h2, hn⟩
        exact (h.mem d).mp this
  le := Nat.le_succ_of_le h.le
theorem GTop.yes {cs : List Pr} {n : Nat} {F : List Pr} {c : Pr} (h : GTop cs n F) (hx : cs[n]? = some c) (h1 : Top cs c) (h2 : c ∉ F) : GTop cs (n + 1) (F ++ [c]) where
  nd := by
    rw [List.nodup_append]
    exact ⟨h.nd, by simp, fun a ha b hb e => h2 (by rw [← (show b = c by simpa using hb), ← e]; exact ha)⟩
  mem := fun d => by
    rw [List.mem_append, h.mem d, take_succ_map hx, List.mem_append]
    constructor
    · rintro (⟨h3, h4⟩ | h3)
      · exact ⟨.inl h3, h4⟩
      · have e : d = c := by simpa using h3
        subst e
        exact ⟨.inr h3, h1⟩
    · rintro ⟨h3 | h3, h4⟩
      · exact .inl ⟨h3, h4⟩
      · exact .inr h3
  le := by rw [List.length_append]; exact Nat.add_le_add h.le (Nat.le_refl _)
/-- tops: no two have the same first -/
theorem top_first {cs : List Pr} {c d : Pr} (hc : c ∈ cs) (hd : d ∈ cs) (tc : Top cs c) (td : Top cs d) (e : c.1 = d.1) : c = d := by
  by_cases h : c.2 ≤ d.2
  · exact (tc d hd ⟨by omega, h⟩).symm
  · exact td c hc ⟨by omega, by omega⟩
theorem top_gr {cs : List Pr} {F R : List Pr} (h : GTop cs cs.length F) (hm : ∀ c, c ∈ R ↔ c ∈ F) (hs : R.Pairwise fun a b => a.1 < b.1) : Gr R cs := by
  have mem : ∀ c, c ∈ R ↔ c ∈ cs ∧ Top cs c := fun c => by rw [hm c, h.mem c, List.take_length]
  refine ⟨?_, fun c hc => ((mem c).mp hc).1, fun p => ?_⟩
  · have : ∀ a ∈ R, ∀ b ∈ R, a.1 < b.1 → a.1 < b.1 ∧ b.2 < a.2 := fun a ha b hb hlt => ⟨hlt, by
      apply Classical.byContradiction
      intro hn
      have := ((mem a).mp ha).2 b ((mem b).mp hb).1 ⟨by omega, by omega⟩
      rw [this] at hlt
      omega⟩
    unfold Stair
    exact List.Pairwise.imp_of_mem (fun ha hb h => this _ ha _ hb h) hs
  · constructor
    · rintro ⟨c, hc, h1⟩
      exact ⟨c, ((mem c).mp hc).1, h1⟩
    · rintro ⟨c, hc, h1, h2⟩
      obtain ⟨d, hd, hb, ht⟩ := top_above hc
      exact ⟨d, (mem d).mpr ⟨hd, ht⟩, Int.le_trans h1 hb.1, Int.le_trans h2 hb.2⟩
theorem gr_eq {R S cs ds : List Pr} (a : Gr R cs) (b : Gr S ds) (h : ∀ p, Und p cs ↔ Und p ds) : R = S := stair_eq a.st b.st fun p => (a.und p).trans ((h p).trans (b.und p).symm)
/-! promises -/
def pmUnL : Pm := ⟨Pr × List Pr, fun g st ws => ws = [.d (eP g.1), .d (.lst (g.2.map eP))] ∧ g.2.length ≤ 1000000, fun g st r st' => r = .d (.bl (undB g.1 g.2)) ∧ st' = st⟩
def pmGrL : Pm := ⟨List Pr, fun cs st ws => ws = [.d (.lst (cs.map eP))] ∧ cs.length ≤ 100000, fun cs st r st' => ∃ R, Gr R cs ∧ r = .d (.tup (R.map eP)) ∧ st' = st⟩
def pmMeet : Pm := ⟨GTwo, fun g st ws => ws = [.d (.lst (g.R.map eP)), .d (.lst (g.S.map eP))] ∧ g.R.length * g.S.length ≤ 100000 ∧ g.S.length ≤ 1000, fun g st r st' => r = .d (.lst ((meet g.R g.S).map eP)) ∧ st' = st⟩
structure GPick where
  (a : Addr) (j : Nat) (w s c : Int) (l : List D)
def pmPick : Pm := ⟨GPick, fun g st ws => ws = [.p g.a, .d (.lst g.l)] ∧ st[g.j]? = some (g.a, bx g.w g.s g.c) ∧ 0 < g.l.length ∧ g.l.length < 2 ^ 50,
  fun g st r st' => ∃ d ∈ g.l, ∃ w' s' c' : Int, r = .d d ∧ st' = st.set g.j (g.a, bx w' s' c')⟩
def hasB (w : W) (R : List Pr) : Bool := match w with
  | .d (.tup [.int i, .int j]) => decide (0 ≤ i) && decide (0 ≤ j) && undB (i, j) R
  | _ => false
def pmHas (z : Z) : Pm := ⟨List Pr × W, fun g st ws => ws = [.d (eB g.1), g.2] ∧ HasT z st g.2 ∧ (∀ l, g.2 = .d (.tup l) → ∀ d ∈ l, HasT z [] (.d d)) ∧ g.1.length ≤ 100000, fun g st r st' => r = .d (.bl (hasB g.2 g.1)) ∧ st' = st⟩
/-- lists of pairs, as == and in see them -/
theorem okD_pairsL (R : List Pr) : okD (.lst (R.map eP)) = true := by
  have := ok_pairsT R
  unfold okD SeqAt.shaped at this ⊢
  exact this
theorem okD_pair (p : Pr) : okD (eP p) = true := by
  have : okD (.tup [.int p.1, .int p.2]) = true := by
    unfold okD SeqAt.shaped
    rfl
  exact this
theorem eqv_pair (p q : Pr) : PyData.eqv (py (eP p)) (py (eP q)) = decide (p = q) := by
  have := eqv_pairs [p] [q]
  show PyData.eqvAll (pys [.int p.1, .int p.2]) (pys [.int q.1, .int q.2]) = _
  show (p.1 == q.1 && (p.2 == q.2 && true)) = _
  rw [Bool.eq_iff_iff]
  simp [Prod.ext_iff]
theorem eqv_pairsL (R S : List Pr) : PyData.eqv (py (.lst (R.map eP))) (py (.lst (S.map eP))) = decide (R = S) := by
  rw [← eqv_pairs R S]
  rfl
theorem any_pairs (R : List Pr) (p : Pr) : ((pys (R.map eP)).any fun y => PyData.eqv y (py (eP p))) = decide (p ∈ R) := by
  induction R with
  | nil => simp [pys]
  | cons a R ih =>
    show (PyData.eqv (py (eP a)) (py (eP p)) || (pys (R.map eP)).any _) = _
    rw [ih, eqv_pair, Bool.eq_iff_iff]
    simp
    exact ⟨fun h => h.imp (fun h => h.symm) id, fun h => h.imp (fun h => h.symm) id⟩
theorem one_of {α : Type} {l : List α} {c : α} (h1 : ∀ d ∈ l, d = c) (h2 : c ∈ l) (h3 : l.Nodup) : l = [c] := by
  match l, h1, h2, h3 with
  | [], _, h2, _ => cases h2
  | [a], h1, _, _ => rw [h1 a (by simp)]
  | a :: b :: l, h1, _, h3 =>
    have e1 := h1 a (by simp)
    have e2 := h1 b (by simp)
    rw [e1, e2] at h3
    exact ((List.nodup_cons.mp h3).1 (by simp)).elim
theorem isPr_is {w : W} (h : isPr w = true) : ∃ i j, w = .d (eP (i, j)) ∧ 0 ≤ i ∧ 0 ≤ j := by
  unfold isPr at h
  split at h
  · rename_i i j
    obtain ⟨h1, h2⟩ := Bool.and_eq_true_iff.mp h
    exact ⟨i, j, rfl, of_decide_eq_true h1, of_decide_eq_true h2⟩
  · cases h
theorem hasB_not {w : W} {R : List Pr} (h : isPr w = false) : hasB w R = false := by
  unfold isPr at h
  unfold hasB
  split
  · rename_i i j
    have h : (decide (0 ≤ i) && decide (0 ≤ j)) = false := h
    rw [h]
    rfl
  · rfl
theorem hasB_pair {p : Pr} {R : List Pr} (h1 : 0 ≤ p.1) (h2 : 0 ≤ p.2) : hasB (.d (eP p)) R = undB p R := by
  show (decide (0 ≤ p.1) && decide (0 ≤ p.2) && undB (p.1, p.2) R) = _
  rw [decide_eq_true h1, decide_eq_true h2]
  rfl
theorem ev_orB {z : Z} {ds : Ds} {st : Sto} {P : W → Sto → Prop} {ta tb : TE} (h : Ev z ta ds st fun w st1 => ∃ a b, w = .d (.bl a) ∧ (a = false → Ev z tb ds st1 fun w2 st2 => w2 = .d (.bl b) ∧ st2 = st1) ∧ P (.d (.bl (a || b))) st1) : Ev z (tOrV ta tb) ds st P := by
  refine ev_orV (h.mono fun w st1 h1 => ?_)
  obtain ⟨a, b, rfl, hb, p⟩ := h1
  refine ⟨a, rfl, ?_⟩
  cases a with
  | true => exact p
  | false =>
    rw [if_neg (by decide)]
    refine (hb rfl).mono fun w2 st2 h2 => ?_
    obtain ⟨rfl, rfl⟩ := h2
    exact p
theorem do_has {z : Z} {st : Sto} {P : W → Sto → Prop} {w : W} {R : List Pr} (hT : HasT z st w) (hl : ∀ l, w = .d (.tup l) → ∀ d ∈ l, HasT z [] (.d d)) (hn : R.length ≤ 100000) (h : P (.d (.bl (hasB w R))) st) : Ro z (rHas false (z.cl "Bounds") (sp z (pmHas z))) w (.d (eB R)) st P := by
  refine ro_has (neg := false) rfl rfl ⟨(R, w), ⟨rfl, hT, hl, hn⟩, ?_⟩
  rintro r st2 ⟨rfl, rfl⟩
  exact ⟨sub_refl _, _, rfl, h⟩
theorem do_hasP {z : Z} {st : Sto} {P : W → Sto → Prop} {p : Pr} {R : List Pr} (h1 : 0 ≤ p.1) (h2 : 0 ≤ p.2) (hn : R.length ≤ 100000) (h : P (.d (.bl (undB p R))) st) : Ro z (rHas false (z.cl "Bounds") (sp z (pmHas z))) (.d (eP p)) (.d (eB R)) st P := by
  refine do_has trivial (fun l hl d hd => ?_) hn (by rw [hasB_pair h1 h2]; exact h)
  cases hl
  have : d = .int p.1 ∨ d = .int p.2 := by simpa using hd
  rcases this with rfl | rfl <;> trivial
theorem cut_pairs (O : List Pr) (lo hi : Option Int) : ∃ T : List Pr, cutD (O.map eP) lo hi = T.map eP ∧ (∀ c ∈ T, c ∈ O) ∧ T.length ≤ O.length := by
  unfold cutD
  rw [← List.map_drop, ← List.map_take]
  refine ⟨_, rfl, fun c hc => List.mem_of_mem_drop (List.mem_of_mem_take hc), ?_⟩
  rw [List.length_take, List.length_drop]
  omega
theorem Gr.is {R cs : List Pr} {n : Nat} (h : Gr R cs) (hn : cs.length ≤ n) (nn : ∀ c ∈ cs, 0 ≤ c.1 ∧ c.1 ≤ 10 ^ 13 ∧ 0 ≤ c.2 ∧ c.2 ≤ 10 ^ 13) : Is R n (fun p => Und p cs) :=
  ⟨h.st, fun c hc => ⟨(nn c (h.mem c hc)).1, (nn c (h.mem c hc)).2.2.1⟩, Nat.le_trans (stair_le h.st h.mem) hn, h.und, fun c hc => ⟨(nn c (h.mem c hc)).2.1, (nn c (h.mem c hc)).2.2.2⟩⟩
theorem Is.gr {R S cs : List Pr} {n : Nat} {f : Pr → Prop} (a : Is R n f) (b : Gr S cs) (h : ∀ p, f p ↔ Und p cs) : R = S := stair_eq a.st b.st fun p => (a.und p).trans ((h p).trans (b.und p).symm)
/-- no pair of the first is outside of the second -/
theorem less_iff {O T : List Pr} : (O.filter fun c => !undB c T) = [] ↔ ∀ p, Und p O → Und p T := by
  rw [List.filter_eq_nil_iff]
  constructor
  · intro h p hp
    refine und_sub (fun c hc => ?_) hp
    have := h c hc
    rw [Bool.not_eq_true', Bool.not_eq_false] at this
    exact undB_iff.mp this
  · intro h c hc
    rw [Bool.not_eq_true', Bool.not_eq_false]
    exact undB_iff.mpr (h c (und_self hc))
theorem leB_is {R S O T : List Pr} {n m : Nat} (a : Is R n (fun p => Und p O)) (b : Is S m (fun p => Und p T)) : leB R S = decide ((O.filter fun c => !undB c T) = []) := by
  rw [Bool.eq_iff_iff, leB_iff, decide_eq_true_iff, less_iff]
  constructor
  · intro h p hp
    exact (b.und p).mp (h p ((a.und p).mpr hp))
  · intro h p hp
    exact (b.und p).mpr (h p ((a.und p).mp hp))
theorem eq_le {R S : List Pr} {n m : Nat} {f g : Pr → Prop} (a : Is R n f) (b : Is S m g) : decide (R = S) = (leB R S && leB S R) := by
  rw [Bool.eq_iff_iff, decide_eq_true_iff, Bool.and_eq_true, leB_iff, leB_iff]
  constructor
  · rintro rfl; exact ⟨fun _ h => h, fun _ h => h⟩
  · rintro ⟨h1, h2⟩; exact stair_eq a.st b.st fun p => ⟨h1 p, h2 p⟩
theorem shwA_bls : ∀ l : List Bool, ShwA (l.map .bl) (7 * l.length)
  | [] => .nil
  | b :: l => by
    have := ShwA.cons (shw_bl b) (Nat.zero_le _) (shown_bl b) (shwA_bls l)
    rw [List.length_cons, show 7 * (l.length + 1) = 7 * l.length + 5 + 2 by omega]
    exact this
theorem shw_bls {l : List Bool} (h : l.length ≤ 1000) : Shw (.lst (l.map .bl)) := ((shwA_bls l).lst (by omega)).1
/-! ### the source of draws at the store's head -/
section
variable {b : Addr} {w s c : Int} {st : Sto} {P : W → Sto → Prop}
theorem take0 {n : Int} (h0 : 0 < n) (h1 : n < 2 ^ 60) (h : ∀ r w' s' c' : Int, 0 ≤ r → r < n → P (.d (.int r)) ((b, bx w' s' c') :: st)) :
    ∃ g : pmTake.G, pmTake.arg g ((b, bx w s c) :: st) [.p b, .d (.int n)] ∧ ∀ r st2, pmTake.res g ((b, bx w s c) :: st) r st2 → Sub (adr ((b, bx w s c) :: st)) (adr st2) ∧ P r st2 := take_ok (j := 0) rfl h0 h1 h
theorem corn0 {n t : Int} (h0 : 0 ≤ n) (h1 : n ≤ 100) (h2 : 4 ≤ t) (h3 : t < 2 ^ 50) (h : ∀ (O : List Pr) (w' s' c' : Int), (O.length : Int) ≤ n → (∀ c ∈ O, 0 ≤ c.1 ∧ c.1 ≤ t ∧ 0 ≤ c.2 ∧ c.2 ≤ t) → P (.d (.lst (O.map eP))) ((b, bx w' s' c') :: st)) :
    ∃ g : pmCorn.G, pmCorn.arg g ((b, bx w s c) :: st) [.p b, .d (.int n), .d (.int t)] ∧ ∀ r st2, pmCorn.res g ((b, bx w s c) :: st) r st2 → Sub (adr ((b, bx w s c) :: st)) (adr st2) ∧ P r st2 := by
  refine ⟨⟨b, 0, w, s, c, n, t⟩, ⟨rfl, rfl, h0, h1, h2, h3⟩, ?_⟩
  rintro r st2 ⟨O, w', s', c', hl, hO, rfl, rfl⟩
  exact ⟨fun a m => m, h O w' s' c' hl hO⟩
theorem pick0 {l : List D} (h0 : 0 < l.length) (h1 : l.length < 2 ^ 50) (h : ∀ d ∈ l, ∀ w' s' c' : Int, P (.d d) ((b, bx w' s' c') :: st)) :
    ∃ g : pmPick.G, pmPick.arg g ((b, bx w s c) :: st) [.p b, .d (.lst l)] ∧ ∀ r st2, pmPick.res g ((b, bx w s c) :: st) r st2 → Sub (adr ((b, bx w s c) :: st)) (adr st2) ∧ P r st2 := by
  refine ⟨⟨b, 0, w, s, c, l⟩, ⟨rfl, rfl, h0, h1⟩, ?_⟩
  rintro r st2 ⟨d, hd, w', s', c', rfl, rfl⟩
  exact ⟨fun a m => m, h d hd w' s' c'⟩
end
theorem box3 {ns : List Int} {k own : Int} {st : Sto} {P : W → Sto → Prop} (hk : 0 ≤ k) (h : ∀ (b : Addr) (w s c : Int), b ∉ adr st → P (.p b) ((b, bx w s c) :: st)) :
    ∃ g : pmBox3.G, pmBox3.arg g st [.d (.scr (ns.map .int)), .d (.int k), .d (.int own)] ∧ ∀ r st2, pmBox3.res g st r st2 → Sub (adr st) (adr st2) ∧ P r st2 := by
  refine ⟨⟨ns, k, own⟩, ⟨rfl, hk⟩, ?_⟩
  rintro r st2 ⟨b, w, s, c, hb, rfl, rfl⟩
  exact ⟨fun _ m => List.mem_cons_of_mem _ m, h b w s c hb⟩
/-- Bounds(a list or a tuple) -/
theorem mkB {cs : List Pr} {w : W} {st : Sto} {P : W → Sto → Prop} (hs : Sd w (cs.map eP)) (hl : cs.length ≤ 100000) (nn : NonNeg cs) (h : ∀ R, Gr R cs → P (.d (eB R)) st) : ∀ x dx, x ∉ adr st → ∃ g : pmIni.G, pmIni.arg g ((x, .ins "Bounds" dx []) :: st) [.p x, w] ∧
    ∀ r st2, pmIni.res g ((x, .ins "Bounds" dx []) :: st) r st2 → r = .d .non ∧ ∃ l, st2 = (x, .ins "Bounds" dx (dat l)) :: st ∧ P (.d (.obj "Bounds" l)) st := by
  intro x dx hx
  refine ⟨⟨x, dx, cs, w, st⟩, ⟨rfl, rfl, hs, hl, nn⟩, ?_⟩
  rintro r st2 ⟨R, hR, rfl, rfl⟩
  exact ⟨rfl, _, rfl, h R hR⟩
theorem unl {p : Pr} {cs : List Pr} {st : Sto} {P : W → Sto → Prop} (hl : cs.length ≤ 1000000) (h : P (.d (.bl (undB p cs))) st) : ∃ g : pmUnL.G, pmUnL.arg g st [.d (eP p), .d (.lst (cs.map eP))] ∧ ∀ r st2, pmUnL.res g st r st2 → Sub (adr st) (adr st2) ∧ P r st2 := by
  refine ⟨(p, cs), ⟨rfl, hl⟩, ?_⟩
  rintro r st2 ⟨rfl, rfl⟩
  exact ⟨sub_refl _, h⟩
theorem grl {cs : List Pr} {st : Sto} {P : W → Sto → Prop} (hl : cs.length ≤ 100000) (h : ∀ R, Gr R cs → P (.d (.tup (R.map eP))) st) : ∃ g : pmGrL.G, pmGrL.arg g st [.d (.lst (cs.map eP))] ∧ ∀ r st2, pmGrL.res g st r st2 → Sub (adr st) (adr st2) ∧ P r st2 := by
  refine ⟨cs, ⟨rfl, hl⟩, ?_⟩
  rintro r st2 ⟨R, hR, rfl, rfl⟩
  exact ⟨sub_refl _, h R hR⟩
theorem meetL {R S : List Pr} {st : Sto} {P : W → Sto → Prop} (hl : R.length * S.length ≤ 100000) (hS : S.length ≤ 1000) (h : P (.d (.lst ((meet R S).map eP))) st) : ∃ g : pmMeet.G, pmMeet.arg g st [.d (.lst (R.map eP)), .d (.lst (S.map eP))] ∧ ∀ r st2, pmMeet.res g st r st2 → Sub (adr st) (adr st2) ∧ P r st2 := by
  refine ⟨⟨R, S⟩, ⟨rfl, hl, hS⟩, ?_⟩
  rintro r st2 ⟨rfl, rfl⟩
  exact ⟨sub_refl _, h⟩
theorem neT {a b : Str} (h : a = b) : (!decide (a = b)) = false := by rw [decide_eq_true h]; rfl
theorem neP {R S : List Pr} (h : R = S) : (!decide (R = S)) = false := by rw [decide_eq_true h]; rfl
theorem EvA.mono {z : Z} {ds : Ds} {st : Sto} {ta : TA} {A B : List W → Sto → Prop} (h : EvA z ta ds st A) (i : ∀ ws st, A ws st → B ws st) : EvA z ta ds st B := fun σ H s o Q q => h σ H s o Q fun ws st vs H p => q ws st vs H (i ws st p)
theorem ev_mkB {z : Z} {ds : Ds} {st : Sto} {P : W → Sto → Prop} {ua : TA} {dvs : List V} {dl : List D} {E : XK} (hdv : ∀ B H, Rps z B H dvs dl) (h : EvA z ua ds st fun ws st1 => ∃ w cs, ws ++ dl.map W.d = [w] ∧ Sd w (cs.map eP) ∧ cs.length ≤ 100000 ∧ NonNeg cs ∧ ∀ R, Gr R cs → P (.d (eB R)) st1) : Ev z (tMake (z.cl "Bounds") (sp z pmIni) dvs E ua) ds st P := by
  refine ev_make rfl hdv (h.mono fun ws st1 h1 => ?_)
  obtain ⟨w, cs, e, hs, hl, nn, p⟩ := h1
  intro x dx hx
  rw [e]
  exact mkB hs hl nn p x dx hx
end Q

namespace M
open PySem L2 Q MB
local macro_rules | `(tactic| walk_at "e1") => `(tactic| first
  | with_reducible refine ev_var rfl ?_
  | with_reducible refine ev_int ?_
  | with_reducible refine ev_bl ?_
  | with_reducible refine ev_str ?_
  | with_reducible refine ev_non ?_
  | with_reducible refine ev_op ?_
  | with_reducible refine ev_un ?_
  | with_reducible refine ev_tup ?_
  | with_reducible refine ev_cb ?_
  | with_reducible refine ev_if ?_
  | with_reducible refine ev_andV ?_
  | with_reducible refine ev_orV ?_
  | with_reducible refine ev_notV ?_
  | with_reducible refine ea_nil ?_
  | with_reducible refine ea_cons ?_
  | with_reducible refine ro_add ?_
  | with_reducible refine ro_sub ?_
  | with_reducible refine ro_gt ?_
  | with_reducible refine ro_ge ?_
  | with_reducible refine ro_lt ?_
  | with_reducible refine ro_le ?_
  | with_reducible refine ro_eqI ?_
  | with_reducible refine ro_neI ?_
  | with_reducible refine ru_neg ?_
  | with_reducible refine rc_int1 ?_
  | with_reducible refine rc_intb ?_
  | with_reducible refine rc_abs ?_
  | with_reducible refine rc_max2 ?_
  | with_reducible refine rc_min2 ?_
  | with_reducible refine et_test ?_
  | with_reducible refine et_B ?_
  | with_reducible refine et_and ?_
  | with_reducible refine et_or ?_
  | with_reducible refine et_not ?_
  | with_reducible refine wp_seq ?_
  | with_reducible refine wp_set ?_
  | with_reducible refine wp_ret ?_
  | with_reducible refine wp_if ?_
  | with_reducible refine wp_next ?_
  | with_reducible refine wp_drop ?_
  | with_reducible refine wp_setL ?_
  | ((with_reducible refine ro_mul ?_ ?_); (focus first | exact Or.inr ⟨by decide, by decide⟩ | exact Or.inl ⟨by decide, by decide⟩ | exact Or.inl ⟨by omega, by omega⟩ | exact Or.inr ⟨by omega, by omega⟩))
  | ((with_reducible refine ro_mod ?_ ?_); (focus first | decide | assumption | omega))
  | ((with_reducible refine ro_div ?_ ?_); (focus first | exact ⟨by decide, by decide⟩ | assumption))
  | ((with_reducible refine ro_pow ?_ ?_); (focus exact ⟨by decide, by decide, by decide⟩))
  | refine ⟨_, rfl, ?_⟩
  | fail)
local macro_rules | `(tactic| walk_at "go") => `(tactic| repeat' (walk_at "e1"))
local macro_rules | `(tactic| walk_at "gl") => `(tactic| repeat' (first | walk_at "e1" | with_reducible refine ev_lst ?_ | fail))
local macro_rules | `(tactic| walk_at "st0") => `(tactic| dsimp only [L2.cxOf, List.map_cons, List.map_nil, List.length_cons, List.length_nil, List.cons_append, List.nil_append, Nat.reduceAdd, Nat.reduceSub, List.replicate, List.replicate_succ, List.replicate_zero])

def top (i : Nat) : Stmt := PySem.Challenge.pw_driftmends_k47_bounds_put_together.main.body.getD i (.Pass ⟨0, 0, 0, 0⟩)
section
variable {P : Program} {w : World} {z : Z} {mg : Str → Option Value} {base : Heap} {k : Nat}
theorem sc_isint : FnScope ["value"] ["value"] (defScope (top 5)) := ⟨rfl, rfl, rfl, by decide +kernel, rfl, by decide +kernel, by decide +kernel⟩
theorem ok_isint {f : Addr} {fd : FuncData} (F : Fun z.K "is_integer" "is_integer" (top 5) f fd) (bl : Bl mg) : FnOk P w z.K mg base CX0 (k + 1) f fd ["value"] (sp z (pmIsInt z)) := by
  have sc := sc_isint
  refine F.ok sc (fun vs H Q E h => sp_len h fun g st ws ha => by rw [ha.1]; rfl) (fun cdv A outer s H vs Q E hr h => ?_)
  refine ⟨_, (pss_one (ps_ret (pe_and (pe_callB (kIsi (K := z.K) rfl) (by rfl) bl.isinstance_ (by decide +kernel) (pa_cons (pv 0) (pa_cons (pe_bltn (v := .ty "int") rfl bl.int_ (by decide +kernel) rfl) pa_nil))) (pe_one (pe_not (pe_callB (kIsi (K := z.K) rfl) (by rfl) bl.isinstance_ (by decide +kernel) (pa_cons (pv 0) (pa_cons (pe_bltn (v := .ty "bool") rfl bl.bool_ (by decide +kernel) rfl) pa_nil)))))))), fn_body h ?_⟩
  rintro w ws st ⟨rfl, hT⟩
  obtain ⟨t, tw, kt⟩ := hT.kts
  walk_at "st0"
  refine wp_ret (ev_andV (ev_isi (ev_var rfl ⟨t, _, tw, kt.i, ⟨_, rfl, ite2 (fun h1 => ?_) (fun h1 => ?_)⟩⟩)))
  · refine ev_notV (ev_isi (ev_var rfl ⟨t, _, tw, kt.b, ⟨_, rfl, ?_, rfl⟩⟩))
    unfold isInt
    rw [h1]; rfl
  · refine ⟨?_, rfl⟩
    unfold isInt
    rw [Bool.not_eq_true] at h1
    rw [h1]; rfl
theorem sc_isnum : FnScope ["value"] ["value"] (defScope (top 6)) := ⟨rfl, rfl, rfl, by decide +kernel, rfl, by decide +kernel, by decide +kernel⟩
theorem ok_isnum {f : Addr} {fd : FuncData} (F : Fun z.K "is_number" "is_number" (top 6) f fd) (bl : Bl mg) (c : Cf P w z.K mg base "is_integer" 1 ["value"] (sp z (pmIsInt z))) : FnOk P w z.K mg base CX0 2 f fd ["value"] (sp z (pmIsNum z)) := by
  have sc := sc_isnum
  have T := And.intro c trivial
  refine F.ok sc (fun vs H Q E h => sp_len h fun g st ws ha => by rw [ha.1]; rfl) (fun cdv A outer s H vs Q E hr h => ?_)
  refine ⟨_, (pss_one (ps_ret (pe_and (pe_cf c hr rfl (pa_cons (pv 0) pa_nil)) (pe_one (pe_cmpR op_ge (pv 0) pe_int (nomark _)))))), fn_body h ?_⟩
  rintro w ws st ⟨rfl, hT⟩
  walk_at "st0"
  refine wp_ret (ev_andV (ev_call (ea_cons (ev_var rfl (ea_nil ⟨w, ⟨rfl, hT⟩, ?_⟩)))))
  rintro r st2 ⟨rfl, rfl⟩
  refine ⟨sub_refl _, _, rfl, ite2 (fun h1 => ?_) (fun h1 => ?_)⟩
  · obtain ⟨i, rfl⟩ := isInt_is h1
    walk_at "go"
    exact ⟨rfl, rfl⟩
  · rw [Bool.not_eq_true] at h1
    exact ⟨by rw [isNum_not h1], rfl⟩
theorem sc_isseq : FnScope ["value"] ["value"] (defScope (top 7)) := ⟨rfl, rfl, rfl, by decide +kernel, rfl, by decide +kernel, by decide +kernel⟩
theorem ok_isseq {f : Addr} {fd : FuncData} (F : Fun z.K "is_sequence" "is_sequence" (top 7) f fd) (bl : Bl mg) : FnOk P w z.K mg base CX0 (k + 1) f fd ["value"] (sp z (pmIsSeq z)) := by
  have sc := sc_isseq
  refine F.ok sc (fun vs H Q E h => sp_len h fun g st ws ha => by rw [ha.1]; rfl) (fun cdv A outer s H vs Q E hr h => ?_)
  refine ⟨_, (pss_one (ps_ret (pe_callB (kIsiT (K := z.K) rfl) (by rfl) bl.isinstance_ (by decide +kernel) (pa_cons (pv 0) (pa_cons (pe_tup (pa_cons (pe_bltn (v := .ty "list") rfl bl.list_ (by decide +kernel) rfl) (pa_cons (pe_bltn (v := .ty "tuple") rfl bl.tuple_ (by decide +kernel) rfl) pa_nil))) pa_nil))))), fn_body h ?_⟩
  rintro w ws st ⟨rfl, hT⟩
  obtain ⟨t, tw, kt⟩ := hT.kts
  walk_at "st0"
  exact wp_ret (ev_isiT2 (ev_var rfl ⟨t, _, tw, kt.any, rfl, rfl⟩))
theorem sc_take : FnScope ["_law_box_here", "_law_many", "_law_digit", "_law_raw", "_law_wide"] ["_law_box_here", "_law_many"] (defScope (top 16)) := ⟨rfl, rfl, rfl, by decide +kernel, rfl, by decide +kernel, by decide +kernel⟩
theorem ok_take {f : Addr} {fd : FuncData} (F : Fun z.K "_law_take" "_law_take" (top 16) f fd) (bl : Bl mg) : FnOk P w z.K mg base CX0 (k + 1) f fd ["_law_box_here", "_law_many"] (sp z pmTake) := by
  have sc := sc_take
  refine F.ok sc (fun vs H Q E h => sp_len h fun g st ws ha => by rw [ha.1]; rfl) (fun cdv A outer s H vs Q E hr h => ?_)
  refine ⟨_, (pss_cons (ps_if (pt_cmpR op_gt (pe_ix (kIx (K := z.K) rfl) (pv 0) pe_int (fun _ _ => rfl)) pe_int (nomark _)) (pss_cons (ps_set (i := 2) sc.nd rfl (Or.inl rfl) (pe_op op_mod (pe_callTy call_int1 (by rfl) bl.int_ (by decide +kernel) (pa_cons (pe_ix (kIx (K := z.K) rfl) (pv 0) pe_int (fun _ _ => rfl)) pa_nil)) (pv 1)))
      (pss_cons (ps_asg (pe_op op_fdivW (pe_ix (kIx (K := z.K) rfl) (pv 0) pe_int (fun _ _ => rfl)) (pv 1)) (pg_sub (pv 0) pe_int set_list))
      (pss_one (ps_ret (pv 2))))) pss_nil)
      (pss_cons (ps_asg (pe_op (kAdd (K := z.K) rfl) (pe_ix (kIx (K := z.K) rfl) (pv 0) pe_int (fun _ _ => rfl)) pe_int) (pg_sub (pv 0) pe_int set_list))
      (pss_cons (ps_set (i := 3) sc.nd rfl (Or.inl rfl) (pe_op op_mod (pe_callTy call_int1 (by rfl) bl.int_ (by decide +kernel) (pa_cons (pe_op op_mul (pe_op (kAdd (K := z.K) rfl) (pe_ix (kIx (K := z.K) rfl) (pv 0) pe_int (fun _ _ => rfl)) (pe_op op_mul pe_int (pe_ix (kIx (K := z.K) rfl) (pv 0) pe_int (fun _ _ => rfl)))) pe_int) pa_nil)) pe_int))
      (pss_cons (ps_asg (pe_op (kAdd (K := z.K) rfl) (pe_op op_mod (pe_callTy call_int1 (by rfl) bl.int_ (by decide +kernel) (pa_cons (pe_op (kAdd (K := z.K) rfl) (pe_op op_mul (pv 3) pe_int) pe_int) pa_nil)) pe_int) pe_int) (pg_sub (pv 0) pe_int set_list))
      (pss_cons (ps_if (pt_cmpR op_lt (pv 1) (pe_op op_pow pe_int pe_int) (nomark _)) (pss_one (ps_ret (pe_op op_mod (pe_callTy call_int1 (by rfl) bl.int_ (by decide +kernel) (pa_cons (pe_op op_fdivW (pe_op (kAdd (K := z.K) rfl) (pe_op op_mul (pv 3) pe_int) (pe_ix (kIx (K := z.K) rfl) (pv 0) pe_int (fun _ _ => rfl))) pe_int) pa_nil)) (pv 1)))) pss_nil)
      (pss_cons (ps_set (i := 4) sc.nd rfl (Or.inl rfl) (pe_op op_mul (pe_op (kAdd (K := z.K) rfl) (pe_op op_mul (pv 3) pe_int) (pe_ix (kIx (K := z.K) rfl) (pv 0) pe_int (fun _ _ => rfl))) (pe_op op_pow pe_int pe_int)))
      (pss_one (ps_ret (pe_op op_mod (pe_callTy call_int1 (by rfl) bl.int_ (by decide +kernel) (pa_cons (pe_op (kAdd (K := z.K) rfl) (pe_op (kAdd (K := z.K) rfl) (pv 4) (pe_op op_mul (pe_op op_pow (pe_ix (kIx (K := z.K) rfl) (pv 0) pe_int (fun _ _ => rfl)) pe_int) pe_int)) (pv 3)) pa_nil)) (pv 1)))))))))), fn_body h ?_⟩
  rintro ⟨a, j, w, s, c, n⟩ ws st ⟨rfl, hj, hn, hn9⟩
  walk_at "st0"
  dsimp only at hj hn hn9
  have hd : CDivW w n := ⟨hn, hn9⟩
  walk_at "go"
  refine ro_ix (.cel hj) rfl ?_
  walk_at "go"
  refine ite2 (fun h0 => ?_) (fun h0 => ?_)
  · walk_at "go"
    refine ro_ix (.cel hj) rfl ?_
    walk_at "go"
    refine ro_ix (.cel hj) rfl ?_
    walk_at "go"
    refine ⟨_, j, 0, _, rfl, hj, rfl, ?_⟩
    walk_at "go"
    exact ⟨_, _, _, _, Int.emod_nonneg _ (Int.ne_of_gt hn), Int.emod_lt_of_pos _ hn, rfl, rfl⟩
  · walk_at "go"
    refine ro_ix (.cel hj) rfl ?_
    walk_at "go"
    refine ⟨_, j, 2, _, rfl, hj, rfl, ?_⟩
    have hj1 := get_set (y := (a, Cell.lst [D.int w, D.int s, D.int (c + 1)])) hj
    walk_at "go"
    refine ro_ix (.cel hj1) rfl ?_
    walk_at "go"
    refine ro_ix (.cel hj1) rfl ?_
    walk_at "go"
    generalize hraw : (s + 104729 * (c + 1)) * 69737 % 2147483647 = raw
    have hr0 : 0 ≤ raw := by rw [← hraw]; exact Int.emod_nonneg _ (by decide)
    have hr1 : raw < 2147483647 := by rw [← hraw]; exact Int.emod_lt_of_pos _ (by decide)
    refine ⟨_, j, 1, _, rfl, hj1, rfl, ?_⟩
    generalize hs : (raw * 48271 + 30103) % 2147483629 + 1 = s2
    have hs0 : 0 < s2 := by rw [← hs]; have := Int.emod_nonneg (raw * 48271 + 30103) (show (2147483629 : Int) ≠ 0 by decide); omega
    have hs1 : s2 ≤ 2147483629 := by rw [← hs]; have := Int.emod_lt_of_pos (raw * 48271 + 30103) (show (0 : Int) < 2147483629 by decide); omega
    have hj2 := get_set (y := (a, Cell.lst [D.int w, D.int s2, D.int (c + 1)])) hj1
    rw [show ([D.int w, D.int s, D.int (c + 1)].set 1 (D.int s2)) = [D.int w, D.int s2, D.int (c + 1)] from rfl]
    have fin : ∀ (x : Int), pmTake.res ⟨a, j, w, s, c, n⟩ st (.d (.int (x % n))) ((st.set j (a, Cell.lst [D.int w, D.int s, D.int (c + 1)])).set j (a, Cell.lst [D.int w, D.int s2, D.int (c + 1)])) := fun x =>
      ⟨_, _, _, _, Int.emod_nonneg _ (Int.ne_of_gt hn), Int.emod_lt_of_pos _ hn, rfl, set_set⟩
    walk_at "go"
    refine ite2 (fun h1 => ?_) (fun h1 => ?_)
    · walk_at "go"
      refine ro_ix (.cel hj2) rfl ?_
      walk_at "go"
      exact fin _
    · walk_at "go"
      refine ro_ix (.cel hj2) rfl ?_
      walk_at "go"
      refine ro_ix (.cel hj2) rfl ?_
      refine ev_int (ro_pow ⟨by decide, by decide, by omega⟩ ?_)
      walk_at "go"
      exact fin _
theorem sc_box : FnScope ["_law_script", "_law_k", "_law_own", "_law_cell", "_law_seed"] ["_law_script", "_law_k", "_law_own"] (defScope (top 15)) := ⟨rfl, rfl, rfl, by decide +kernel, rfl, by decide +kernel, by decide +kernel⟩
theorem ok_box {f : Addr} {fd : FuncData} (F : Fun z.K "_law_box" "_law_box" (top 15) f fd) (bl : Bl mg) : FnOk P w z.K mg base CX0 (k + 1) f fd ["_law_script", "_law_k", "_law_own"] (sp z pmBox3) := by
  have sc := sc_box
  refine F.ok sc (fun vs H Q E h => sp_len h fun g st ws ha => by rw [ha.1]; rfl) (fun cdv A outer s H vs Q E hr h => ?_)
  refine ⟨_, (pss_cons (ps_set (i := 3) sc.nd rfl (Or.inl rfl) (pe_op (kAdd (K := z.K) rfl) (pe_op (kAdd (K := z.K) rfl) (pe_op op_mul pe_int (pv 1)) (pe_op op_mul pe_int (pv 2))) pe_int))
      (pss_cons (ps_if (pt_cmpR op_lt (pv 1) (pe_callB (kLen (K := z.K) rfl) (by rfl) bl.len_ (by decide +kernel) (pa_cons (pv 0) pa_nil)) (nomark _)) (pss_one (ps_set (i := 3) sc.nd rfl (Or.inl rfl) (pe_callB call_abs (by rfl) bl.abs_ (by decide +kernel) (pa_cons (pe_ix (kIx (K := z.K) rfl) (pv 0) (pv 1) (fun _ _ => rfl)) pa_nil)))) (pss_one (ps_if (pt_cmpR op_gt (pe_callB (kLen (K := z.K) rfl) (by rfl) bl.len_ (by decide +kernel) (pa_cons (pv 0) pa_nil)) pe_int (nomark _)) (pss_one (ps_set (i := 3) sc.nd rfl (Or.inl rfl) (pe_op (kAdd (K := z.K) rfl) (pv 3) (pe_op op_mul (pe_op op_mod (pe_callTy call_int1 (by rfl) bl.int_ (by decide +kernel) (pa_cons (pe_callB call_abs (by rfl) bl.abs_ (by decide +kernel) (pa_cons (pe_ix (kIx (K := z.K) rfl) (pv 0) (pe_op op_mod (pe_callTy call_int1 (by rfl) bl.int_ (by decide +kernel) (pa_cons (pv 1) pa_nil)) (pe_callB (kLen (K := z.K) rfl) (by rfl) bl.len_ (by decide +kernel) (pa_cons (pv 0) pa_nil))) (fun _ _ => rfl)) pa_nil)) pa_nil)) pe_int) pe_int)))) pss_nil)))
      (pss_cons (ps_set (i := 4) sc.nd rfl (Or.inl rfl) (pe_op (kAdd (K := z.K) rfl) (pe_op op_mod (pe_callTy call_int1 (by rfl) bl.int_ (by decide +kernel) (pa_cons (pe_op (kAdd (K := z.K) rfl) (pe_op op_mul (pe_op op_mod (pe_callTy call_int1 (by rfl) bl.int_ (by decide +kernel) (pa_cons (pv 3) pa_nil)) pe_int) pe_int) (pe_op op_mul pe_int (pe_op (kAdd (K := z.K) rfl) (pv 1) (pe_op op_mul pe_int (pv 2))))) pa_nil)) pe_int) pe_int))
      (pss_one (ps_ret (pe_lst (pa_cons (pe_ix (kIx (K := z.K) rfl) (pe_lst (pa_cons pe_int (pa_cons (pv 3) pa_nil))) (pe_callTy call_int1 (by rfl) bl.int_ (by decide +kernel) (pa_cons (pe_cmpR op_ge (pv 3) (pe_op op_pow pe_int pe_int) (nomark _)) pa_nil)) (fun _ _ => rfl)) (pa_cons (pv 4) (pa_cons pe_int pa_nil))))))))), fn_body h ?_⟩
  rintro ⟨ns, n, own⟩ ws st ⟨rfl, hn⟩
  walk_at "st0"
  dsimp only at hn
  walk_at "go"
  refine rc_lenA (.scr _) ?_
  walk_at "go"
  rw [List.length_map]
  refine ite2 (fun h0 => ?_) (fun h0 => ?_)
  · obtain ⟨m, hm⟩ := atI_int (ns := ns) hn (of_decide_eq_true h0)
    walk_at "go"
    refine ro_ix (.scr _) hm ?_
    walk_at "go"
    generalize (if m < 0 then -m else m) = cell
    refine ev_lstP ?_
    walk_at "gl"
    generalize hc : decide ((10 : Int) ^ (18 : Int).toNat ≤ cell) = b
    obtain ⟨q, hq⟩ : ∃ q : Int, atI [D.int 0, D.int cell] (if b = true then 1 else 0) = some (.int q) := by
      cases b
      · exact ⟨0, rfl⟩
      · exact ⟨cell, rfl⟩
    refine ro_ix (.lst _) hq ?_
    walk_at "go"
    exact fun a ha => ⟨a, q, _, 0, ha, rfl, rfl⟩
  · walk_at "go"
    refine rc_lenA (.scr _) ?_
    walk_at "go"
    rw [List.length_map]
    refine ite2 (fun h1 => ?_) (fun h1 => ?_)
    · have hp : (0 : Int) < ns.length := of_decide_eq_true h1
      walk_at "go"
      refine rc_lenA (.scr _) ?_
      rw [List.length_map]
      refine ro_mod hp ?_
      obtain ⟨m, hm⟩ := atI_int (ns := ns) (i := n % ns.length) (Int.emod_nonneg _ (by omega)) (Int.emod_lt_of_pos _ hp)
      refine ro_ix (.scr _) hm ?_
      walk_at "go"
      generalize 8887 * n + 104773 * own + 71 + (if m < 0 then -m else m) % 2147483629 * 69737 = cell
      refine ev_lstP ?_
      walk_at "gl"
      generalize hc : decide ((10 : Int) ^ (18 : Int).toNat ≤ cell) = b
      obtain ⟨q, hq⟩ : ∃ q : Int, atI [D.int 0, D.int cell] (if b = true then 1 else 0) = some (.int q) := by
        cases b
        · exact ⟨0, rfl⟩
        · exact ⟨cell, rfl⟩
      refine ro_ix (.lst _) hq ?_
      walk_at "go"
      exact fun a ha => ⟨a, q, _, 0, ha, rfl, rfl⟩
    · walk_at "go"
      generalize 8887 * n + 104773 * own + 71 = cell
      refine ev_lstP ?_
      walk_at "gl"
      generalize hc : decide ((10 : Int) ^ (18 : Int).toNat ≤ cell) = b
      obtain ⟨q, hq⟩ : ∃ q : Int, atI [D.int 0, D.int cell] (if b = true then 1 else 0) = some (.int q) := by
        cases b
        · exact ⟨0, rfl⟩
        · exact ⟨cell, rfl⟩
      refine ro_ix (.lst _) hq ?_
      walk_at "go"
      exact fun a ha => ⟨a, q, _, 0, ha, rfl, rfl⟩
theorem sc_corn : FnScope ["_law_box_here", "_law_many", "_law_top", "_law_found", "_law_turn", "_law_high"] ["_law_box_here", "_law_many", "_law_top"] (defScope (top 18)) := ⟨rfl, rfl, rfl, by decide +kernel, rfl, by decide +kernel, by decide +kernel⟩
theorem ok_corn {f : Addr} {fd : FuncData} (F : Fun z.K "_law_corners" "_law_corners" (top 18) f fd) (bl : Bl mg) (c__law_take : Cf P w z.K mg base "_law_take" 1 ["_law_box_here", "_law_many"] (sp z pmTake)) : FnOk P w z.K mg base CX0 2 f fd ["_law_box_here", "_law_many", "_law_top"] (sp z pmCorn) := by
  have sc := sc_corn
  refine F.ok sc (fun vs H Q E h => sp_len h fun g st ws ha => by rw [ha.1]; rfl) (fun cdv A outer s H vs Q E hr h => ?_)
  refine ⟨_, (pss_cons (ps_set (i := 3) sc.nd rfl (Or.inl rfl) (pe_lst pa_nil))
      (pss_cons (ps_for PassesOwn.never rfl (pi_range1 rfl bl.range_ (pa_cons (pe_cf c__law_take (hr.mono (by decide)) rfl (pa_cons (pv 0) (pa_cons (pe_op (kAdd (K := z.K) rfl) (pv 1) pe_int) pa_nil))) pa_nil)) (pg_name (i := 4) sc.nd rfl (Or.inl rfl)) (pss_cons (ps_set (i := 5) sc.nd rfl (Or.inl rfl) (pe_ix (kIx (K := z.K) rfl) (pe_lst (pa_cons pe_int (pa_cons pe_int (pa_cons (pv 2) pa_nil)))) (pe_cf c__law_take (hr.mono (by decide)) rfl (pa_cons (pv 0) (pa_cons pe_int pa_nil))) (fun _ _ => rfl)))
      (pss_one (ps_expr (pe_bm PySem.F.plainAttrs_list PySem.F.slot_list_append PySem.F.type_list_append L2.mt_append (pv 3) (pa_cons (pe_tup (pa_cons (pe_cf c__law_take (hr.mono (by decide)) rfl (pa_cons (pv 0) (pa_cons (pe_op (kAdd (K := z.K) rfl) (pv 5) pe_int) pa_nil))) (pa_cons (pe_cf c__law_take (hr.mono (by decide)) rfl (pa_cons (pv 0) (pa_cons (pe_op (kAdd (K := z.K) rfl) (pv 5) pe_int) pa_nil))) pa_nil))) pa_nil))))))
      (pss_one (ps_ret (pv 3))))), fn_body h ?_⟩
  rintro ⟨a, j, w, s, c, many, topn⟩ ws st ⟨rfl, hj, hm0, hm1, ht0, ht1⟩
  walk_at "st0"
  dsimp only at hj hm0 hm1 ht0 ht1
  refine wp_seq (wp_set (ev_lstP (ea_nil ⟨_, rfl, fun p hp => ?_⟩)))
  refine wp_seq (wp_for (is := [4]) (ei_range1 (ea_cons (ev_call ?_))))
  walk_at "go"
  refine take_ok (j := j + 1) hj (by omega) (by omega) fun n w' s' c' hn0 hn1 => ea_nil ⟨n, rfl, by omega, by omega, ?_⟩
  refine ⟨fun i ds' st' => ∃ (cs : List Pr) (w s c : Int) (x y : Option W), cs.length = i ∧ (∀ c ∈ cs, 0 ≤ c.1 ∧ c.1 ≤ topn ∧ 0 ≤ c.2 ∧ c.2 ≤ topn) ∧ ds' = [some (.p a), some (.d (.int many)), some (.d (.int topn)), some (.p p), x, y] ∧ st' = (p, .lst (cs.map eP)) :: st.set j (a, bx w s c), ⟨[], w', s', c', none, none, rfl, by simp, rfl, rfl⟩, fun _ _ _ _ => trivial, ?_, ?_⟩
  · rintro i d ds' st' hd ⟨cs, w, s, c, x, y, rfl, hc, rfl, rfl⟩
    have hi : cs.length < n.toNat := by
      have := (List.getElem?_eq_some_iff.mp hd).1
      rw [List.length_map, List.length_range] at this
      exact this
    refine gt_name (i := 4) ?_
    have hj1 : (st.set j (a, bx w s c))[j]? = some (a, bx w s c) := get_set hj
    refine wp_seq (wp_set (ev_op ?_))
    walk_at "gl"
    refine ev_call ?_
    walk_at "go"
    refine take_ok (j := j + 1) hj1 (by decide) (by decide) fun i w1 s1 c1 hi0 hi1 => ?_
    obtain ⟨hh, e1, e2, e3⟩ : ∃ hh : Int, atI [D.int 4, D.int 4, D.int topn] i = some (.int hh) ∧ 4 ≤ hh ∧ hh ≤ topn := by
      rcases (show i = 0 ∨ i = 1 ∨ i = 2 by omega) with rfl | rfl | rfl
      · exact ⟨4, rfl, by omega, by omega⟩
      · exact ⟨4, rfl, by omega, by omega⟩
      · exact ⟨topn, rfl, by omega, by omega⟩
    refine ro_ix (.lst _) e1 ?_
    refine wp_drop (ev_bmL (ev_var rfl ⟨p, 0, _, rfl, rfl, ?_⟩))
    refine ea_cons (ev_tup (ea_cons (ev_call ?_)))
    walk_at "go"
    have hj2 : ((st.set j (a, bx w s c)).set j (a, bx w1 s1 c1))[j]? = some (a, bx w1 s1 c1) := get_set hj1
    refine take_ok (j := j + 1) hj2 (by omega) (by omega) fun u w2 s2 c2 hu0 hu1 => ?_
    refine ea_cons (ev_call ?_)
    walk_at "go"
    have hj3 : (((st.set j (a, bx w s c)).set j (a, bx w1 s1 c1)).set j (a, bx w2 s2 c2))[j]? = some (a, bx w2 s2 c2) := get_set hj2
    refine take_ok (j := j + 1) hj3 (by omega) (by omega) fun v w3 s3 c3 hv0 hv1 => ?_
    walk_at "go"
    refine mt_append (j := 0) rfl (by rw [List.length_map]; omega) ?_
    refine ⟨cs ++ [(u, v)], w3, s3, c3, _, _, by simp, ?_, rfl, ?_⟩
    · intro q hq
      rcases List.mem_append.mp hq with hq | hq
      · exact hc q hq
      · have : q = (u, v) := by simpa using hq
        subst this
        exact ⟨hu0, by show u ≤ topn; omega, hv0, by show v ≤ topn; omega⟩
    · show (p, Cell.lst (cs.map eP ++ [eP (u, v)])) :: (((st.set j (a, bx w s c)).set j (a, bx w1 s1 c1)).set j (a, bx w2 s2 c2)).set j (a, bx w3 s3 c3) = _
      rw [set_set, set_set, set_set, List.map_append]
      rfl
  · rintro ds' st' ⟨cs, w, s, c, x, y, hl, hc, rfl, rfl⟩
    rw [List.length_map, List.length_range] at hl
    refine wp_retF (j := 0) (ev_var rfl ⟨p, rfl, rfl, cs, w, s, c, by show (cs.length : Int) ≤ many; omega, hc, rfl, rfl⟩)
theorem sc_ispr : FnScope ["value"] ["value"] (defScope (top 9)) := ⟨rfl, rfl, rfl, by decide +kernel, rfl, by decide +kernel, by decide +kernel⟩
theorem ok_ispr {f : Addr} {fd : FuncData} (F : Fun z.K "is_pair" "is_pair" (top 9) f fd) (bl : Bl mg) (c_is_number : Cf P w z.K mg base "is_number" 2 ["value"] (sp z (pmIsNum z))) : FnOk P w z.K mg base CX0 3 f fd ["value"] (sp z (pmIsPr z)) := by
  have sc := sc_ispr
  refine F.ok sc (fun vs H Q E h => sp_len h fun g st ws ha => by rw [ha.1]; rfl) (fun cdv A outer s H vs Q E hr h => ?_)
  refine ⟨_, (pss_one (ps_ret (pe_and (pe_callB (kIsi (K := z.K) rfl) (by rfl) bl.isinstance_ (by decide +kernel) (pa_cons (pv 0) (pa_cons (pe_bltn (v := .ty "tuple") rfl bl.tuple_ (by decide +kernel) rfl) pa_nil))) (pe_and (pe_cmpR (kEq (K := z.K) rfl (units_of hr)) (pe_callB (kLen (K := z.K) rfl) (by rfl) bl.len_ (by decide +kernel) (pa_cons (pv 0) pa_nil)) pe_int (nomark _)) (pe_and (pe_cf c_is_number (hr.mono (by decide)) rfl (pa_cons (pe_ix (kIx (K := z.K) rfl) (pv 0) pe_int (fun _ _ => rfl)) pa_nil)) (pe_one (pe_cf c_is_number (hr.mono (by decide)) rfl (pa_cons (pe_ix (kIx (K := z.K) rfl) (pv 0) pe_int (fun _ _ => rfl)) pa_nil)))))))), fn_body h ?_⟩
  rintro w ws st ⟨rfl, hT, hl⟩
  obtain ⟨t, tw, kt⟩ := hT.kts
  walk_at "st0"
  refine wp_ret (ev_andV (ev_isi (ev_var rfl ⟨t, _, tw, kt.u, ⟨_, rfl, ite2 (fun h1 => ?_) (fun h1 => ?_)⟩⟩)))
  · obtain ⟨l, rfl⟩ : ∃ l, w = .d (.tup l) := by
      cases w with
      | p a => cases h1
      | d x => cases x with
        | tup l => exact ⟨l, rfl⟩
        | _ => cases h1
    have hl := hl l rfl
    walk_at "go"
    refine rc_lenA (.tup _) ?_
    walk_at "go"
    refine ite2 (fun h2 => ?_) (fun h2 => ?_)
    · have h2 : (l.length : Int) = 2 := of_decide_eq_true h2
      match l, h2, hl with
      | [x, y], _, hl =>
        walk_at "go"
        refine ev_call ?_
        walk_at "go"
        refine ro_ix (.tup _) rfl ?_
        walk_at "go"
        refine ⟨.d x, ⟨rfl, ?_⟩, ?_⟩
        · have := hl x (by simp)
          revert this
          cases x <;> exact fun h => h
        rintro r st2 ⟨rfl, rfl⟩
        refine ⟨sub_refl _, _, rfl, ite2 (fun h3 => ?_) (fun h3 => ?_)⟩
        · walk_at "go"
          refine ev_call ?_
          walk_at "go"
          refine ro_ix (.tup _) rfl ?_
          walk_at "go"
          refine ⟨.d y, ⟨rfl, ?_⟩, ?_⟩
          · have := hl y (by simp)
            revert this
            cases y <;> exact fun h => h
          rintro r st2 ⟨rfl, rfl⟩
          refine ⟨sub_refl _, ?_, rfl⟩
          cases x with
          | int i =>
            cases y with
            | int j => show W.d (.bl (decide (0 ≤ j))) = .d (.bl (decide (0 ≤ i) && decide (0 ≤ j))); rw [show decide (0 ≤ i) = true from h3]; rfl
            | _ => rfl
          | _ => cases h3
        · rw [Bool.not_eq_true] at h3
          refine ⟨?_, rfl⟩
          cases x with
          | int i =>
            cases y with
            | int j => show W.d (.bl false) = .d (.bl (decide (0 ≤ i) && decide (0 ≤ j))); rw [show decide (0 ≤ i) = false from h3]; rfl
            | _ => rfl
          | _ => rfl
    · refine ⟨?_, rfl⟩
      have h2 : ¬ ((l.length : Int) = 2) := fun e => h2 (decide_eq_true e)
      match l, h2 with
      | [], _ => rfl
      | [x], _ => cases x <;> rfl
      | [x, y], h2 => exact (h2 rfl).elim
      | x :: y :: u :: l, _ => cases x <;> cases y <;> rfl
  · refine ⟨?_, rfl⟩
    cases w with
    | p a => rfl
    | d x => cases x with
      | tup l => exact (h1 rfl).elim
      | _ => rfl
theorem sc_und : FnScope ["pair", "corners", "below", "above"] ["pair", "corners"] (defScope (top 10)) := ⟨rfl, rfl, rfl, by decide +kernel, rfl, by decide +kernel, by decide +kernel⟩
theorem ok_und {f : Addr} {fd : FuncData} (F : Fun z.K "is_under" "is_under" (top 10) f fd) (bl : Bl mg) : FnOk P w z.K mg base CX0 (k + 1) f fd ["pair", "corners"] (sp z pmUnd) := by
  have sc := sc_und
  refine F.ok sc (fun vs H Q E h => sp_len h fun g st ws ha => by rw [ha.1]; rfl) (fun cdv A outer s H vs Q E hr h => ?_)
  obtain ⟨⟨p, cs, w⟩, ws, st, ⟨rfl, hs, hn⟩, hrw, ho, hk⟩ := h
  dsimp only at hs hn
  have body : ∀ (st1 : Sto) (a : Addr) (acc : List D) (x : Int × Int) (v w : Option W), Gt z (gTup z.K 2 (gCons (gName 2) (gCons (gName 3) gNil))) [2, 3] (.d (eP x)) [some (.d (eP p)), w, none, none] ((a, .lst acc) :: st1) fun ds2 => Ev z (tAndV (tOp (rI0 fun i j => .bl (decide (i ≤ j))) (tOp (rIx z.K) (tVar 0) (tC (.int 0))) (tVar 2)) (tOp (rI0 fun i j => .bl (decide (i ≤ j))) (tOp (rIx z.K) (tVar 0) (tC (.int 1))) (tVar 3))) ds2 ((a, .lst acc) :: st1) fun w st3 => w = .d (.bl (decide (p.1 ≤ x.1) && decide (p.2 ≤ x.2))) ∧ st3 = (a, .lst acc) :: st1 := by
    intro st1 a acc x v w
    refine gt_tup rfl (gts_cons (is := [2]) (gt_name (gts_cons (is := [3]) (js := []) (gt_name (gts_nil ?_)))))
    walk_at "go"
    refine ro_ix (.tup _) rfl ?_
    walk_at "go"
    refine ite2 (fun h1 => ?_) (fun h1 => ?_)
    · walk_at "go"
      refine ro_ix (.tup _) rfl ?_
      walk_at "go"
      rw [h1]
      exact ⟨rfl, rfl⟩
    · rw [Bool.not_eq_true] at h1
      rw [h1]
      exact ⟨rfl, rfl⟩
  have fin : (cs.map fun x => decide (p.1 ≤ x.1) && decide (p.2 ≤ x.2)).any id = undB p cs := by
    rw [List.any_map]
    rfl
  cases hs with
  | tup =>
    refine ⟨_, (pss_one (ps_ret (pe_callB (kAny (K := z.K) rfl rfl) (by rfl) bl.any_ (by decide +kernel) (pa_cons (pe_lc (own := [("below", 2), ("above", 3)]) (tt := tYes) rfl sc.nd (kiTup (K := z.K) rfl (pv 1)) (blkOk_by (N := ["pair", "corners", "below", "above"]) (sc := defScope (top 10)) (by decide +kernel)) (fun _ _ _ _ _ => (kgTup (K := z.K) (n := 2) rfl rfl (pgs_cons (pg_name (i := 2) sc.nd rfl (by first | exact Or.inl rfl | exact Or.inr rfl)) (pgs_cons (pg_name (i := 3) sc.nd rfl (by first | exact Or.inl rfl | exact Or.inr rfl)) pgs_nil)))) (fun _ _ _ _ _ => pts_nil) (fun _ _ _ _ _ => (pe_and (pe_cmpR op_le (pe_ix (kIx (K := z.K) rfl) (pv 0) pe_int (fun _ _ => rfl)) (pv 2) (nomark _)) (pe_one (pe_cmpR op_le (pe_ix (kIx (K := z.K) rfl) (pv 0) pe_int (fun _ _ => rfl)) (pv 3) (nomark _)))))) pa_nil)))), fn_at hrw ho hk ?_⟩
    walk_at "st0"
    refine wp_ret (ev_cb (ea_cons (ev_lcM (α := Int × Int) (is := [2, 3]) (by decide) (ei_tup (ev_var rfl ⟨_, rfl, cs, eP, fun x => .bl (decide (p.1 ≤ x.1) && decide (p.2 ≤ x.2)), rfl, trivial, by omega, sub_refl _, fun x hx a acc ha => body st a acc x none _, ?_⟩)))))
    refine ea_nil ?_
    refine rc_any (bs := cs.map fun x => decide (p.1 ≤ x.1) && decide (p.2 ≤ x.2)) (by rw [List.map_map]; exact .lst _) ⟨?_, rfl⟩
    rw [fin]
  | lst =>
    refine ⟨_, (pss_one (ps_ret (pe_callB (kAny (K := z.K) rfl rfl) (by rfl) bl.any_ (by decide +kernel) (pa_cons (pe_lc (own := [("below", 2), ("above", 3)]) (tt := tYes) rfl sc.nd (kiList (K := z.K) rfl (pv 1)) (blkOk_by (N := ["pair", "corners", "below", "above"]) (sc := defScope (top 10)) (by decide +kernel)) (fun _ _ _ _ _ => (kgTup (K := z.K) (n := 2) rfl rfl (pgs_cons (pg_name (i := 2) sc.nd rfl (by first | exact Or.inl rfl | exact Or.inr rfl)) (pgs_cons (pg_name (i := 3) sc.nd rfl (by first | exact Or.inl rfl | exact Or.inr rfl)) pgs_nil)))) (fun _ _ _ _ _ => pts_nil) (fun _ _ _ _ _ => (pe_and (pe_cmpR op_le (pe_ix (kIx (K := z.K) rfl) (pv 0) pe_int (fun _ _ => rfl)) (pv 2) (nomark _)) (pe_one (pe_cmpR op_le (pe_ix (kIx (K := z.K) rfl) (pv 0) pe_int (fun _ _ => rfl)) (pv 3) (nomark _)))))) pa_nil)))), fn_at hrw ho hk ?_⟩
    walk_at "st0"
    refine wp_ret (ev_cb (ea_cons (ev_lcM (α := Int × Int) (is := [2, 3]) (by decide) (ei_list (ev_var rfl ⟨_, .lst _, cs, eP, fun x => .bl (decide (p.1 ≤ x.1) && decide (p.2 ≤ x.2)), rfl, trivial, by omega, sub_refl _, fun x hx a acc ha => body st a acc x none _, ?_⟩)))))
    refine ea_nil ?_
    refine rc_any (bs := cs.map fun x => decide (p.1 ≤ x.1) && decide (p.2 ≤ x.2)) (by rw [List.map_map]; exact .lst _) ⟨?_, rfl⟩
    rw [fin]
  | scr =>
    refine ⟨_, (pss_one (ps_ret (pe_callB (kAny (K := z.K) rfl rfl) (by rfl) bl.any_ (by decide +kernel) (pa_cons (pe_lc (own := [("below", 2), ("above", 3)]) (tt := tYes) rfl sc.nd (kiList (K := z.K) rfl (pv 1)) (blkOk_by (N := ["pair", "corners", "below", "above"]) (sc := defScope (top 10)) (by decide +kernel)) (fun _ _ _ _ _ => (kgTup (K := z.K) (n := 2) rfl rfl (pgs_cons (pg_name (i := 2) sc.nd rfl (by first | exact Or.inl rfl | exact Or.inr rfl)) (pgs_cons (pg_name (i := 3) sc.nd rfl (by first | exact Or.inl rfl | exact Or.inr rfl)) pgs_nil)))) (fun _ _ _ _ _ => pts_nil) (fun _ _ _ _ _ => (pe_and (pe_cmpR op_le (pe_ix (kIx (K := z.K) rfl) (pv 0) pe_int (fun _ _ => rfl)) (pv 2) (nomark _)) (pe_one (pe_cmpR op_le (pe_ix (kIx (K := z.K) rfl) (pv 0) pe_int (fun _ _ => rfl)) (pv 3) (nomark _)))))) pa_nil)))), fn_at hrw ho hk ?_⟩
    walk_at "st0"
    refine wp_ret (ev_cb (ea_cons (ev_lcM (α := Int × Int) (is := [2, 3]) (by decide) (ei_list (ev_var rfl ⟨_, .scr _, cs, eP, fun x => .bl (decide (p.1 ≤ x.1) && decide (p.2 ≤ x.2)), rfl, trivial, by omega, sub_refl _, fun x hx a acc ha => body st a acc x none _, ?_⟩)))))
    refine ea_nil ?_
    refine rc_any (bs := cs.map fun x => decide (p.1 ≤ x.1) && decide (p.2 ≤ x.2)) (by rw [List.map_map]; exact .lst _) ⟨?_, rfl⟩
    rw [fin]
  | @cel a' _ j hj =>
    refine ⟨_, (pss_one (ps_ret (pe_callB (kAny (K := z.K) rfl rfl) (by rfl) bl.any_ (by decide +kernel) (pa_cons (pe_lc (own := [("below", 2), ("above", 3)]) (tt := tYes) rfl sc.nd (kiList (K := z.K) rfl (pv 1)) (blkOk_by (N := ["pair", "corners", "below", "above"]) (sc := defScope (top 10)) (by decide +kernel)) (fun _ _ _ _ _ => (kgTup (K := z.K) (n := 2) rfl rfl (pgs_cons (pg_name (i := 2) sc.nd rfl (by first | exact Or.inl rfl | exact Or.inr rfl)) (pgs_cons (pg_name (i := 3) sc.nd rfl (by first | exact Or.inl rfl | exact Or.inr rfl)) pgs_nil)))) (fun _ _ _ _ _ => pts_nil) (fun _ _ _ _ _ => (pe_and (pe_cmpR op_le (pe_ix (kIx (K := z.K) rfl) (pv 0) pe_int (fun _ _ => rfl)) (pv 2) (nomark _)) (pe_one (pe_cmpR op_le (pe_ix (kIx (K := z.K) rfl) (pv 0) pe_int (fun _ _ => rfl)) (pv 3) (nomark _)))))) pa_nil)))), fn_at hrw ho hk ?_⟩
    walk_at "st0"
    refine wp_ret (ev_cb (ea_cons (ev_lcM (α := Int × Int) (is := [2, 3]) (by decide) (ei_list (ev_var rfl ⟨_, .cel hj, cs, eP, fun x => .bl (decide (p.1 ≤ x.1) && decide (p.2 ≤ x.2)), rfl, ⟨j, hj⟩, by omega, sub_refl _, fun x hx a acc ha => body st a acc x none _, ?_⟩)))))
    refine ea_nil ?_
    refine rc_any (bs := cs.map fun x => decide (p.1 ≤ x.1) && decide (p.2 ≤ x.2)) (by rw [List.map_map]; exact .lst _) ⟨?_, rfl⟩
    rw [fin]
theorem sc_les : FnScope ["one", "two"] ["one", "two"] (defScope (top 13)) := ⟨rfl, rfl, rfl, by decide +kernel, rfl, by decide +kernel, by decide +kernel⟩
theorem ok_les {f : Addr} {fd : FuncData} (F : Fun z.K "lesser_of" "lesser_of" (top 13) f fd) (bl : Bl mg) : FnOk P w z.K mg base CX0 (k + 1) f fd ["one", "two"] (sp z pmLes) := by
  have sc := sc_les
  refine F.ok sc (fun vs H Q E h => sp_len h fun g st ws ha => by rw [show ws = _ from ha]; rfl) (fun cdv A outer s H vs Q E hr h => ?_)
  refine ⟨_, (pss_one (ps_ret (pe_tup (pa_cons (pe_callB (call_min2 rfl) (by rfl) bl.min_ (by decide +kernel) (pa_cons (pe_callTy call_int1 (by rfl) bl.int_ (by decide +kernel) (pa_cons (pe_ix (kIx (K := z.K) rfl) (pv 0) pe_int (fun _ _ => rfl)) pa_nil)) (pa_cons (pe_callTy call_int1 (by rfl) bl.int_ (by decide +kernel) (pa_cons (pe_ix (kIx (K := z.K) rfl) (pv 1) pe_int (fun _ _ => rfl)) pa_nil)) pa_nil))) (pa_cons (pe_callB (call_min2 rfl) (by rfl) bl.min_ (by decide +kernel) (pa_cons (pe_callTy call_int1 (by rfl) bl.int_ (by decide +kernel) (pa_cons (pe_ix (kIx (K := z.K) rfl) (pv 0) pe_int (fun _ _ => rfl)) pa_nil)) (pa_cons (pe_callTy call_int1 (by rfl) bl.int_ (by decide +kernel) (pa_cons (pe_ix (kIx (K := z.K) rfl) (pv 1) pe_int (fun _ _ => rfl)) pa_nil)) pa_nil))) pa_nil))))), fn_body h ?_⟩
  rintro ⟨p, q⟩ ws st rfl
  walk_at "st0"
  walk_at "go"
  refine ro_ix (.tup _) rfl ?_
  walk_at "go"
  refine ro_ix (.tup _) rfl ?_
  walk_at "go"
  refine ro_ix (.tup _) rfl ?_
  walk_at "go"
  refine ro_ix (.tup _) rfl ?_
  walk_at "go"
  exact ⟨rfl, rfl⟩
theorem sc_gr : FnScope ["corners", "found", "below", "above", "pair", "one"] ["corners"] (defScope (top 11)) := ⟨rfl, rfl, rfl, by decide +kernel, rfl, by decide +kernel, by decide +kernel⟩
theorem ok_gr {f : Addr} {fd : FuncData} (F : Fun z.K "greatest_of" "greatest_of" (top 11) f fd) (bl : Bl mg) (c_is_under : Cf P w z.K mg base "is_under" 1 ["pair", "corners"] (sp z pmUnd)) : FnOk P w z.K mg base CX0 2 f fd ["corners"] (sp z pmGr) := by
  have sc := sc_gr
  refine F.ok sc (fun vs H Q E h => sp_len h fun g st ws ha => by rw [ha.1]; rfl) (fun cdv A outer s H vs Q E hr h => ?_)
  obtain ⟨⟨cs, w⟩, ws, st, ⟨rfl, hs, hn⟩, hrw, ho, hk⟩ := h
  dsimp only at hs hn
  cases hs with
  | tup =>
    refine ⟨_, (pss_cons (ps_set (i := 1) sc.nd rfl (Or.inl rfl) (pe_lst pa_nil))
      (pss_cons (ps_for PassesOwn.never rfl (kiList (K := z.K) rfl (kRev (K := z.K) rfl (pe_callB (kSorted (K := z.K) rfl) (by rfl) bl.sorted_ (by decide +kernel) (pa_cons (pe_lc (own := [("one", 5)]) (tt := tYes) rfl sc.nd (pi_keysN (pe_dc (own := [("pair", 4)]) (tt := tYes) rfl sc.nd (kiTup (K := z.K) rfl (pv 0)) (blkOk_by (N := ["corners", "found", "below", "above", "pair", "one"]) (sc := defScope (top 11)) (by decide +kernel)) (fun _ _ _ _ _ => (pg_name (i := 4) sc.nd rfl (by first | exact Or.inl rfl | exact Or.inr rfl))) (fun _ _ _ _ _ => pts_nil) (fun _ _ _ _ _ => (pe_ix (kIx (K := z.K) rfl) (pv 4) pe_int (fun _ _ => rfl))) (fun _ _ _ _ _ => pe_bl))) (blkOk_by (N := ["corners", "found", "below", "above", "pair", "one"]) (sc := defScope (top 11)) (by decide +kernel)) (fun _ _ _ _ _ => (pg_name (i := 5) sc.nd rfl (by first | exact Or.inl rfl | exact Or.inr rfl))) (fun _ _ _ _ _ => pts_nil) (fun _ _ _ _ _ => (pe_callTy call_int1 (by rfl) bl.int_ (by decide +kernel) (pa_cons (pv 5) pa_nil)))) pa_nil)))) (pg_name (i := 2) sc.nd rfl (Or.inr rfl)) (pss_cons (ps_set (i := 3) sc.nd rfl (Or.inl rfl) (pe_callB (kMax (K := z.K) rfl rfl) (by rfl) bl.max_ (by decide +kernel) (pa_cons (pe_lc (own := [("pair", 4)]) rfl sc.nd (kiTup (K := z.K) rfl (pv 0)) (blkOk_by (N := ["corners", "found", "below", "above", "pair", "one"]) (sc := defScope (top 11)) (by decide +kernel)) (fun _ _ _ _ _ => (pg_name (i := 4) sc.nd rfl (by first | exact Or.inl rfl | exact Or.inr rfl))) (fun _ _ _ _ _ => (pts_one (pt_cmpR (kEq (K := z.K) rfl (units_of hr)) (pe_ix (kIx (K := z.K) rfl) (pv 4) pe_int (fun _ _ => rfl)) (pv 2) (nomark _)))) (fun _ _ _ _ _ => (pe_callTy call_int1 (by rfl) bl.int_ (by decide +kernel) (pa_cons (pe_ix (kIx (K := z.K) rfl) (pv 4) pe_int (fun _ _ => rfl)) pa_nil)))) pa_nil)))
      (pss_one (ps_if (pt_not (pt_val (pe_cf c_is_under (hr.mono (by decide)) rfl (pa_cons (pe_tup (pa_cons (pv 2) (pa_cons (pv 3) pa_nil))) (pa_cons (pv 1) pa_nil))))) (pss_one (ps_expr (pe_bm PySem.F.plainAttrs_list PySem.F.slot_list_append PySem.F.type_list_append L2.mt_append (pv 1) (pa_cons (pe_tup (pa_cons (pv 2) (pa_cons (pv 3) pa_nil))) pa_nil)))) pss_nil))))
      (pss_one (ps_ret (pe_callTy (kTupleOf (K := z.K) rfl) (by rfl) bl.tuple_ (by decide +kernel) (pa_cons (kRev (K := z.K) rfl (pv 1)) pa_nil)))))), fn_at hrw ho hk ?_⟩
    walk_at "st0"
    refine wp_seq (wp_set (ev_lstP (ea_nil ⟨_, rfl, fun p hp => ?_⟩)))
    refine wp_seq (wp_for (is := [2]) (ei_list (ev_revL (ev_cb (ea_cons ?_)))))
    refine ev_lcM (α := Int) (is := [5]) (by decide) (ei_keysN ?_)
    refine ev_dc (is := [4]) (by decide) (ei_tup (ev_var rfl ⟨_, rfl, ?_⟩))
    refine ⟨fun i acc st' => st' = (p, .lst []) :: st ∧ ∃ ks, acc = ksD ks ∧ KsOf ks (cs.take i), ⟨rfl, [], rfl, .zero⟩, ?_, ?_, ?_⟩
    · rintro i acc st' ⟨rfl, ks, rfl, hks⟩
      refine ⟨trivial, ?_⟩
      have h1 := hks.le
      rw [List.length_take] at h1
      show (ks.map _).length < _
      rw [List.length_map]
      omega
    · rintro i d acc st' a hd ⟨rfl, ks, rfl, hks⟩ ha
      rw [List.getElem?_map] at hd
      cases hx : cs[i]? with
      | none => rw [hx] at hd; cases hd
      | some c =>
        rw [hx] at hd
        cases hd
        refine gt_name (et_yes ?_)
        rw [if_pos rfl]
        walk_at "go"
        refine ro_ix (.tup _) rfl ?_
        refine ⟨.inl c.1, rfl, ?_⟩
        walk_at "go"
        refine ⟨_, _, rfl, rfl, rfl, _, putD_ks ks c.1, ?_⟩
        rw [take_succ_map hx]
        exact hks.snoc c
    rintro acc st' a ⟨rfl, ks, rfl, hks⟩ ha
    rw [List.length_map, List.take_length] at hks
    refine ⟨sub_refl _, a, _, _, rfl, rfl, sub_refl _, ks, .int, .int, by unfold ksD; rw [List.map_map]; rfl, trivial, ?_, sub_refl _, ?_, ?_⟩
    · have := hks.le; omega
    · intro x hx a acc ha
      refine gt_name ?_
      walk_at "go"
      exact ⟨rfl, rfl⟩
    refine ea_nil (rc_sorted (.lst _) fun ns hp' hps => ⟨_, .lst _, _, .lst _, ?_⟩)
    have hdesc := desc_of hks.nd hp' hps
    have hmem : ∀ i, i ∈ ns.reverse ↔ ∃ c ∈ cs, c.1 = i := fun i => by rw [List.mem_reverse, hp'.mem_iff, hks.mem i]
    have hlen : ns.reverse.length ≤ cs.length := by rw [List.length_reverse, hp'.length_eq]; exact hks.le
    rw [← List.map_reverse]
    generalize ns.reverse = ms at hdesc hmem hlen
    refine ⟨fun i ds' st' => ∃ (R : List Pr) (x y u v : Option W), GInv cs (ms.take i) R ∧ R.length ≤ i ∧ ds' = [some (.d (.tup (cs.map eP))), some (.p p), x, y, u, v] ∧ st' = (p, .lst (R.map eP)) :: st, ⟨[], _, _, _, _, .zero cs, Nat.le_refl _, rfl, rfl⟩, fun _ _ _ _ => trivial, ?_, ?_⟩
    · rintro i d ds' st' hd ⟨R, x, y, u, v, hR, hRl, rfl, rfl⟩
      rw [List.getElem?_map] at hd
      cases hx : ms[i]? with
      | none => rw [hx] at hd; cases hd
      | some b =>
        rw [hx] at hd
        cases hd
        have hi : i < ms.length := (List.getElem?_eq_some_iff.mp hx).1
        have hb : b ∈ ms := List.mem_of_getElem? hx
        have hlt : ∀ d ∈ ms.take i, b < d := by
          have h1 : ms = ms.take i ++ ms.drop i := (List.take_append_drop i ms).symm
          rw [h1, List.pairwise_append] at hdesc
          intro d hd
          refine hdesc.2.2 d hd b ?_
          have : (ms.drop i)[0]? = some b := by rw [List.getElem?_drop]; exact hx
          exact List.mem_of_getElem? this
        refine gt_name (i := 2) ?_
        refine wp_seq (wp_set (ev_cb (ea_cons ?_)))
        refine ev_lcF (α := Pr) (is := [4]) (by decide) (ei_tup (ev_var rfl ⟨_, rfl, cs, eP, fun c => decide (c.1 = b), fun c => .int c.2, rfl, trivial, by omega, sub_refl _, ?_, ?_⟩))
        · intro c hc a acc ha
          refine gt_name ?_
          walk_at "go"
          refine ro_ix (.tup _) rfl ?_
          walk_at "go"
          refine ⟨rfl, rfl, fun hp => ?_⟩
          walk_at "go"
          refine ro_ix (.tup _) rfl ?_
          walk_at "go"
          exact ⟨rfl, rfl⟩
        refine ea_nil (rc_maxL (ns := (cs.filter fun c => decide (c.1 = b)).map (·.2)) (by rw [List.map_map]; exact .lst _) ?_ ?_)
        · obtain ⟨c, hc, e⟩ := (hmem b).mp hb
          rw [List.length_map]
          exact List.length_pos_of_mem (List.mem_filter.mpr ⟨hc, decide_eq_true e⟩)
        intro m hm hmax
        have hbm : (b, m) ∈ cs := by
          obtain ⟨c, hc, e⟩ := List.mem_map.mp hm
          obtain ⟨hc, e1⟩ := List.mem_filter.mp hc
          have : c = (b, m) := Prod.ext (of_decide_eq_true e1) e
          rw [← this]
          exact hc
        have hmx : ∀ c ∈ cs, c.1 = b → c.2 ≤ m := fun c hc e => hmax _ (List.mem_map.mpr ⟨c, List.mem_filter.mpr ⟨hc, decide_eq_true e⟩, rfl⟩)
        refine wp_if ?_
        walk_at "go"
        refine ev_call ?_
        walk_at "go"
        refine ⟨⟨(b, m), R, .p p⟩, ⟨rfl, .cel (j := 0) rfl, by show R.length ≤ _; omega⟩, ?_⟩
        rintro r st2 ⟨rfl, rfl⟩
        refine ⟨sub_refl _, _, rfl, ?_⟩
        show if (!undB (b, m) R) = true then _ else _
        cases hu : undB (b, m) R with
        | true =>
          refine wp_next ⟨R, _, _, _, _, ?_, by omega, rfl, rfl⟩
          rw [take_succ_map hx]
          exact hR.no hu hmx
        | false =>
          refine wp_drop (ev_bmL (ev_var rfl ⟨p, 0, _, rfl, rfl, ?_⟩))
          walk_at "go"
          refine mt_append (j := 0) rfl (by rw [List.length_map]; omega) ?_
          refine ⟨R ++ [(b, m)], _, _, _, _, ?_, by simp; omega, rfl, ?_⟩
          · rw [take_succ_map hx]
            exact hR.yes hu hbm hmx hlt
          · rw [List.map_append]
            rfl
    · rintro ds' st' ⟨R, x, y, u, v, hR, hRl, rfl, rfl⟩
      rw [List.length_map, List.take_length] at hR
      refine wp_retD ?_
      refine ev_cb (ea_cons (ev_revL (ev_var rfl ⟨_, .cel (j := 0) rfl, ea_nil (rc_tuple (.lst _) ?_)⟩)))
      refine ⟨_, [_], _, rfl, rfl, R.reverse, hR.fin fun c hc => (hmem _).mpr ⟨c, hc, rfl⟩, ?_, rfl⟩
      rw [List.map_reverse]
  | lst =>
    refine ⟨_, (pss_cons (ps_set (i := 1) sc.nd rfl (Or.inl rfl) (pe_lst pa_nil))
      (pss_cons (ps_for PassesOwn.never rfl (kiList (K := z.K) rfl (kRev (K := z.K) rfl (pe_callB (kSorted (K := z.K) rfl) (by rfl) bl.sorted_ (by decide +kernel) (pa_cons (pe_lc (own := [("one", 5)]) (tt := tYes) rfl sc.nd (pi_keysN (pe_dc (own := [("pair", 4)]) (tt := tYes) rfl sc.nd (kiList (K := z.K) rfl (pv 0)) (blkOk_by (N := ["corners", "found", "below", "above", "pair", "one"]) (sc := defScope (top 11)) (by decide +kernel)) (fun _ _ _ _ _ => (pg_name (i := 4) sc.nd rfl (by first | exact Or.inl rfl | exact Or.inr rfl))) (fun _ _ _ _ _ => pts_nil) (fun _ _ _ _ _ => (pe_ix (kIx (K := z.K) rfl) (pv 4) pe_int (fun _ _ => rfl))) (fun _ _ _ _ _ => pe_bl))) (blkOk_by (N := ["corners", "found", "below", "above", "pair", "one"]) (sc := defScope (top 11)) (by decide +kernel)) (fun _ _ _ _ _ => (pg_name (i := 5) sc.nd rfl (by first | exact Or.inl rfl | exact Or.inr rfl))) (fun _ _ _ _ _ => pts_nil) (fun _ _ _ _ _ => (pe_callTy call_int1 (by rfl) bl.int_ (by decide +kernel) (pa_cons (pv 5) pa_nil)))) pa_nil)))) (pg_name (i := 2) sc.nd rfl (Or.inr rfl)) (pss_cons (ps_set (i := 3) sc.nd rfl (Or.inl rfl) (pe_callB (kMax (K := z.K) rfl rfl) (by rfl) bl.max_ (by decide +kernel) (pa_cons (pe_lc (own := [("pair", 4)]) rfl sc.nd (kiList (K := z.K) rfl (pv 0)) (blkOk_by (N := ["corners", "found", "below", "above", "pair", "one"]) (sc := defScope (top 11)) (by decide +kernel)) (fun _ _ _ _ _ => (pg_name (i := 4) sc.nd rfl (by first | exact Or.inl rfl | exact Or.inr rfl))) (fun _ _ _ _ _ => (pts_one (pt_cmpR (kEq (K := z.K) rfl (units_of hr)) (pe_ix (kIx (K := z.K) rfl) (pv 4) pe_int (fun _ _ => rfl)) (pv 2) (nomark _)))) (fun _ _ _ _ _ => (pe_callTy call_int1 (by rfl) bl.int_ (by decide +kernel) (pa_cons (pe_ix (kIx (K := z.K) rfl) (pv 4) pe_int (fun _ _ => rfl)) pa_nil)))) pa_nil)))
      (pss_one (ps_if (pt_not (pt_val (pe_cf c_is_under (hr.mono (by decide)) rfl (pa_cons (pe_tup (pa_cons (pv 2) (pa_cons (pv 3) pa_nil))) (pa_cons (pv 1) pa_nil))))) (pss_one (ps_expr (pe_bm PySem.F.plainAttrs_list PySem.F.slot_list_append PySem.F.type_list_append L2.mt_append (pv 1) (pa_cons (pe_tup (pa_cons (pv 2) (pa_cons (pv 3) pa_nil))) pa_nil)))) pss_nil))))
      (pss_one (ps_ret (pe_callTy (kTupleOf (K := z.K) rfl) (by rfl) bl.tuple_ (by decide +kernel) (pa_cons (kRev (K := z.K) rfl (pv 1)) pa_nil)))))), fn_at hrw ho hk ?_⟩
    walk_at "st0"
    refine wp_seq (wp_set (ev_lstP (ea_nil ⟨_, rfl, fun p hp => ?_⟩)))
    refine wp_seq (wp_for (is := [2]) (ei_list (ev_revL (ev_cb (ea_cons ?_)))))
    refine ev_lcM (α := Int) (is := [5]) (by decide) (ei_keysN ?_)
    refine ev_dc (is := [4]) (by decide) (ei_list (ev_var rfl ⟨_, .lst _, ?_⟩))
    refine ⟨fun i acc st' => st' = (p, .lst []) :: st ∧ ∃ ks, acc = ksD ks ∧ KsOf ks (cs.take i), ⟨rfl, [], rfl, .zero⟩, ?_, ?_, ?_⟩
    · rintro i acc st' ⟨rfl, ks, rfl, hks⟩
      refine ⟨trivial, ?_⟩
      have h1 := hks.le
      rw [List.length_take] at h1
      show (ks.map _).length < _
      rw [List.length_map]
      omega
    · rintro i d acc st' a hd ⟨rfl, ks, rfl, hks⟩ ha
      rw [List.getElem?_map] at hd
      cases hx : cs[i]? with
      | none => rw [hx] at hd; cases hd
      | some c =>
        rw [hx] at hd
        cases hd
        refine gt_name (et_yes ?_)
        rw [if_pos rfl]
        walk_at "go"
        refine ro_ix (.tup _) rfl ?_
        refine ⟨.inl c.1, rfl, ?_⟩
        walk_at "go"
        refine ⟨_, _, rfl, rfl, rfl, _, putD_ks ks c.1, ?_⟩
        rw [take_succ_map hx]
        exact hks.snoc c
    rintro acc st' a ⟨rfl, ks, rfl, hks⟩ ha
    rw [List.length_map, List.take_length] at hks
    refine ⟨sub_refl _, a, _, _, rfl, rfl, sub_refl _, ks, .int, .int, by unfold ksD; rw [List.map_map]; rfl, trivial, ?_, sub_refl _, ?_, ?_⟩
    · have := hks.le; omega
    · intro x hx a acc ha
      refine gt_name ?_
      walk_at "go"
      exact ⟨rfl, rfl⟩
    refine ea_nil (rc_sorted (.lst _) fun ns hp' hps => ⟨_, .lst _, _, .lst _, ?_⟩)
    have hdesc := desc_of hks.nd hp' hps
    have hmem : ∀ i, i ∈ ns.reverse ↔ ∃ c ∈ cs, c.1 = i := fun i => by rw [List.mem_reverse, hp'.mem_iff, hks.mem i]
    have hlen : ns.reverse.length ≤ cs.length := by rw [List.length_reverse, hp'.length_eq]; exact hks.le
    rw [← List.map_reverse]
    generalize ns.reverse = ms at hdesc hmem hlen
    refine ⟨fun i ds' st' => ∃ (R : List Pr) (x y u v : Option W), GInv cs (ms.take i) R ∧ R.length ≤ i ∧ ds' = [some (.d (.lst (cs.map eP))), some (.p p), x, y, u, v] ∧ st' = (p, .lst (R.map eP)) :: st, ⟨[], _, _, _, _, .zero cs, Nat.le_refl _, rfl, rfl⟩, fun _ _ _ _ => trivial, ?_, ?_⟩
    · rintro i d ds' st' hd ⟨R, x, y, u, v, hR, hRl, rfl, rfl⟩
      rw [List.getElem?_map] at hd
      cases hx : ms[i]? with
      | none => rw [hx] at hd; cases hd
      | some b =>
        rw [hx] at hd
        cases hd
        have hi : i < ms.length := (List.getElem?_eq_some_iff.mp hx).1
        have hb : b ∈ ms := List.mem_of_getElem? hx
        have hlt : ∀ d ∈ ms.take i, b < d := by
          have h1 : ms = ms.take i ++ ms.drop i := (List.take_append_drop i ms).symm
          rw [h1, List.pairwise_append] at hdesc
          intro d hd
          refine hdesc.2.2 d hd b ?_
          have : (ms.drop i)[0]? = some b := by rw [List.getElem?_drop]; exact hx
          exact List.mem_of_getElem? this
        refine gt_name (i := 2) ?_
        refine wp_seq (wp_set (ev_cb (ea_cons ?_)))
        refine ev_lcF (α := Pr) (is := [4]) (by decide) (ei_list (ev_var rfl ⟨_, .lst _, cs, eP, fun c => decide (c.1 = b), fun c => .int c.2, rfl, trivial, by omega, sub_refl _, ?_, ?_⟩))
        · intro c hc a acc ha
          refine gt_name ?_
          walk_at "go"
          refine ro_ix (.tup _) rfl ?_
          walk_at "go"
          refine ⟨rfl, rfl, fun hp => ?_⟩
          walk_at "go"
          refine ro_ix (.tup _) rfl ?_
          walk_at "go"
          exact ⟨rfl, rfl⟩
        refine ea_nil (rc_maxL (ns := (cs.filter fun c => decide (c.1 = b)).map (·.2)) (by rw [List.map_map]; exact .lst _) ?_ ?_)
        · obtain ⟨c, hc, e⟩ := (hmem b).mp hb
          rw [List.length_map]
          exact List.length_pos_of_mem (List.mem_filter.mpr ⟨hc, decide_eq_true e⟩)
        intro m hm hmax
        have hbm : (b, m) ∈ cs := by
          obtain ⟨c, hc, e⟩ := List.mem_map.mp hm
          obtain ⟨hc, e1⟩ := List.mem_filter.mp hc
          have : c = (b, m) := Prod.ext (of_decide_eq_true e1) e
          rw [← this]
          exact hc
        have hmx : ∀ c ∈ cs, c.1 = b → c.2 ≤ m := fun c hc e => hmax _ (List.mem_map.mpr ⟨c, List.mem_filter.mpr ⟨hc, decide_eq_true e⟩, rfl⟩)
        refine wp_if ?_
        walk_at "go"
        refine ev_call ?_
        walk_at "go"
        refine ⟨⟨(b, m), R, .p p⟩, ⟨rfl, .cel (j := 0) rfl, by show R.length ≤ _; omega⟩, ?_⟩
        rintro r st2 ⟨rfl, rfl⟩
        refine ⟨sub_refl _, _, rfl, ?_⟩
        show if (!undB (b, m) R) = true then _ else _
        cases hu : undB (b, m) R with
        | true =>
          refine wp_next ⟨R, _, _, _, _, ?_, by omega, rfl, rfl⟩
          rw [take_succ_map hx]
          exact hR.no hu hmx
        | false =>
          refine wp_drop (ev_bmL (ev_var rfl ⟨p, 0, _, rfl, rfl, ?_⟩))
          walk_at "go"
          refine mt_append (j := 0) rfl (by rw [List.length_map]; omega) ?_
          refine ⟨R ++ [(b, m)], _, _, _, _, ?_, by simp; omega, rfl, ?_⟩
          · rw [take_succ_map hx]
            exact hR.yes hu hbm hmx hlt
          · rw [List.map_append]
            rfl
    · rintro ds' st' ⟨R, x, y, u, v, hR, hRl, rfl, rfl⟩
      rw [List.length_map, List.take_length] at hR
      refine wp_retD ?_
      refine ev_cb (ea_cons (ev_revL (ev_var rfl ⟨_, .cel (j := 0) rfl, ea_nil (rc_tuple (.lst _) ?_)⟩)))
      refine ⟨_, [_], _, rfl, rfl, R.reverse, hR.fin fun c hc => (hmem _).mpr ⟨c, hc, rfl⟩, ?_, rfl⟩
      rw [List.map_reverse]
theorem sc_ini : FnScope ["self", "corners", "at", "pair"] ["self", "corners"] (defScope (inClass (top 12) 0)) := ⟨rfl, rfl, rfl, by decide +kernel, rfl, by decide +kernel, by decide +kernel⟩
theorem ok_ini {f : Addr} {fd : FuncData} {dvs : List V} {kws : List (Str × V)} (F : FunD z.K "__init__" "Bounds.__init__" (defArgs (inClass (top 12) 0)) (defBody (inClass (top 12) 0)) (defScope (inClass (top 12) 0)) dvs kws f fd) (bl : Bl mg) (fl : Fl z "Bounds" "corners") (c_is_sequence : Cf P w z.K mg base "is_sequence" 1 ["value"] (sp z (pmIsSeq z))) (c_is_pair : Cf P w z.K mg base "is_pair" 3 ["value"] (sp z (pmIsPr z))) (c_greatest_of : Cf P w z.K mg base "greatest_of" 2 ["corners"] (sp z pmGr)) : FnOk P w z.K mg base CX0 4 f fd ["self", "corners"] (sp z pmIni) := by
  have sc := sc_ini
  refine funD_ok F sc (fun vs H Q E h => sp_len h fun g st ws ha => by rw [ha.1]; rfl) (fun cdv A outer s H vs Q E hr h => ?_)
  obtain ⟨⟨x, dx, cs, w, st⟩, ws, _, ⟨rfl, rfl, hs, hn, hnn⟩, hrw, ho, hk⟩ := h
  dsimp only at hs hn hnn hrw ho
  cases hs with
  | tup =>
    refine ⟨_, (pss_cons (ps_if (pt_not (pt_val (pe_cf c_is_sequence (hr.mono (by decide)) rfl (pa_cons (pv 1) pa_nil)))) (pss_one ps_never) pss_nil)
      (pss_cons (ps_for PassesOwn.never rfl (pi_enumT rfl bl.enumerate_ (pa_cons (pv 1) pa_nil)) (kgTup (K := z.K) (n := 2) rfl rfl (pgs_cons (pg_name (i := 2) sc.nd rfl (Or.inl rfl)) (pgs_cons (pg_name (i := 3) sc.nd rfl (Or.inl rfl)) pgs_nil))) (pss_one (ps_if (pt_not (pt_val (pe_cf c_is_pair (hr.mono (by decide)) rfl (pa_cons (pv 3) pa_nil)))) (pss_one ps_never) pss_nil)))
      (pss_one (ps_fld (pv 0) (pe_cf c_greatest_of (hr.mono (by decide)) rfl (pa_cons (pv 1) pa_nil)) rfl)))), fn_at hrw ho hk ?_⟩
    walk_at "st0"
    refine wp_seq (wp_if (et_not (et_test (ev_call (ea_cons (ev_var rfl (ea_nil ⟨_, ⟨rfl, trivial⟩, ?_⟩)))))))
    rintro r st2 ⟨rfl, rfl⟩
    refine ⟨sub_refl _, _, rfl, ?_⟩
    refine wp_next ?_
    refine wp_seq (wp_for (is := [2, 3]) (ei_enumT (ea_cons (ev_var rfl (ea_nil ⟨_, rfl, ?_⟩)))))
    refine ⟨fun i ds' st' => ∃ (u v : Option W), ds' = [some (.p x), some (.d (.tup (cs.map eP))), u, v] ∧ st' = (x, .ins "Bounds" dx []) :: st, ⟨_, _, rfl, rfl⟩, fun _ _ _ _ => trivial, ?_, ?_⟩
    · rintro i d ds' st' hd ⟨u, v, rfl, rfl⟩
      rw [enumD_get, List.getElem?_map] at hd
      cases hx : cs[i]? with
      | none => rw [hx] at hd; cases hd
      | some c =>
        rw [hx] at hd
        cases hd
        have hc := hnn c (List.mem_of_getElem? hx)
        refine gt_tup rfl (gts_cons (is := [2]) (gt_name (gts_cons (is := [3]) (js := []) (gt_name (gts_nil ?_)))))
        refine wp_if (et_not (et_test (ev_call (ea_cons (ev_var rfl (ea_nil ⟨_, ⟨rfl, trivial, ?_⟩, ?_⟩))))))
        · intro l hl d hd
          cases hl
          have : d = .int c.1 ∨ d = .int c.2 := by simpa using hd
          rcases this with rfl | rfl <;> trivial
        rintro r st2 ⟨rfl, rfl⟩
        refine ⟨sub_refl _, _, rfl, ?_⟩
        have hp : isPr (.d (eP c)) = true := by
          show (decide (0 ≤ c.1) && decide (0 ≤ c.2)) = true
          rw [decide_eq_true hc.1, decide_eq_true hc.2]
          rfl
        show if (!isPr (.d (eP c))) = true then _ else _
        rw [hp]
        exact wp_next ⟨_, _, rfl, rfl⟩
    · rintro ds' st' ⟨u, v, rfl, rfl⟩
      refine wp_fld (ev_call (ea_cons (ev_var rfl (ea_nil ⟨⟨cs, _⟩, ⟨rfl, .tup _, hn⟩, ?_⟩))))
      rintro r st2 ⟨R, hR, rfl, rfl⟩
      refine ⟨sub_refl _, ev_var rfl ⟨x, 0, "Bounds", dx, [], rfl, rfl, fl, by decide, ?_⟩⟩
      exact ⟨R, hR, rfl, rfl⟩
  | lst =>
    refine ⟨_, (pss_cons (ps_if (pt_not (pt_val (pe_cf c_is_sequence (hr.mono (by decide)) rfl (pa_cons (pv 1) pa_nil)))) (pss_one ps_never) pss_nil)
      (pss_cons (ps_for PassesOwn.never rfl (pi_enum rfl bl.enumerate_ (pa_cons (pv 1) pa_nil)) (kgTup (K := z.K) (n := 2) rfl rfl (pgs_cons (pg_name (i := 2) sc.nd rfl (Or.inl rfl)) (pgs_cons (pg_name (i := 3) sc.nd rfl (Or.inl rfl)) pgs_nil))) (pss_one (ps_if (pt_not (pt_val (pe_cf c_is_pair (hr.mono (by decide)) rfl (pa_cons (pv 3) pa_nil)))) (pss_one ps_never) pss_nil)))
      (pss_one (ps_fld (pv 0) (pe_cf c_greatest_of (hr.mono (by decide)) rfl (pa_cons (pv 1) pa_nil)) rfl)))), fn_at hrw ho hk ?_⟩
    walk_at "st0"
    refine wp_seq (wp_if (et_not (et_test (ev_call (ea_cons (ev_var rfl (ea_nil ⟨_, ⟨rfl, trivial⟩, ?_⟩)))))))
    rintro r st2 ⟨rfl, rfl⟩
    refine ⟨sub_refl _, _, rfl, ?_⟩
    refine wp_next ?_
    refine wp_seq (wp_for (is := [2, 3]) (ei_enum (ea_cons (ev_var rfl (ea_nil ⟨_, _, rfl, .lst _, ?_⟩)))))
    refine ⟨fun i ds' st' => ∃ (u v : Option W), ds' = [some (.p x), some (.d (.lst (cs.map eP))), u, v] ∧ st' = (x, .ins "Bounds" dx []) :: st, ⟨_, _, rfl, rfl⟩, fun _ _ _ _ => trivial, ?_, ?_⟩
    · rintro i d ds' st' hd ⟨u, v, rfl, rfl⟩
      rw [enumD_get, List.getElem?_map] at hd
      cases hx : cs[i]? with
      | none => rw [hx] at hd; cases hd
      | some c =>
        rw [hx] at hd
        cases hd
        have hc := hnn c (List.mem_of_getElem? hx)
        refine gt_tup rfl (gts_cons (is := [2]) (gt_name (gts_cons (is := [3]) (js := []) (gt_name (gts_nil ?_)))))
        refine wp_if (et_not (et_test (ev_call (ea_cons (ev_var rfl (ea_nil ⟨_, ⟨rfl, trivial, ?_⟩, ?_⟩))))))
        · intro l hl d hd
          cases hl
          have : d = .int c.1 ∨ d = .int c.2 := by simpa using hd
          rcases this with rfl | rfl <;> trivial
        rintro r st2 ⟨rfl, rfl⟩
        refine ⟨sub_refl _, _, rfl, ?_⟩
        have hp : isPr (.d (eP c)) = true := by
          show (decide (0 ≤ c.1) && decide (0 ≤ c.2)) = true
          rw [decide_eq_true hc.1, decide_eq_true hc.2]
          rfl
        show if (!isPr (.d (eP c))) = true then _ else _
        rw [hp]
        exact wp_next ⟨_, _, rfl, rfl⟩
    · rintro ds' st' ⟨u, v, rfl, rfl⟩
      refine wp_fld (ev_call (ea_cons (ev_var rfl (ea_nil ⟨⟨cs, _⟩, ⟨rfl, .lst _, hn⟩, ?_⟩))))
      rintro r st2 ⟨R, hR, rfl, rfl⟩
      refine ⟨sub_refl _, ev_var rfl ⟨x, 0, "Bounds", dx, [], rfl, rfl, fl, by decide, ?_⟩⟩
      exact ⟨R, hR, rfl, rfl⟩
theorem sc_bool : FnScope ["self"] ["self"] (defScope (inClass (top 12) 2)) := ⟨rfl, rfl, rfl, by decide +kernel, rfl, by decide +kernel, by decide +kernel⟩
theorem ok_bool {f : Addr} {fd : FuncData} (F : Fun z.K "__bool__" "Bounds.__bool__" (inClass (top 12) 2) f fd) (bl : Bl mg) (fl : Fl z "Bounds" "corners") : FnOk P w z.K mg base CX0 (k + 1) f fd ["self"] (sp z pmBool) := by
  have sc := sc_bool
  refine F.ok sc (fun vs H Q E h => sp_len h fun g st ws ha => by rw [show ws = _ from ha]; rfl) (fun cdv A outer s H vs Q E hr h => ?_)
  refine ⟨_, (pss_one (ps_ret (pe_cmpR op_gt (pe_callB (kLen (K := z.K) rfl) (by rfl) bl.len_ (by decide +kernel) (pa_cons (kFld (K := z.K) rfl (pv 0) rfl) pa_nil)) pe_int (nomark _)))), fn_body h ?_⟩
  rintro R ws st rfl
  walk_at "st0"
  walk_at "go"
  refine ev_fld (ev_var rfl ⟨_, _, _, rfl, fl, rfl, ?_⟩)
  walk_at "go"
  refine rc_lenA (.tup _) ?_
  walk_at "go"
  refine ⟨?_, rfl⟩
  cases R with
  | nil => rfl
  | cons a R =>
    rw [List.length_map, List.length_cons, decide_eq_true (show (0 : Int) < ((R.length + 1 : Nat) : Int) by omega)]
    rfl
theorem sc_or : FnScope ["self", "other"] ["self", "other"] (defScope (inClass (top 12) 6)) := ⟨rfl, rfl, rfl, by decide +kernel, rfl, by decide +kernel, by decide +kernel⟩
theorem ok_or {f : Addr} {fd : FuncData} (F : Fun z.K "__or__" "Bounds.__or__" (inClass (top 12) 6) f fd) (bl : Bl mg) (fl : Fl z "Bounds" "corners") (ty : TyC z "Bounds") (kB : PySem.W.kitOne z.K (.ref (z.cl "Bounds")) (.ref (z.cl "Bounds")) = some true) (g_Bounds : mg "Bounds" = some (.ref (z.cl "Bounds"))) (k_Bounds : Kf P w z.K mg base (z.cl "Bounds") "Bounds" 4 ["self", "corners"] [] (sp z pmIni)) : FnOk P w z.K mg base CX0 6 f fd ["self", "other"] (sp z pmOr) := by
  have sc := sc_or
  refine F.ok sc (fun vs H Q E h => sp_len h fun g st ws ha => by rw [ha.1]; rfl) (fun cdv A outer s H vs Q E hr h => ?_)
  refine ⟨_, (pss_cons (ps_if (pt_not (pt_val (pe_callB (kIsi (K := z.K) rfl) (by rfl) bl.isinstance_ (by decide +kernel) (pa_cons (pv 1) (pa_cons (pe_glob (v := .ref (z.cl "Bounds")) rfl g_Bounds rfl) pa_nil))))) (pss_one ps_never) pss_nil)
      (pss_one (ps_ret (pe_mf k_Bounds (hr.mono (by decide)) rfl (pa_cons (pe_op (kAdd (K := z.K) rfl) (kFld (K := z.K) rfl (pv 0) rfl) (kFld (K := z.K) rfl (pv 1) rfl)) pa_nil))))), fn_body h ?_⟩
  rintro ⟨R, S⟩ ws st ⟨rfl, hR, hS, hn⟩
  dsimp only at hR hS hn
  walk_at "st0"
  refine wp_seq (wp_if (et_not (et_test (ev_isiO (ev_var rfl ⟨_, _, .obj _ ty, kB, _, rfl, ?_⟩)))))
  refine wp_next ?_
  refine wp_ret (ev_make rfl (fun _ _ => .nil) (ea_cons ?_))
  walk_at "go"
  refine ev_fld (ev_var rfl ⟨_, _, _, rfl, fl, rfl, ?_⟩)
  walk_at "go"
  refine ev_fld (ev_var rfl ⟨_, _, _, rfl, fl, rfl, ?_⟩)
  refine ro_catT (by rw [List.length_map, List.length_map]; omega) (ea_nil fun x dx hx => ?_)
  refine ⟨⟨x, dx, R ++ S, .d (.tup (R.map eP ++ S.map eP)), st⟩, ⟨rfl, rfl, by show Sd _ ((R ++ S).map eP); rw [List.map_append]; exact .tup _, by show (R ++ S).length ≤ _; rw [List.length_append]; exact hn, fun c hc => ?_⟩, ?_⟩
  · rcases List.mem_append.mp hc with h | h
    · exact hR.nn c h
    · exact hS.nn c h
  rintro r st2 ⟨T, hT, rfl, rfl⟩
  refine ⟨rfl, _, rfl, T, ⟨hT.st, fun c hc => ?_⟩, ?_, fun p => ?_, rfl, rfl⟩
  · rcases List.mem_append.mp (hT.mem c hc) with h | h
    · exact hR.nn c h
    · exact hS.nn c h
  · have := stair_le hT.st hT.mem
    rw [List.length_append] at this
    exact this
  · rw [hT.und p]; exact und_append
theorem sc_and : FnScope ["self", "other", "one", "two"] ["self", "other"] (defScope (inClass (top 12) 5)) := ⟨rfl, rfl, rfl, by decide +kernel, rfl, by decide +kernel, by decide +kernel⟩
theorem ok_and {f : Addr} {fd : FuncData} (F : Fun z.K "__and__" "Bounds.__and__" (inClass (top 12) 5) f fd) (bl : Bl mg) (fl : Fl z "Bounds" "corners") (ty : TyC z "Bounds") (kB : PySem.W.kitOne z.K (.ref (z.cl "Bounds")) (.ref (z.cl "Bounds")) = some true) (g_Bounds : mg "Bounds" = some (.ref (z.cl "Bounds"))) (k_Bounds : Kf P w z.K mg base (z.cl "Bounds") "Bounds" 4 ["self", "corners"] [] (sp z pmIni)) (c_lesser_of : Cf P w z.K mg base "lesser_of" 1 ["one", "two"] (sp z pmLes)) : FnOk P w z.K mg base CX0 6 f fd ["self", "other"] (sp z pmAnd) := by
  have sc := sc_and
  refine F.ok sc (fun vs H Q E h => sp_len h fun g st ws ha => by rw [ha.1]; rfl) (fun cdv A outer s H vs Q E hr h => ?_)
  refine ⟨_, (pss_cons (ps_if (pt_not (pt_val (pe_callB (kIsi (K := z.K) rfl) (by rfl) bl.isinstance_ (by decide +kernel) (pa_cons (pv 1) (pa_cons (pe_glob (v := .ref (z.cl "Bounds")) rfl g_Bounds rfl) pa_nil))))) (pss_one ps_never) pss_nil)
      (pss_one (ps_ret (pe_mf k_Bounds (hr.mono (by decide)) rfl (pa_cons (pe_lc2 (own := [("one", 2), ("two", 3)]) (vs1 := [3]) (tt := tYes) (tt1 := tYes) rfl sc.nd (kiTup (K := z.K) rfl (kFld (K := z.K) rfl (pv 0) rfl)) (blkOk_by (N := ["self", "other", "one", "two"]) (sc := defScope (inClass (top 12) 5)) (by decide +kernel)) (by decide) (fun _ _ _ _ _ => (pg_name (i := 2) sc.nd rfl (by first | exact Or.inl rfl | exact Or.inr rfl))) (fun _ _ _ _ _ => pts_nil) (fun _ _ _ _ _ => (kiTup (K := z.K) rfl (kFld (K := z.K) rfl (pv 1) rfl))) (fun _ _ _ _ _ => (pg_name (i := 3) sc.nd rfl (by first | exact Or.inl rfl | exact Or.inr rfl))) (fun _ _ _ _ _ => pts_nil) (fun _ _ _ _ _ => (pe_cf c_lesser_of (hr.mono (by decide)) rfl (pa_cons (pv 2) (pa_cons (pv 3) pa_nil))))) pa_nil))))), fn_body h ?_⟩
  rintro ⟨R, S⟩ ws st ⟨rfl, hR, hS, hn⟩
  dsimp only at hR hS hn
  walk_at "st0"
  refine wp_seq (wp_if (et_not (et_test (ev_isiO (ev_var rfl ⟨_, _, .obj _ ty, kB, _, rfl, ?_⟩)))))
  refine wp_next ?_
  refine wp_ret (ev_make rfl (fun _ _ => .nil) (ea_cons ?_))
  refine ev_lc2M (α := Pr) (β := Pr) (is := [2]) (is1 := [3]) (by decide) (by decide) (ei_tup (ev_fld (ev_var rfl ⟨_, _, _, rfl, fl, rfl, _, rfl, R, eP, S, eP, fun a b => eP (lesser a b), rfl, trivial, by omega, sub_refl _, ?_, ?_⟩)))
  · intro a ha p acc hp
    refine gt_name ?_
    refine ei_tup (ev_fld (ev_var rfl ⟨_, _, _, rfl, fl, rfl, _, rfl, rfl, rfl, trivial, ?_⟩))
    intro b hb acc'
    refine gt_name ?_
    refine ev_call (ea_cons (ev_var rfl (ea_cons (ev_var rfl (ea_nil ⟨(a, b), rfl, ?_⟩)))))
    rintro r st2 ⟨rfl, rfl⟩
    exact ⟨sub_refl _, rfl, rfl⟩
  have ml := meet_len R S
  rw [meet_map]
  have nn : NonNeg (meet R S) := fun c hc => by
    obtain ⟨a, ha, hc⟩ := List.mem_flatMap.mp hc
    obtain ⟨b, hb, rfl⟩ := List.mem_map.mp hc
    have h1 := hR.nn a ha
    have h2 := hS.nn b hb
    unfold lesser
    constructor
    · show 0 ≤ if b.1 < a.1 then b.1 else a.1
      split <;> omega
    · show 0 ≤ if b.2 < a.2 then b.2 else a.2
      split <;> omega
  refine ea_nil fun x dx hx => ?_
  refine ⟨⟨x, dx, meet R S, .d (.lst ((meet R S).map eP)), st⟩, ⟨rfl, rfl, .lst _, by show (meet R S).length ≤ _; rw [ml]; exact hn, nn⟩, ?_⟩
  rintro r st2 ⟨T, hT, rfl, rfl⟩
  refine ⟨rfl, _, rfl, T, ⟨hT.st, fun c hc => nn c (hT.mem c hc)⟩, ?_, fun p => ?_, rfl, rfl⟩
  · have := stair_le hT.st hT.mem
    rw [ml] at this
    exact this
  · rw [hT.und p]; exact und_meet
theorem sc_eq : FnScope ["self", "other"] ["self", "other"] (defScope (inClass (top 12) 7)) := ⟨rfl, rfl, rfl, by decide +kernel, rfl, by decide +kernel, by decide +kernel⟩
theorem ok_eq {f : Addr} {fd : FuncData} (F : Fun z.K "__eq__" "Bounds.__eq__" (inClass (top 12) 7) f fd) (bl : Bl mg) (fl : Fl z "Bounds" "corners") (kb : ∀ st w t, Tw z st w t → (∀ c l, w = .d (.obj c l) → c = "Bounds") → ∃ b, PySem.W.kitOne z.K t (.ref (z.cl "Bounds")) = some b ∧ (b = true ↔ ∃ l, w = .d (.obj "Bounds" l))) (g_Bounds : mg "Bounds" = some (.ref (z.cl "Bounds"))) : FnOk P w z.K mg base CX0 (k + 1) f fd ["self", "other"] (sp z (pmEq z)) := by
  have sc := sc_eq
  refine F.ok sc (fun vs H Q E h => sp_len h fun g st ws ha => by rw [ha.1]; rfl) (fun cdv A outer s H vs Q E hr h => ?_)
  refine ⟨_, (pss_one (ps_ret (pe_and (pe_callB (kIsi (K := z.K) rfl) (by rfl) bl.isinstance_ (by decide +kernel) (pa_cons (pv 1) (pa_cons (pe_glob (v := .ref (z.cl "Bounds")) rfl g_Bounds rfl) pa_nil))) (pe_one (pe_cmpR (kEq (K := z.K) rfl (units_of hr)) (kFld (K := z.K) rfl (pv 0) rfl) (kFld (K := z.K) rfl (pv 1) rfl) (nomark _)))))), fn_body h ?_⟩
  rintro ⟨R, v⟩ ws st ⟨rfl, hT, hB⟩
  dsimp only at hT hB
  walk_at "st0"
  obtain ⟨t, tw, _⟩ := hT.kts
  obtain ⟨b, kB, hb⟩ := kb _ _ _ tw fun c l e => (hB c l e).1
  refine wp_ret (ev_andV (ev_isiO (ev_var rfl ⟨t, b, tw, kB, ⟨_, rfl, ite2 (fun h1 => ?_) (fun h1 => ?_)⟩⟩)))
  · obtain ⟨l, rfl⟩ := hb.mp h1
    obtain ⟨_, S, rfl⟩ := hB _ _ rfl
    walk_at "go"
    refine ev_fld (ev_var rfl ⟨_, _, _, rfl, fl, rfl, ?_⟩)
    refine ev_fld (ev_var rfl ⟨_, _, _, rfl, fl, rfl, ?_⟩)
    refine ro_eqD (ok_pairsT R) (ok_pairsT S) ?_
    rw [eqv_pairsT]
    refine ⟨_, rfl, rfl, ?_⟩
    rw [decide_eq_true_iff]
    show _ ↔ W.d (eB S) = .d (eB R)
    exact ⟨fun e => by rw [e], fun e => (eB_inj e).symm⟩
  · refine ⟨_, rfl, rfl, ?_⟩
    constructor
    · intro e; cases e
    · intro e
      exact (h1 (hb.mpr ⟨_, e⟩)).elim
theorem sc_le : FnScope ["self", "other", "pair"] ["self", "other"] (defScope (inClass (top 12) 8)) := ⟨rfl, rfl, rfl, by decide +kernel, rfl, by decide +kernel, by decide +kernel⟩
theorem ok_le {f : Addr} {fd : FuncData} (F : Fun z.K "__le__" "Bounds.__le__" (inClass (top 12) 8) f fd) (bl : Bl mg) (fl : Fl z "Bounds" "corners") (ty : TyC z "Bounds") (kB : PySem.W.kitOne z.K (.ref (z.cl "Bounds")) (.ref (z.cl "Bounds")) = some true) (g_Bounds : mg "Bounds" = some (.ref (z.cl "Bounds"))) (c_is_under : Cf P w z.K mg base "is_under" 1 ["pair", "corners"] (sp z pmUnd)) : FnOk P w z.K mg base CX0 2 f fd ["self", "other"] (sp z pmLe) := by
  have sc := sc_le
  refine F.ok sc (fun vs H Q E h => sp_len h fun g st ws ha => by rw [ha.1]; rfl) (fun cdv A outer s H vs Q E hr h => ?_)
  refine ⟨_, (pss_cons (ps_if (pt_not (pt_val (pe_callB (kIsi (K := z.K) rfl) (by rfl) bl.isinstance_ (by decide +kernel) (pa_cons (pv 1) (pa_cons (pe_glob (v := .ref (z.cl "Bounds")) rfl g_Bounds rfl) pa_nil))))) (pss_one ps_never) pss_nil)
      (pss_one (ps_ret (pe_callB (kAll (K := z.K) rfl rfl) (by rfl) bl.all_ (by decide +kernel) (pa_cons (pe_lc (own := [("pair", 2)]) (tt := tYes) rfl sc.nd (kiTup (K := z.K) rfl (kFld (K := z.K) rfl (pv 0) rfl)) (blkOk_by (N := ["self", "other", "pair"]) (sc := defScope (inClass (top 12) 8)) (by decide +kernel)) (fun _ _ _ _ _ => (pg_name (i := 2) sc.nd rfl (by first | exact Or.inl rfl | exact Or.inr rfl))) (fun _ _ _ _ _ => pts_nil) (fun _ _ _ _ _ => (pe_cf c_is_under (hr.mono (by decide)) rfl (pa_cons (pv 2) (pa_cons (kFld (K := z.K) rfl (pv 1) rfl) pa_nil))))) pa_nil))))), fn_body h ?_⟩
  rintro ⟨R, S⟩ ws st ⟨rfl, hR, hS⟩
  dsimp only at hR hS
  walk_at "st0"
  refine wp_seq (wp_if (et_not (et_test (ev_isiO (ev_var rfl ⟨_, _, .obj _ ty, kB, _, rfl, ?_⟩)))))
  refine wp_next ?_
  refine wp_ret (ev_cb (ea_cons ?_))
  refine ev_lcM (α := Pr) (is := [2]) (by decide) (ei_tup (ev_fld (ev_var rfl ⟨_, _, _, rfl, fl, rfl, _, rfl, R, eP, fun c => .bl (undB c S), rfl, trivial, by omega, sub_refl _, ?_, ?_⟩)))
  · intro c hc a acc ha
    refine gt_name (ev_call ?_)
    walk_at "go"
    refine ev_fld (ev_var rfl ⟨_, _, _, rfl, fl, rfl, ?_⟩)
    walk_at "go"
    refine ⟨⟨c, S, _⟩, ⟨rfl, .tup _, Nat.le_trans hS (by decide)⟩, ?_⟩
    rintro r st2 ⟨rfl, rfl⟩
    exact ⟨sub_refl _, rfl, rfl⟩
  refine ea_nil (rc_all (bs := R.map fun c => undB c S) (by rw [List.map_map]; exact .lst _) ⟨?_, rfl⟩)
  rw [List.all_map]
  rfl
theorem sc_lt : FnScope ["self", "other"] ["self", "other"] (defScope (inClass (top 12) 9)) := ⟨rfl, rfl, rfl, by decide +kernel, rfl, by decide +kernel, by decide +kernel⟩
theorem ok_lt {f : Addr} {fd : FuncData} (F : Fun z.K "__lt__" "Bounds.__lt__" (inClass (top 12) 9) f fd) (bl : Bl mg) (fl : Fl z "Bounds" "corners") (ty : TyC z "Bounds") (nf : PySem.W.notFirst z.K (z.cl "Bounds") (.ref (z.cl "Bounds")) = true) (kB : PySem.W.kitOne z.K (.ref (z.cl "Bounds")) (.ref (z.cl "Bounds")) = some true) (g_Bounds : mg "Bounds" = some (.ref (z.cl "Bounds"))) (m_le : Mf P w z.K mg base (z.cl "Bounds") "__le__" 2 ["self", "other"] (sp z pmLe)) : FnOk P w z.K mg base CX0 3 f fd ["self", "other"] (sp z pmLt) := by
  have sc := sc_lt
  refine F.ok sc (fun vs H Q E h => sp_len h fun g st ws ha => by rw [ha.1]; rfl) (fun cdv A outer s H vs Q E hr h => ?_)
  refine ⟨_, (pss_cons (ps_if (pt_not (pt_val (pe_callB (kIsi (K := z.K) rfl) (by rfl) bl.isinstance_ (by decide +kernel) (pa_cons (pv 1) (pa_cons (pe_glob (v := .ref (z.cl "Bounds")) rfl g_Bounds rfl) pa_nil))))) (pss_one ps_never) pss_nil)
      (pss_one (ps_ret (pe_and (pe_cmpR (kCmp (K := z.K) rfl m_le (hr.mono (by decide)) (fun _ _ => rfl)) (pv 0) (pv 1) (nomark _)) (pe_one (pe_cmpR (kNe (K := z.K) rfl (units_of hr)) (kFld (K := z.K) rfl (pv 0) rfl) (kFld (K := z.K) rfl (pv 1) rfl) (nomark _))))))), fn_body h ?_⟩
  rintro ⟨R, S⟩ ws st ⟨rfl, hR, hS⟩
  dsimp only at hR hS
  walk_at "st0"
  refine wp_seq (wp_if (et_not (et_test (ev_isiO (ev_var rfl ⟨_, _, .obj _ ty, kB, _, rfl, ?_⟩)))))
  refine wp_next ?_
  walk_at "go"
  refine ro_cmp rfl rfl (.obj _ ty) nf ⟨⟨R, S⟩, ⟨rfl, by assumption, by assumption⟩, ?_⟩
  rintro r st2 ⟨rfl, rfl⟩
  refine ⟨sub_refl _, ?_⟩
  first
  | exact ⟨rfl, rfl⟩
  | refine ⟨_, rfl, ite2 (fun h1 => ?_) (fun h1 => ?_)⟩
    · walk_at "go"
      refine ev_fld (ev_var rfl ⟨_, _, _, rfl, fl, rfl, ?_⟩)
      refine ev_fld (ev_var rfl ⟨_, _, _, rfl, fl, rfl, ?_⟩)
      refine ro_neD (ok_pairsT R) (ok_pairsT S) ?_
      rw [eqv_pairsT]
      refine ⟨?_, rfl⟩
      dsimp only at h1
      show W.d (.bl _) = .d (.bl (_ && _))
      rw [h1]
      rfl
    · rw [Bool.not_eq_true] at h1
      refine ⟨?_, rfl⟩
      dsimp only at h1
      show W.d (.bl _) = .d (.bl (_ && _))
      rw [h1]
      rfl
theorem sc_ge : FnScope ["self", "other"] ["self", "other"] (defScope (inClass (top 12) 10)) := ⟨rfl, rfl, rfl, by decide +kernel, rfl, by decide +kernel, by decide +kernel⟩
theorem ok_ge {f : Addr} {fd : FuncData} (F : Fun z.K "__ge__" "Bounds.__ge__" (inClass (top 12) 10) f fd) (bl : Bl mg) (fl : Fl z "Bounds" "corners") (ty : TyC z "Bounds") (nf : PySem.W.notFirst z.K (z.cl "Bounds") (.ref (z.cl "Bounds")) = true) (kB : PySem.W.kitOne z.K (.ref (z.cl "Bounds")) (.ref (z.cl "Bounds")) = some true) (g_Bounds : mg "Bounds" = some (.ref (z.cl "Bounds"))) (m_le : Mf P w z.K mg base (z.cl "Bounds") "__le__" 2 ["self", "other"] (sp z pmLe)) : FnOk P w z.K mg base CX0 3 f fd ["self", "other"] (sp z pmGe) := by
  have sc := sc_ge
  refine F.ok sc (fun vs H Q E h => sp_len h fun g st ws ha => by rw [ha.1]; rfl) (fun cdv A outer s H vs Q E hr h => ?_)
  refine ⟨_, (pss_cons (ps_if (pt_not (pt_val (pe_callB (kIsi (K := z.K) rfl) (by rfl) bl.isinstance_ (by decide +kernel) (pa_cons (pv 1) (pa_cons (pe_glob (v := .ref (z.cl "Bounds")) rfl g_Bounds rfl) pa_nil))))) (pss_one ps_never) pss_nil)
      (pss_one (ps_ret (pe_cmpR (kCmp (K := z.K) rfl m_le (hr.mono (by decide)) (fun _ _ => rfl)) (pv 1) (pv 0) (nomark _))))), fn_body h ?_⟩
  rintro ⟨R, S⟩ ws st ⟨rfl, hR, hS⟩
  dsimp only at hR hS
  walk_at "st0"
  refine wp_seq (wp_if (et_not (et_test (ev_isiO (ev_var rfl ⟨_, _, .obj _ ty, kB, _, rfl, ?_⟩)))))
  refine wp_next ?_
  walk_at "go"
  refine ro_cmp rfl rfl (.obj _ ty) nf ⟨⟨S, R⟩, ⟨rfl, by assumption, by assumption⟩, ?_⟩
  rintro r st2 ⟨rfl, rfl⟩
  refine ⟨sub_refl _, ?_⟩
  first
  | exact ⟨rfl, rfl⟩
  | refine ⟨_, rfl, ite2 (fun h1 => ?_) (fun h1 => ?_)⟩
    · walk_at "go"
      refine ev_fld (ev_var rfl ⟨_, _, _, rfl, fl, rfl, ?_⟩)
      refine ev_fld (ev_var rfl ⟨_, _, _, rfl, fl, rfl, ?_⟩)
      refine ro_neD (ok_pairsT R) (ok_pairsT S) ?_
      rw [eqv_pairsT]
      refine ⟨?_, rfl⟩
      dsimp only at h1
      show W.d (.bl _) = .d (.bl (_ && _))
      rw [h1]
      rfl
    · rw [Bool.not_eq_true] at h1
      refine ⟨?_, rfl⟩
      dsimp only at h1
      show W.d (.bl _) = .d (.bl (_ && _))
      rw [h1]
      rfl
theorem sc_gt : FnScope ["self", "other"] ["self", "other"] (defScope (inClass (top 12) 11)) := ⟨rfl, rfl, rfl, by decide +kernel, rfl, by decide +kernel, by decide +kernel⟩
theorem ok_gt {f : Addr} {fd : FuncData} (F : Fun z.K "__gt__" "Bounds.__gt__" (inClass (top 12) 11) f fd) (bl : Bl mg) (fl : Fl z "Bounds" "corners") (ty : TyC z "Bounds") (nf : PySem.W.notFirst z.K (z.cl "Bounds") (.ref (z.cl "Bounds")) = true) (kB : PySem.W.kitOne z.K (.ref (z.cl "Bounds")) (.ref (z.cl "Bounds")) = some true) (g_Bounds : mg "Bounds" = some (.ref (z.cl "Bounds"))) (m_le : Mf P w z.K mg base (z.cl "Bounds") "__le__" 2 ["self", "other"] (sp z pmLe)) : FnOk P w z.K mg base CX0 3 f fd ["self", "other"] (sp z pmGt) := by
  have sc := sc_gt
  refine F.ok sc (fun vs H Q E h => sp_len h fun g st ws ha => by rw [ha.1]; rfl) (fun cdv A outer s H vs Q E hr h => ?_)
  refine ⟨_, (pss_cons (ps_if (pt_not (pt_val (pe_callB (kIsi (K := z.K) rfl) (by rfl) bl.isinstance_ (by decide +kernel) (pa_cons (pv 1) (pa_cons (pe_glob (v := .ref (z.cl "Bounds")) rfl g_Bounds rfl) pa_nil))))) (pss_one ps_never) pss_nil)
      (pss_one (ps_ret (pe_and (pe_cmpR (kCmp (K := z.K) rfl m_le (hr.mono (by decide)) (fun _ _ => rfl)) (pv 1) (pv 0) (nomark _)) (pe_one (pe_cmpR (kNe (K := z.K) rfl (units_of hr)) (kFld (K := z.K) rfl (pv 0) rfl) (kFld (K := z.K) rfl (pv 1) rfl) (nomark _))))))), fn_body h ?_⟩
  rintro ⟨R, S⟩ ws st ⟨rfl, hR, hS⟩
  dsimp only at hR hS
  walk_at "st0"
  refine wp_seq (wp_if (et_not (et_test (ev_isiO (ev_var rfl ⟨_, _, .obj _ ty, kB, _, rfl, ?_⟩)))))
  refine wp_next ?_
  walk_at "go"
  refine ro_cmp rfl rfl (.obj _ ty) nf ⟨⟨S, R⟩, ⟨rfl, by assumption, by assumption⟩, ?_⟩
  rintro r st2 ⟨rfl, rfl⟩
  refine ⟨sub_refl _, ?_⟩
  first
  | exact ⟨rfl, rfl⟩
  | refine ⟨_, rfl, ite2 (fun h1 => ?_) (fun h1 => ?_)⟩
    · walk_at "go"
      refine ev_fld (ev_var rfl ⟨_, _, _, rfl, fl, rfl, ?_⟩)
      refine ev_fld (ev_var rfl ⟨_, _, _, rfl, fl, rfl, ?_⟩)
      refine ro_neD (ok_pairsT R) (ok_pairsT S) ?_
      rw [eqv_pairsT]
      refine ⟨?_, rfl⟩
      dsimp only at h1
      show W.d (.bl _) = .d (.bl (_ && _))
      rw [h1]
      rfl
    · rw [Bool.not_eq_true] at h1
      refine ⟨?_, rfl⟩
      dsimp only at h1
      show W.d (.bl _) = .d (.bl (_ && _))
      rw [h1]
      rfl
theorem sc_unl : FnScope ["_law_pair", "_law_corners_here", "_law_one"] ["_law_pair", "_law_corners_here"] (defScope (top 19)) := ⟨rfl, rfl, rfl, by decide +kernel, rfl, by decide +kernel, by decide +kernel⟩
theorem ok_unl {f : Addr} {fd : FuncData} (F : Fun z.K "_law_under" "_law_under" (top 19) f fd) (bl : Bl mg) : FnOk P w z.K mg base CX0 (k + 1) f fd ["_law_pair", "_law_corners_here"] (sp z pmUnL) := by
  have sc := sc_unl
  refine F.ok sc (fun vs H Q E h => sp_len h fun g st ws ha => by rw [ha.1]; rfl) (fun cdv A outer s H vs Q E hr h => ?_)
  refine ⟨_, (pss_one (ps_ret (pe_cmpR (kNe (K := z.K) rfl (units_of hr)) (pe_lc (own := [("_law_one", 2)]) rfl sc.nd (kiList (K := z.K) rfl (pv 1)) (blkOk_by (N := ["_law_pair", "_law_corners_here", "_law_one"]) (sc := defScope (top 19)) (by decide +kernel)) (fun _ _ _ _ _ => (pg_name (i := 2) sc.nd rfl (by first | exact Or.inl rfl | exact Or.inr rfl))) (fun _ _ _ _ _ => (pts_one (PW.pt (pw_and (pt_cmpR op_le (pe_ix (kIx (K := z.K) rfl) (pv 0) pe_int (fun _ _ => rfl)) (pe_ix (kIx (K := z.K) rfl) (pv 2) pe_int (fun _ _ => rfl)) (nomark _)) (pw_and1 (pt_cmpR op_le (pe_ix (kIx (K := z.K) rfl) (pv 0) pe_int (fun _ _ => rfl)) (pe_ix (kIx (K := z.K) rfl) (pv 2) pe_int (fun _ _ => rfl)) (nomark _))))))) (fun _ _ _ _ _ => (pv 2))) (pe_lst pa_nil) (nomark _)))), fn_body h ?_⟩
  rintro ⟨p, cs⟩ ws st ⟨rfl, hn⟩
  dsimp only at hn
  walk_at "st0"
  refine wp_ret (ev_op ?_)
  refine ev_lcF (α := Pr) (is := [2]) (by decide) (ei_list (ev_var rfl ⟨_, .lst _, cs, eP, fun c => decide (p.1 ≤ c.1) && decide (p.2 ≤ c.2), eP, rfl, trivial, by omega, sub_refl _, ?_, ?_⟩))
  · intro c hc a acc ha
    refine gt_name ?_
    walk_at "go"
    refine ro_ix (.tup _) rfl ?_
    walk_at "go"
    refine ro_ix (.tup _) rfl ?_
    walk_at "go"
    refine ite2 (fun h1 => ?_) (fun h1 => ?_)
    · walk_at "go"
      refine ro_ix (.tup _) rfl ?_
      walk_at "go"
      refine ro_ix (.tup _) rfl ?_
      walk_at "go"
      exact ⟨by show _ = (decide _ && decide _); rw [h1]; rfl, rfl, fun _ => ev_var rfl ⟨rfl, rfl⟩⟩
    · rw [Bool.not_eq_true] at h1
      exact ⟨by show _ = (decide _ && decide _); rw [h1]; rfl, rfl, fun h => by have h : (decide (p.1 ≤ c.1) && decide (p.2 ≤ c.2)) = true := h; rw [h1] at h; cases h⟩
  walk_at "gl"
  refine ro_neD (okD_pairsL _) (okD_pairsL []) ?_
  rw [show PyData.eqv (py (.lst ((cs.filter fun c => decide (p.1 ≤ c.1) && decide (p.2 ≤ c.2)).map eP))) (py (.lst [])) = decide (_ = []) from eqv_pairsL _ []]
  refine ⟨?_, rfl⟩
  congr 2
  rw [Bool.eq_iff_iff, undB_iff]
  rw [Bool.not_eq_true', decide_eq_false_iff_not]
  constructor
  · intro h1
    obtain ⟨c, hc⟩ := List.exists_mem_of_ne_nil _ h1
    obtain ⟨hc, h2⟩ := List.mem_filter.mp hc
    obtain ⟨h3, h4⟩ := Bool.and_eq_true_iff.mp h2
    exact ⟨c, hc, of_decide_eq_true h3, of_decide_eq_true h4⟩
  · rintro ⟨c, hc, h3, h4⟩ e
    have : c ∈ cs.filter fun c => decide (p.1 ≤ c.1) && decide (p.2 ≤ c.2) := List.mem_filter.mpr ⟨hc, by rw [decide_eq_true h3, decide_eq_true h4]; rfl⟩
    rw [e] at this
    cases this
theorem sc_grl : FnScope ["_law_corners_here", "_law_found", "_law_pair", "_law_others", "_law_firsts", "_law_one", "_law_first"] ["_law_corners_here"] (defScope (top 20)) := ⟨rfl, rfl, rfl, by decide +kernel, rfl, by decide +kernel, by decide +kernel⟩
theorem ok_grl {f : Addr} {fd : FuncData} (F : Fun z.K "_law_greatest" "_law_greatest" (top 20) f fd) (bl : Bl mg) (c__law_under : Cf P w z.K mg base "_law_under" 1 ["_law_pair", "_law_corners_here"] (sp z pmUnL)) : FnOk P w z.K mg base CX0 2 f fd ["_law_corners_here"] (sp z pmGrL) := by
  have sc := sc_grl
  refine F.ok sc (fun vs H Q E h => sp_len h fun g st ws ha => by rw [ha.1]; rfl) (fun cdv A outer s H vs Q E hr h => ?_)
  refine ⟨_, (pss_cons (ps_set (i := 1) sc.nd rfl (Or.inr rfl) (pe_lst pa_nil))
      (pss_cons (ps_for PassesOwn.never rfl (kiList (K := z.K) rfl (pv 0)) (pg_name (i := 2) sc.nd rfl (Or.inr rfl)) (pss_cons (ps_setLc (i := 3) (own := [("_law_one", 5)]) rfl sc.nd rfl rfl (sw_true rfl rfl rfl (by decide +kernel)) (kiList (K := z.K) rfl (pv 0)) (blkOk_by (N := ["_law_corners_here", "_law_found", "_law_pair", "_law_others", "_law_firsts", "_law_one", "_law_first"]) (sc := defScope (top 20)) (by decide +kernel)) (fun _ _ _ _ _ => (pg_name (i := 5) sc.nd rfl (by first | exact Or.inl rfl | exact Or.inr rfl))) (fun _ _ _ _ _ => (pts_one (pt_cmpR (kNe (K := z.K) rfl (units_of hr)) (pv 5) (pv 2) (nomark _)))) (fun _ _ _ _ _ => (pv 5)))
      (pss_one (ps_if (PW.pt (pw_and (pt_not (pt_val (pe_cf c__law_under (hr.mono (by decide)) rfl (pa_cons (pv 2) (pa_cons (pv 3) pa_nil))))) (pw_and1 (pt_cmpR (kNotInD (K := z.K) rfl (room65 hr)) (pv 2) (pv 1) (by rfl))))) (pss_one (ps_expr (pe_bm PySem.F.plainAttrs_list PySem.F.slot_list_append PySem.F.type_list_append L2.mt_append (pv 1) (pa_cons (pv 2) pa_nil)))) pss_nil))))
      (pss_cons (ps_set (i := 4) sc.nd rfl (Or.inl rfl) (pe_callB (kSorted (K := z.K) rfl) (by rfl) bl.sorted_ (by decide +kernel) (pa_cons (pe_lc (own := [("_law_pair", 2)]) (tt := tYes) rfl sc.nd (kiList (K := z.K) rfl (pv 1)) (blkOk_by (N := ["_law_corners_here", "_law_found", "_law_pair", "_law_others", "_law_firsts", "_law_one", "_law_first"]) (sc := defScope (top 20)) (by decide +kernel)) (fun _ _ _ _ _ => (pg_name (i := 2) sc.nd rfl (by first | exact Or.inl rfl | exact Or.inr rfl))) (fun _ _ _ _ _ => pts_nil) (fun _ _ _ _ _ => (pe_callTy call_int1 (by rfl) bl.int_ (by decide +kernel) (pa_cons (pe_ix (kIx (K := z.K) rfl) (pv 2) pe_int (fun _ _ => rfl)) pa_nil)))) pa_nil)))
      (pss_one (ps_ret (pe_callTy (kTupleOf (K := z.K) rfl) (by rfl) bl.tuple_ (by decide +kernel) (pa_cons (pe_lc (own := [("_law_first", 6)]) (tt := tYes) rfl sc.nd (kiList (K := z.K) rfl (pv 4)) (blkOk_by (N := ["_law_corners_here", "_law_found", "_law_pair", "_law_others", "_law_firsts", "_law_one", "_law_first"]) (sc := defScope (top 20)) (by decide +kernel)) (fun _ _ _ _ _ => (pg_name (i := 6) sc.nd rfl (by first | exact Or.inl rfl | exact Or.inr rfl))) (fun _ _ _ _ _ => pts_nil) (fun _ _ _ _ _ => (pe_ix (kIx (K := z.K) rfl) (pe_lc (own := [("_law_pair", 2)]) rfl sc.nd (kiList (K := z.K) rfl (pv 1)) (blkOk_by (by rfl)) (fun _ _ _ _ _ => (pg_name (i := 2) sc.nd rfl (by first | exact Or.inl rfl | exact Or.inr rfl))) (fun _ _ _ _ _ => (pts_one (pt_cmpR (kEq (K := z.K) rfl (units_of hr)) (pe_ix (kIx (K := z.K) rfl) (pv 2) pe_int (fun _ _ => rfl)) (pv 6) (nomark _)))) (fun _ _ _ _ _ => (pv 2))) pe_int (fun _ _ => rfl)))) pa_nil))))))), fn_body h ?_⟩
  rintro (cs : List Pr) ws st ⟨rfl, hn⟩
  walk_at "st0"
  refine wp_seq (wp_set (ev_lstP (ea_nil ⟨_, rfl, fun p hp => ?_⟩)))
  refine wp_seq (wp_for (is := [2]) (ei_list (ev_var rfl ⟨_, .lst _, ?_⟩)))
  refine ⟨fun i ds' st' => ∃ (Fo : List Pr) (x2 x3 x4 x5 x6 : Option W), GTop cs i Fo ∧ ds' = [some (.d (.lst (cs.map eP))), some (.p p), x2, x3, x4, x5, x6] ∧ st' = (p, .lst (Fo.map eP)) :: st, ⟨[], _, _, _, _, _, .zero cs, rfl, rfl⟩, fun _ _ _ _ => trivial, ?_, ?_⟩
  · rintro i d ds' st' hd ⟨Fo, x2, x3, x4, x5, x6, hF, rfl, rfl⟩
    rw [List.getElem?_map] at hd
    cases hx : cs[i]? with
    | none => rw [hx] at hd; cases hd
    | some c =>
      rw [hx] at hd
      cases hd
      have hi : i < cs.length := (List.getElem?_eq_some_iff.mp hx).1
      have hFl := hF.le
      refine gt_name (i := 2) ?_
      refine wp_seq (wp_set ?_)
      refine ev_lcF (α := Pr) (is := [5]) (by decide) (ei_list (ev_var rfl ⟨_, .lst _, cs, eP, fun d => !decide (d = c), eP, rfl, trivial, by omega, sub_refl _, ?_, ?_⟩))
      · intro d hd a acc ha
        refine gt_name ?_
        walk_at "go"
        refine ro_neD (okD_pair _) (okD_pair _) ?_
        rw [eqv_pair]
        walk_at "go"
        refine ⟨rfl, rfl, fun _ => ev_var rfl ⟨rfl, rfl⟩⟩
      refine wp_if ?_
      walk_at "go"
      refine ev_call ?_
      walk_at "go"
      refine ⟨(c, cs.filter fun d => !decide (d = c)), ⟨rfl, ?_⟩, ?_⟩
      · have := List.length_filter_le (fun d => !decide (d = c)) cs
        show (cs.filter fun d => !decide (d = c)).length ≤ _
        omega
      rintro r st2 ⟨rfl, rfl⟩
      have hT : undB c (cs.filter fun d => !decide (d = c)) = false ↔ Top cs c := by
        rw [← Bool.not_eq_true, undB_iff]
        constructor
        · intro h d hd hb
          apply Classical.byContradiction
          intro hne
          exact h ⟨d, List.mem_filter.mpr ⟨hd, by rw [decide_eq_false hne]; rfl⟩, hb.1, hb.2⟩
        · rintro h ⟨d, hd, h1, h2⟩
          obtain ⟨hd, hne⟩ := List.mem_filter.mp hd
          have := h d hd ⟨h1, h2⟩
          rw [decide_eq_true this] at hne
          cases hne
      refine ⟨sub_refl _, _, rfl, ?_⟩
      show if (!undB c (cs.filter fun d => !decide (d = c))) = true then _ else _
      cases hu : undB c (cs.filter fun d => !decide (d = c)) with
      | true =>
        refine wp_next ⟨Fo, _, _, _, _, _, hF.no hx fun h => ?_, rfl, rfl⟩
        rw [hT.mpr h.1] at hu
        cases hu
      | false =>
        refine iteT rfl ?_
        have ht := hT.mp hu
        walk_at "go"
        refine ro_notInD (.cel (j := 0) rfl) (okD_pair _) (okD_pairsL _) ?_
        rw [any_pairs]
        walk_at "go"
        refine ite2 (fun h1 => ?_) (fun h1 => ?_)
        · have hm : c ∉ Fo := by
            intro hm
            rw [decide_eq_true hm] at h1
            cases h1
          refine wp_drop (ev_bmL (ev_var rfl ⟨p, 0, _, rfl, rfl, ?_⟩))
          walk_at "go"
          refine mt_append (j := 0) rfl (by rw [List.length_map]; omega) ?_
          refine ⟨Fo ++ [c], _, _, _, _, _, hF.yes hx ht hm, rfl, ?_⟩
          rw [List.map_append]
          rfl
        · refine wp_next ⟨Fo, _, _, _, _, _, hF.no hx fun h => ?_, rfl, rfl⟩
          rw [decide_eq_false h.2] at h1
          exact h1 rfl
  rintro ds' st' ⟨Fo, x2, x3, x4, x5, x6, hF, rfl, rfl⟩
  rw [List.length_map] at hF
  have hFl := hF.le
  refine wp_seq (wp_set (ev_cb (ea_cons ?_)))
  refine ev_lcM (α := Pr) (is := [2]) (by decide) (ei_list (ev_var rfl ⟨_, .cel (j := 0) rfl, Fo, eP, fun c => .int c.1, rfl, ⟨0, rfl⟩, by omega, sub_refl _, ?_, ?_⟩))
  · intro c hc a acc ha
    refine gt_name ?_
    walk_at "go"
    refine ro_ix (.tup _) rfl ?_
    walk_at "go"
    exact ⟨rfl, rfl⟩
  refine ea_nil (rc_sorted (ns := Fo.map (·.1)) (by rw [List.map_map]; exact .lst _) fun ns hpm hps => ?_)
  have pick : ∀ i ∈ ns, ∃ c ∈ Fo, c.1 = i := fun i hi => by
    obtain ⟨c, hc, e⟩ := List.mem_map.mp (hpm.mem_iff.mp hi)
    exact ⟨c, hc, e⟩
  have memF : ∀ c ∈ Fo, c ∈ cs ∧ Top cs c := fun c hc => by
    have := (hF.mem c).mp hc
    rw [List.take_length] at this
    exact this
  have only : ∀ c ∈ Fo, (Fo.filter fun d => decide (d.1 = c.1)) = [c] := by
    intro c hc
    have h1 : ∀ d ∈ Fo.filter fun d => decide (d.1 = c.1), d = c := fun d hd => by
      obtain ⟨hd, e⟩ := List.mem_filter.mp hd
      exact top_first (memF d hd).1 (memF c hc).1 (memF d hd).2 (memF c hc).2 (of_decide_eq_true e)
    have h2 : c ∈ Fo.filter fun d => decide (d.1 = c.1) := List.mem_filter.mpr ⟨hc, decide_eq_true rfl⟩
    have h3 : (Fo.filter fun d => decide (d.1 = c.1)).Nodup := hF.nd.filter _
    exact one_of h1 h2 h3
  have ndN : ns.Nodup := by
    refine hpm.nodup_iff.mpr ?_
    have : Fo.Pairwise fun a b => a.1 ≠ b.1 := hF.nd.imp_of_mem fun ha hb h e => h (top_first (memF _ ha).1 (memF _ hb).1 (memF _ ha).2 (memF _ hb).2 e)
    exact List.pairwise_map.mpr this
  -- the pairs by their firsts
  obtain ⟨R, hRn, hRm⟩ : ∃ R : List Pr, R.map (·.1) = ns ∧ ∀ c ∈ R, c ∈ Fo := by
    clear hpm hps ndN
    induction ns with
    | nil => exact ⟨[], rfl, fun _ h => (nomatch h)⟩
    | cons i ns ih =>
      obtain ⟨R, h1, h2⟩ := ih fun j hj => pick j (List.mem_cons_of_mem _ hj)
      obtain ⟨c, hc, e⟩ := pick i List.mem_cons_self
      exact ⟨c :: R, by rw [List.map_cons, h1, e], fun d hd => (List.mem_cons.mp hd).elim (fun e => e ▸ hc) (h2 d)⟩
  refine wp_retD (ev_cb (ea_cons ?_))
  refine ev_lcM (α := Pr) (is := [6]) (by decide) (ei_list (ev_var rfl ⟨_, .lst _, R, fun c => .int c.1, eP, by rw [← hRn, List.map_map]; rfl, trivial, ?_, sub_refl _, ?_, ?_⟩))
  · have : R.length = ns.length := by rw [← hRn, List.length_map]
    have h2 : ns.length = Fo.length := by rw [hpm.length_eq, List.length_map]
    omega
  · intro c hc a acc ha
    refine gt_name ?_
    refine ev_op ?_
    refine ev_lcF (α := Pr) (is := [2]) (by decide) (ei_list (ev_var rfl ⟨_, .cel (j := 1) rfl, Fo, eP, fun d => decide (d.1 = c.1), eP, rfl, ⟨1, rfl⟩, by omega, sub_refl _, ?_, ?_⟩))
    · intro d hd a2 acc2 ha2
      refine gt_name ?_
      walk_at "go"
      refine ro_ix (.tup _) rfl ?_
      walk_at "go"
      exact ⟨rfl, rfl, fun _ => ev_var rfl ⟨rfl, rfl⟩⟩
    walk_at "go"
    rw [only c (hRm c hc)]
    exact ro_ix (.lst _) rfl ⟨rfl, rfl⟩
  refine ea_nil (rc_tuple (.lst _) ⟨_, [_], _, rfl, rfl, R, ?_, rfl, rfl⟩)
  refine top_gr hF (fun c => ⟨hRm c, fun hc => ?_⟩) ?_
  · have : c.1 ∈ R.map (·.1) := by rw [hRn]; exact hpm.mem_iff.mpr (List.mem_map.mpr ⟨c, hc, rfl⟩)
    obtain ⟨d, hd, e⟩ := List.mem_map.mp this
    have := top_first (memF d (hRm d hd)).1 (memF c hc).1 (memF d (hRm d hd)).2 (memF c hc).2 e
    rw [← this]
    exact hd
  · have : (R.map (·.1)).Pairwise fun a b => a < b := by
      rw [hRn]
      exact (List.pairwise_and_iff.mpr ⟨hps, ndN⟩).imp fun h => by omega
    exact List.pairwise_map.mp this
theorem sc_pick : FnScope ["_law_box_here", "_law_items"] ["_law_box_here", "_law_items"] (defScope (top 17)) := ⟨rfl, rfl, rfl, by decide +kernel, rfl, by decide +kernel, by decide +kernel⟩
theorem ok_pick {f : Addr} {fd : FuncData} (F : Fun z.K "_law_pick" "_law_pick" (top 17) f fd) (bl : Bl mg) (c__law_take : Cf P w z.K mg base "_law_take" 1 ["_law_box_here", "_law_many"] (sp z pmTake)) : FnOk P w z.K mg base CX0 2 f fd ["_law_box_here", "_law_items"] (sp z pmPick) := by
  have sc := sc_pick
  refine F.ok sc (fun vs H Q E h => sp_len h fun g st ws ha => by rw [ha.1]; rfl) (fun cdv A outer s H vs Q E hr h => ?_)
  refine ⟨_, (pss_one (ps_ret (pe_ix (kIx (K := z.K) rfl) (pv 1) (pe_cf c__law_take (hr.mono (by decide)) rfl (pa_cons (pv 0) (pa_cons (pe_callB (kLen (K := z.K) rfl) (by rfl) bl.len_ (by decide +kernel) (pa_cons (pv 1) pa_nil)) pa_nil))) (fun _ _ => rfl)))), fn_body h ?_⟩
  rintro ⟨a, j, w, s, c, l⟩ ws st ⟨rfl, hj, h0, h1⟩
  dsimp only at hj h0 h1
  walk_at "st0"
  walk_at "go"
  refine ev_call ?_
  walk_at "go"
  refine rc_lenA (.lst _) ?_
  walk_at "go"
  refine take_ok hj (by omega) (by omega) fun r w' s' c' hr0 hr1 => ?_
  obtain ⟨d, e, hd⟩ := atI_lt (l := l) hr0 hr1
  exact ro_ix (.lst _) e ⟨d, List.mem_of_getElem? hd, w', s', c', rfl, rfl⟩
theorem sc_has : FnScope ["self", "value"] ["self", "value"] (defScope (inClass (top 12) 3)) := ⟨rfl, rfl, rfl, by decide +kernel, rfl, by decide +kernel, by decide +kernel⟩
theorem ok_has {f : Addr} {fd : FuncData} (F : Fun z.K "__contains__" "Bounds.__contains__" (inClass (top 12) 3) f fd) (bl : Bl mg) (fl : Fl z "Bounds" "corners") (c_is_pair : Cf P w z.K mg base "is_pair" 3 ["value"] (sp z (pmIsPr z))) (c_is_under : Cf P w z.K mg base "is_under" 1 ["pair", "corners"] (sp z pmUnd)) : FnOk P w z.K mg base CX0 4 f fd ["self", "value"] (sp z (pmHas z)) := by
  have sc := sc_has
  refine F.ok sc (fun vs H Q E h => sp_len h fun g st ws ha => by rw [ha.1]; rfl) (fun cdv A outer s H vs Q E hr h => ?_)
  refine ⟨_, (pss_one (ps_ret (pe_and (pe_cf c_is_pair (hr.mono (by decide)) rfl (pa_cons (pv 1) pa_nil)) (pe_one (pe_cf c_is_under (hr.mono (by decide)) rfl (pa_cons (pv 1) (pa_cons (kFld (K := z.K) rfl (pv 0) rfl) pa_nil))))))), fn_body h ?_⟩
  rintro ⟨R, v⟩ ws st ⟨rfl, hT, hl, hn⟩
  dsimp only at hT hl hn
  walk_at "st0"
  refine wp_ret (ev_andV (ev_call (ea_cons (ev_var rfl (ea_nil ⟨v, ⟨rfl, hT, hl⟩, ?_⟩)))))
  rintro r st2 ⟨rfl, rfl⟩
  refine ⟨sub_refl _, _, rfl, ite2 (fun h1 => ?_) (fun h1 => ?_)⟩
  · obtain ⟨i, j, rfl, hij⟩ := isPr_is h1
    refine ev_call ?_
    walk_at "go"
    refine ev_fld (ev_var rfl ⟨_, _, _, rfl, fl, rfl, ?_⟩)
    walk_at "go"
    refine ⟨⟨(i, j), R, _⟩, ⟨rfl, .tup _, Nat.le_trans hn (by decide)⟩, ?_⟩
    rintro r st3 ⟨rfl, rfl⟩
    refine ⟨sub_refl _, ?_, rfl⟩
    show _ = W.d (.bl (decide (0 ≤ i) && decide (0 ≤ j) && undB (i, j) R))
    rw [decide_eq_true hij.1, decide_eq_true hij.2]
    rfl
  · refine ⟨?_, rfl⟩
    rw [hasB_not (by rwa [Bool.not_eq_true] at h1)]
theorem sc_meet : FnScope ["_law_one", "_law_two", "_law_found", "_law_a", "_law_b", "_law_c", "_law_d"] ["_law_one", "_law_two"] (defScope (top 21)) := ⟨rfl, rfl, rfl, by decide +kernel, rfl, by decide +kernel, by decide +kernel⟩
theorem ok_meet {f : Addr} {fd : FuncData} (F : Fun z.K "_law_meet" "_law_meet" (top 21) f fd) (bl : Bl mg) : FnOk P w z.K mg base CX0 (k + 1) f fd ["_law_one", "_law_two"] (sp z pmMeet) := by
  have sc := sc_meet
  refine F.ok sc (fun vs H Q E h => sp_len h fun g st ws ha => by rw [ha.1]; rfl) (fun cdv A outer s H vs Q E hr h => ?_)
  refine ⟨_, (pss_cons (ps_set (i := 2) sc.nd rfl (Or.inl rfl) (pe_lst pa_nil))
      (pss_cons (ps_for PassesOwn.never rfl (kiList (K := z.K) rfl (pv 0)) (kgTup (K := z.K) (n := 2) rfl rfl (pgs_cons (pg_name (i := 3) sc.nd rfl (Or.inr rfl)) (pgs_cons (pg_name (i := 4) sc.nd rfl (Or.inr rfl)) pgs_nil))) (pss_one (ps_expr (pe_bm PySem.F.plainAttrs_list PySem.F.slot_list_extend PySem.F.type_list_extend L2.mt_extend (pv 2) (pa_cons (pe_lc (own := [("_law_c", 5), ("_law_d", 6)]) (tt := tYes) rfl sc.nd (kiList (K := z.K) rfl (pv 1)) (blkOk_by (N := ["_law_one", "_law_two", "_law_found", "_law_a", "_law_b", "_law_c", "_law_d"]) (sc := defScope (top 21)) (by decide +kernel)) (fun _ _ _ _ _ => (kgTup (K := z.K) (n := 2) rfl rfl (pgs_cons (pg_name (i := 5) sc.nd rfl (by first | exact Or.inl rfl | exact Or.inr rfl)) (pgs_cons (pg_name (i := 6) sc.nd rfl (by first | exact Or.inl rfl | exact Or.inr rfl)) pgs_nil)))) (fun _ _ _ _ _ => pts_nil) (fun _ _ _ _ _ => (pe_tup (pa_cons (pe_callB (call_min2 rfl) (by rfl) bl.min_ (by decide +kernel) (pa_cons (pe_callTy call_int1 (by rfl) bl.int_ (by decide +kernel) (pa_cons (pv 3) pa_nil)) (pa_cons (pe_callTy call_int1 (by rfl) bl.int_ (by decide +kernel) (pa_cons (pv 5) pa_nil)) pa_nil))) (pa_cons (pe_callB (call_min2 rfl) (by rfl) bl.min_ (by decide +kernel) (pa_cons (pe_callTy call_int1 (by rfl) bl.int_ (by decide +kernel) (pa_cons (pv 4) pa_nil)) (pa_cons (pe_callTy call_int1 (by rfl) bl.int_ (by decide +kernel) (pa_cons (pv 6) pa_nil)) pa_nil))) pa_nil))))) pa_nil)))))
      (pss_one (ps_ret (pv 2))))), fn_body h ?_⟩
  rintro ⟨R, S⟩ ws st ⟨rfl, hn, hS⟩
  dsimp only at hn hS
  walk_at "st0"
  refine wp_seq (wp_set (ev_lstP (ea_nil ⟨_, rfl, fun p hp => ?_⟩)))
  refine wp_seq (wp_for (is := [3, 4]) (ei_list (ev_var rfl ⟨_, .lst _, ?_⟩)))
  refine ⟨fun i ds' st' => ∃ (x3 x4 x5 x6 : Option W), i ≤ R.length ∧ ds' = [some (.d (.lst (R.map eP))), some (.d (.lst (S.map eP))), some (.p p), x3, x4, x5, x6] ∧ st' = (p, .lst ((meet (R.take i) S).map eP)) :: st, ⟨_, _, _, _, Nat.zero_le _, rfl, rfl⟩, fun _ _ _ _ => trivial, ?_, ?_⟩
  · rintro i d ds' st' hd ⟨x3, x4, x5, x6, _, rfl, rfl⟩
    rw [List.getElem?_map] at hd
    cases hx : R[i]? with
    | none => rw [hx] at hd; cases hd
    | some c =>
      rw [hx] at hd
      cases hd
      have hi : i < R.length := (List.getElem?_eq_some_iff.mp hx).1
      refine gt_tup rfl (gts_cons (is := [3]) (gt_name (gts_cons (is := [4]) (js := []) (gt_name (gts_nil ?_)))))
      refine wp_drop (ev_bmL (ev_var rfl ⟨p, 0, _, rfl, rfl, ?_⟩))
      refine ea_cons ?_
      refine ev_lcM (α := Pr) (is := [5, 6]) (by decide) (ei_list (ev_var rfl ⟨_, .lst _, S, eP, fun b => eP (lesser c b), rfl, trivial, by omega, sub_refl _, ?_, ?_⟩))
      · intro b hb a acc ha
        refine gt_tup rfl (gts_cons (is := [5]) (gt_name (gts_cons (is := [6]) (js := []) (gt_name (gts_nil ?_)))))
        walk_at "go"
        exact ⟨rfl, rfl⟩
      refine ea_nil (mt_extend (j := 0) rfl ?_ ?_)
      · rw [List.length_map, List.length_map, meet_len, List.length_take, Nat.min_eq_left (Nat.le_of_lt hi)]
        have : i * S.length ≤ R.length * S.length := Nat.mul_le_mul_right _ (Nat.le_of_lt hi)
        omega
      refine ⟨_, _, _, _, hi, rfl, ?_⟩
      show (p, Cell.lst ((meet (R.take i) S).map eP ++ S.map fun b => eP (lesser c b))) :: st = _
      rw [take_succ_map hx]
      unfold meet
      rw [List.flatMap_append, List.map_append, List.flatMap_singleton, List.map_map]
      rfl
  · rintro ds' st' ⟨x3, x4, x5, x6, _, rfl, rfl⟩
    rw [List.length_map, List.take_length]
    exact wp_retF (j := 0) (ev_var rfl ⟨p, rfl, rfl, rfl, rfl⟩)
theorem sc_law : FnScope ["_law_script", "_law_k", "_law_box_here", "_law_turn", "_law_one", "_law_two", "_law_p", "_law_q", "_law_both", "_law_either", "_law_held", "_law_more", "_law_is_less", "_law_is_more", "_law_due", "_law_again", "_law_pair"] ["_law_script"] (defScope (top 22)) := ⟨rfl, rfl, rfl, by decide +kernel, rfl, by decide +kernel, by decide +kernel⟩
theorem ok_law {f : Addr} {fd : FuncData} (F : Fun z.K "law" "law" (top 22) f fd) (bl : Bl mg) (fl : Fl z "Bounds" "corners") (ty : TyC z "Bounds") (nf : PySem.W.notFirst z.K (z.cl "Bounds") (.ref (z.cl "Bounds")) = true) (sf : PySem.W.selfFirst z.K (z.cl "Bounds") = true)
    (ne1 : PySem.W.findIn z.K (.ref (z.cl "Bounds")) "__ne__" = some (some (.builtin "object.__ne__"))) (ne2 : PySem.W.mroIn z.K (z.cl "Bounds") (.type "object") = some true) (ni_and : NoI z.K (z.cl "Bounds") "__iand__") (ni_or : NoI z.K (z.cl "Bounds") "__ior__")
    (k_Bounds : Kf P w z.K mg base (z.cl "Bounds") "Bounds" 4 ["self", "corners"] [] (sp z pmIni))
    (c__law_box : Cf P w z.K mg base "_law_box" 1 ["_law_script", "_law_k", "_law_own"] (sp z pmBox3)) (c__law_take : Cf P w z.K mg base "_law_take" 1 ["_law_box_here", "_law_many"] (sp z pmTake)) (c__law_pick : Cf P w z.K mg base "_law_pick" 2 ["_law_box_here", "_law_items"] (sp z pmPick)) (c__law_corners : Cf P w z.K mg base "_law_corners" 2 ["_law_box_here", "_law_many", "_law_top"] (sp z pmCorn))
    (c__law_under : Cf P w z.K mg base "_law_under" 1 ["_law_pair", "_law_corners_here"] (sp z pmUnL)) (c__law_greatest : Cf P w z.K mg base "_law_greatest" 2 ["_law_corners_here"] (sp z pmGrL)) (c__law_meet : Cf P w z.K mg base "_law_meet" 1 ["_law_one", "_law_two"] (sp z pmMeet))
    (m_and : Mf P w z.K mg base (z.cl "Bounds") "__and__" 6 ["self", "other"] (sp z pmAnd)) (m_or : Mf P w z.K mg base (z.cl "Bounds") "__or__" 6 ["self", "other"] (sp z pmOr))
    (m_le : Mf P w z.K mg base (z.cl "Bounds") "__le__" 2 ["self", "other"] (sp z pmLe)) (m_lt : Mf P w z.K mg base (z.cl "Bounds") "__lt__" 3 ["self", "other"] (sp z pmLt)) (m_ge : Mf P w z.K mg base (z.cl "Bounds") "__ge__" 3 ["self", "other"] (sp z pmGe)) (m_gt : Mf P w z.K mg base (z.cl "Bounds") "__gt__" 3 ["self", "other"] (sp z pmGt))
    (m_eq : Mf P w z.K mg base (z.cl "Bounds") "__eq__" 1 ["self", "other"] (sp z (pmEq z))) (m_has : Mf P w z.K mg base (z.cl "Bounds") "__contains__" 4 ["self", "value"] (sp z (pmHas z))) :
    FnG P w z.K mg base 7 f fd ["_law_script"] (spLaw z.K) := by
  have sc := sc_law
  refine fnG_ok F sc (fun vs H Q E h => by obtain ⟨a, ns, rfl, _⟩ := h; rfl) (fun cdv A outer s H vs Q E hr hg h => ?_)
  refine ⟨_, (pss_cons (ps_for PassesOwn.never rfl (pi_range1 rfl bl.range_ (pa_cons (pe_callB (call_max2 rfl) (by rfl) bl.max_ (by decide +kernel) (pa_cons pe_int (pa_cons (pe_callB (call_min2 rfl) (by rfl) bl.min_ (by decide +kernel) (pa_cons pe_int (pa_cons (pe_callB (kLen (K := z.K) rfl) (by rfl) bl.len_ (by decide +kernel) (pa_cons (pv 0) pa_nil)) pa_nil))) pa_nil))) pa_nil)) (pg_name (i := 1) sc.nd rfl (Or.inl rfl)) (pss_cons (ps_set (i := 2) sc.nd rfl (Or.inl rfl) (pe_cf c__law_box (hr.mono (by decide)) rfl (pa_cons (pv 0) (pa_cons (pv 1) (pa_cons pe_int pa_nil)))))
      (pss_one (ps_for PassesOwn.never rfl (pi_range1 rfl bl.range_ (pa_cons pe_int pa_nil)) (pg_name (i := 3) sc.nd rfl (Or.inl rfl)) (pss_cons (ps_set (i := 4) sc.nd rfl (Or.inr rfl) (pe_cf c__law_corners (hr.mono (by decide)) rfl (pa_cons (pv 2) (pa_cons pe_int (pa_cons pe_int pa_nil)))))
      (pss_cons (ps_set (i := 5) sc.nd rfl (Or.inr rfl) (pe_cf c__law_pick (hr.mono (by decide)) rfl (pa_cons (pv 2) (pa_cons (pe_lst (pa_cons (pe_cf c__law_corners (hr.mono (by decide)) rfl (pa_cons (pv 2) (pa_cons pe_int (pa_cons pe_int pa_nil)))) (pa_cons (pe_slice (kSlL (K := z.K) rfl) (pv 4) po_none (po_some pe_int)) (pa_cons (pe_op (kAdd (K := z.K) rfl) (pv 4) (pe_lst (pa_cons (pe_tup (pa_cons pe_int (pa_cons pe_int pa_nil))) pa_nil))) (pa_cons (kRev (K := z.K) rfl (pv 4)) pa_nil))))) pa_nil))))
      (pss_cons (ps_par (by rfl) sc.nd (i := 6) (j := 7) rfl rfl (by decide) rfl rfl (pa_cons (pe_mf k_Bounds (hr.mono (by decide)) rfl (pa_cons (pv 4) pa_nil)) (pa_cons (pe_mf k_Bounds (hr.mono (by decide)) rfl (pa_cons (pv 5) pa_nil)) pa_nil)) (by rfl))
      (pss_cons (ps_par (by rfl) sc.nd (i := 8) (j := 9) rfl rfl (by decide) rfl rfl (pa_cons (pe_cf c__law_meet (hr.mono (by decide)) rfl (pa_cons (pv 4) (pa_cons (pv 5) pa_nil))) (pa_cons (pe_op (kAdd (K := z.K) rfl) (pv 4) (pv 5)) pa_nil)) (by rfl))
      (pss_cons (ps_if (PW.pt (pw_or (pt_cmpR (kNe (K := z.K) rfl (units_of hr)) (kFld (K := z.K) rfl (pe_op (op_bin m_and (hr.mono (by decide)) sf) (pv 6) (pv 7)) rfl) (pe_cf c__law_greatest (hr.mono (by decide)) rfl (pa_cons (pv 8) pa_nil)) (nomark _)) (pw_or1 (pt_cmpR (kNe (K := z.K) rfl (units_of hr)) (kFld (K := z.K) rfl (pe_op (op_bin m_or (hr.mono (by decide)) sf) (pv 6) (pv 7)) rfl) (pe_cf c__law_greatest (hr.mono (by decide)) rfl (pa_cons (pv 9) pa_nil)) (nomark _))))) (pss_one (ps_ret pe_bl)) pss_nil)
      (pss_cons (ps_set (i := 10) sc.nd rfl (Or.inl rfl) (pv 6))
      (pss_cons (ps_aug (i := 10) sc.nd rfl (Or.inl rfl) (pv 7) (ip_own m_and (hr.mono (by decide)) ni_and))
      (pss_cons (ps_set (i := 11) sc.nd rfl (Or.inl rfl) (pv 6))
      (pss_cons (ps_aug (i := 11) sc.nd rfl (Or.inl rfl) (pv 7) (ip_own m_or (hr.mono (by decide)) ni_or))
      (pss_cons (ps_if (PW.pt (pw_or (pt_cmpR (kCmpN (K := z.K) rfl m_eq (hr.mono (by decide)) ne1 ne2) (pv 10) (pe_op (op_bin m_and (hr.mono (by decide)) sf) (pv 7) (pv 6)) (nomark _)) (pw_or (pt_cmpR (kCmpN (K := z.K) rfl m_eq (hr.mono (by decide)) ne1 ne2) (pv 11) (pe_op (op_bin m_or (hr.mono (by decide)) sf) (pv 7) (pv 6)) (nomark _)) (pw_or (pt_cmpR (kNe (K := z.K) rfl (units_of hr)) (kFld (K := z.K) rfl (pv 6) rfl) (pe_cf c__law_greatest (hr.mono (by decide)) rfl (pa_cons (pv 4) pa_nil)) (nomark _)) (pw_or1 (pt_cmpR (kNe (K := z.K) rfl (units_of hr)) (kFld (K := z.K) rfl (pv 7) rfl) (pe_cf c__law_greatest (hr.mono (by decide)) rfl (pa_cons (pv 5) pa_nil)) (nomark _))))))) (pss_one (ps_ret pe_bl)) pss_nil)
      (pss_cons (ps_set (i := 12) sc.nd rfl (Or.inl rfl) (pe_cmpR (kEq (K := z.K) rfl (units_of hr)) (pe_lc (own := [("_law_pair", 16)]) rfl sc.nd (kiList (K := z.K) rfl (pv 4)) (blkOk_by (N := ["_law_script", "_law_k", "_law_box_here", "_law_turn", "_law_one", "_law_two", "_law_p", "_law_q", "_law_both", "_law_either", "_law_held", "_law_more", "_law_is_less", "_law_is_more", "_law_due", "_law_again", "_law_pair"]) (sc := defScope (top 22)) (by decide +kernel)) (fun _ _ _ _ _ => (pg_name (i := 16) sc.nd rfl (by first | exact Or.inl rfl | exact Or.inr rfl))) (fun _ _ _ _ _ => (pts_one (pt_not (pt_val (pe_cf c__law_under (hr.mono (by decide)) rfl (pa_cons (pv 16) (pa_cons (pv 5) pa_nil))))))) (fun _ _ _ _ _ => (pv 16))) (pe_lst pa_nil) (nomark _)))
      (pss_cons (ps_set (i := 13) sc.nd rfl (Or.inl rfl) (pe_cmpR (kEq (K := z.K) rfl (units_of hr)) (pe_lc (own := [("_law_pair", 16)]) rfl sc.nd (kiList (K := z.K) rfl (pv 5)) (blkOk_by (N := ["_law_script", "_law_k", "_law_box_here", "_law_turn", "_law_one", "_law_two", "_law_p", "_law_q", "_law_both", "_law_either", "_law_held", "_law_more", "_law_is_less", "_law_is_more", "_law_due", "_law_again", "_law_pair"]) (sc := defScope (top 22)) (by decide +kernel)) (fun _ _ _ _ _ => (pg_name (i := 16) sc.nd rfl (by first | exact Or.inl rfl | exact Or.inr rfl))) (fun _ _ _ _ _ => (pts_one (pt_not (pt_val (pe_cf c__law_under (hr.mono (by decide)) rfl (pa_cons (pv 16) (pa_cons (pv 4) pa_nil))))))) (fun _ _ _ _ _ => (pv 16))) (pe_lst pa_nil) (nomark _)))
      (pss_cons (ps_if (pt_cmpR (kNe (K := z.K) rfl (units_of hr)) (pe_callB (kRepr (K := z.K) rfl hg (units_of hr)) (by rfl) bl.repr_ (by decide +kernel) (pa_cons (pe_lst (pa_cons (pe_cmpR (kCmp (K := z.K) rfl m_le (hr.mono (by decide)) (fun _ _ => rfl)) (pv 6) (pv 7) (nomark _)) (pa_cons (pe_cmpR (kCmp (K := z.K) rfl m_ge (hr.mono (by decide)) (fun _ _ => rfl)) (pv 6) (pv 7) (nomark _)) pa_nil))) pa_nil)) (pe_callB (kRepr (K := z.K) rfl hg (units_of hr)) (by rfl) bl.repr_ (by decide +kernel) (pa_cons (pe_lst (pa_cons (pv 12) (pa_cons (pv 13) pa_nil))) pa_nil)) (nomark _)) (pss_one (ps_ret pe_bl)) pss_nil)
      (pss_cons (ps_set (i := 14) sc.nd rfl (Or.inl rfl) (pe_lst (pa_cons (pe_and (pv 12) (pe_one (pe_not (pv 13)))) (pa_cons (pe_and (pv 13) (pe_one (pe_not (pv 12)))) (pa_cons (pe_and (pv 12) (pe_one (pv 13))) pa_nil)))))
      (pss_cons (ps_if (pt_cmpR (kNe (K := z.K) rfl (units_of hr)) (pe_callB (kRepr (K := z.K) rfl hg (units_of hr)) (by rfl) bl.repr_ (by decide +kernel) (pa_cons (pe_lst (pa_cons (pe_cmpR (kCmp (K := z.K) rfl m_lt (hr.mono (by decide)) (fun _ _ => rfl)) (pv 6) (pv 7) (nomark _)) (pa_cons (pe_cmpR (kCmp (K := z.K) rfl m_gt (hr.mono (by decide)) (fun _ _ => rfl)) (pv 6) (pv 7) (nomark _)) (pa_cons (pe_cmpR (kCmp (K := z.K) rfl m_eq (hr.mono (by decide)) (fun _ _ => rfl)) (pv 6) (pv 7) (nomark _)) pa_nil)))) pa_nil)) (pe_callB (kRepr (K := z.K) rfl hg (units_of hr)) (by rfl) bl.repr_ (by decide +kernel) (pa_cons (pv 14) pa_nil)) (nomark _)) (pss_one (ps_ret pe_bl)) pss_nil)
      (pss_one (ps_for PassesOwn.never rfl (pi_range1 rfl bl.range_ (pa_cons pe_int pa_nil)) (pg_name (i := 15) sc.nd rfl (Or.inl rfl)) (pss_cons (ps_set (i := 16) sc.nd rfl (Or.inl rfl) (pe_tup (pa_cons (pe_cf c__law_take (hr.mono (by decide)) rfl (pa_cons (pv 2) (pa_cons pe_int pa_nil))) (pa_cons (pe_cf c__law_take (hr.mono (by decide)) rfl (pa_cons (pv 2) (pa_cons pe_int pa_nil))) pa_nil))))
      (pss_one (ps_if (PW.pt (pw_or (pt_cmpR (kNe (K := z.K) rfl (units_of hr)) (pe_cmpR (op_has m_has (hr.mono (by decide))) (pv 16) (pe_op (op_bin m_and (hr.mono (by decide)) sf) (pv 6) (pv 7)) (by rfl)) (pe_and (pe_cmpR (op_has m_has (hr.mono (by decide))) (pv 16) (pv 6) (by rfl)) (pe_one (pe_cmpR (op_has m_has (hr.mono (by decide))) (pv 16) (pv 7) (by rfl)))) (nomark _)) (pw_or1 (pt_cmpR (kNe (K := z.K) rfl (units_of hr)) (pe_cmpR (op_has m_has (hr.mono (by decide))) (pv 16) (pe_op (op_bin m_or (hr.mono (by decide)) sf) (pv 6) (pv 7)) (by rfl)) (pe_or (pe_cmpR (op_has m_has (hr.mono (by decide))) (pv 16) (pv 6) (by rfl)) (pe_one (pe_cmpR (op_has m_has (hr.mono (by decide))) (pv 16) (pv 7) (by rfl)))) (nomark _))))) (pss_one (ps_ret pe_bl)) pss_nil))))))))))))))))))))))))
      (pss_one (ps_ret pe_bl))), fn_body (law_sp h) ?_⟩
  rintro (ns : List Int) ws st ⟨rfl, rfl, hl⟩
  walk_at "st0"
  refine wp_seq (wp_for (is := [1]) (ei_range1 (ea_cons ?_)))
  walk_at "go"
  refine rc_lenA (.scr _) ?_
  walk_at "go"
  refine ⟨?_, ?_, ?_⟩
  · rw [List.length_map]; split <;> split <;> omega
  · rw [List.length_map]; split <;> split <;> omega
  refine ⟨fun i ds' st' => ∃ (x1 x2 x3 x4 x5 x6 x7 x8 x9 x10 x11 x12 x13 x14 x15 x16 : Option W), ds' = [some (.d (.scr (ns.map .int))), x1, x2, x3, x4, x5, x6, x7, x8, x9, x10, x11, x12, x13, x14, x15, x16], ⟨_, _, _, _, _, _, _, _, _, _, _, _, _, _, _, _, rfl⟩, fun _ _ _ _ => trivial, ?_, ?_⟩
  · rintro i d ds' st hd ⟨x1, x2, x3, x4, x5, x6, x7, x8, x9, x10, x11, x12, x13, x14, x15, x16, rfl⟩
    obtain ⟨rfl, _⟩ := range_int hd
    clear hd
    refine gt_name (i := 1) ?_
    refine wp_seq (wp_set (ev_call ?_))
    walk_at "go"
    refine box3 (by omega) fun b w0 s0 c0 hb => ?_
    refine wp_for (is := [3]) (ei_range1 (ea_cons (ev_int (ea_nil ⟨3, rfl, by decide, by decide, ?_⟩))))
    refine ⟨fun i ds' st' => ∃ (w s c : Int) (x1 x3 x4 x5 x6 x7 x8 x9 x10 x11 x12 x13 x14 x15 x16 : Option W), ds' = [some (.d (.scr (ns.map .int))), x1, some (.p b), x3, x4, x5, x6, x7, x8, x9, x10, x11, x12, x13, x14, x15, x16] ∧ st' = (b, bx w s c) :: st, ⟨w0, s0, c0, _, _, _, _, _, _, _, _, _, _, _, _, _, _, _, rfl, rfl⟩, fun _ _ _ _ => trivial, ?_, ?_⟩
    · clear x1 x2 x3 x4 x5 x6 x7 x8 x9 x10 x11 x12 x13 x14 x15 x16 w0 s0 c0
      rintro i d ds' st' hd ⟨w, s, c, x1, x3, x4, x5, x6, x7, x8, x9, x10, x11, x12, x13, x14, x15, x16, rfl, rfl⟩
      refine gt_name (i := 3) ?_
      refine wp_seq (wp_set (ev_call ?_))
      walk_at "go"
      refine corn0 (by decide) (by decide) (by decide) (by decide) fun O w1 s1 c1 hOl hO => ?_
      refine wp_seq (wp_set (ev_call ?_))
      walk_at "go"
      refine ev_lst (ea_cons (ev_call ?_))
      walk_at "go"
      refine corn0 (by decide) (by decide) (by decide) (by decide) fun O2 w2 s2 c2 hO2l hO2 => ?_
      refine ea_cons (ev_slL (ev_var rfl (eo_none (eo_some (ev_int ⟨2, rfl, _, .lst _, ?_⟩)))))
      obtain ⟨O3, e3, hO3, hO3l⟩ := cut_pairs O none (some 2)
      rw [e3]
      refine ea_cons (ev_op (ev_var rfl (ev_lst ?_)))
      walk_at "go"
      refine ro_cat (.lst _) (.lst _) (by simp; omega) ?_
      refine ea_cons (ev_revL (ev_var rfl ⟨_, .lst _, ?_⟩))
      walk_at "go"
      refine pick0 (by show (0 : Nat) < 4; decide) (by show (4 : Nat) < 2 ^ 50; decide) fun d2 hd2 w3 s3 c3 => ?_
      obtain ⟨T, rfl, hTl, hT⟩ : ∃ T : List Pr, d2 = .lst (T.map eP) ∧ T.length ≤ 7 ∧ ∀ c ∈ T, 0 ≤ c.1 ∧ c.1 ≤ 12 ∧ 0 ≤ c.2 ∧ c.2 ≤ 12 := by
        have hd2 : d2 = .lst (O2.map eP) ∨ d2 = .lst (O3.map eP) ∨ d2 = .lst (O.map eP ++ [.tup [.int 3, .int 9]]) ∨ d2 = .lst (O.map eP).reverse := by simpa using hd2
        rcases hd2 with rfl | rfl | rfl | rfl
        · exact ⟨O2, rfl, by omega, hO2⟩
        · exact ⟨O3, rfl, by omega, fun c hc => hO c (hO3 c hc)⟩
        · refine ⟨O ++ [(3, 9)], by rw [List.map_append]; rfl, by rw [List.length_append]; simp; omega, fun c hc => ?_⟩
          rcases List.mem_append.mp hc with hc | hc
          · exact hO c hc
          · have : c = (3, 9) := by simpa using hc
            subst this
            decide
        · exact ⟨O.reverse, by rw [List.map_reverse], by rw [List.length_reverse]; omega, fun c hc => hO c (List.mem_reverse.mp hc)⟩
      clear hd2
      refine wp_seq (wp_par (ea_cons (ev_mkB (fun _ _ => .nil) (ea_cons (ev_var rfl (ea_nil ⟨_, O, rfl, .lst _, by omega, fun q hq => ⟨(hO q hq).1, (hO q hq).2.2.1⟩, fun R hR => ?_⟩))))))
      refine ea_cons (ev_mkB (fun _ _ => .nil) (ea_cons (ev_var rfl (ea_nil ⟨_, T, rfl, .lst _, by omega, fun q hq => ⟨(hT q hq).1, (hT q hq).2.2.1⟩, fun S hS => ?_⟩))))
      refine ea_nil ⟨_, _, rfl, ?_⟩
      have hp : Is R 7 (fun p => Und p O) := hR.is (show O.length ≤ 7 by omega) fun c hc => by have := hO c hc; omega
      have hq : Is S 7 (fun p => Und p T) := hS.is (show T.length ≤ 7 from hTl) fun c hc => by have := hT c hc; omega
      have lp : R.length ≤ 100000 := Nat.le_trans hp.le (by decide)
      have lq : S.length ≤ 100000 := Nat.le_trans hq.le (by decide)
      have hOT : O.length * T.length ≤ 100000 := Nat.le_trans (Nat.mul_le_mul (show O.length ≤ 7 by omega) hTl) (by decide)
      refine wp_seq (wp_par (ea_cons (ev_call (ea_cons (ev_var rfl (ea_cons (ev_var rfl (ea_nil (meetL hOT (show T.length ≤ 1000 by omega) ?_)))))))))
      refine ea_cons (ev_op (ev_var rfl (ev_var rfl (ro_cat (.lst _) (.lst _) (by rw [List.length_map, List.length_map]; omega) (ea_nil ⟨_, _, rfl, ?_⟩)))))
      rw [← List.map_append]
      -- what is in both, in either
      refine wp_seq (wp_if ?_)
      refine et_or (et_test (ev_op (ev_fld (ev_op (ev_var rfl (ev_var rfl ?_))))))
      refine do_and hp hq (by decide) fun A1 hA1 => ⟨_, _, _, rfl, fl, rfl, ?_⟩
      refine ev_call (ea_cons (ev_var rfl (ea_nil (grl (cs := meet O T) (by rw [meet_len]; exact hOT) fun A2 hA2 => ?_))))
      refine ro_neD (ok_pairsT _) (ok_pairsT _) ?_
      rw [eqv_pairsT]
      refine ⟨_, rfl, iteF (neP (hA1.gr hA2 fun p => und_meet.symm)) ?_⟩
      refine et_test (ev_op (ev_fld (ev_op (ev_var rfl (ev_var rfl ?_)))))
      refine do_or hp hq (by decide) fun B1 hB1 => ⟨_, _, _, rfl, fl, rfl, ?_⟩
      refine ev_call (ea_cons (ev_var rfl (ea_nil (grl (cs := O ++ T) (by rw [List.length_append]; omega) fun B2 hB2 => ?_))))
      refine ro_neD (ok_pairsT _) (ok_pairsT _) ?_
      rw [eqv_pairsT]
      refine ⟨_, rfl, iteF (neP (hB1.gr hB2 fun p => und_append.symm)) ?_⟩
      refine wp_next ?_
      -- in place
      refine wp_seq (wp_set (ev_var rfl ?_))
      refine wp_seq (wp_aug rfl (ev_var rfl (do_and hp hq (by decide) fun C1 hC1 => ?_)))
      refine wp_seq (wp_set (ev_var rfl ?_))
      refine wp_seq (wp_aug rfl (ev_var rfl (do_or hp hq (by decide) fun D1 hD1 => ?_)))
      refine wp_seq (wp_if ?_)
      refine et_or (et_test (ev_op (ev_var rfl (ev_op (ev_var rfl (ev_var rfl ?_))))))
      refine do_and hq hp (by decide) fun C2 hC2 => do_ne ty nf ?_
      refine ⟨_, rfl, iteF (neP (hC1.eq hC2 fun p => And.comm)) ?_⟩
      refine et_or (et_test (ev_op (ev_var rfl (ev_op (ev_var rfl (ev_var rfl ?_))))))
      refine do_or hq hp (by decide) fun D2 hD2 => do_ne ty nf ?_
      refine ⟨_, rfl, iteF (neP (hD1.eq hD2 fun p => Or.comm)) ?_⟩
      refine et_or (et_test (ev_op (ev_fld (ev_var rfl ⟨_, _, _, rfl, fl, rfl, ?_⟩))))
      refine ev_call (ea_cons (ev_var rfl (ea_nil (grl (cs := O) (by omega) fun R2 hR2 => ?_))))
      refine ro_neD (ok_pairsT _) (ok_pairsT _) ?_
      rw [eqv_pairsT]
      refine ⟨_, rfl, iteF (neP (gr_eq hR hR2 fun p => Iff.rfl)) ?_⟩
      refine et_test (ev_op (ev_fld (ev_var rfl ⟨_, _, _, rfl, fl, rfl, ?_⟩)))
      refine ev_call (ea_cons (ev_var rfl (ea_nil (grl (cs := T) (by omega) fun S2 hS2 => ?_))))
      refine ro_neD (ok_pairsT _) (ok_pairsT _) ?_
      rw [eqv_pairsT]
      refine ⟨_, rfl, iteF (neP (gr_eq hS hS2 fun p => Iff.rfl)) ?_⟩
      refine wp_next ?_
      -- compared pair by pair
      refine wp_seq (wp_set (ev_op ?_))
      refine ev_lcF (α := Pr) (is := [16]) (by decide) (ei_list (ev_var rfl ⟨_, .lst _, O, eP, fun c => !undB c T, eP, rfl, trivial, by omega, sub_refl _, ?_, ?_⟩))
      · intro c hc a acc ha
        refine gt_name (et_not (et_test (ev_call (ea_cons (ev_var rfl (ea_cons (ev_var rfl (ea_nil (unl (show T.length ≤ 1000000 by omega) ⟨_, rfl, rfl, rfl, fun _ => ev_var rfl ⟨rfl, rfl⟩⟩)))))))))
      walk_at "gl"
      refine ro_eqD (okD_pairsL _) (okD_pairsL []) ?_
      rw [show PyData.eqv (py (.lst ((O.filter fun c => !undB c T).map eP))) (py (.lst [])) = leB R S from (eqv_pairsL _ []).trans (leB_is hp hq).symm]
      refine wp_seq (wp_set (ev_op ?_))
      refine ev_lcF (α := Pr) (is := [16]) (by decide) (ei_list (ev_var rfl ⟨_, .lst _, T, eP, fun c => !undB c O, eP, rfl, trivial, by omega, sub_refl _, ?_, ?_⟩))
      · intro c hc a acc ha
        refine gt_name (et_not (et_test (ev_call (ea_cons (ev_var rfl (ea_cons (ev_var rfl (ea_nil (unl (show O.length ≤ 1000000 by omega) ⟨_, rfl, rfl, rfl, fun _ => ev_var rfl ⟨rfl, rfl⟩⟩)))))))))
      walk_at "gl"
      refine ro_eqD (okD_pairsL _) (okD_pairsL []) ?_
      rw [show PyData.eqv (py (.lst ((T.filter fun c => !undB c O).map eP))) (py (.lst [])) = leB S R from (eqv_pairsL _ []).trans (leB_is hq hp).symm]
      refine wp_seq (wp_if (et_test (ev_op (ev_cb (ea_cons (ev_lst (ea_cons (ev_op (ev_var rfl (ev_var rfl ?_))))))))))
      refine do_le ty nf lp lq (ea_cons (ev_op (ev_var rfl (ev_var rfl (do_ge ty nf lp lq (ea_nil ⟨_, rfl, ea_nil ?_⟩))))))
      refine rc_repr (shw_bls (l := [leB R S, leB S R]) (by simp)) ?_
      refine ev_cb (ea_cons (ev_lst (ea_cons (ev_var rfl (ea_cons (ev_var rfl (ea_nil ⟨_, rfl, ea_nil ?_⟩)))))))
      refine rc_repr (shw_bls (l := [leB R S, leB S R]) (by simp)) ?_
      refine ro_neT ⟨_, rfl, iteF (by rw [decide_eq_true rfl]; rfl) (wp_next ?_)⟩
      refine wp_seq (wp_set (ev_lst (ea_cons (ev_andB (ev_var rfl ⟨_, _, rfl, fun _ => ev_notV (ev_var rfl ⟨_, rfl, rfl, rfl⟩), ?_⟩)))))
      refine ea_cons (ev_andB (ev_var rfl ⟨_, _, rfl, fun _ => ev_notV (ev_var rfl ⟨_, rfl, rfl, rfl⟩), ?_⟩))
      refine ea_cons (ev_andB (ev_var rfl ⟨_, _, rfl, fun _ => ev_var rfl ⟨rfl, rfl⟩, ?_⟩))
      refine ea_nil ⟨_, rfl, ?_⟩
      refine wp_seq (wp_if (et_test (ev_op (ev_cb (ea_cons (ev_lst (ea_cons (ev_op (ev_var rfl (ev_var rfl ?_))))))))))
      refine do_lt ty nf lp lq (ea_cons (ev_op (ev_var rfl (ev_var rfl ?_))))
      refine do_gt ty nf lp lq (ea_cons (ev_op (ev_var rfl (ev_var rfl ?_))))
      refine do_eq ty nf (ea_nil ⟨_, rfl, ea_nil ?_⟩)
      refine rc_repr (shw_bls (l := [leB R S && !decide (R = S), leB S R && !decide (R = S), decide (R = S)]) (by simp)) ?_
      refine ev_cb (ea_cons (ev_var rfl (ea_nil ?_)))
      refine rc_repr (shw_bls (l := [leB R S && !leB S R, leB S R && !leB R S, leB R S && leB S R]) (by simp)) ?_
      refine ro_neT ⟨_, rfl, iteF ?_ (wp_next ?_)⟩
      · rw [eq_le hp hq]
        cases leB R S <;> cases leB S R <;> decide
      -- pair by pair
      refine wp_for (is := [15]) (ei_range1 (ea_cons (ev_int (ea_nil ⟨8, rfl, by decide, by decide, ?_⟩))))
      refine ⟨fun i ds' st' => ∃ (w s c : Int) (x1 x3 x4 x5 x8 x9 x10 x11 x12 x13 x14 x15 x16 : Option W), ds' = [some (.d (.scr (ns.map .int))), x1, some (.p b), x3, x4, x5, some (.d (eB R)), some (.d (eB S)), x8, x9, x10, x11, x12, x13, x14, x15, x16] ∧ st' = (b, bx w s c) :: st, ⟨w3, s3, c3, _, _, _, _, _, _, _, _, _, _, _, _, _, rfl, rfl⟩, fun _ _ _ _ => trivial, ?_, ?_⟩
      · rintro i d ds' st' hd ⟨w, s, c, x1, x3, x4, x5, x8, x9, x10, x11, x12, x13, x14, x15, x16, rfl, rfl⟩
        refine gt_name (i := 15) ?_
        refine wp_seq (wp_set (ev_tup (ea_cons (ev_call ?_))))
        walk_at "go"
        refine take0 (by decide) (by decide) fun u w1 s1 c1 hu0 hu1 => ?_
        refine ea_cons (ev_call ?_)
        walk_at "go"
        refine take0 (by decide) (by decide) fun v w2 s2 c2 hv0 hv1 => ?_
        walk_at "go"
        have pair : ∀ (X : List Pr), X.length ≤ 100000 → ∀ (Pq : W → Sto → Prop) (st : Sto), Pq (.d (.bl (undB (u, v) X))) st → Ro z (rHas false (z.cl "Bounds") (sp z (pmHas z))) (.d (.tup [.int u, .int v])) (.d (eB X)) st Pq := fun X hX Pq st h => do_hasP (p := (u, v)) hu0 hv0 hX h
        refine do_and hp hq (by decide) fun A3 hA3 => pair A3 (Nat.le_trans hA3.le (by decide)) _ _ ?_
        refine ev_andB (ev_op (ev_var rfl (ev_var rfl (pair R lp _ _ ⟨_, _, rfl, fun _ => ev_op (ev_var rfl (ev_var rfl (pair S lq _ _ ⟨rfl, rfl⟩))), ?_⟩))))
        refine ro_neB ⟨_, rfl, iteF (neB ?_) ?_⟩
        · rw [Bool.eq_iff_iff, Bool.and_eq_true, undB_iff, undB_iff, undB_iff, hA3.und, hp.und, hq.und]
        refine et_test (ev_op (ev_op (ev_var rfl (ev_op (ev_var rfl (ev_var rfl ?_))))))
        refine do_or hp hq (by decide) fun B3 hB3 => pair B3 (Nat.le_trans hB3.le (by decide)) _ _ ?_
        refine ev_orB (ev_op (ev_var rfl (ev_var rfl (pair R lp _ _ ⟨_, _, rfl, fun _ => ev_op (ev_var rfl (ev_var rfl (pair S lq _ _ ⟨rfl, rfl⟩))), ?_⟩))))
        refine ro_neB ⟨_, rfl, iteF (neB ?_) ?_⟩
        · rw [Bool.eq_iff_iff, Bool.or_eq_true, undB_iff, undB_iff, undB_iff, hB3.und, hp.und, hq.und]
        exact wp_next ⟨_, _, _, _, _, _, _, _, _, _, _, _, _, _, _, _, rfl, rfl⟩
      · rintro ds' st' ⟨w, s, c, x1, x3, x4, x5, x8, x9, x10, x11, x12, x13, x14, x15, x16, rfl, rfl⟩
        exact ⟨_, _, _, _, _, _, _, _, _, _, _, _, _, _, _, _, _, _, rfl, rfl⟩
    · rintro ds' st' ⟨w, s, c, x1, x3, x4, x5, x6, x7, x8, x9, x10, x11, x12, x13, x14, x15, x16, rfl, rfl⟩
      exact ⟨_, _, _, _, _, _, _, _, _, _, _, _, _, _, _, _, rfl⟩
  · rintro ds' st' ⟨x1, x2, x3, x4, x5, x6, x7, x8, x9, x10, x11, x12, x13, x14, x15, x16, rfl⟩
    exact wp_ret (ev_bl rfl)
theorem all_ok {P : Program} {w : World} {z : Z} {mg : Str → Option Value} {base : Heap} (bl : Bl mg)
    {f_is_integer : Addr} {fd_is_integer : FuncData} (F_is_integer : Fun z.K "is_integer" "is_integer" (top 5) f_is_integer fd_is_integer) (g_is_integer : mg "is_integer" = some (.ref f_is_integer))
    {f_is_number : Addr} {fd_is_number : FuncData} (F_is_number : Fun z.K "is_number" "is_number" (top 6) f_is_number fd_is_number) (g_is_number : mg "is_number" = some (.ref f_is_number))
    {f_is_sequence : Addr} {fd_is_sequence : FuncData} (F_is_sequence : Fun z.K "is_sequence" "is_sequence" (top 7) f_is_sequence fd_is_sequence) (g_is_sequence : mg "is_sequence" = some (.ref f_is_sequence))
    {f_is_pair : Addr} {fd_is_pair : FuncData} (F_is_pair : Fun z.K "is_pair" "is_pair" (top 9) f_is_pair fd_is_pair) (g_is_pair : mg "is_pair" = some (.ref f_is_pair))
    {f_is_under : Addr} {fd_is_under : FuncData} (F_is_under : Fun z.K "is_under" "is_under" (top 10) f_is_under fd_is_under) (g_is_under : mg "is_under" = some (.ref f_is_under))
    {f_greatest_of : Addr} {fd_greatest_of : FuncData} (F_greatest_of : Fun z.K "greatest_of" "greatest_of" (top 11) f_greatest_of fd_greatest_of) (g_greatest_of : mg "greatest_of" = some (.ref f_greatest_of))
    {f_lesser_of : Addr} {fd_lesser_of : FuncData} (F_lesser_of : Fun z.K "lesser_of" "lesser_of" (top 13) f_lesser_of fd_lesser_of) (g_lesser_of : mg "lesser_of" = some (.ref f_lesser_of))
    {f__law_box : Addr} {fd__law_box : FuncData} (F__law_box : Fun z.K "_law_box" "_law_box" (top 15) f__law_box fd__law_box) (g__law_box : mg "_law_box" = some (.ref f__law_box))
    {f__law_take : Addr} {fd__law_take : FuncData} (F__law_take : Fun z.K "_law_take" "_law_take" (top 16) f__law_take fd__law_take) (g__law_take : mg "_law_take" = some (.ref f__law_take))
    {f__law_corners : Addr} {fd__law_corners : FuncData} (F__law_corners : Fun z.K "_law_corners" "_law_corners" (top 18) f__law_corners fd__law_corners) (g__law_corners : mg "_law_corners" = some (.ref f__law_corners))
    {f__law_pick : Addr} {fd__law_pick : FuncData} (F__law_pick : Fun z.K "_law_pick" "_law_pick" (top 17) f__law_pick fd__law_pick) (g__law_pick : mg "_law_pick" = some (.ref f__law_pick))
    {f__law_under : Addr} {fd__law_under : FuncData} (F__law_under : Fun z.K "_law_under" "_law_under" (top 19) f__law_under fd__law_under) (g__law_under : mg "_law_under" = some (.ref f__law_under))
    {f__law_greatest : Addr} {fd__law_greatest : FuncData} (F__law_greatest : Fun z.K "_law_greatest" "_law_greatest" (top 20) f__law_greatest fd__law_greatest) (g__law_greatest : mg "_law_greatest" = some (.ref f__law_greatest))
    {f__law_meet : Addr} {fd__law_meet : FuncData} (F__law_meet : Fun z.K "_law_meet" "_law_meet" (top 21) f__law_meet fd__law_meet) (g__law_meet : mg "_law_meet" = some (.ref f__law_meet))
    (g_Bounds : mg "Bounds" = some (.ref (z.cl "Bounds"))) (ty_Bounds : TyC z "Bounds") (sf_Bounds : PySem.W.selfFirst z.K (z.cl "Bounds") = true) (nf_Bounds : PySem.W.notFirst z.K (z.cl "Bounds") (.ref (z.cl "Bounds")) = true) (ne_Bounds : PySem.W.findIn z.K (.ref (z.cl "Bounds")) "__ne__" = some (some (.builtin "object.__ne__"))) (kB_Bounds : PySem.W.kitOne z.K (.ref (z.cl "Bounds")) (.ref (z.cl "Bounds")) = some true) (mk_Bounds : PySem.W.makesIn z.K (z.cl "Bounds") = true) (kc_Bounds : PySem.W.keepIn z.K (.ref (z.cl "Bounds")) = true)
    (kn_Bounds_NoneType : PySem.W.kitOne z.K (.type "NoneType") (.ref (z.cl "Bounds")) = some false)
    (kn_Bounds_bool : PySem.W.kitOne z.K (.type "bool") (.ref (z.cl "Bounds")) = some false)
    (kn_Bounds_int : PySem.W.kitOne z.K (.type "int") (.ref (z.cl "Bounds")) = some false)
    (kn_Bounds_str : PySem.W.kitOne z.K (.type "str") (.ref (z.cl "Bounds")) = some false)
    (kn_Bounds_tuple : PySem.W.kitOne z.K (.type "tuple") (.ref (z.cl "Bounds")) = some false)
    (kn_Bounds_list : PySem.W.kitOne z.K (.type "list") (.ref (z.cl "Bounds")) = some false)
    (ni_Bounds___iand__ : NoI z.K (z.cl "Bounds") "__iand__")
    (ni_Bounds___ior__ : NoI z.K (z.cl "Bounds") "__ior__")
    (no_Bounds_corners : NoAttr z.K (z.cl "Bounds") "corners")
    {f_Bounds___init__ E_Bounds___init__ : Addr} {fd_Bounds___init__ : FuncData} (F_Bounds___init__ : FunD z.K "__init__" "Bounds.__init__" (defArgs (inClass (top 12) 0)) (defBody (inClass (top 12) 0)) (defScope (inClass (top 12) 0)) [.ref E_Bounds___init__] [] f_Bounds___init__ fd_Bounds___init__) (kt_Bounds___init__ : KT z.K E_Bounds___init__ []) (a_Bounds___init__ : PySem.W.findIn z.K (.ref (z.cl "Bounds")) "__init__" = some (some (.ref f_Bounds___init__))) (i_Bounds___init__ : PySem.W.isFn z.K (.ref f_Bounds___init__) = true)
    {f_Bounds___contains__ : Addr} {fd_Bounds___contains__ : FuncData} (F_Bounds___contains__ : Fun z.K "__contains__" "Bounds.__contains__" (inClass (top 12) 3) f_Bounds___contains__ fd_Bounds___contains__) (a_Bounds___contains__ : PySem.W.findIn z.K (.ref (z.cl "Bounds")) "__contains__" = some (some (.ref f_Bounds___contains__))) (i_Bounds___contains__ : PySem.W.isFn z.K (.ref f_Bounds___contains__) = true)
    {f_Bounds___and__ : Addr} {fd_Bounds___and__ : FuncData} (F_Bounds___and__ : Fun z.K "__and__" "Bounds.__and__" (inClass (top 12) 5) f_Bounds___and__ fd_Bounds___and__) (a_Bounds___and__ : PySem.W.findIn z.K (.ref (z.cl "Bounds")) "__and__" = some (some (.ref f_Bounds___and__))) (i_Bounds___and__ : PySem.W.isFn z.K (.ref f_Bounds___and__) = true)
    {f_Bounds___or__ : Addr} {fd_Bounds___or__ : FuncData} (F_Bounds___or__ : Fun z.K "__or__" "Bounds.__or__" (inClass (top 12) 6) f_Bounds___or__ fd_Bounds___or__) (a_Bounds___or__ : PySem.W.findIn z.K (.ref (z.cl "Bounds")) "__or__" = some (some (.ref f_Bounds___or__))) (i_Bounds___or__ : PySem.W.isFn z.K (.ref f_Bounds___or__) = true)
    {f_Bounds___eq__ : Addr} {fd_Bounds___eq__ : FuncData} (F_Bounds___eq__ : Fun z.K "__eq__" "Bounds.__eq__" (inClass (top 12) 7) f_Bounds___eq__ fd_Bounds___eq__) (a_Bounds___eq__ : PySem.W.findIn z.K (.ref (z.cl "Bounds")) "__eq__" = some (some (.ref f_Bounds___eq__))) (i_Bounds___eq__ : PySem.W.isFn z.K (.ref f_Bounds___eq__) = true)
    {f_Bounds___le__ : Addr} {fd_Bounds___le__ : FuncData} (F_Bounds___le__ : Fun z.K "__le__" "Bounds.__le__" (inClass (top 12) 8) f_Bounds___le__ fd_Bounds___le__) (a_Bounds___le__ : PySem.W.findIn z.K (.ref (z.cl "Bounds")) "__le__" = some (some (.ref f_Bounds___le__))) (i_Bounds___le__ : PySem.W.isFn z.K (.ref f_Bounds___le__) = true)
    {f_Bounds___lt__ : Addr} {fd_Bounds___lt__ : FuncData} (F_Bounds___lt__ : Fun z.K "__lt__" "Bounds.__lt__" (inClass (top 12) 9) f_Bounds___lt__ fd_Bounds___lt__) (a_Bounds___lt__ : PySem.W.findIn z.K (.ref (z.cl "Bounds")) "__lt__" = some (some (.ref f_Bounds___lt__))) (i_Bounds___lt__ : PySem.W.isFn z.K (.ref f_Bounds___lt__) = true)
    {f_Bounds___ge__ : Addr} {fd_Bounds___ge__ : FuncData} (F_Bounds___ge__ : Fun z.K "__ge__" "Bounds.__ge__" (inClass (top 12) 10) f_Bounds___ge__ fd_Bounds___ge__) (a_Bounds___ge__ : PySem.W.findIn z.K (.ref (z.cl "Bounds")) "__ge__" = some (some (.ref f_Bounds___ge__))) (i_Bounds___ge__ : PySem.W.isFn z.K (.ref f_Bounds___ge__) = true)
    {f_Bounds___gt__ : Addr} {fd_Bounds___gt__ : FuncData} (F_Bounds___gt__ : Fun z.K "__gt__" "Bounds.__gt__" (inClass (top 12) 11) f_Bounds___gt__ fd_Bounds___gt__) (a_Bounds___gt__ : PySem.W.findIn z.K (.ref (z.cl "Bounds")) "__gt__" = some (some (.ref f_Bounds___gt__))) (i_Bounds___gt__ : PySem.W.isFn z.K (.ref f_Bounds___gt__) = true)
    {f_law : Addr} {fd_law : FuncData} (F_law : Fun z.K "law" "law" (top 22) f_law fd_law) :
    FnG P w z.K mg base 7 f_law fd_law ["_law_script"] (spLaw z.K) := by
  have fl_Bounds_corners : Fl z "Bounds" "corners" := ⟨ty_Bounds.cl, no_Bounds_corners⟩
  have c_is_integer : Cf P w z.K mg base "is_integer" 1 ["value"] (sp z (pmIsInt z)) := ⟨f_is_integer, fd_is_integer, ok_isint F_is_integer bl, g_is_integer, F_is_integer.kp, F_is_integer.binds (ps := ["value"]) fun _ _ _ _ _ _ us hl => match us, hl with | [_], _ => rfl⟩
  have c_is_number : Cf P w z.K mg base "is_number" 2 ["value"] (sp z (pmIsNum z)) := ⟨f_is_number, fd_is_number, ok_isnum F_is_number bl c_is_integer, g_is_number, F_is_number.kp, F_is_number.binds (ps := ["value"]) fun _ _ _ _ _ _ us hl => match us, hl with | [_], _ => rfl⟩
  have c_is_sequence : Cf P w z.K mg base "is_sequence" 1 ["value"] (sp z (pmIsSeq z)) := ⟨f_is_sequence, fd_is_sequence, ok_isseq F_is_sequence bl, g_is_sequence, F_is_sequence.kp, F_is_sequence.binds (ps := ["value"]) fun _ _ _ _ _ _ us hl => match us, hl with | [_], _ => rfl⟩
  have c_is_pair : Cf P w z.K mg base "is_pair" 3 ["value"] (sp z (pmIsPr z)) := ⟨f_is_pair, fd_is_pair, ok_ispr F_is_pair bl c_is_number, g_is_pair, F_is_pair.kp, F_is_pair.binds (ps := ["value"]) fun _ _ _ _ _ _ us hl => match us, hl with | [_], _ => rfl⟩
  have c_is_under : Cf P w z.K mg base "is_under" 1 ["pair", "corners"] (sp z pmUnd) := ⟨f_is_under, fd_is_under, ok_und F_is_under bl, g_is_under, F_is_under.kp, F_is_under.binds (ps := ["pair", "corners"]) fun _ _ _ _ _ _ us hl => match us, hl with | [_, _], _ => rfl⟩
  have c_greatest_of : Cf P w z.K mg base "greatest_of" 2 ["corners"] (sp z pmGr) := ⟨f_greatest_of, fd_greatest_of, ok_gr F_greatest_of bl c_is_under, g_greatest_of, F_greatest_of.kp, F_greatest_of.binds (ps := ["corners"]) fun _ _ _ _ _ _ us hl => match us, hl with | [_], _ => rfl⟩
  have c_lesser_of : Cf P w z.K mg base "lesser_of" 1 ["one", "two"] (sp z pmLes) := ⟨f_lesser_of, fd_lesser_of, ok_les F_lesser_of bl, g_lesser_of, F_lesser_of.kp, F_lesser_of.binds (ps := ["one", "two"]) fun _ _ _ _ _ _ us hl => match us, hl with | [_, _], _ => rfl⟩
  have ok_Bounds___init__ := ok_ini F_Bounds___init__ bl fl_Bounds_corners c_is_sequence c_is_pair c_greatest_of
  have k_Bounds : Kf P w z.K mg base (z.cl "Bounds") "Bounds" 4 ["self", "corners"] [] (sp z pmIni) := by
    obtain ⟨ds, hv, hb⟩ := F_Bounds___init__.binds1 (ps := ["self", "corners"]) 2 1 (fun e => (nomatch e)) rfl fun _ _ _ _ _ _ _ us its hu hi => match us, its, hu, hi with | [_, _], [_], _, _ => ⟨_, rfl, rfl⟩
    exact ⟨f_Bounds___init__, fd_Bounds___init__, ds, ok_Bounds___init__, ⟨mk_Bounds, a_Bounds___init__, i_Bounds___init__, kc_Bounds⟩, g_Bounds, hb, hv⟩
  have k_Bounds0 : Kf P w z.K mg base (z.cl "Bounds") "Bounds" 4 ["self", "corners"] [.ref E_Bounds___init__] (sp z pmIni) := by
    obtain ⟨ds, hv, hb⟩ := F_Bounds___init__.binds1 (ps := ["self", "corners"]) 1 0 (fun e => (nomatch e)) rfl fun _ _ _ _ _ _ _ us its hu hi => match us, its, hu, hi with | [_], [_], _, _ => ⟨_, rfl, rfl⟩
    exact ⟨f_Bounds___init__, fd_Bounds___init__, ds, ok_Bounds___init__, ⟨mk_Bounds, a_Bounds___init__, i_Bounds___init__, kc_Bounds⟩, g_Bounds, hb, hv⟩
  have m_Bounds___contains__ : Mf P w z.K mg base (z.cl "Bounds") "__contains__" 4 ["self", "value"] (sp z (pmHas z)) := ⟨f_Bounds___contains__, fd_Bounds___contains__, ok_has F_Bounds___contains__ bl fl_Bounds_corners c_is_pair c_is_under, ⟨a_Bounds___contains__, i_Bounds___contains__, F_Bounds___contains__.kp⟩, F_Bounds___contains__.binds (ps := ["self", "value"]) fun _ _ _ _ _ _ us hl => match us, hl with | [_, _], _ => rfl⟩
  have m_Bounds___and__ : Mf P w z.K mg base (z.cl "Bounds") "__and__" 6 ["self", "other"] (sp z pmAnd) := ⟨f_Bounds___and__, fd_Bounds___and__, ok_and F_Bounds___and__ bl fl_Bounds_corners ty_Bounds kB_Bounds g_Bounds k_Bounds c_lesser_of, ⟨a_Bounds___and__, i_Bounds___and__, F_Bounds___and__.kp⟩, F_Bounds___and__.binds (ps := ["self", "other"]) fun _ _ _ _ _ _ us hl => match us, hl with | [_, _], _ => rfl⟩
  have m_Bounds___or__ : Mf P w z.K mg base (z.cl "Bounds") "__or__" 6 ["self", "other"] (sp z pmOr) := ⟨f_Bounds___or__, fd_Bounds___or__, ok_or F_Bounds___or__ bl fl_Bounds_corners ty_Bounds kB_Bounds g_Bounds k_Bounds, ⟨a_Bounds___or__, i_Bounds___or__, F_Bounds___or__.kp⟩, F_Bounds___or__.binds (ps := ["self", "other"]) fun _ _ _ _ _ _ us hl => match us, hl with | [_, _], _ => rfl⟩
  have m_Bounds___eq__ : Mf P w z.K mg base (z.cl "Bounds") "__eq__" 1 ["self", "other"] (sp z (pmEq z)) := ⟨f_Bounds___eq__, fd_Bounds___eq__, ok_eq F_Bounds___eq__ bl fl_Bounds_corners (fun st w t h q => kb_of kB_Bounds kn_Bounds_NoneType kn_Bounds_bool kn_Bounds_int kn_Bounds_str kn_Bounds_tuple kn_Bounds_list h q) g_Bounds, ⟨a_Bounds___eq__, i_Bounds___eq__, F_Bounds___eq__.kp⟩, F_Bounds___eq__.binds (ps := ["self", "other"]) fun _ _ _ _ _ _ us hl => match us, hl with | [_, _], _ => rfl⟩
  have m_Bounds___le__ : Mf P w z.K mg base (z.cl "Bounds") "__le__" 2 ["self", "other"] (sp z pmLe) := ⟨f_Bounds___le__, fd_Bounds___le__, ok_le F_Bounds___le__ bl fl_Bounds_corners ty_Bounds kB_Bounds g_Bounds c_is_under, ⟨a_Bounds___le__, i_Bounds___le__, F_Bounds___le__.kp⟩, F_Bounds___le__.binds (ps := ["self", "other"]) fun _ _ _ _ _ _ us hl => match us, hl with | [_, _], _ => rfl⟩
  have m_Bounds___lt__ : Mf P w z.K mg base (z.cl "Bounds") "__lt__" 3 ["self", "other"] (sp z pmLt) := ⟨f_Bounds___lt__, fd_Bounds___lt__, ok_lt F_Bounds___lt__ bl fl_Bounds_corners ty_Bounds nf_Bounds kB_Bounds g_Bounds m_Bounds___le__, ⟨a_Bounds___lt__, i_Bounds___lt__, F_Bounds___lt__.kp⟩, F_Bounds___lt__.binds (ps := ["self", "other"]) fun _ _ _ _ _ _ us hl => match us, hl with | [_, _], _ => rfl⟩
  have m_Bounds___ge__ : Mf P w z.K mg base (z.cl "Bounds") "__ge__" 3 ["self", "other"] (sp z pmGe) := ⟨f_Bounds___ge__, fd_Bounds___ge__, ok_ge F_Bounds___ge__ bl fl_Bounds_corners ty_Bounds nf_Bounds kB_Bounds g_Bounds m_Bounds___le__, ⟨a_Bounds___ge__, i_Bounds___ge__, F_Bounds___ge__.kp⟩, F_Bounds___ge__.binds (ps := ["self", "other"]) fun _ _ _ _ _ _ us hl => match us, hl with | [_, _], _ => rfl⟩
  have m_Bounds___gt__ : Mf P w z.K mg base (z.cl "Bounds") "__gt__" 3 ["self", "other"] (sp z pmGt) := ⟨f_Bounds___gt__, fd_Bounds___gt__, ok_gt F_Bounds___gt__ bl fl_Bounds_corners ty_Bounds nf_Bounds kB_Bounds g_Bounds m_Bounds___le__, ⟨a_Bounds___gt__, i_Bounds___gt__, F_Bounds___gt__.kp⟩, F_Bounds___gt__.binds (ps := ["self", "other"]) fun _ _ _ _ _ _ us hl => match us, hl with | [_, _], _ => rfl⟩
  have c__law_take : Cf P w z.K mg base "_law_take" 1 ["_law_box_here", "_law_many"] (sp z pmTake) := ⟨f__law_take, fd__law_take, ok_take F__law_take bl, g__law_take, F__law_take.kp, F__law_take.binds (ps := ["_law_box_here", "_law_many"]) fun _ _ _ _ _ _ us hl => match us, hl with | [_, _], _ => rfl⟩
  have c__law_box : Cf P w z.K mg base "_law_box" 1 ["_law_script", "_law_k", "_law_own"] (sp z pmBox3) := ⟨f__law_box, fd__law_box, ok_box F__law_box bl, g__law_box, F__law_box.kp, F__law_box.binds (ps := ["_law_script", "_law_k", "_law_own"]) fun _ _ _ _ _ _ us hl => match us, hl with | [_, _, _], _ => rfl⟩
  have c__law_corners : Cf P w z.K mg base "_law_corners" 2 ["_law_box_here", "_law_many", "_law_top"] (sp z pmCorn) := ⟨f__law_corners, fd__law_corners, ok_corn F__law_corners bl c__law_take, g__law_corners, F__law_corners.kp, F__law_corners.binds (ps := ["_law_box_here", "_law_many", "_law_top"]) fun _ _ _ _ _ _ us hl => match us, hl with | [_, _, _], _ => rfl⟩
  have c__law_pick : Cf P w z.K mg base "_law_pick" 2 ["_law_box_here", "_law_items"] (sp z pmPick) := ⟨f__law_pick, fd__law_pick, ok_pick F__law_pick bl c__law_take, g__law_pick, F__law_pick.kp, F__law_pick.binds (ps := ["_law_box_here", "_law_items"]) fun _ _ _ _ _ _ us hl => match us, hl with | [_, _], _ => rfl⟩
  have c__law_under : Cf P w z.K mg base "_law_under" 1 ["_law_pair", "_law_corners_here"] (sp z pmUnL) := ⟨f__law_under, fd__law_under, ok_unl F__law_under bl, g__law_under, F__law_under.kp, F__law_under.binds (ps := ["_law_pair", "_law_corners_here"]) fun _ _ _ _ _ _ us hl => match us, hl with | [_, _], _ => rfl⟩
  have c__law_greatest : Cf P w z.K mg base "_law_greatest" 2 ["_law_corners_here"] (sp z pmGrL) := ⟨f__law_greatest, fd__law_greatest, ok_grl F__law_greatest bl c__law_under, g__law_greatest, F__law_greatest.kp, F__law_greatest.binds (ps := ["_law_corners_here"]) fun _ _ _ _ _ _ us hl => match us, hl with | [_], _ => rfl⟩
  have c__law_meet : Cf P w z.K mg base "_law_meet" 1 ["_law_one", "_law_two"] (sp z pmMeet) := ⟨f__law_meet, fd__law_meet, ok_meet F__law_meet bl, g__law_meet, F__law_meet.kp, F__law_meet.binds (ps := ["_law_one", "_law_two"]) fun _ _ _ _ _ _ us hl => match us, hl with | [_, _], _ => rfl⟩
  exact ok_law F_law bl fl_Bounds_corners ty_Bounds nf_Bounds sf_Bounds ne_Bounds ty_Bounds.hm ni_Bounds___iand__ ni_Bounds___ior__ k_Bounds c__law_box c__law_take c__law_pick c__law_corners c__law_under c__law_greatest c__law_meet m_Bounds___and__ m_Bounds___or__ m_Bounds___le__ m_Bounds___lt__ m_Bounds___ge__ m_Bounds___gt__ m_Bounds___eq__ m_Bounds___contains__
theorem all_mk {l : PySem.W.OpenLaw} {w : World} {K : PySem.W.Frag} {h : Heap} {mg : Str → Option Value} {fa C_Bounds f_is_integer f_is_number f_is_sequence f_is_pair f_is_under f_greatest_of f_lesser_of f__law_box f__law_take f__law_corners f__law_pick f__law_under f__law_greatest f__law_meet T_Bounds___init__ E_Bounds___init__ f_Bounds___init__ f_Bounds___contains__ f_Bounds___and__ f_Bounds___or__ f_Bounds___eq__ f_Bounds___le__ f_Bounds___lt__ f_Bounds___ge__ f_Bounds___gt__ f_law : Addr} (X : K.In h) (G : h.Ns mainGlobals mg) (hfa : mg "law" = some (.ref fa))
    {od_is_integer an_is_integer : Option Addr} {sl_is_integer : Array (Option Value)} {oc_is_integer kV_is_integer dc_is_integer pm_is_integer cd_is_integer ct_is_integer : Value}
    {od_is_number an_is_number : Option Addr} {sl_is_number : Array (Option Value)} {oc_is_number kV_is_number dc_is_number pm_is_number cd_is_number ct_is_number : Value}
    {od_is_sequence an_is_sequence : Option Addr} {sl_is_sequence : Array (Option Value)} {oc_is_sequence kV_is_sequence dc_is_sequence pm_is_sequence cd_is_sequence ct_is_sequence : Value}
    {od_is_pair an_is_pair : Option Addr} {sl_is_pair : Array (Option Value)} {oc_is_pair kV_is_pair dc_is_pair pm_is_pair cd_is_pair ct_is_pair : Value}
    {od_is_under an_is_under : Option Addr} {sl_is_under : Array (Option Value)} {oc_is_under kV_is_under dc_is_under pm_is_under cd_is_under ct_is_under : Value}
    {od_greatest_of an_greatest_of : Option Addr} {sl_greatest_of : Array (Option Value)} {oc_greatest_of kV_greatest_of dc_greatest_of pm_greatest_of cd_greatest_of ct_greatest_of : Value}
    {od_lesser_of an_lesser_of : Option Addr} {sl_lesser_of : Array (Option Value)} {oc_lesser_of kV_lesser_of dc_lesser_of pm_lesser_of cd_lesser_of ct_lesser_of : Value}
    {od__law_box an__law_box : Option Addr} {sl__law_box : Array (Option Value)} {oc__law_box kV__law_box dc__law_box pm__law_box cd__law_box ct__law_box : Value}
    {od__law_take an__law_take : Option Addr} {sl__law_take : Array (Option Value)} {oc__law_take kV__law_take dc__law_take pm__law_take cd__law_take ct__law_take : Value}
    {od__law_corners an__law_corners : Option Addr} {sl__law_corners : Array (Option Value)} {oc__law_corners kV__law_corners dc__law_corners pm__law_corners cd__law_corners ct__law_corners : Value}
    {od__law_pick an__law_pick : Option Addr} {sl__law_pick : Array (Option Value)} {oc__law_pick kV__law_pick dc__law_pick pm__law_pick cd__law_pick ct__law_pick : Value}
    {od__law_under an__law_under : Option Addr} {sl__law_under : Array (Option Value)} {oc__law_under kV__law_under dc__law_under pm__law_under cd__law_under ct__law_under : Value}
    {od__law_greatest an__law_greatest : Option Addr} {sl__law_greatest : Array (Option Value)} {oc__law_greatest kV__law_greatest dc__law_greatest pm__law_greatest cd__law_greatest ct__law_greatest : Value}
    {od__law_meet an__law_meet : Option Addr} {sl__law_meet : Array (Option Value)} {oc__law_meet kV__law_meet dc__law_meet pm__law_meet cd__law_meet ct__law_meet : Value}
    {cdv_Bounds : ClassData}
    {od_Bounds___init__ an_Bounds___init__ : Option Addr} {sl_Bounds___init__ : Array (Option Value)} {oc_Bounds___init__ kV_Bounds___init__ dc_Bounds___init__ pm_Bounds___init__ cd_Bounds___init__ ct_Bounds___init__ : Value}
    {odT_Bounds___init__ odE_Bounds___init__ : Option Addr} {slT_Bounds___init__ slE_Bounds___init__ : Array (Option Value)} {ocT_Bounds___init__ : Value} {nT_Bounds___init__ nE_Bounds___init__ : Nat}
    {od_Bounds___contains__ an_Bounds___contains__ : Option Addr} {sl_Bounds___contains__ : Array (Option Value)} {oc_Bounds___contains__ kV_Bounds___contains__ dc_Bounds___contains__ pm_Bounds___contains__ cd_Bounds___contains__ ct_Bounds___contains__ : Value}
    {od_Bounds___and__ an_Bounds___and__ : Option Addr} {sl_Bounds___and__ : Array (Option Value)} {oc_Bounds___and__ kV_Bounds___and__ dc_Bounds___and__ pm_Bounds___and__ cd_Bounds___and__ ct_Bounds___and__ : Value}
    {od_Bounds___or__ an_Bounds___or__ : Option Addr} {sl_Bounds___or__ : Array (Option Value)} {oc_Bounds___or__ kV_Bounds___or__ dc_Bounds___or__ pm_Bounds___or__ cd_Bounds___or__ ct_Bounds___or__ : Value}
    {od_Bounds___eq__ an_Bounds___eq__ : Option Addr} {sl_Bounds___eq__ : Array (Option Value)} {oc_Bounds___eq__ kV_Bounds___eq__ dc_Bounds___eq__ pm_Bounds___eq__ cd_Bounds___eq__ ct_Bounds___eq__ : Value}
    {od_Bounds___le__ an_Bounds___le__ : Option Addr} {sl_Bounds___le__ : Array (Option Value)} {oc_Bounds___le__ kV_Bounds___le__ dc_Bounds___le__ pm_Bounds___le__ cd_Bounds___le__ ct_Bounds___le__ : Value}
    {od_Bounds___lt__ an_Bounds___lt__ : Option Addr} {sl_Bounds___lt__ : Array (Option Value)} {oc_Bounds___lt__ kV_Bounds___lt__ dc_Bounds___lt__ pm_Bounds___lt__ cd_Bounds___lt__ ct_Bounds___lt__ : Value}
    {od_Bounds___ge__ an_Bounds___ge__ : Option Addr} {sl_Bounds___ge__ : Array (Option Value)} {oc_Bounds___ge__ kV_Bounds___ge__ dc_Bounds___ge__ pm_Bounds___ge__ cd_Bounds___ge__ ct_Bounds___ge__ : Value}
    {od_Bounds___gt__ an_Bounds___gt__ : Option Addr} {sl_Bounds___gt__ : Array (Option Value)} {oc_Bounds___gt__ kV_Bounds___gt__ dc_Bounds___gt__ pm_Bounds___gt__ cd_Bounds___gt__ ct_Bounds___gt__ : Value}
    {od_law an_law : Option Addr} {sl_law : Array (Option Value)} {oc_law kV_law dc_law pm_law cd_law ct_law : Value}
    (aC_Bounds : PySem.W.nsIn K mainGlobals "Bounds" = some (some (.ref C_Bounds)))
    (a_is_integer : PySem.W.nsIn K mainGlobals "is_integer" = some (some (.ref f_is_integer)))
    (l_is_integer : K.lookup f_is_integer = some ⟨oc_is_integer, od_is_integer, .func (PySem.W.fnOf "is_integer" "is_integer" (defArgs (top 5)) (defBody (top 5)) (defScope (top 5)) .none kV_is_integer dc_is_integer pm_is_integer an_is_integer cd_is_integer ct_is_integer), sl_is_integer⟩)
    (c_is_integer : PySem.W.codeIn K cd_is_integer "is_integer" = true)
    (k_is_integer : PySem.W.keepIn K (.ref f_is_integer) = true)
    (a_is_number : PySem.W.nsIn K mainGlobals "is_number" = some (some (.ref f_is_number)))
    (l_is_number : K.lookup f_is_number = some ⟨oc_is_number, od_is_number, .func (PySem.W.fnOf "is_number" "is_number" (defArgs (top 6)) (defBody (top 6)) (defScope (top 6)) .none kV_is_number dc_is_number pm_is_number an_is_number cd_is_number ct_is_number), sl_is_number⟩)
    (c_is_number : PySem.W.codeIn K cd_is_number "is_number" = true)
    (k_is_number : PySem.W.keepIn K (.ref f_is_number) = true)
    (a_is_sequence : PySem.W.nsIn K mainGlobals "is_sequence" = some (some (.ref f_is_sequence)))
    (l_is_sequence : K.lookup f_is_sequence = some ⟨oc_is_sequence, od_is_sequence, .func (PySem.W.fnOf "is_sequence" "is_sequence" (defArgs (top 7)) (defBody (top 7)) (defScope (top 7)) .none kV_is_sequence dc_is_sequence pm_is_sequence an_is_sequence cd_is_sequence ct_is_sequence), sl_is_sequence⟩)
    (c_is_sequence : PySem.W.codeIn K cd_is_sequence "is_sequence" = true)
    (k_is_sequence : PySem.W.keepIn K (.ref f_is_sequence) = true)
    (a_is_pair : PySem.W.nsIn K mainGlobals "is_pair" = some (some (.ref f_is_pair)))
    (l_is_pair : K.lookup f_is_pair = some ⟨oc_is_pair, od_is_pair, .func (PySem.W.fnOf "is_pair" "is_pair" (defArgs (top 9)) (defBody (top 9)) (defScope (top 9)) .none kV_is_pair dc_is_pair pm_is_pair an_is_pair cd_is_pair ct_is_pair), sl_is_pair⟩)
    (c_is_pair : PySem.W.codeIn K cd_is_pair "is_pair" = true)
    (k_is_pair : PySem.W.keepIn K (.ref f_is_pair) = true)
    (a_is_under : PySem.W.nsIn K mainGlobals "is_under" = some (some (.ref f_is_under)))
    (l_is_under : K.lookup f_is_under = some ⟨oc_is_under, od_is_under, .func (PySem.W.fnOf "is_under" "is_under" (defArgs (top 10)) (defBody (top 10)) (defScope (top 10)) .none kV_is_under dc_is_under pm_is_under an_is_under cd_is_under ct_is_under), sl_is_under⟩)
    (c_is_under : PySem.W.codeIn K cd_is_under "is_under" = true)
    (k_is_under : PySem.W.keepIn K (.ref f_is_under) = true)
    (a_greatest_of : PySem.W.nsIn K mainGlobals "greatest_of" = some (some (.ref f_greatest_of)))
    (l_greatest_of : K.lookup f_greatest_of = some ⟨oc_greatest_of, od_greatest_of, .func (PySem.W.fnOf "greatest_of" "greatest_of" (defArgs (top 11)) (defBody (top 11)) (defScope (top 11)) .none kV_greatest_of dc_greatest_of pm_greatest_of an_greatest_of cd_greatest_of ct_greatest_of), sl_greatest_of⟩)
    (c_greatest_of : PySem.W.codeIn K cd_greatest_of "greatest_of" = true)
    (k_greatest_of : PySem.W.keepIn K (.ref f_greatest_of) = true)
    (a_lesser_of : PySem.W.nsIn K mainGlobals "lesser_of" = some (some (.ref f_lesser_of)))
    (l_lesser_of : K.lookup f_lesser_of = some ⟨oc_lesser_of, od_lesser_of, .func (PySem.W.fnOf "lesser_of" "lesser_of" (defArgs (top 13)) (defBody (top 13)) (defScope (top 13)) .none kV_lesser_of dc_lesser_of pm_lesser_of an_lesser_of cd_lesser_of ct_lesser_of), sl_lesser_of⟩)
    (c_lesser_of : PySem.W.codeIn K cd_lesser_of "lesser_of" = true)
    (k_lesser_of : PySem.W.keepIn K (.ref f_lesser_of) = true)
    (a__law_box : PySem.W.nsIn K mainGlobals "_law_box" = some (some (.ref f__law_box)))
    (l__law_box : K.lookup f__law_box = some ⟨oc__law_box, od__law_box, .func (PySem.W.fnOf "_law_box" "_law_box" (defArgs (top 15)) (defBody (top 15)) (defScope (top 15)) .none kV__law_box dc__law_box pm__law_box an__law_box cd__law_box ct__law_box), sl__law_box⟩)
    (c__law_box : PySem.W.codeIn K cd__law_box "_law_box" = true)
    (k__law_box : PySem.W.keepIn K (.ref f__law_box) = true)
    (a__law_take : PySem.W.nsIn K mainGlobals "_law_take" = some (some (.ref f__law_take)))
    (l__law_take : K.lookup f__law_take = some ⟨oc__law_take, od__law_take, .func (PySem.W.fnOf "_law_take" "_law_take" (defArgs (top 16)) (defBody (top 16)) (defScope (top 16)) .none kV__law_take dc__law_take pm__law_take an__law_take cd__law_take ct__law_take), sl__law_take⟩)
    (c__law_take : PySem.W.codeIn K cd__law_take "_law_take" = true)
    (k__law_take : PySem.W.keepIn K (.ref f__law_take) = true)
    (a__law_corners : PySem.W.nsIn K mainGlobals "_law_corners" = some (some (.ref f__law_corners)))
    (l__law_corners : K.lookup f__law_corners = some ⟨oc__law_corners, od__law_corners, .func (PySem.W.fnOf "_law_corners" "_law_corners" (defArgs (top 18)) (defBody (top 18)) (defScope (top 18)) .none kV__law_corners dc__law_corners pm__law_corners an__law_corners cd__law_corners ct__law_corners), sl__law_corners⟩)
    (c__law_corners : PySem.W.codeIn K cd__law_corners "_law_corners" = true)
    (k__law_corners : PySem.W.keepIn K (.ref f__law_corners) = true)
    (a__law_pick : PySem.W.nsIn K mainGlobals "_law_pick" = some (some (.ref f__law_pick)))
    (l__law_pick : K.lookup f__law_pick = some ⟨oc__law_pick, od__law_pick, .func (PySem.W.fnOf "_law_pick" "_law_pick" (defArgs (top 17)) (defBody (top 17)) (defScope (top 17)) .none kV__law_pick dc__law_pick pm__law_pick an__law_pick cd__law_pick ct__law_pick), sl__law_pick⟩)
    (c__law_pick : PySem.W.codeIn K cd__law_pick "_law_pick" = true)
    (k__law_pick : PySem.W.keepIn K (.ref f__law_pick) = true)
    (a__law_under : PySem.W.nsIn K mainGlobals "_law_under" = some (some (.ref f__law_under)))
    (l__law_under : K.lookup f__law_under = some ⟨oc__law_under, od__law_under, .func (PySem.W.fnOf "_law_under" "_law_under" (defArgs (top 19)) (defBody (top 19)) (defScope (top 19)) .none kV__law_under dc__law_under pm__law_under an__law_under cd__law_under ct__law_under), sl__law_under⟩)
    (c__law_under : PySem.W.codeIn K cd__law_under "_law_under" = true)
    (k__law_under : PySem.W.keepIn K (.ref f__law_under) = true)
    (a__law_greatest : PySem.W.nsIn K mainGlobals "_law_greatest" = some (some (.ref f__law_greatest)))
    (l__law_greatest : K.lookup f__law_greatest = some ⟨oc__law_greatest, od__law_greatest, .func (PySem.W.fnOf "_law_greatest" "_law_greatest" (defArgs (top 20)) (defBody (top 20)) (defScope (top 20)) .none kV__law_greatest dc__law_greatest pm__law_greatest an__law_greatest cd__law_greatest ct__law_greatest), sl__law_greatest⟩)
    (c__law_greatest : PySem.W.codeIn K cd__law_greatest "_law_greatest" = true)
    (k__law_greatest : PySem.W.keepIn K (.ref f__law_greatest) = true)
    (a__law_meet : PySem.W.nsIn K mainGlobals "_law_meet" = some (some (.ref f__law_meet)))
    (l__law_meet : K.lookup f__law_meet = some ⟨oc__law_meet, od__law_meet, .func (PySem.W.fnOf "_law_meet" "_law_meet" (defArgs (top 21)) (defBody (top 21)) (defScope (top 21)) .none kV__law_meet dc__law_meet pm__law_meet an__law_meet cd__law_meet ct__law_meet), sl__law_meet⟩)
    (c__law_meet : PySem.W.codeIn K cd__law_meet "_law_meet" = true)
    (k__law_meet : PySem.W.keepIn K (.ref f__law_meet) = true)
    (kn_Bounds_NoneType : PySem.W.subIn K (.type "NoneType") (.ref C_Bounds) = some false)
    (kn_Bounds_bool : PySem.W.subIn K (.type "bool") (.ref C_Bounds) = some false)
    (kn_Bounds_int : PySem.W.subIn K (.type "int") (.ref C_Bounds) = some false)
    (kn_Bounds_str : PySem.W.subIn K (.type "str") (.ref C_Bounds) = some false)
    (kn_Bounds_tuple : PySem.W.subIn K (.type "tuple") (.ref C_Bounds) = some false)
    (kn_Bounds_list : PySem.W.subIn K (.type "list") (.ref C_Bounds) = some false)
    (pg_Bounds : PySem.W.plainGet K C_Bounds Str.empty = true)
    (hd_Bounds : PySem.W.hasDictIn K C_Bounds = true)
    (po_Bounds : PySem.W.plainOver K C_Bounds = true)
    (sa_Bounds : PySem.W.findIn K (.ref C_Bounds) "__setattr__" = some (some (.builtin "object.__setattr__")))
    (ha_Bounds : PySem.W.findIn K (.ref C_Bounds) "__class__" = some (some (.builtin "object.__class__")))
    (hn_Bounds : PySem.W.specialIn K (.builtin "object.__class__") "__get__" = some (some (.builtin "getset_descriptor.__get__")))
    (ht_Bounds : PySem.W.takesIn K (.builtin "object.__class__") = some true)
    (hm_Bounds : PySem.W.mroIn K C_Bounds (.type "object") = some true)
    (kI_Bounds : PySem.W.subIn K (.ref C_Bounds) (.type "int") = some false)
    (kb_Bounds : PySem.W.subIn K (.ref C_Bounds) (.type "bool") = some false)
    (kS_Bounds : PySem.W.subIn K (.ref C_Bounds) (.type "str") = some false)
    (kT_Bounds : PySem.W.subIn K (.ref C_Bounds) (.type "tuple") = some false)
    (kL_Bounds : PySem.W.subIn K (.ref C_Bounds) (.type "list") = some false)
    (sf_Bounds : PySem.W.selfFirst K C_Bounds = true)
    (nf_Bounds : PySem.W.notFirst K C_Bounds (.ref C_Bounds) = true)
    (ne_Bounds : PySem.W.findIn K (.ref C_Bounds) "__ne__" = some (some (.builtin "object.__ne__")))
    (tt_Bounds : PySem.W.typeIn K (.ref C_Bounds) = some (.type "type"))
    (mk_Bounds : PySem.W.makesIn K C_Bounds = true)
    (kc_Bounds : PySem.W.keepIn K (.ref C_Bounds) = true)
    (cd_Bounds : PySem.W.clsIn K C_Bounds = some cdv_Bounds)
    (mro_Bounds : cdv_Bounds.mro = [.ref C_Bounds, .type "object"])
    (n1_Bounds___iand__ : PySem.W.findIn K (.ref C_Bounds) "__iand__" = some none)
    (n2_Bounds___iand__ : PySem.W.findIn K (.type "object") "__iand__" = some none)
    (n1_Bounds___ior__ : PySem.W.findIn K (.ref C_Bounds) "__ior__" = some none)
    (n2_Bounds___ior__ : PySem.W.findIn K (.type "object") "__ior__" = some none)
    (no_Bounds_corners : PySem.W.findIn K (.ref C_Bounds) "corners" = some none)
    (a_Bounds___init__ : PySem.W.findIn K (.ref C_Bounds) "__init__" = some (some (.ref f_Bounds___init__)))
    (i_Bounds___init__ : PySem.W.isFn K (.ref f_Bounds___init__) = true)
    (l_Bounds___init__ : K.lookup f_Bounds___init__ = some ⟨oc_Bounds___init__, od_Bounds___init__, .func (PySem.W.fnOf "__init__" "Bounds.__init__" (defArgs (inClass (top 12) 0)) (defBody (inClass (top 12) 0)) (defScope (inClass (top 12) 0)) (.ref T_Bounds___init__) kV_Bounds___init__ dc_Bounds___init__ pm_Bounds___init__ an_Bounds___init__ cd_Bounds___init__ ct_Bounds___init__), sl_Bounds___init__⟩)
    (c_Bounds___init__ : PySem.W.codeIn K cd_Bounds___init__ "Bounds.__init__" = true)
    (k_Bounds___init__ : PySem.W.keepIn K (.ref f_Bounds___init__) = true)
    (lT_Bounds___init__ : K.lookup T_Bounds___init__ = some ⟨ocT_Bounds___init__, odT_Bounds___init__, .seq #[.ref E_Bounds___init__] nT_Bounds___init__, slT_Bounds___init__⟩)
    (lE_Bounds___init__ : K.lookup E_Bounds___init__ = some ⟨.type "tuple", odE_Bounds___init__, .seq #[] nE_Bounds___init__, slE_Bounds___init__⟩)
    (a_Bounds___contains__ : PySem.W.findIn K (.ref C_Bounds) "__contains__" = some (some (.ref f_Bounds___contains__)))
    (i_Bounds___contains__ : PySem.W.isFn K (.ref f_Bounds___contains__) = true)
    (l_Bounds___contains__ : K.lookup f_Bounds___contains__ = some ⟨oc_Bounds___contains__, od_Bounds___contains__, .func (PySem.W.fnOf "__contains__" "Bounds.__contains__" (defArgs (inClass (top 12) 3)) (defBody (inClass (top 12) 3)) (defScope (inClass (top 12) 3)) .none kV_Bounds___contains__ dc_Bounds___contains__ pm_Bounds___contains__ an_Bounds___contains__ cd_Bounds___contains__ ct_Bounds___contains__), sl_Bounds___contains__⟩)
    (c_Bounds___contains__ : PySem.W.codeIn K cd_Bounds___contains__ "Bounds.__contains__" = true)
    (k_Bounds___contains__ : PySem.W.keepIn K (.ref f_Bounds___contains__) = true)
    (a_Bounds___and__ : PySem.W.findIn K (.ref C_Bounds) "__and__" = some (some (.ref f_Bounds___and__)))
    (i_Bounds___and__ : PySem.W.isFn K (.ref f_Bounds___and__) = true)
    (l_Bounds___and__ : K.lookup f_Bounds___and__ = some ⟨oc_Bounds___and__, od_Bounds___and__, .func (PySem.W.fnOf "__and__" "Bounds.__and__" (defArgs (inClass (top 12) 5)) (defBody (inClass (top 12) 5)) (defScope (inClass (top 12) 5)) .none kV_Bounds___and__ dc_Bounds___and__ pm_Bounds___and__ an_Bounds___and__ cd_Bounds___and__ ct_Bounds___and__), sl_Bounds___and__⟩)
    (c_Bounds___and__ : PySem.W.codeIn K cd_Bounds___and__ "Bounds.__and__" = true)
    (k_Bounds___and__ : PySem.W.keepIn K (.ref f_Bounds___and__) = true)
    (a_Bounds___or__ : PySem.W.findIn K (.ref C_Bounds) "__or__" = some (some (.ref f_Bounds___or__)))
    (i_Bounds___or__ : PySem.W.isFn K (.ref f_Bounds___or__) = true)
    (l_Bounds___or__ : K.lookup f_Bounds___or__ = some ⟨oc_Bounds___or__, od_Bounds___or__, .func (PySem.W.fnOf "__or__" "Bounds.__or__" (defArgs (inClass (top 12) 6)) (defBody (inClass (top 12) 6)) (defScope (inClass (top 12) 6)) .none kV_Bounds___or__ dc_Bounds___or__ pm_Bounds___or__ an_Bounds___or__ cd_Bounds___or__ ct_Bounds___or__), sl_Bounds___or__⟩)
    (c_Bounds___or__ : PySem.W.codeIn K cd_Bounds___or__ "Bounds.__or__" = true)
    (k_Bounds___or__ : PySem.W.keepIn K (.ref f_Bounds___or__) = true)
    (a_Bounds___eq__ : PySem.W.findIn K (.ref C_Bounds) "__eq__" = some (some (.ref f_Bounds___eq__)))
    (i_Bounds___eq__ : PySem.W.isFn K (.ref f_Bounds___eq__) = true)
    (l_Bounds___eq__ : K.lookup f_Bounds___eq__ = some ⟨oc_Bounds___eq__, od_Bounds___eq__, .func (PySem.W.fnOf "__eq__" "Bounds.__eq__" (defArgs (inClass (top 12) 7)) (defBody (inClass (top 12) 7)) (defScope (inClass (top 12) 7)) .none kV_Bounds___eq__ dc_Bounds___eq__ pm_Bounds___eq__ an_Bounds___eq__ cd_Bounds___eq__ ct_Bounds___eq__), sl_Bounds___eq__⟩)
    (c_Bounds___eq__ : PySem.W.codeIn K cd_Bounds___eq__ "Bounds.__eq__" = true)
    (k_Bounds___eq__ : PySem.W.keepIn K (.ref f_Bounds___eq__) = true)
    (a_Bounds___le__ : PySem.W.findIn K (.ref C_Bounds) "__le__" = some (some (.ref f_Bounds___le__)))
    (i_Bounds___le__ : PySem.W.isFn K (.ref f_Bounds___le__) = true)
    (l_Bounds___le__ : K.lookup f_Bounds___le__ = some ⟨oc_Bounds___le__, od_Bounds___le__, .func (PySem.W.fnOf "__le__" "Bounds.__le__" (defArgs (inClass (top 12) 8)) (defBody (inClass (top 12) 8)) (defScope (inClass (top 12) 8)) .none kV_Bounds___le__ dc_Bounds___le__ pm_Bounds___le__ an_Bounds___le__ cd_Bounds___le__ ct_Bounds___le__), sl_Bounds___le__⟩)
    (c_Bounds___le__ : PySem.W.codeIn K cd_Bounds___le__ "Bounds.__le__" = true)
    (k_Bounds___le__ : PySem.W.keepIn K (.ref f_Bounds___le__) = true)
    (a_Bounds___lt__ : PySem.W.findIn K (.ref C_Bounds) "__lt__" = some (some (.ref f_Bounds___lt__)))
    (i_Bounds___lt__ : PySem.W.isFn K (.ref f_Bounds___lt__) = true)
    (l_Bounds___lt__ : K.lookup f_Bounds___lt__ = some ⟨oc_Bounds___lt__, od_Bounds___lt__, .func (PySem.W.fnOf "__lt__" "Bounds.__lt__" (defArgs (inClass (top 12) 9)) (defBody (inClass (top 12) 9)) (defScope (inClass (top 12) 9)) .none kV_Bounds___lt__ dc_Bounds___lt__ pm_Bounds___lt__ an_Bounds___lt__ cd_Bounds___lt__ ct_Bounds___lt__), sl_Bounds___lt__⟩)
    (c_Bounds___lt__ : PySem.W.codeIn K cd_Bounds___lt__ "Bounds.__lt__" = true)
    (k_Bounds___lt__ : PySem.W.keepIn K (.ref f_Bounds___lt__) = true)
    (a_Bounds___ge__ : PySem.W.findIn K (.ref C_Bounds) "__ge__" = some (some (.ref f_Bounds___ge__)))
    (i_Bounds___ge__ : PySem.W.isFn K (.ref f_Bounds___ge__) = true)
    (l_Bounds___ge__ : K.lookup f_Bounds___ge__ = some ⟨oc_Bounds___ge__, od_Bounds___ge__, .func (PySem.W.fnOf "__ge__" "Bounds.__ge__" (defArgs (inClass (top 12) 10)) (defBody (inClass (top 12) 10)) (defScope (inClass (top 12) 10)) .none kV_Bounds___ge__ dc_Bounds___ge__ pm_Bounds___ge__ an_Bounds___ge__ cd_Bounds___ge__ ct_Bounds___ge__), sl_Bounds___ge__⟩)
    (c_Bounds___ge__ : PySem.W.codeIn K cd_Bounds___ge__ "Bounds.__ge__" = true)
    (k_Bounds___ge__ : PySem.W.keepIn K (.ref f_Bounds___ge__) = true)
    (a_Bounds___gt__ : PySem.W.findIn K (.ref C_Bounds) "__gt__" = some (some (.ref f_Bounds___gt__)))
    (i_Bounds___gt__ : PySem.W.isFn K (.ref f_Bounds___gt__) = true)
    (l_Bounds___gt__ : K.lookup f_Bounds___gt__ = some ⟨oc_Bounds___gt__, od_Bounds___gt__, .func (PySem.W.fnOf "__gt__" "Bounds.__gt__" (defArgs (inClass (top 12) 11)) (defBody (inClass (top 12) 11)) (defScope (inClass (top 12) 11)) .none kV_Bounds___gt__ dc_Bounds___gt__ pm_Bounds___gt__ an_Bounds___gt__ cd_Bounds___gt__ ct_Bounds___gt__), sl_Bounds___gt__⟩)
    (c_Bounds___gt__ : PySem.W.codeIn K cd_Bounds___gt__ "Bounds.__gt__" = true)
    (k_Bounds___gt__ : PySem.W.keepIn K (.ref f_Bounds___gt__) = true)
    (a_law : PySem.W.nsIn K mainGlobals "law" = some (some (.ref f_law)))
    (l_law : K.lookup f_law = some ⟨oc_law, od_law, .func (PySem.W.fnOf "law" "law" (defArgs (top 22)) (defBody (top 22)) (defScope (top 22)) .none kV_law dc_law pm_law an_law cd_law ct_law), sl_law⟩)
    (c_law : PySem.W.codeIn K cd_law "law" = true)
    (k_law : PySem.W.keepIn K (.ref f_law) = true)
    (z_len : PySem.W.nsIn K mainGlobals "len" = some none)
    (z_abs : PySem.W.nsIn K mainGlobals "abs" = some none)
    (z_min : PySem.W.nsIn K mainGlobals "min" = some none)
    (z_max : PySem.W.nsIn K mainGlobals "max" = some none)
    (z_int : PySem.W.nsIn K mainGlobals "int" = some none)
    (z_str : PySem.W.nsIn K mainGlobals "str" = some none)
    (z_bool : PySem.W.nsIn K mainGlobals "bool" = some none)
    (z_tuple : PySem.W.nsIn K mainGlobals "tuple" = some none)
    (z_list : PySem.W.nsIn K mainGlobals "list" = some none)
    (z_range : PySem.W.nsIn K mainGlobals "range" = some none)
    (z_sorted : PySem.W.nsIn K mainGlobals "sorted" = some none)
    (z_any : PySem.W.nsIn K mainGlobals "any" = some none)
    (z_all : PySem.W.nsIn K mainGlobals "all" = some none)
    (z_sum : PySem.W.nsIn K mainGlobals "sum" = some none)
    (z_isinstance : PySem.W.nsIn K mainGlobals "isinstance" = some none)
    (z_enumerate : PySem.W.nsIn K mainGlobals "enumerate" = some none)
    (z_zip : PySem.W.nsIn K mainGlobals "zip" = some none)
    (z_repr : PySem.W.nsIn K mainGlobals "repr" = some none) :
    ∃ fd : FuncData, (∀ (s : Shared) (v : Value), BindsTo s fd ⟨[v], []⟩ [("_law_script", v)]) ∧ ∀ base : Heap, K.In base → base.Ns mainGlobals mg → FnG l.prog w K mg base 7 fa fd ["_law_script"] (spLaw K) := by
  have e := hfa.symm.trans (PySem.W.mg_of X G a_law)
  cases e
  have F_is_integer := fun_mk (st := (top 5)) l_is_integer c_is_integer k_is_integer
  have F_is_number := fun_mk (st := (top 6)) l_is_number c_is_number k_is_number
  have F_is_sequence := fun_mk (st := (top 7)) l_is_sequence c_is_sequence k_is_sequence
  have F_is_pair := fun_mk (st := (top 9)) l_is_pair c_is_pair k_is_pair
  have F_is_under := fun_mk (st := (top 10)) l_is_under c_is_under k_is_under
  have F_greatest_of := fun_mk (st := (top 11)) l_greatest_of c_greatest_of k_greatest_of
  have F_lesser_of := fun_mk (st := (top 13)) l_lesser_of c_lesser_of k_lesser_of
  have F__law_box := fun_mk (st := (top 15)) l__law_box c__law_box k__law_box
  have F__law_take := fun_mk (st := (top 16)) l__law_take c__law_take k__law_take
  have F__law_corners := fun_mk (st := (top 18)) l__law_corners c__law_corners k__law_corners
  have F__law_pick := fun_mk (st := (top 17)) l__law_pick c__law_pick k__law_pick
  have F__law_under := fun_mk (st := (top 19)) l__law_under c__law_under k__law_under
  have F__law_greatest := fun_mk (st := (top 20)) l__law_greatest c__law_greatest k__law_greatest
  have F__law_meet := fun_mk (st := (top 21)) l__law_meet c__law_meet k__law_meet
  have cls_Bounds : Cls K C_Bounds := ⟨pg_Bounds, hd_Bounds, po_Bounds, sa_Bounds⟩
  have F_Bounds___init__ : FunD K "__init__" "Bounds.__init__" (defArgs (inClass (top 12) 0)) (defBody (inClass (top 12) 0)) (defScope (inClass (top 12) 0)) [.ref E_Bounds___init__] [] f_Bounds___init__ _ := ⟨⟨_, _, _, _, _, _, _, _, _, _, rfl, l_Bounds___init__, c_Bounds___init__, .inr ⟨fun e => (nomatch e), T_Bounds___init__, _, [.ref E_Bounds___init__], _, rfl, lT_Bounds___init__, rfl, .cons rfl .nil⟩, .inl rfl⟩, k_Bounds___init__⟩
  have F_Bounds___contains__ := fun_mk (st := (inClass (top 12) 3)) l_Bounds___contains__ c_Bounds___contains__ k_Bounds___contains__
  have F_Bounds___and__ := fun_mk (st := (inClass (top 12) 5)) l_Bounds___and__ c_Bounds___and__ k_Bounds___and__
  have F_Bounds___or__ := fun_mk (st := (inClass (top 12) 6)) l_Bounds___or__ c_Bounds___or__ k_Bounds___or__
  have F_Bounds___eq__ := fun_mk (st := (inClass (top 12) 7)) l_Bounds___eq__ c_Bounds___eq__ k_Bounds___eq__
  have F_Bounds___le__ := fun_mk (st := (inClass (top 12) 8)) l_Bounds___le__ c_Bounds___le__ k_Bounds___le__
  have F_Bounds___lt__ := fun_mk (st := (inClass (top 12) 9)) l_Bounds___lt__ c_Bounds___lt__ k_Bounds___lt__
  have F_Bounds___ge__ := fun_mk (st := (inClass (top 12) 10)) l_Bounds___ge__ c_Bounds___ge__ k_Bounds___ge__
  have F_Bounds___gt__ := fun_mk (st := (inClass (top 12) 11)) l_Bounds___gt__ c_Bounds___gt__ k_Bounds___gt__
  have F_law := fun_mk (st := (top 22)) l_law c_law k_law
  have bl : Bl mg := ⟨PySem.W.mg_none_of X G z_len, PySem.W.mg_none_of X G z_abs, PySem.W.mg_none_of X G z_min, PySem.W.mg_none_of X G z_max, PySem.W.mg_none_of X G z_int, PySem.W.mg_none_of X G z_str, PySem.W.mg_none_of X G z_bool, PySem.W.mg_none_of X G z_tuple, PySem.W.mg_none_of X G z_list, PySem.W.mg_none_of X G z_range, PySem.W.mg_none_of X G z_sorted, PySem.W.mg_none_of X G z_any, PySem.W.mg_none_of X G z_all, PySem.W.mg_none_of X G z_sum, PySem.W.mg_none_of X G z_isinstance, PySem.W.mg_none_of X G z_enumerate, PySem.W.mg_none_of X G z_zip, PySem.W.mg_none_of X G z_repr⟩
  refine ⟨PySem.W.fnOf "law" "law" (defArgs (top 22)) (defBody (top 22)) (defScope (top 22)) .none kV_law dc_law pm_law an_law cd_law ct_law, fun s v => .of_eq rfl, fun base _ _ => ?_⟩
  exact all_ok (z := ⟨K, fun _ => C_Bounds⟩) bl (F_is_integer := F_is_integer) (g_is_integer := PySem.W.mg_of X G a_is_integer) (F_is_number := F_is_number) (g_is_number := PySem.W.mg_of X G a_is_number) (F_is_sequence := F_is_sequence) (g_is_sequence := PySem.W.mg_of X G a_is_sequence) (F_is_pair := F_is_pair) (g_is_pair := PySem.W.mg_of X G a_is_pair) (F_is_under := F_is_under) (g_is_under := PySem.W.mg_of X G a_is_under) (F_greatest_of := F_greatest_of) (g_greatest_of := PySem.W.mg_of X G a_greatest_of) (F_lesser_of := F_lesser_of) (g_lesser_of := PySem.W.mg_of X G a_lesser_of) (F__law_box := F__law_box) (g__law_box := PySem.W.mg_of X G a__law_box) (F__law_take := F__law_take) (g__law_take := PySem.W.mg_of X G a__law_take) (F__law_corners := F__law_corners) (g__law_corners := PySem.W.mg_of X G a__law_corners) (F__law_pick := F__law_pick) (g__law_pick := PySem.W.mg_of X G a__law_pick) (F__law_under := F__law_under) (g__law_under := PySem.W.mg_of X G a__law_under) (F__law_greatest := F__law_greatest) (g__law_greatest := PySem.W.mg_of X G a__law_greatest) (F__law_meet := F__law_meet) (g__law_meet := PySem.W.mg_of X G a__law_meet) (kn_Bounds_NoneType := kit_xC (fun e => (nomatch e)) hd_Bounds tt_Bounds kn_Bounds_NoneType) (kn_Bounds_bool := kit_xC (fun e => (nomatch e)) hd_Bounds tt_Bounds kn_Bounds_bool) (kn_Bounds_int := kit_xC (fun e => (nomatch e)) hd_Bounds tt_Bounds kn_Bounds_int) (kn_Bounds_str := kit_xC (fun e => (nomatch e)) hd_Bounds tt_Bounds kn_Bounds_str) (kn_Bounds_tuple := kit_xC (fun e => (nomatch e)) hd_Bounds tt_Bounds kn_Bounds_tuple) (kn_Bounds_list := kit_xC (fun e => (nomatch e)) hd_Bounds tt_Bounds kn_Bounds_list) (g_Bounds := PySem.W.mg_of X G aC_Bounds) (ty_Bounds := ⟨cls_Bounds, ha_Bounds, hn_Bounds, ht_Bounds, hm_Bounds, kit_refT (by decide +kernel) kI_Bounds, kit_refT (by decide +kernel) kb_Bounds, kit_refT (by decide +kernel) kS_Bounds, kit_refT (by decide +kernel) kT_Bounds, kit_refT (by decide +kernel) kL_Bounds⟩) (sf_Bounds := sf_Bounds) (nf_Bounds := nf_Bounds) (ne_Bounds := ne_Bounds) (kB_Bounds := kit_refC) (mk_Bounds := mk_Bounds) (kc_Bounds := kc_Bounds) (ni_Bounds___iand__ := ⟨⟨_, cd_Bounds, mro_Bounds⟩, n1_Bounds___iand__, n2_Bounds___iand__⟩) (ni_Bounds___ior__ := ⟨⟨_, cd_Bounds, mro_Bounds⟩, n1_Bounds___ior__, n2_Bounds___ior__⟩) (no_Bounds_corners := no_Bounds_corners) (F_Bounds___init__ := F_Bounds___init__) (kt_Bounds___init__ := ⟨_, _, _, lE_Bounds___init__, rfl, rfl, Nat.zero_le _, .nil⟩) (a_Bounds___init__ := a_Bounds___init__) (i_Bounds___init__ := i_Bounds___init__) (F_Bounds___contains__ := F_Bounds___contains__) (a_Bounds___contains__ := a_Bounds___contains__) (i_Bounds___contains__ := i_Bounds___contains__) (F_Bounds___and__ := F_Bounds___and__) (a_Bounds___and__ := a_Bounds___and__) (i_Bounds___and__ := i_Bounds___and__) (F_Bounds___or__ := F_Bounds___or__) (a_Bounds___or__ := a_Bounds___or__) (i_Bounds___or__ := i_Bounds___or__) (F_Bounds___eq__ := F_Bounds___eq__) (a_Bounds___eq__ := a_Bounds___eq__) (i_Bounds___eq__ := i_Bounds___eq__) (F_Bounds___le__ := F_Bounds___le__) (a_Bounds___le__ := a_Bounds___le__) (i_Bounds___le__ := i_Bounds___le__) (F_Bounds___lt__ := F_Bounds___lt__) (a_Bounds___lt__ := a_Bounds___lt__) (i_Bounds___lt__ := i_Bounds___lt__) (F_Bounds___ge__ := F_Bounds___ge__) (a_Bounds___ge__ := a_Bounds___ge__) (i_Bounds___ge__ := i_Bounds___ge__) (F_Bounds___gt__ := F_Bounds___gt__) (a_Bounds___gt__ := a_Bounds___gt__) (i_Bounds___gt__ := i_Bounds___gt__) (F_law := F_law)
end
end M
open PySem PySem.W PyProof.Rows
set_option maxRecDepth 100000 in
set_option maxHeartbeats 0 in
theorem PySem.Challenge.cw_driftmends_k47_bounds_put_together_holds : PySem.Challenge.rw_driftmends_k47_bounds_put_together.Holds := by
  w_on; o_law; k_head; (case hw => w_witness2)
  k_fill
  refine Q.walkG (l := PySem.Challenge.rw_driftmends_k47_bounds_put_together) (k := 7) (x := "_law_script") rfl rfl ⟨rfl, by decide, by decide⟩ (fun w h Y => PySem.W.kIn_of Y) ?F
  case F =>
    intro w mg fa h KX G hmg
    refine' M.all_mk KX G hmg ?aC_Bounds ?a_is_integer ?l_is_integer ?c_is_integer ?k_is_integer ?a_is_number ?l_is_number ?c_is_number ?k_is_number ?a_is_sequence ?l_is_sequence ?c_is_sequence ?k_is_sequence ?a_is_pair ?l_is_pair ?c_is_pair ?k_is_pair ?a_is_under ?l_is_under ?c_is_under ?k_is_under ?a_greatest_of ?l_greatest_of ?c_greatest_of ?k_greatest_of ?a_lesser_of ?l_lesser_of ?c_lesser_of ?k_lesser_of ?a__law_box ?l__law_box ?c__law_box ?k__law_box ?a__law_take ?l__law_take ?c__law_take ?k__law_take ?a__law_corners ?l__law_corners ?c__law_corners ?k__law_corners ?a__law_pick ?l__law_pick ?c__law_pick ?k__law_pick ?a__law_under ?l__law_under ?c__law_under ?k__law_under ?a__law_greatest ?l__law_greatest ?c__law_greatest ?k__law_greatest ?a__law_meet ?l__law_meet ?c__law_meet ?k__law_meet ?kn_Bounds_NoneType ?kn_Bounds_bool ?kn_Bounds_int ?kn_Bounds_str ?kn_Bounds_tuple ?kn_Bounds_list ?pg_Bounds ?hd_Bounds ?po_Bounds ?sa_Bounds ?ha_Bounds ?hn_Bounds ?ht_Bounds ?hm_Bounds ?kI_Bounds ?kb_Bounds ?kS_Bounds ?kT_Bounds ?kL_Bounds ?sf_Bounds ?nf_Bounds ?ne_Bounds ?tt_Bounds ?mk_Bounds ?kc_Bounds ?cd_Bounds ?mro_Bounds ?n1_Bounds___iand__ ?n2_Bounds___iand__ ?n1_Bounds___ior__ ?n2_Bounds___ior__ ?no_Bounds_corners ?a_Bounds___init__ ?i_Bounds___init__ ?l_Bounds___init__ ?c_Bounds___init__ ?k_Bounds___init__ ?lT_Bounds___init__ ?lE_Bounds___init__ ?a_Bounds___contains__ ?i_Bounds___contains__ ?l_Bounds___contains__ ?c_Bounds___contains__ ?k_Bounds___contains__ ?a_Bounds___and__ ?i_Bounds___and__ ?l_Bounds___and__ ?c_Bounds___and__ ?k_Bounds___and__ ?a_Bounds___or__ ?i_Bounds___or__ ?l_Bounds___or__ ?c_Bounds___or__ ?k_Bounds___or__ ?a_Bounds___eq__ ?i_Bounds___eq__ ?l_Bounds___eq__ ?c_Bounds___eq__ ?k_Bounds___eq__ ?a_Bounds___le__ ?i_Bounds___le__ ?l_Bounds___le__ ?c_Bounds___le__ ?k_Bounds___le__ ?a_Bounds___lt__ ?i_Bounds___lt__ ?l_Bounds___lt__ ?c_Bounds___lt__ ?k_Bounds___lt__ ?a_Bounds___ge__ ?i_Bounds___ge__ ?l_Bounds___ge__ ?c_Bounds___ge__ ?k_Bounds___ge__ ?a_Bounds___gt__ ?i_Bounds___gt__ ?l_Bounds___gt__ ?c_Bounds___gt__ ?k_Bounds___gt__ ?a_law ?l_law ?c_law ?k_law ?z_len ?z_abs ?z_min ?z_max ?z_int ?z_str ?z_bool ?z_tuple ?z_list ?z_range ?z_sorted ?z_any ?z_all ?z_sum ?z_isinstance ?z_enumerate ?z_zip ?z_repr
    (case aC_Bounds => k_is)
    (case a_is_integer => k_is)
    (case l_is_integer => k_is)
    (case c_is_integer => k_is)
    (case k_is_integer => k_is)
    (case a_is_number => k_is)
    (case l_is_number => k_is)
    (case c_is_number => k_is)
    (case k_is_number => k_is)
    (case a_is_sequence => k_is)
    (case l_is_sequence => k_is)
    (case c_is_sequence => k_is)
    (case k_is_sequence => k_is)
    (case a_is_pair => k_is)
    (case l_is_pair => k_is)
    (case c_is_pair => k_is)
    (case k_is_pair => k_is)
    (case a_is_under => k_is)
    (case l_is_under => k_is)
    (case c_is_under => k_is)
    (case k_is_under => k_is)
    (case a_greatest_of => k_is)
    (case l_greatest_of => k_is)
    (case c_greatest_of => k_is)
    (case k_greatest_of => k_is)
    (case a_lesser_of => k_is)
    (case l_lesser_of => k_is)
    (case c_lesser_of => k_is)
    (case k_lesser_of => k_is)
    (case a__law_box => k_is)
    (case l__law_box => k_is)
    (case c__law_box => k_is)
    (case k__law_box => k_is)
    (case a__law_take => k_is)
    (case l__law_take => k_is)
    (case c__law_take => k_is)
    (case k__law_take => k_is)
    (case a__law_corners => k_is)
    (case l__law_corners => k_is)
    (case c__law_corners => k_is)
    (case k__law_corners => k_is)
    (case a__law_pick => k_is)
    (case l__law_pick => k_is)
    (case c__law_pick => k_is)
    (case k__law_pick => k_is)
    (case a__law_under => k_is)
    (case l__law_under => k_is)
    (case c__law_under => k_is)
    (case k__law_under => k_is)
    (case a__law_greatest => k_is)
    (case l__law_greatest => k_is)
    (case c__law_greatest => k_is)
    (case k__law_greatest => k_is)
    (case a__law_meet => k_is)
    (case l__law_meet => k_is)
    (case c__law_meet => k_is)
    (case k__law_meet => k_is)
    (case kn_Bounds_NoneType => k_is)
    (case kn_Bounds_bool => k_is)
    (case kn_Bounds_int => k_is)
    (case kn_Bounds_str => k_is)
    (case kn_Bounds_tuple => k_is)
    (case kn_Bounds_list => k_is)
    (case pg_Bounds => k_is)
    (case hd_Bounds => k_is)
    (case po_Bounds => k_is)
    (case sa_Bounds => k_is)
    (case ha_Bounds => k_is)
    (case hn_Bounds => k_is)
    (case ht_Bounds => k_is)
    (case hm_Bounds => k_is)
    (case kI_Bounds => k_is)
    (case kb_Bounds => k_is)
    (case kS_Bounds => k_is)
    (case kT_Bounds => k_is)
    (case kL_Bounds => k_is)
    (case sf_Bounds => k_is)
    (case nf_Bounds => k_is)
    (case ne_Bounds => k_is)
    (case tt_Bounds => k_is)
    (case mk_Bounds => k_is)
    (case kc_Bounds => k_is)
    (case cd_Bounds => k_is)
    (case mro_Bounds => rfl)
    (case n1_Bounds___iand__ => k_is)
    (case n2_Bounds___iand__ => k_is)
    (case n1_Bounds___ior__ => k_is)
    (case n2_Bounds___ior__ => k_is)
    (case no_Bounds_corners => k_is)
    (case a_Bounds___init__ => k_is)
    (case i_Bounds___init__ => k_is)
    (case l_Bounds___init__ => k_is)
    (case c_Bounds___init__ => k_is)
    (case k_Bounds___init__ => k_is)
    (case lT_Bounds___init__ => k_is)
    (case lE_Bounds___init__ => k_is)
    (case a_Bounds___contains__ => k_is)
    (case i_Bounds___contains__ => k_is)
    (case l_Bounds___contains__ => k_is)
    (case c_Bounds___contains__ => k_is)
    (case k_Bounds___contains__ => k_is)
    (case a_Bounds___and__ => k_is)
    (case i_Bounds___and__ => k_is)
    (case l_Bounds___and__ => k_is)
    (case c_Bounds___and__ => k_is)
    (case k_Bounds___and__ => k_is)
    (case a_Bounds___or__ => k_is)
    (case i_Bounds___or__ => k_is)
    (case l_Bounds___or__ => k_is)
    (case c_Bounds___or__ => k_is)
    (case k_Bounds___or__ => k_is)
    (case a_Bounds___eq__ => k_is)
    (case i_Bounds___eq__ => k_is)
    (case l_Bounds___eq__ => k_is)
    (case c_Bounds___eq__ => k_is)
    (case k_Bounds___eq__ => k_is)
    (case a_Bounds___le__ => k_is)
    (case i_Bounds___le__ => k_is)
    (case l_Bounds___le__ => k_is)
    (case c_Bounds___le__ => k_is)
    (case k_Bounds___le__ => k_is)
    (case a_Bounds___lt__ => k_is)
    (case i_Bounds___lt__ => k_is)
    (case l_Bounds___lt__ => k_is)
    (case c_Bounds___lt__ => k_is)
    (case k_Bounds___lt__ => k_is)
    (case a_Bounds___ge__ => k_is)
    (case i_Bounds___ge__ => k_is)
    (case l_Bounds___ge__ => k_is)
    (case c_Bounds___ge__ => k_is)
    (case k_Bounds___ge__ => k_is)
    (case a_Bounds___gt__ => k_is)
    (case i_Bounds___gt__ => k_is)
    (case l_Bounds___gt__ => k_is)
    (case c_Bounds___gt__ => k_is)
    (case k_Bounds___gt__ => k_is)
    (case a_law => k_is)
    (case l_law => k_is)
    (case c_law => k_is)
    (case k_law => k_is)
    (case z_len => k_is)
    (case z_abs => k_is)
    (case z_min => k_is)
    (case z_max => k_is)
    (case z_int => k_is)
    (case z_str => k_is)
    (case z_bool => k_is)
    (case z_tuple => k_is)
    (case z_list => k_is)
    (case z_range => k_is)
    (case z_sorted => k_is)
    (case z_any => k_is)
    (case z_all => k_is)
    (case z_sum => k_is)
    (case z_isinstance => k_is)
    (case z_enumerate => k_is)
    (case z_zip => k_is)
    (case z_repr => k_is)
